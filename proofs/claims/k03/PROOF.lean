import PyProof.Rows.All
import Wide.All
import OpenK.AllK
import Wide.FinOn
import HandS.ForMost
import HandS.ForExc
import HandS.IsInst
import HandS.ExcIs
import HandS.ExcField
import HandS.ExcInit
import HandS.TryMany
import HandS.Flow
import HandS.Style
import HandS.CallSlots
import KE.KExcIs
import HandS.Evl
import HandS.SortInts
import HandS.Strs
import HandS.SetFor
import HandS.Zip
import HandS.Codes
import PySem.Challenge.RW_keysieve_k03_yes_and_taken_out
set_option Elab.async false
set_option linter.all false
set_option maxRecDepth 100000
set_option maxHeartbeats 4000000
/-! KS: a layer over HandS for programs whose values are plain data. -/
namespace KS
open PySem L2

/-! ### how a heap may go on -/
/-- all that was known stays, but at the places m; tuples stay everywhere; nothing is forgotten -/
structure Gr (m : List Addr) (H H' : Hp) : Prop where
  keep : ∀ a o, H a = some o → a ∉ m → H' a = some o
  tup : ∀ a xs, H a = some (.tup xs) → H' a = some (.tup xs)
  dom : ∀ a, H' a = none → H a = none
theorem Gr.refl {m : List Addr} {H : Hp} : Gr m H H := ⟨fun _ _ h _ => h, fun _ _ h => h, fun _ h => h⟩
theorem Gr.trans {m : List Addr} {H H1 H2 : Hp} (a : Gr m H H1) (b : Gr m H1 H2) : Gr m H H2 :=
  ⟨fun c o h n => b.keep c o (a.keep c o h n) n, fun c xs h => b.tup c xs (a.tup c xs h), fun c h => a.dom c (b.dom c h)⟩
theorem Gr.mono {m m' : List Addr} {H H' : Hp} (a : Gr m H H') (s : ∀ x, x ∈ m → x ∈ m') : Gr m' H H' :=
  ⟨fun c o h n => a.keep c o h fun z => n (s c z), a.tup, a.dom⟩
theorem Gr.any {m : List Addr} {H H' : Hp} (a : Gr [] H H') : Gr m H H' := a.mono fun _ z => absurd z (by simp)
theorem Gr.new {m : List Addr} {H : Hp} {p : Addr} {o : HO} (h : H p = none) : Gr m H (upd H p o) :=
  ⟨fun a u e _ => by rw [upd_ne (ne_of_none e h)]; exact e, fun a u e => by rw [upd_ne (ne_of_none e h)]; exact e, fun a e => by
    by_cases z : a = p
    · rw [z]; exact h
    · rw [upd_ne z] at e; exact e⟩
theorem Gr.at0 {H H' : Hp} (g : Gr [] H H') {a : Addr} {o : HO} (h : H a = some o) : H' a = some o := g.keep a o h (by simp)
/-- what is new since H may change -/
theorem Gr.mut {m : List Addr} {H H' : Hp} {p : Addr} {o : HO} (g : Gr m H H') (h : H p = none) : Gr m H (upd H' p o) :=
  ⟨fun a u e n => by rw [upd_ne (ne_of_none e h)]; exact g.keep a u e n, fun a u e => by rw [upd_ne (ne_of_none e h)]; exact g.tup a u e, fun a e => by
    by_cases z : a = p
    · rw [z]; exact h
    · rw [upd_ne z] at e; exact g.dom a e⟩
/-- what stands at a place of m may change -/
theorem Gr.put {m : List Addr} {H H' : Hp} {p : Addr} {o u : HO} (g : Gr m H H') (hp : p ∈ m) (h : H' p = some u) (nt : ∀ xs, u ≠ .tup xs) : Gr m H (upd H' p o) :=
  ⟨fun a v e n => by rw [upd_ne (fun z => n (by rw [z]; exact hp))]; exact g.keep a v e n, fun a xs e => by
    have e' := g.tup a xs e
    rw [upd_ne (fun z => by rw [z, h] at e'; exact nt xs (Option.some.inj e'))]; exact e', fun a e => by
    by_cases z : a = p
    · rw [z, upd_same] at e; cases e
    · rw [upd_ne z] at e; exact g.dom a e⟩
theorem Gr.ne {m : List Addr} {H H' : Hp} (g : Gr m H H') {a p : Addr} {o : HO} (h : H a = some o) (hp : H' p = none) : a ≠ p := fun z => by
  rw [z, g.dom p hp] at h
  cases h
theorem Gr.sq {K : PySem.W.Frag} {H H' : Hp} (g : Gr [] H H') {a : Addr} {xs : List V} (h : SqL K H a xs) : SqL K H' a xs := by
  rcases h with (h | ⟨o, h⟩) | h
  · exact .inl (.inl (g.at0 h))
  · exact .inl (.inr ⟨o, g.at0 h⟩)
  · exact .inr h

/-! ### the state of the draws -/
def DrawAt (p q : Addr) (H : Hp) : Prop := ∃ (m : Int) (cs : List Int) (i : Int), H p = some (.lst [.int m, .ref q, .int i]) ∧ H q = some (.lst (cs.map V.int)) ∧ cs.length ≤ 63
/-- whose draws may happen on the way: none, or those of the list at p with its cells at q -/
abbrev Dst := Option (Addr × Addr)
def Dst.m : Dst → List Addr
  | none => []
  | some (p, q) => [p, q]
def Dst.ok : Dst → Hp → Prop
  | none, _ => True
  | some (p, q), H => DrawAt p q H
theorem DrawAt.go {p q : Addr} {H H' : Hp} (d : DrawAt p q H) (hp : ∀ o, H p = some o → H' p = some o) (hq : ∀ o, H q = some o → H' q = some o) : DrawAt p q H' := by
  obtain ⟨m, cs, i, h1, h2, h3⟩ := d
  exact ⟨m, cs, i, hp _ h1, hq _ h2, h3⟩
structure Gd (D : Dst) (H H' : Hp) : Prop where
  gr : Gr D.m H H'
  ok : D.ok H → D.ok H'
theorem Gd.refl {D : Dst} {H : Hp} : Gd D H H := ⟨Gr.refl, fun h => h⟩
theorem Gd.trans {D : Dst} {H H1 H2 : Hp} (a : Gd D H H1) (b : Gd D H1 H2) : Gd D H H2 := ⟨a.gr.trans b.gr, fun h => b.ok (a.ok h)⟩
theorem Gd.pure {D : Dst} {H H' : Hp} (g : Gr [] H H') : Gd D H H' := ⟨g.any, by
  rcases D with _ | ⟨p, q⟩
  · exact fun h => h
  · exact fun h => DrawAt.go h (fun o e => g.at0 e) (fun o e => g.at0 e)⟩
theorem Gd.new {D : Dst} {H : Hp} {p : Addr} {o : HO} (h : H p = none) : Gd D H (upd H p o) := .pure (.new h)
theorem Gd.gr0 {H H' : Hp} (g : Gd none H H') : Gr [] H H' := g.gr
/-- where one stands: m: the places that may change; they are there; the draws' state is well -/
structure Cc (D : Dst) (m : List Addr) (H : Hp) : Prop where
  sub : ∀ a, a ∈ D.m → a ∈ m
  dm : ∀ a, a ∈ m → H a ≠ none
  ok : D.ok H
theorem Cc.go {D : Dst} {m : List Addr} {H H' : Hp} (c : Cc D m H) (g : Gd D H H') : Cc D m H' := ⟨c.sub, fun a h z => c.dm a h (g.gr.dom a z), g.ok c.ok⟩
theorem Cc.free {D : Dst} {m : List Addr} {H : Hp} (c : Cc D m H) {p : Addr} (h : H p = none) : p ∉ m := fun z => c.dm p z h
theorem Cc.nil {H : Hp} : Cc none [] H := ⟨fun _ h => h, fun _ h => absurd h (by simp), trivial⟩
theorem Cc.none {D : Dst} {m : List Addr} {H : Hp} (c : Cc D m H) : Cc Option.none m H := ⟨fun _ h => absurd h (by simp [Dst.m]), c.dm, trivial⟩
theorem Cc.cons {D : Dst} {m : List Addr} {H : Hp} (c : Cc D m H) {a : Addr} {o : HO} (h : H a = some o) : Cc D (a :: m) H :=
  ⟨fun x hx => List.mem_cons_of_mem _ (c.sub x hx), fun x hx => by
    rcases List.mem_cons.mp hx with z | z
    · rw [z, h]; simp
    · exact c.dm x z, c.ok⟩

/-! ### values that represent data: no cell of a list stands at a place of m -/
class Rp (α : Type) where
  rp : List Addr → Hp → α → V → Prop
  go : ∀ {m m' : List Addr} {H H' : Hp} {x : α} {v : V}, (∀ a o, H a = some o → a ∉ m → a ∉ m' ∧ H' a = some o) → (∀ a xs, H a = some (.tup xs) → H' a = some (.tup xs)) → rp m H x v → rp m' H' x v
/-- data without lists: it stays whatever happens -/
class Nl (α : Type) [Rp α] where
  nl : ∀ {m m' : List Addr} {H H' : Hp} {x : α} {v : V}, (∀ a xs, H a = some (.tup xs) → H' a = some (.tup xs)) → Rp.rp m H x v → Rp.rp m' H' x v
instance : Rp Int := ⟨fun _ _ i v => v = .int i, fun _ _ h => h⟩
instance : Nl Int := ⟨fun _ h => h⟩
instance : Rp Bool := ⟨fun _ _ i v => v = .bl i, fun _ _ h => h⟩
instance : Nl Bool := ⟨fun _ h => h⟩
instance : Rp Unit := ⟨fun _ _ _ v => v = .non, fun _ _ h => h⟩
instance : Nl Unit := ⟨fun _ h => h⟩
instance : Rp Str := ⟨fun _ _ i v => v = .str i, fun _ _ h => h⟩
instance : Nl Str := ⟨fun _ h => h⟩
theorem paired_go {α β : Type} {F G : α → β → Prop} {l : List α} {r : List β} (h : Paired F l r) (k : ∀ a b, F a b → G a b) : Paired G l r := Paired.mapP h k
instance {α β : Type} [Rp α] [Rp β] : Rp (α × β) := ⟨fun m H x v => ∃ a u w, v = .ref a ∧ H a = some (.tup [u, w]) ∧ Rp.rp m H x.1 u ∧ Rp.rp m H x.2 w,
  fun k t ⟨a, u, w, e, h, h1, h2⟩ => ⟨a, u, w, e, t a _ h, Rp.go k t h1, Rp.go k t h2⟩⟩
instance {α β : Type} [Rp α] [Rp β] [Nl α] [Nl β] : Nl (α × β) := ⟨fun t ⟨a, u, w, e, h, h1, h2⟩ => ⟨a, u, w, e, t a _ h, Nl.nl t h1, Nl.nl t h2⟩⟩
/-- a triple as a tuple of three -/
structure Tri (α β γ : Type) where
  a : α
  b : β
  c : γ
  deriving DecidableEq
instance {α β γ : Type} [Rp α] [Rp β] [Rp γ] : Rp (Tri α β γ) := ⟨fun m H x v => ∃ a u w z, v = .ref a ∧ H a = some (.tup [u, w, z]) ∧ Rp.rp m H x.a u ∧ Rp.rp m H x.b w ∧ Rp.rp m H x.c z,
  fun k t ⟨a, u, w, z, e, h, h1, h2, h3⟩ => ⟨a, u, w, z, e, t a _ h, Rp.go k t h1, Rp.go k t h2, Rp.go k t h3⟩⟩
instance {α β γ : Type} [Rp α] [Rp β] [Rp γ] [Nl α] [Nl β] [Nl γ] : Nl (Tri α β γ) := ⟨fun t ⟨a, u, w, z, e, h, h1, h2, h3⟩ => ⟨a, u, w, z, e, t a _ h, Nl.nl t h1, Nl.nl t h2, Nl.nl t h3⟩⟩
/-- a tuple of any length -/
structure Tp (α : Type) where
  l : List α
  deriving DecidableEq
instance {α : Type} [Rp α] : Rp (Tp α) := ⟨fun m H x v => ∃ a vs, v = .ref a ∧ H a = some (.tup vs) ∧ Paired (Rp.rp m H) x.l vs,
  fun k t ⟨a, vs, e, h, h1⟩ => ⟨a, vs, e, t a _ h, paired_go h1 fun _ _ => Rp.go k t⟩⟩
instance {α : Type} [Rp α] [Nl α] : Nl (Tp α) := ⟨fun t ⟨a, vs, e, h, h1⟩ => ⟨a, vs, e, t a _ h, paired_go h1 fun _ _ => Nl.nl t⟩⟩
/-- a list that nobody changes -/
instance {α : Type} [Rp α] : Rp (List α) := ⟨fun m H x v => ∃ a vs, v = .ref a ∧ a ∉ m ∧ H a = some (.lst vs) ∧ Paired (Rp.rp m H) x vs,
  fun k t ⟨a, vs, e, n, h, h1⟩ => ⟨a, vs, e, (k a _ h n).1, (k a _ h n).2, paired_go h1 fun _ _ => Rp.go k t⟩⟩
instance {α : Type} [Rp α] : Rp (Option α) := ⟨fun m H x v => match x with
  | none => v = .non
  | some y => Rp.rp m H y v, fun {m m' H H' x v} k t h => by
    cases x with
    | none => exact h
    | some y => exact Rp.go k t h⟩
theorem nl_opt {α : Type} [Rp α] [Nl α] {m m' : List Addr} {H H' : Hp} : ∀ {x : Option α} {v : V}, (∀ a xs, H a = some (.tup xs) → H' a = some (.tup xs)) → Rp.rp m H x v → Rp.rp m' H' x v
  | none, _, _, h => h
  | some y, v, t, h => Nl.nl (α := α) (m := m) (x := y) (v := v) t h
instance {α : Type} [Rp α] [Nl α] : Nl (Option α) := ⟨fun t h => nl_opt t h⟩
section
variable {α β : Type} [Rp α] [Rp β] {D : Dst} {m m' : List Addr} {H H' : Hp} {x : α} {v : V} {a p : Addr}
theorem rp_gr {ms : List Addr} (h : Rp.rp m H x v) (g : Gr ms H H') (s : ∀ a, a ∈ ms → a ∈ m) : Rp.rp m H' x v :=
  Rp.go (fun a o e n => ⟨n, g.keep a o e fun z => n (s a z)⟩) (fun a xs e => g.tup a xs e) h
theorem rp_gd (h : Rp.rp m H x v) (c : Cc D m H) (g : Gd D H H') : Rp.rp m H' x v := rp_gr h g.gr c.sub
theorem rp_g0 (h : Rp.rp m H x v) (g : Gr [] H H') : Rp.rp m H' x v := rp_gr h g (by simp)
theorem rp_less (h : Rp.rp m H x v) (s : ∀ a, a ∈ m' → a ∈ m) : Rp.rp m' H x v := Rp.go (fun a o e n => ⟨fun z => n (s a z), e⟩) (fun _ _ e => e) h
theorem rp_nil (h : Rp.rp m H x v) : Rp.rp [] H x v := rp_less h (by simp)
/-- a place that H does not know may be added -/
theorem rp_more (h : Rp.rp m H x v) (hp : H p = none) : Rp.rp (p :: m) H x v :=
  Rp.go (fun a o e n => ⟨fun z => (List.mem_cons.mp z).elim (fun q => ne_of_none e hp q) n, e⟩) (fun _ _ e => e) h
theorem rp_nl [Nl α] (h : Rp.rp m H x v) (t : ∀ a xs, H a = some (.tup xs) → H' a = some (.tup xs)) : Rp.rp m' H' x v := Nl.nl t h
theorem rp_int {i : Int} (h : Rp.rp m H i v) : v = .int i := h
theorem rp_bool {i : Bool} (h : Rp.rp m H i v) : v = .bl i := h
theorem rp_str {i : Str} (h : Rp.rp m H i v) : v = .str i := h
/-- a list of its own at a -/
def Own (m : List Addr) (H : Hp) (a : Addr) (xs : List α) : Prop := a ∉ m ∧ ∃ vs, H a = some (.lst vs) ∧ Paired (Rp.rp m H) xs vs
theorem Own.rp {xs : List α} (o : Own m H a xs) : Rp.rp m H xs (.ref a) := let ⟨n, vs, h, q⟩ := o; ⟨a, vs, rfl, n, h, q⟩
theorem Own.nil (h : a ∉ m) (e : H a = some (.lst [])) : Own m H a ([] : List α) := ⟨h, [], e, .nil⟩
theorem Own.go {xs : List α} {ms : List Addr} (o : Own m H a xs) (g : Gr ms H H') (s : ∀ a, a ∈ ms → a ∈ m) : Own m H' a xs := let ⟨n, vs, h, q⟩ := o
  ⟨n, vs, g.keep a _ h fun z => n (s a z), paired_go q fun _ _ r => rp_gr r g s⟩
theorem Own.gd {xs : List α} (o : Own m H a xs) (c : Cc D m H) (g : Gd D H H') : Own m H' a xs := o.go g.gr c.sub
theorem Own.ex {xs : List α} (o : Own m H a xs) : ∃ vs, H a = some (.lst vs) ∧ Paired (Rp.rp m H) xs vs ∧ xs.length = vs.length := let ⟨_, vs, h, q⟩ := o; ⟨vs, h, q, q.length⟩
theorem upd_tup {o : HO} {u : HO} (h : H a = some u) (nt : ∀ xs, u ≠ .tup xs) : ∀ b xs, H b = some (.tup xs) → upd H a o b = some (.tup xs) := fun b xs e => by
  rw [upd_ne (fun z => by rw [z, h] at e; exact nt xs (Option.some.inj e))]
  exact e
theorem Own.app [Nl α] {xs : List α} {vs : List V} (o : Own m H a xs) (h : H a = some (.lst vs)) (r : Rp.rp m' H x v) : Own m (upd H a (.lst (vs ++ [v]))) a (xs ++ [x]) := by
  obtain ⟨n, vs', h', q⟩ := o
  rw [h] at h'
  cases h'
  have t := upd_tup (o := .lst (vs ++ [v])) h (fun xs z => by cases z)
  exact ⟨n, _, upd_same, (paired_go q fun _ _ r => rp_nl r t).snoc (rp_nl r t)⟩
/-- another object changes -/
theorem Own.upd_ne [Nl α] {xs : List α} {b : Addr} {u o' : HO} (o : Own m H a xs) (h : a ≠ b) (hb : H b = some u) (nt : ∀ xs, u ≠ .tup xs) : Own m (upd H b o') a xs := by
  obtain ⟨n, vs, h', q⟩ := o
  exact ⟨n, vs, by rw [L2.upd_ne h]; exact h', paired_go q fun _ _ r => rp_nl r (upd_tup hb nt)⟩
theorem paired_ints {ns : List Int} {vs : List V} (h : Paired (Rp.rp m H) ns vs) : vs = ns.map V.int := by
  induction h with
  | nil => rfl
  | cons e _ ih => rw [ih, rp_int e]; rfl
theorem ints_paired (ns : List Int) : Paired (Rp.rp m H) ns (ns.map V.int) := by
  induction ns with
  | nil => exact .nil
  | cons n ns ih => exact .cons rfl ih
theorem Own.ints {ns : List Int} (o : Own m H a ns) : H a = some (.lst (ns.map V.int)) := by
  obtain ⟨_, vs, h, q⟩ := o
  rw [h, paired_ints q]
theorem Own.of_ints {ns : List Int} (h : a ∉ m) (e : H a = some (.lst (ns.map V.int))) : Own m H a ns := ⟨h, _, e, ints_paired ns⟩
end

/-! ### what an expression is worth -/
section
variable {α β γ : Type} [Rp α] [Rp β] [Rp γ]
/-- te comes to some x with p x, whatever was new since H; only the draws' state may have gone on -/
def Ev (D : Dst) (m : List Addr) (te : TE) (σ : St) (H : Hp) (p : α → Prop) : Prop :=
  ∀ H1, Gd D H H1 → Cc D m H1 → ∀ Q : VK, (∀ x v H2, Gd D H1 H2 → Rp.rp m H2 x v → p x → Q v H2) → te σ H1 Q
/-- .. to x -/
abbrev EvV (D : Dst) (m : List Addr) (te : TE) (σ : St) (H : Hp) (x : α) : Prop := Ev D m te σ H fun y => y = x
/-- .. to a new list of its own -/
def EvL (D : Dst) (m : List Addr) (te : TE) (σ : St) (H : Hp) (p : List α → Prop) : Prop :=
  ∀ H1, Gd D H H1 → Cc D m H1 → ∀ Q : VK, (∀ xs a H2, H1 a = none → Gd D H1 H2 → Own m H2 a xs → p xs → Q (.ref a) H2) → te σ H1 Q
abbrev EvLV (D : Dst) (m : List Addr) (te : TE) (σ : St) (H : Hp) (xs : List α) : Prop := EvL D m te σ H fun y => y = xs
/-- a test -/
def EvT (D : Dst) (m : List Addr) (t : TT) (σ : St) (H : Hp) (p : Bool → Prop) : Prop :=
  ∀ H1, Gd D H H1 → Cc D m H1 → ∀ Q : Bool → Hp → Prop, (∀ b H2, Gd D H1 H2 → p b → Q b H2) → t σ H1 Q
abbrev EvB (D : Dst) (m : List Addr) (t : TT) (σ : St) (H : Hp) (b : Bool) : Prop := EvT D m t σ H fun c => c = b
/-- arguments: any values, told by their heap -/
def EvA (D : Dst) (m : List Addr) (t : TA) (σ : St) (H : Hp) (p : List V → Hp → Prop) : Prop :=
  ∀ H1, Gd D H H1 → Cc D m H1 → ∀ Q : List V → Hp → Prop, (∀ vs H2, Gd D H1 H2 → p vs H2 → Q vs H2) → t σ H1 Q
variable {K : PySem.W.Frag} {D : Dst} {m : List Addr} {σ : St} {H H' : Hp} {ta tb te : TE} {x : α} {y : β} {v : V}
theorem Ev.mono {p : α → Prop} (h : Ev D m te σ H p) (g : Gd D H H') : Ev D m te σ H' p := fun H1 a => h H1 (g.trans a)
theorem Ev.imp {p q : α → Prop} (h : Ev D m te σ H p) (k : ∀ x, p x → q x) : Ev D m te σ H q := fun H1 g c Q w => h H1 g c Q fun x v H2 g2 r z => w x v H2 g2 r (k x z)
theorem EvL.ev {p : List α → Prop} (h : EvL D m te σ H p) : Ev D m te σ H p := fun H1 g c Q w => h H1 g c Q fun xs a H2 _ g2 o z => w xs (.ref a) H2 g2 o.rp z
theorem EvL.mono {p : List α → Prop} (h : EvL D m te σ H p) (g : Gd D H H') : EvL D m te σ H' p := fun H1 a => h H1 (g.trans a)
theorem EvL.imp {p q : List α → Prop} (h : EvL D m te σ H p) (k : ∀ x, p x → q x) : EvL D m te σ H q := fun H1 g c Q w => h H1 g c Q fun x a H2 n g2 r z => w x a H2 n g2 r (k x z)
theorem EvT.mono {t : TT} {p : Bool → Prop} (h : EvT D m t σ H p) (g : Gd D H H') : EvT D m t σ H' p := fun H1 a => h H1 (g.trans a)
theorem EvT.imp {t : TT} {p q : Bool → Prop} (h : EvT D m t σ H p) (k : ∀ x, p x → q x) : EvT D m t σ H q := fun H1 g c Q w => h H1 g c Q fun b H2 g2 z => w b H2 g2 (k b z)
theorem Ev.any {p : α → Prop} (h : Ev D m te σ H p) : Ev D m te σ H fun _ : α => True := h.imp fun _ _ => trivial
theorem Ev.to {p : α → Prop} {x : α} (h : EvV D m te σ H x) (k : p x) : Ev D m te σ H p := h.imp fun _ e => by rw [e]; exact k

theorem ev_c {i : Int} : EvV D m (tC (.int i)) σ H i := fun H1 _ _ Q q => q i _ H1 .refl rfl rfl
theorem ev_b {i : Bool} : EvV D m (tC (.bl i)) σ H i := fun H1 _ _ Q q => q i _ H1 .refl rfl rfl
theorem ev_s {i : Str} : EvV D m (tC (.str i)) σ H i := fun H1 _ _ Q q => q i _ H1 .refl rfl rfl
theorem ev_non : EvV D m (tC .non) σ H (none : Option α) := fun H1 _ _ Q q => q none _ H1 .refl rfl rfl
/-- a name -/
theorem ev_v {i : Nat} (h : σ[i]? = some (some v)) (r : Rp.rp m H x v) : EvV D m (tVar i) σ H x := fun H1 g c Q q => ⟨v, h, q x v H1 .refl (rp_gr r g.gr c.sub) rfl⟩
theorem ev_vi {i : Nat} {n : Int} (h : σ[i]? = some (some (.int n)) := by rfl) : EvV D m (tVar i) σ H n := fun H1 _ _ Q q => ⟨_, h, q n _ H1 .refl rfl rfl⟩
theorem ev_vb {i : Nat} {n : Bool} (h : σ[i]? = some (some (.bl n)) := by rfl) : EvV D m (tVar i) σ H n := fun H1 _ _ Q q => ⟨_, h, q n _ H1 .refl rfl rfl⟩
theorem ev_vs {i : Nat} {n : Str} (h : σ[i]? = some (some (.str n)) := by rfl) : EvV D m (tVar i) σ H n := fun H1 _ _ Q q => ⟨_, h, q n _ H1 .refl rfl rfl⟩

/-! whole numbers -/
theorem ev_i0 {g : Int → Int → Int} {p q r : Int → Prop} (ha : Ev D m ta σ H p) (hb : Ev D m tb σ H q) (k : ∀ i j, p i → q j → r (g i j)) : Ev D m (tOp (rI0 fun i j => .int (g i j)) ta tb) σ H r := fun H1 e c Q w =>
  ha H1 e c _ fun i v H2 e2 ri pi => hb H2 (e.trans e2) (c.go e2) _ fun j u H3 e3 rj qj => ⟨i, j, ri, rj, w _ _ H3 (e2.trans e3) rfl (k i j pi qj)⟩
theorem ev_iC {C : Int → Int → Prop} {g : Int → Int → Int} {p q r : Int → Prop} (ha : Ev D m ta σ H p) (hb : Ev D m tb σ H q) (hc : ∀ i j, p i → q j → C i j) (k : ∀ i j, p i → q j → r (g i j)) : Ev D m (tOp (rI C fun i j => .int (g i j)) ta tb) σ H r := fun H1 e c Q w =>
  ha H1 e c _ fun i v H2 e2 ri pi => hb H2 (e.trans e2) (c.go e2) _ fun j u H3 e3 rj qj => ⟨i, j, ri, rj, hc i j pi qj, w _ _ H3 (e2.trans e3) rfl (k i j pi qj)⟩
theorem ev_o {g : Int → Int → Int} {i j : Int} (ha : EvV D m ta σ H i) (hb : EvV D m tb σ H j) : EvV D m (tOp (rI0 fun i j => .int (g i j)) ta tb) σ H (g i j) := ev_i0 ha hb fun _ _ a b => by rw [a, b]
theorem ev_oC {C : Int → Int → Prop} {g : Int → Int → Int} {i j : Int} (ha : EvV D m ta σ H i) (hb : EvV D m tb σ H j) (hc : C i j) : EvV D m (tOp (rI C fun i j => .int (g i j)) ta tb) σ H (g i j) :=
  ev_iC ha hb (fun _ _ a b => by rw [a, b]; exact hc) fun _ _ a b => by rw [a, b]
theorem ev_un {g : Int → Int} {p r : Int → Prop} (ha : Ev D m ta σ H p) (k : ∀ i, p i → r (g i)) : Ev D m (tUn (rU fun i => .int (g i)) ta) σ H r := fun H1 e c Q w =>
  ha H1 e c _ fun i v H2 e2 ri pi => ⟨i, ri, w _ _ H2 e2 rfl (k i pi)⟩
/-- comparisons of whole numbers -/
theorem ev_ib {g : Int → Int → Bool} {p q : Int → Prop} {r : Bool → Prop} (ha : Ev D m ta σ H p) (hb : Ev D m tb σ H q) (k : ∀ i j, p i → q j → r (g i j)) : Ev D m (tOp (rI0 fun i j => .bl (g i j)) ta tb) σ H r := fun H1 e c Q w =>
  ha H1 e c _ fun i v H2 e2 ri pi => hb H2 (e.trans e2) (c.go e2) _ fun j u H3 e3 rj qj => ⟨i, j, ri, rj, w _ _ H3 (e2.trans e3) rfl (k i j pi qj)⟩
theorem ev_ob {g : Int → Int → Bool} {i j : Int} (ha : EvV D m ta σ H i) (hb : EvV D m tb σ H j) : EvV D m (tOp (rI0 fun i j => .bl (g i j)) ta tb) σ H (g i j) := ev_ib ha hb fun _ _ a b => by rw [a, b]
theorem ev_eqI {p q : Int → Prop} {r : Bool → Prop} (ha : Ev D m ta σ H p) (hb : Ev D m tb σ H q) (k : ∀ i j, p i → q j → r (decide (i = j))) : Ev D m (tOp rEq ta tb) σ H r := fun H1 e c Q w =>
  ha H1 e c _ fun i v H2 e2 ri pi => hb H2 (e.trans e2) (c.go e2) _ fun j u H3 e3 rj qj => by
    cases rp_int ri; cases rp_int rj
    exact ⟨rfl, w _ _ H3 (e2.trans e3) (show V.bl _ = V.bl _ by rw [dec_int, Bool.beq_eq_decide_eq]) (k i j pi qj)⟩
theorem ev_eqV {i j : Int} (ha : EvV D m ta σ H i) (hb : EvV D m tb σ H j) : EvV D m (tOp rEq ta tb) σ H (decide (i = j)) := ev_eqI ha hb fun _ _ a b => by rw [a, b]
theorem ev_neI {p q : Int → Prop} {r : Bool → Prop} (ha : Ev D m ta σ H p) (hb : Ev D m tb σ H q) (k : ∀ i j, p i → q j → r (!decide (i = j))) : Ev D m (tOp rNe ta tb) σ H r := fun H1 e c Q w =>
  ha H1 e c _ fun i v H2 e2 ri pi => hb H2 (e.trans e2) (c.go e2) _ fun j u H3 e3 rj qj => by
    cases rp_int ri; cases rp_int rj
    exact ⟨rfl, w _ _ H3 (e2.trans e3) (show V.bl _ = V.bl _ by rw [dec_int, Bool.beq_eq_decide_eq]) (k i j pi qj)⟩
theorem ev_neV {i j : Int} (ha : EvV D m ta σ H i) (hb : EvV D m tb σ H j) : EvV D m (tOp rNe ta tb) σ H (!decide (i = j)) := ev_neI ha hb fun _ _ a b => by rw [a, b]
theorem ev_eqS {i j : Str} (ha : EvV D m ta σ H i) (hb : EvV D m tb σ H j) : EvV D m (tOp rEq ta tb) σ H (decide (i = j)) := fun H1 e c Q w =>
  ha H1 e c _ fun i' v H2 e2 ri pi => hb H2 (e.trans e2) (c.go e2) _ fun j' u H3 e3 rj qj => by
    cases rp_str ri; cases rp_str rj; cases pi; cases qj
    exact ⟨rfl, w _ _ H3 (e2.trans e3) (show V.bl _ = V.bl _ by rw [dec_str]; congr 1) rfl⟩
theorem ev_neS {i j : Str} (ha : EvV D m ta σ H i) (hb : EvV D m tb σ H j) : EvV D m (tOp rNe ta tb) σ H (!decide (i = j)) := fun H1 e c Q w =>
  ha H1 e c _ fun i' v H2 e2 ri pi => hb H2 (e.trans e2) (c.go e2) _ fun j' u H3 e3 rj qj => by
    cases rp_str ri; cases rp_str rj; cases pi; cases qj
    exact ⟨rfl, w _ _ H3 (e2.trans e3) (show V.bl _ = V.bl _ by rw [dec_str]; congr 1) rfl⟩
/-- a < b < c of whole numbers -/
theorem ev_chain {g g' : Int → Int → Bool} {tc : TE} {i j k : Int} (ha : EvV D m ta σ H i) (hb : EvV D m tb σ H j) (hc : EvV D m tc σ H k) :
    EvV D m (tChain (rI0 fun i j => .bl (g i j)) (rI0 fun i j => .bl (g' i j)) ta tb tc) σ H (g i j && g' j k) := fun H1 e c Q w =>
  ha H1 e c _ fun i' v H2 e2 ri pi => hb H2 (e.trans e2) (c.go e2) _ fun j' u H3 e3 rj qj => by
    cases pi; cases qj
    refine ⟨i, j, ri, rj, g i j, rfl, ?_⟩
    cases hg : g i j with
    | true =>
      rw [if_pos rfl]
      exact hc H3 ((e.trans e2).trans e3) ((c.go e2).go e3) _ fun k' z H4 e4 rk pk => by
        cases pk
        exact ⟨j, k, rj, rk, w _ _ H4 ((e2.trans e3).trans e4) rfl (by rw [hg, Bool.true_and])⟩
    | false =>
      rw [if_neg Bool.false_ne_true]
      exact w _ _ H3 (e2.trans e3) rfl (by rw [hg, Bool.false_and])

/-! tests -/
variable {t u : TT}
theorem et_e {p : Bool → Prop} (h : Ev D m te σ H p) : EvT D m (tTest te) σ H p := fun H1 e c Q w => h H1 e c _ fun b v H2 e2 r z => ⟨b, r, w b H2 e2 z⟩
theorem et_B {p : Bool → Prop} (h : Ev D m te σ H p) : EvT D m (tB te) σ H p := fun H1 e c Q w => h H1 e c _ fun b v H2 e2 r z => ⟨b, r, w b H2 e2 z⟩
theorem et_and {p q r : Bool → Prop} (h1 : EvT D m t σ H p) (h2 : p true → EvT D m u σ H q) (k0 : p false → r false) (k1 : ∀ b, p true → q b → r b) : EvT D m (tAnd t u) σ H r := fun H1 e c Q w => h1 H1 e c _ fun b H2 e2 z => by
  cases b with
  | true =>
    show u σ H2 Q
    exact h2 z H2 (e.trans e2) (c.go e2) Q fun b H3 e3 y => w b H3 (e2.trans e3) (k1 b z y)
  | false => exact w false H2 e2 (k0 z)
theorem et_or {p q r : Bool → Prop} (h1 : EvT D m t σ H p) (h2 : p false → EvT D m u σ H q) (k0 : p true → r true) (k1 : ∀ b, p false → q b → r b) : EvT D m (tOr t u) σ H r := fun H1 e c Q w => h1 H1 e c _ fun b H2 e2 z => by
  cases b with
  | true => exact w true H2 e2 (k0 z)
  | false =>
    show u σ H2 Q
    exact h2 z H2 (e.trans e2) (c.go e2) Q fun b H3 e3 y => w b H3 (e2.trans e3) (k1 b z y)
theorem et_andV {a b : Bool} (h1 : EvB D m t σ H a) (h2 : a = true → EvB D m u σ H b) : EvB D m (tAnd t u) σ H (a && b) :=
  et_and h1 (fun e => h2 e.symm) (fun e => by rw [← e]; rfl) fun c e e2 => by rw [← e, e2]; rfl
theorem et_orV {a b : Bool} (h1 : EvB D m t σ H a) (h2 : a = false → EvB D m u σ H b) : EvB D m (tOr t u) σ H (a || b) :=
  et_or h1 (fun e => h2 e.symm) (fun e => by rw [← e]; rfl) fun c e e2 => by rw [← e, e2]; rfl
theorem et_not {p q : Bool → Prop} (h : EvT D m t σ H p) (k : ∀ b, p b → q (!b)) : EvT D m (tNot t) σ H q := fun H1 e c Q w => h H1 e c _ fun b H2 e2 z => w _ H2 e2 (k b z)
theorem et_notV {a : Bool} (h : EvB D m t σ H a) : EvB D m (tNot t) σ H (!a) := et_not h fun b e => by rw [e]
theorem ev_andV {a b : Bool} (h1 : EvV D m ta σ H a) (h2 : a = true → EvV D m tb σ H b) : EvV D m (tAndV ta tb) σ H (a && b) := fun H1 e c Q w => h1 H1 e c _ fun a' v H2 e2 r z => by
  cases z
  refine ⟨a, r, ?_⟩
  cases a with
  | true => rw [if_pos rfl]; exact h2 rfl H2 (e.trans e2) (c.go e2) Q fun b' v H3 e3 r3 z => w b' v H3 (e2.trans e3) r3 z
  | false => rw [if_neg Bool.false_ne_true]; exact w false _ H2 e2 rfl rfl
theorem ev_orV {a b : Bool} (h1 : EvV D m ta σ H a) (h2 : a = false → EvV D m tb σ H b) : EvV D m (tOrV ta tb) σ H (a || b) := fun H1 e c Q w => h1 H1 e c _ fun a' v H2 e2 r z => by
  cases z
  refine ⟨a, r, ?_⟩
  cases a with
  | true => rw [if_pos rfl]; exact w true _ H2 e2 rfl rfl
  | false => rw [if_neg Bool.false_ne_true]; exact h2 rfl H2 (e.trans e2) (c.go e2) Q fun b' v H3 e3 r3 z => w b' v H3 (e2.trans e3) r3 z
theorem ev_notV {a : Bool} (h1 : EvV D m ta σ H a) : EvV D m (tNotV ta) σ H (!a) := fun H1 e c Q w => h1 H1 e c _ fun a' v H2 e2 r z => by
  cases z
  exact ⟨a, r, w _ _ H2 e2 rfl rfl⟩
/-- a if t else b -/
theorem ev_if {b : Bool} {p : α → Prop} (h : EvB D m t σ H b) (h1 : b = true → Ev D m ta σ H p) (h2 : b = false → Ev D m tb σ H p) : Ev D m (tIf t ta tb) σ H p := fun H1 e c Q w => h H1 e c _ fun b' H2 e2 z => by
  cases z
  cases b with
  | true => rw [if_pos rfl]; exact h1 rfl H2 (e.trans e2) (c.go e2) Q fun x v H3 e3 => w x v H3 (e2.trans e3)
  | false => rw [if_neg Bool.false_ne_true]; exact h2 rfl H2 (e.trans e2) (c.go e2) Q fun x v H3 e3 => w x v H3 (e2.trans e3)
theorem ev_ifP {q : Bool → Prop} {p : α → Prop} (h : EvT D m t σ H q) (h1 : q true → Ev D m ta σ H p) (h2 : q false → Ev D m tb σ H p) : Ev D m (tIf t ta tb) σ H p := fun H1 e c Q w => h H1 e c _ fun b' H2 e2 z => by
  cases b' with
  | true => rw [if_pos rfl]; exact h1 z H2 (e.trans e2) (c.go e2) Q fun x v H3 e3 => w x v H3 (e2.trans e3)
  | false => rw [if_neg Bool.false_ne_true]; exact h2 z H2 (e.trans e2) (c.go e2) Q fun x v H3 e3 => w x v H3 (e2.trans e3)

/-! tuples, lists -/
/-- (a, b) -/
theorem ev_pair {p : α → Prop} {q : β → Prop} {r : α × β → Prop} (ha : Ev D m ta σ H p) (hb : Ev D m tb σ H q) (k : ∀ x y, p x → q y → r (x, y)) : Ev D m (tTup (tCons ta (tCons tb tNil))) σ H r := fun H1 e c Q w =>
  ha H1 e c _ fun x v H2 e2 rx px => hb H2 (e.trans e2) (c.go e2) _ fun y u H3 e3 ry qy => ⟨(by show 2 ≤ sizeLine; decide), fun a ha =>
    w (x, y) _ _ ((e2.trans e3).trans (.new ha)) ⟨a, v, u, rfl, upd_same, rp_g0 (rp_gd rx (c.go e2) e3) (.new ha), rp_g0 ry (.new ha)⟩ (k x y px qy)⟩
theorem ev_pairV {x : α} {y : β} (ha : EvV D m ta σ H x) (hb : EvV D m tb σ H y) : EvV D m (tTup (tCons ta (tCons tb tNil))) σ H (x, y) := ev_pair ha hb fun _ _ a b => by rw [a, b]
theorem ev_tri {tc : TE} {p : α → Prop} {q : β → Prop} {s : γ → Prop} {r : Tri α β γ → Prop} (ha : Ev D m ta σ H p) (hb : Ev D m tb σ H q) (hc : Ev D m tc σ H s) (k : ∀ x y z, p x → q y → s z → r ⟨x, y, z⟩) : Ev D m (tTup (tCons ta (tCons tb (tCons tc tNil)))) σ H r := fun H1 e c Q w =>
  ha H1 e c _ fun x v H2 e2 rx px => hb H2 (e.trans e2) (c.go e2) _ fun y u H3 e3 ry qy => hc H3 ((e.trans e2).trans e3) ((c.go e2).go e3) _ fun z o H4 e4 rz sz => ⟨(by show 3 ≤ sizeLine; decide), fun a ha =>
    w ⟨x, y, z⟩ _ _ (((e2.trans e3).trans e4).trans (.new ha)) ⟨a, v, u, o, rfl, upd_same, rp_g0 (rp_gd (rp_gd rx (c.go e2) e3) ((c.go e2).go e3) e4) (.new ha), rp_g0 (rp_gd ry ((c.go e2).go e3) e4) (.new ha), rp_g0 rz (.new ha)⟩ (k x y z px qy sz)⟩
/-- items of a display, all alike -/
def EvI (D : Dst) (m : List Addr) (t : TA) (σ : St) (H : Hp) (p : List α → Prop) : Prop :=
  ∀ H1, Gd D H H1 → Cc D m H1 → ∀ Q : List V → Hp → Prop, (∀ xs vs H2, Gd D H1 H2 → Paired (Rp.rp m H2) xs vs → p xs → Q vs H2) → t σ H1 Q
theorem ei_nil : EvI D m tNil σ H (fun xs : List α => xs = []) := fun H1 _ _ Q w => w [] [] H1 .refl .nil rfl
theorem ei_cons {tr : TA} {p : α → Prop} {q r : List α → Prop} (ha : Ev D m ta σ H p) (hr : EvI D m tr σ H q) (k : ∀ x xs, p x → q xs → r (x :: xs)) : EvI D m (tCons ta tr) σ H r := fun H1 e c Q w =>
  ha H1 e c _ fun x v H2 e2 rx px => hr H2 (e.trans e2) (c.go e2) _ fun xs vs H3 e3 rs qs => w (x :: xs) (v :: vs) H3 (e2.trans e3) (.cons (rp_gd rx (c.go e2) e3) rs) (k x xs px qs)
theorem ei_consV {tr : TA} {x : α} {xs : List α} (ha : EvV D m ta σ H x) (hr : EvI D m tr σ H (fun ys => ys = xs)) : EvI D m (tCons ta tr) σ H (fun ys => ys = x :: xs) := ei_cons ha hr fun _ _ a b => by rw [a, b]
theorem el_lst {ti : TA} {p : List α → Prop} (h : EvI D m ti σ H p) (hl : ∀ xs, p xs → xs.length ≤ 100000) : EvL D m (tLst ti) σ H p := fun H1 e c Q w =>
  h H1 e c _ fun xs vs H2 e2 rs ps => ⟨by have := rs.length; exact Evl.sz_of (this ▸ hl xs ps), fun a ha => w xs a _ (e2.gr.dom a ha) (e2.trans (.new ha))
    ⟨(c.go e2).free ha, vs, upd_same, paired_go rs fun _ _ r => rp_g0 r (.new ha)⟩ ps⟩
theorem ev_tp {ti : TA} {p : List α → Prop} {q : Tp α → Prop} (h : EvI D m ti σ H p) (hl : ∀ xs, p xs → xs.length ≤ 100000) (k : ∀ xs, p xs → q ⟨xs⟩) : Ev D m (tTup ti) σ H q := fun H1 e c Q w =>
  h H1 e c _ fun xs vs H2 e2 rs ps => ⟨by have := rs.length; exact Evl.sz_of (this ▸ hl xs ps), fun a ha => w ⟨xs⟩ _ _ (e2.trans (.new ha)) ⟨a, vs, rfl, upd_same, paired_go rs fun _ _ r => rp_g0 r (.new ha)⟩ (k xs ps)⟩
theorem rp_lst {xs : List α} (r : Rp.rp m H xs v) : ∃ a vs, v = .ref a ∧ a ∉ m ∧ H a = some (.lst vs) ∧ Paired (Rp.rp m H) xs vs := r
theorem paired_at {α β : Type} {F : α → β → Prop} : ∀ {l : List α} {r : List β} {i : Nat} {x : α}, Paired F l r → l[i]? = some x → ∃ y, r[i]? = some y ∧ F x y
  | _, _, _, _, .nil, e => by simp at e
  | _, _, 0, _, .cons h _, e => by simp at e; subst e; exact ⟨_, rfl, h⟩
  | _, _, i + 1, x, .cons _ t, e => by simpa using paired_at (i := i) t (by simpa using e)
theorem paired_atI {F : α → V → Prop} {l : List α} {r : List V} {i : Int} {x : α} (h : Paired F l r) (e : atI l i = some x) : ∃ y, atI r i = some y ∧ F x y := by
  unfold atI at e ⊢
  rw [← h.length]
  cases q : ixN l.length i with
  | none => rw [q] at e; cases e
  | some j =>
    rw [q] at e
    exact paired_at h e
/-- xs[i] -/
theorem ev_ixL {xs : List α} {q : Int → Prop} {p : α → Prop} (ha : EvV D m ta σ H xs) (hb : Ev D m tb σ H q) (k : ∀ i, q i → ∃ x, atI xs i = some x ∧ p x) : Ev D m (tOp (rIxL K) ta tb) σ H p := fun H1 e c Q w =>
  ha H1 e c _ fun xs' v H2 e2 rx px => hb H2 (e.trans e2) (c.go e2) _ fun j u H3 e3 rj qj => by
    cases px
    obtain ⟨x, hx, px⟩ := k j qj
    obtain ⟨a, vs, rfl, n, h, ps⟩ := rp_lst (rp_gd rx (c.go e2) e3)
    obtain ⟨y, hy, ry⟩ := paired_atI ps hx
    exact ⟨a, vs, j, y, rfl, rj, .of h, hy, w x y H3 (e2.trans e3) ry px⟩
theorem ev_ixL' {s : List α → Prop} {q : Int → Prop} {p : α → Prop} (ha : Ev D m ta σ H s) (hb : Ev D m tb σ H q) (k : ∀ xs i, s xs → q i → ∃ x, atI xs i = some x ∧ p x) : Ev D m (tOp (rIxL K) ta tb) σ H p := fun H1 e c Q w =>
  ha H1 e c _ fun xs v H2 e2 rx px => hb H2 (e.trans e2) (c.go e2) _ fun j u H3 e3 rj qj => by
    obtain ⟨x, hx, px⟩ := k xs j px qj
    obtain ⟨a, vs, rfl, n, h, ps⟩ := rp_lst (rp_gd rx (c.go e2) e3)
    obtain ⟨y, hy, ry⟩ := paired_atI ps hx
    exact ⟨a, vs, j, y, rfl, rj, .of h, hy, w x y H3 (e2.trans e3) ry px⟩
theorem ev_ixLV {xs : List α} {i : Int} {x : α} (ha : EvV D m ta σ H xs) (hb : EvV D m tb σ H i) (k : atI xs i = some x) : EvV D m (tOp (rIxL K) ta tb) σ H x := ev_ixL ha hb fun j e => ⟨x, by rw [e]; exact k, rfl⟩
/-- t[0], t[1] of a pair -/
theorem ev_ix0 {x : α × β} (ha : EvV D m ta σ H x) : EvV D m (tOp (rIxT K) ta (tC (.int 0))) σ H x.1 := fun H1 e c Q w =>
  ha H1 e c _ fun x' v H2 e2 rx px => by
    cases px
    obtain ⟨a, u, z, rfl, h, r1, r2⟩ := rx
    exact ⟨a, _, 0, u, rfl, rfl, .of h, rfl, w _ _ H2 e2 r1 rfl⟩
theorem ev_ix1 {x : α × β} (ha : EvV D m ta σ H x) : EvV D m (tOp (rIxT K) ta (tC (.int 1))) σ H x.2 := fun H1 e c Q w =>
  ha H1 e c _ fun x' v H2 e2 rx px => by
    cases px
    obtain ⟨a, u, z, rfl, h, r1, r2⟩ := rx
    exact ⟨a, _, 1, z, rfl, rfl, .of h, rfl, w _ _ H2 e2 r2 rfl⟩
/-- len of a list -/
def rLen (K : PySem.W.Frag) : List V → Hp → VK → Prop := fun xs H Q => ∃ p ys, xs = [.ref p] ∧ (SqL K H p ys ∨ SqT K H p ys) ∧ Q (.int ys.length) H
theorem ev_len {xs : List α} (ha : EvV D m ta σ H xs) : EvV D m (tCB (rLen K) (tCons ta tNil)) σ H (xs.length : Int) := fun H1 e c Q w =>
  ha H1 e c _ fun xs' v H2 e2 rx px => by
    cases px
    obtain ⟨a, vs, rfl, n, h, ps⟩ := rp_lst rx
    exact ⟨a, vs, rfl, .inl (.of h), w _ _ H2 e2 (by rw [← ps.length]; rfl) rfl⟩
theorem ev_lenT {xs : Tp α} (ha : EvV D m ta σ H xs) : EvV D m (tCB (rLen K) (tCons ta tNil)) σ H (xs.l.length : Int) := fun H1 e c Q w =>
  ha H1 e c _ fun xs' v H2 e2 rx px => by
    cases px
    obtain ⟨a, vs, rfl, h, ps⟩ := rx
    exact ⟨a, vs, rfl, .inr (.of h), w _ _ H2 e2 (by rw [← ps.length]; rfl) rfl⟩
/-- list(xs) -/
def rList (K : PySem.W.Frag) : List V → Hp → VK → Prop := fun xs H Q => ∃ p ys, xs = [.ref p] ∧ (SqL K H p ys ∨ SqT K H p ys) ∧ ∀ l, H l = none → Q (.ref l) (upd H l (.lst ys))
theorem el_list {xs : List α} (ha : EvV D m ta σ H xs) : EvLV D m (tCB (rList K) (tCons ta tNil)) σ H xs := fun H1 e c Q w =>
  ha H1 e c _ fun xs' v H2 e2 rx px => by
    cases px
    obtain ⟨a, vs, rfl, n, h, ps⟩ := rp_lst rx
    exact ⟨a, vs, rfl, .inl (.of h), fun l hl => w xs l _ (e2.gr.dom l hl) (e2.trans (.new hl)) ⟨(c.go e2).free hl, vs, upd_same, paired_go ps fun _ _ r => rp_g0 r (.new hl)⟩ rfl⟩
theorem el_listT {xs : Tp α} (ha : EvV D m ta σ H xs) : EvLV D m (tCB (rList K) (tCons ta tNil)) σ H xs.l := fun H1 e c Q w =>
  ha H1 e c _ fun xs' v H2 e2 rx px => by
    cases px
    obtain ⟨a, vs, rfl, h, ps⟩ := rx
    exact ⟨a, vs, rfl, .inr (.of h), fun l hl => w xs.l l _ (e2.gr.dom l hl) (e2.trans (.new hl)) ⟨(c.go e2).free hl, vs, upd_same, paired_go ps fun _ _ r => rp_g0 r (.new hl)⟩ rfl⟩
/-- xs + ys -/
theorem rCat_ok {p q : List α → Prop} {r : List α → Prop} {rc : R2} (hrc : ∀ a b (us ws : List V) H Q, H a = some (.lst us) → H b = some (.lst ws) → us.length ≤ 100000 → ws.length ≤ 100000 → (∀ l, H l = none → Q (.ref l) (upd H l (.lst (us ++ ws)))) → rc (.ref a) (.ref b) H Q)
    (ha : Ev D m ta σ H p) (hb : Ev D m tb σ H q) (hl : ∀ xs ys, p xs → q ys → xs.length ≤ 100000 ∧ ys.length ≤ 100000) (k : ∀ xs ys, p xs → q ys → r (xs ++ ys)) : EvL D m (tOp rc ta tb) σ H r := fun H1 e c Q w =>
  ha H1 e c _ fun xs v H2 e2 rx px => hb H2 (e.trans e2) (c.go e2) _ fun ys u H3 e3 ry qy => by
    obtain ⟨a, vs, rfl, n, h, ps⟩ := rp_lst (rp_gd rx (c.go e2) e3)
    obtain ⟨b, us, rfl, n', h', ps'⟩ := rp_lst ry
    have z := hl xs ys px qy
    refine hrc a b vs us H3 Q h h' (by rw [← ps.length]; exact z.1) (by rw [← ps'.length]; exact z.2) fun l hl => ?_
    have app : ∀ {l1 l2 : List α} {r1 r2 : List V}, Paired (Rp.rp m H3) l1 r1 → Paired (Rp.rp m H3) l2 r2 → Paired (Rp.rp m H3) (l1 ++ l2) (r1 ++ r2) := fun {l1 l2 r1 r2} h1 h2 => by
      induction h1 with
      | nil => exact h2
      | cons a _ ih => exact .cons a ih
    exact w (xs ++ ys) l _ ((e2.trans e3).gr.dom l hl) ((e2.trans e3).trans (.new hl)) ⟨((c.go e2).go e3).free hl, _, upd_same, paired_go (app ps ps') fun _ _ r => rp_g0 r (.new hl)⟩ (k xs ys px qy)
end

/-! ### statements -/
section
variable {α β : Type} [Rp α] [Rp β] {K : PySem.W.Frag} {D : Dst} {m : List Addr} {σ : St} {H H' : Hp} {ta tb te : TE} {tt : TT} {v : V} {En : Ends} {i : Nat} {t u : TS}
theorem s_set {p : α → Prop} (c : Cc D m H) (h : Ev D m te σ H p) (k : ∀ x v H1, Gd D H H1 → Rp.rp m H1 x v → p x → En.nx (σ.set i (some v)) H1) : tAsg te (gName i) En σ H := h H .refl c _ fun x v H1 g r z => k x v H1 g r z
theorem s_setV {x : α} (c : Cc D m H) (h : EvV D m te σ H x) (k : ∀ v H1, Gd D H H1 → Rp.rp m H1 x v → En.nx (σ.set i (some v)) H1) : tAsg te (gName i) En σ H := s_set c h fun x v H1 g r z => by cases z; exact k v H1 g r
theorem s_setI {p : Int → Prop} (c : Cc D m H) (h : Ev D m te σ H p) (k : ∀ n H1, Gd D H H1 → p n → En.nx (σ.set i (some (.int n))) H1) : tAsg te (gName i) En σ H := s_set c h fun x v H1 g r z => by cases rp_int r; exact k x H1 g z
theorem s_setIV {n : Int} (c : Cc D m H) (h : EvV D m te σ H n) (k : ∀ H1, Gd D H H1 → En.nx (σ.set i (some (.int n))) H1) : tAsg te (gName i) En σ H := s_setI c h fun x H1 g z => by cases z; exact k H1 g
theorem s_setBV {b : Bool} (c : Cc D m H) (h : EvV D m te σ H b) (k : ∀ H1, Gd D H H1 → En.nx (σ.set i (some (.bl b))) H1) : tAsg te (gName i) En σ H := s_set c h fun x v H1 g r z => by cases rp_bool r; cases z; exact k H1 g
theorem s_setSV {b : Str} (c : Cc D m H) (h : EvV D m te σ H b) (k : ∀ H1, Gd D H H1 → En.nx (σ.set i (some (.str b))) H1) : tAsg te (gName i) En σ H := s_set c h fun x v H1 g r z => by cases rp_str r; cases z; exact k H1 g
theorem s_setL {p : List α → Prop} (c : Cc D m H) (h : EvL D m te σ H p) (k : ∀ xs a H1, H a = none → Gd D H H1 → Own m H1 a xs → p xs → En.nx (σ.set i (some (.ref a))) H1) : tAsg te (gName i) En σ H := h H .refl c _ fun x a H1 n g r z => k x a H1 n g r z
theorem s_setLV {xs : List α} (c : Cc D m H) (h : EvLV D m te σ H xs) (k : ∀ a H1, H a = none → Gd D H H1 → Own m H1 a xs → En.nx (σ.set i (some (.ref a))) H1) : tAsg te (gName i) En σ H := s_setL c h fun x a H1 n g r z => by cases z; exact k a H1 n g r
theorem s_drop {p : α → Prop} (c : Cc D m H) (h : Ev D m te σ H p) (k : ∀ x H1, Gd D H H1 → p x → En.nx σ H1) : tDrop te En σ H := h H .refl c _ fun x v H1 g _ z => k x H1 g z
theorem s_ret {p : α → Prop} (c : Cc D m H) (h : Ev D m te σ H p) (k : ∀ x v H1, Gd D H H1 → Rp.rp m H1 x v → p x → En.rt v H1) : tRet te En σ H := h H .refl c _ fun x v H1 g r z => k x v H1 g r z
theorem s_retV {x : α} (c : Cc D m H) (h : EvV D m te σ H x) (k : ∀ v H1, Gd D H H1 → Rp.rp m H1 x v → En.rt v H1) : tRet te En σ H := s_ret c h fun x v H1 g r z => by cases z; exact k v H1 g r
theorem s_retL {p : List α → Prop} (c : Cc D m H) (h : EvL D m te σ H p) (k : ∀ xs a H1, H a = none → Gd D H H1 → Own m H1 a xs → p xs → En.rt (.ref a) H1) : tRet te En σ H := h H .refl c _ fun x a H1 n g r z => k x a H1 n g r z
theorem s_retLV {xs : List α} (c : Cc D m H) (h : EvLV D m te σ H xs) (k : ∀ a H1, H a = none → Gd D H H1 → Own m H1 a xs → En.rt (.ref a) H1) : tRet te En σ H := s_retL c h fun x a H1 n g r z => by cases z; exact k a H1 n g r
theorem s_if {p : Bool → Prop} (c : Cc D m H) (h : EvT D m tt σ H p) (h1 : p true → ∀ H1, Gd D H H1 → t En σ H1) (h2 : p false → ∀ H1, Gd D H H1 → u En σ H1) : tIfS tt t u En σ H := h H .refl c _ fun b H1 g z => by
  cases b with
  | true => rw [if_pos rfl]; exact h1 z H1 g
  | false => rw [if_neg Bool.false_ne_true]; exact h2 z H1 g
theorem s_ifV {b : Bool} (c : Cc D m H) (h : EvB D m tt σ H b) (h1 : b = true → ∀ H1, Gd D H H1 → t En σ H1) (h2 : b = false → ∀ H1, Gd D H H1 → u En σ H1) : tIfS tt t u En σ H := s_if c h (fun e => h1 e.symm) fun e => h2 e.symm
theorem s_next (k : En.nx σ H) : tNext En σ H := k
/-- for x in range(n) -/
theorem s_forR1 {g : TG} {p : Int → Prop} (c : Cc D m H) (h : Ev D m te σ H p)
    (k : ∀ n H1, Gd D H H1 → p n → (-(2 ^ 62) ≤ n ∧ n < 2 ^ 62) ∧ ∃ Pv : Nat → St → Hp → Prop, Pv 0 σ H1 ∧ (∀ (j : Nat) σ' H', (j : Int) < n → Pv j σ' H' → g (.int (j : Int)) σ' H' fun σ2 H2 => t { En with nx := Pv (j + 1), ct := Pv (j + 1), bk := En.nx } σ2 H2) ∧ ∀ σ' H', Pv n.toNat σ' H' → En.nx σ' H') :
    tFor (iRng1 (tCons te tNil)) g t En σ H := h H .refl c _ fun n v H1 gd r z => by
  cases rp_int r
  obtain ⟨⟨b1, b2⟩, Pv, h0, hs, hd⟩ := k n H1 gd z
  refine ⟨n, rfl, b1, b2, for_range (lo := 0) (n := n.toNat) Pv h0 (fun j σ' H' hj hp => ?_) hd⟩
  have q := hs j σ' H' (by omega) hp
  rw [Int.zero_add]
  exact q
/-- for x in range(a, b) -/
theorem s_forR2 {g : TG} {p q : Int → Prop} (c : Cc D m H) (h : Ev D m ta σ H p) (h' : Ev D m tb σ H q)
    (k : ∀ lo n H1, Gd D H H1 → p lo → q n → (-(2 ^ 62) ≤ lo ∧ lo < 2 ^ 62 ∧ -(2 ^ 62) ≤ n ∧ n < 2 ^ 62) ∧ ∃ Pv : Nat → St → Hp → Prop, Pv 0 σ H1 ∧ (∀ (j : Nat) σ' H', lo + (j : Int) < n → Pv j σ' H' → g (.int (lo + (j : Int))) σ' H' fun σ2 H2 => t { En with nx := Pv (j + 1), ct := Pv (j + 1), bk := En.nx } σ2 H2) ∧ ∀ σ' H', Pv (n - lo).toNat σ' H' → En.nx σ' H') :
    tFor (iRng2 (tCons ta (tCons tb tNil))) g t En σ H := h H .refl c _ fun lo v H1 gd r z => h' H1 gd (c.go gd) _ fun n v' H2 gd2 r' z' => by
  cases rp_int r
  cases rp_int r'
  obtain ⟨hb, Pv, h0, hs, hd⟩ := k lo n H2 (gd.trans gd2) z z'
  exact ⟨lo, n, rfl, hb, for_range (lo := lo) (n := (n - lo).toNat) Pv h0 (fun j σ' H' hj hp => hs j σ' H' (by omega) hp) hd⟩
/-- for x in xs -/
theorem s_forL {g : TG} {xs : List α} (c : Cc D m H) (h : EvV D m te σ H xs)
    (k : ∀ a vs H1, Gd D H H1 → a ∉ m → H1 a = some (.lst vs) → Paired (Rp.rp m H1) xs vs → ∃ Pv : Nat → St → Hp → Prop, Pv 0 σ H1 ∧ (∀ j σ' H', Pv j σ' H' → H' a = some (.lst vs)) ∧
      (∀ (j : Nat) x v σ' H', xs[j]? = some x → Rp.rp m H1 x v → Pv j σ' H' → g v σ' H' fun σ2 H2 => t { En with nx := Pv (j + 1), ct := Pv (j + 1), bk := En.nx } σ2 H2) ∧ ∀ σ' H', Pv xs.length σ' H' → En.nx σ' H') :
    tFor (iList K te) g t En σ H := h H .refl c _ fun xs' v H1 gd r z => by
  cases z
  obtain ⟨a, vs, rfl, n, ha, ps⟩ := rp_lst r
  obtain ⟨Pv, h0, hl, hs, hd⟩ := k a vs H1 gd n ha ps
  refine ⟨a, rfl, ⟨vs, .of ha⟩, for_list (K := K) (a := a) (xs := vs) Pv h0 (fun j σ' H' _ hp => .of (hl j σ' H' hp)) (fun j w σ' H' hj hp => ?_) (fun σ' H' hp => hd σ' H' (by rw [ps.length]; exact hp))⟩
  have hlt : j < xs.length := by rw [ps.length]; exact (List.getElem?_eq_some_iff.mp hj).1
  obtain ⟨y, hy, ry⟩ := paired_at ps (List.getElem?_eq_getElem hlt)
  rw [hj] at hy
  cases hy
  exact hs j _ w σ' H' (List.getElem?_eq_getElem hlt) ry hp
/-- .. xs any list with p xs -/
theorem s_forLP {g : TG} {p : List α → Prop} (c : Cc D m H) (h : Ev D m te σ H p)
    (k : ∀ xs a vs H1, p xs → Gd D H H1 → a ∉ m → H1 a = some (.lst vs) → Paired (Rp.rp m H1) xs vs → ∃ Pv : Nat → St → Hp → Prop, Pv 0 σ H1 ∧ (∀ j σ' H', Pv j σ' H' → H' a = some (.lst vs)) ∧
      (∀ (j : Nat) x v σ' H', xs[j]? = some x → Rp.rp m H1 x v → Pv j σ' H' → g v σ' H' fun σ2 H2 => t { En with nx := Pv (j + 1), ct := Pv (j + 1), bk := En.nx } σ2 H2) ∧ ∀ σ' H', Pv xs.length σ' H' → En.nx σ' H') :
    tFor (iList K te) g t En σ H := h H .refl c _ fun xs v H1 gd r z => by
  obtain ⟨a, vs, rfl, n, ha, ps⟩ := rp_lst r
  obtain ⟨Pv, h0, hl, hs, hd⟩ := k xs a vs H1 z gd n ha ps
  refine ⟨a, rfl, ⟨vs, .of ha⟩, for_list (K := K) (a := a) (xs := vs) Pv h0 (fun j σ' H' _ hp => .of (hl j σ' H' hp)) (fun j w σ' H' hj hp => ?_) (fun σ' H' hp => hd σ' H' (by rw [ps.length]; exact hp))⟩
  have hlt : j < xs.length := by rw [ps.length]; exact (List.getElem?_eq_some_iff.mp hj).1
  obtain ⟨y, hy, ry⟩ := paired_at ps (List.getElem?_eq_getElem hlt)
  rw [hj] at hy
  cases hy
  exact hs j _ w σ' H' (List.getElem?_eq_getElem hlt) ry hp
theorem q_forLP {z : TS} {g : TG} {p : List α → Prop} (c : Cc D m H) (h : Ev D m te σ H p)
    (k : ∀ xs a vs H1, p xs → Gd D H H1 → a ∉ m → H1 a = some (.lst vs) → Paired (Rp.rp m H1) xs vs → ∃ Pv : Nat → St → Hp → Prop, Pv 0 σ H1 ∧ (∀ j σ' H', Pv j σ' H' → H' a = some (.lst vs)) ∧
      (∀ (j : Nat) x v σ' H', xs[j]? = some x → Rp.rp m H1 x v → Pv j σ' H' → g v σ' H' fun σ2 H2 => t { En with nx := Pv (j + 1), ct := Pv (j + 1), bk := z En } σ2 H2) ∧ ∀ σ' H', Pv xs.length σ' H' → z En σ' H') :
    tSeq (tFor (iList K te) g t) z En σ H := s_forLP (En := { En with nx := z En }) c h k
/-- a target (a, b): the pair is split -/
theorem g_pair {i j : Nat} {x : α × β} {R : St → Hp → Prop} (r : Rp.rp m H x v) (k : ∀ u w, Rp.rp m H x.1 u → Rp.rp m H x.2 w → R ((σ.set i (some u)).set j (some w)) H) : gTup K 2 (gCons (gName i) (gCons (gName j) gNil)) v σ H R := by
  obtain ⟨a, u, w, rfl, h, r1, r2⟩ := r
  exact ⟨a, _, rfl, .of h, rfl, u, _, rfl, w, _, rfl, rfl, k u w r1 r2⟩
/-- xs.append(e) -/
theorem s_app [Nl α] {xs : List α} {a : Addr} {p : α → Prop} (c : Cc D m H) (o : Own m H a xs) (hv : σ[i]? = some (some (.ref a))) (h : Ev D m te σ H p) (hz : xs.length < 100000)
    (k : ∀ x H1 H2, Gd D H H1 → p x → Own m H2 a (xs ++ [x]) → (∃ vs, H2 = upd H1 a (.lst vs)) → En.nx σ H2) : tDrop (tBM K "list" rAppend (tVar i) (tCons te tNil)) En σ H := by
  obtain ⟨n, vs, ha, ps⟩ := id o
  refine ⟨_, hv, .inl ⟨rfl, _, .inl (.inl ha)⟩, h H .refl c _ fun x v H1 g r z => ?_⟩
  have o1 := o.gd c g
  have ha1 : H1 a = some (.lst vs) := g.gr.keep a _ ha fun q => n (c.sub a q)
  exact ⟨a, vs, v, rfl, rfl, ha1, by rw [← ps.length]; exact Evl.sz_lt hz, k x H1 _ g z (o1.app ha1 r) ⟨_, rfl⟩⟩
/-! the same, more statements behind -/
theorem q_set {z : TS} {p : α → Prop} (c : Cc D m H) (h : Ev D m te σ H p) (k : ∀ x v H1, Gd D H H1 → Rp.rp m H1 x v → p x → z En (σ.set i (some v)) H1) : tSeq (tAsg te (gName i)) z En σ H := s_set (En := { En with nx := z En }) c h k
theorem q_setV {z : TS} {x : α} (c : Cc D m H) (h : EvV D m te σ H x) (k : ∀ v H1, Gd D H H1 → Rp.rp m H1 x v → z En (σ.set i (some v)) H1) : tSeq (tAsg te (gName i)) z En σ H := s_setV (En := { En with nx := z En }) c h k
theorem q_setI {z : TS} {p : Int → Prop} (c : Cc D m H) (h : Ev D m te σ H p) (k : ∀ n H1, Gd D H H1 → p n → z En (σ.set i (some (.int n))) H1) : tSeq (tAsg te (gName i)) z En σ H := s_setI (En := { En with nx := z En }) c h k
theorem q_setIV {z : TS} {n : Int} (c : Cc D m H) (h : EvV D m te σ H n) (k : ∀ H1, Gd D H H1 → z En (σ.set i (some (.int n))) H1) : tSeq (tAsg te (gName i)) z En σ H := s_setIV (En := { En with nx := z En }) c h k
theorem q_setBV {z : TS} {b : Bool} (c : Cc D m H) (h : EvV D m te σ H b) (k : ∀ H1, Gd D H H1 → z En (σ.set i (some (.bl b))) H1) : tSeq (tAsg te (gName i)) z En σ H := s_setBV (En := { En with nx := z En }) c h k
theorem q_setSV {z : TS} {b : Str} (c : Cc D m H) (h : EvV D m te σ H b) (k : ∀ H1, Gd D H H1 → z En (σ.set i (some (.str b))) H1) : tSeq (tAsg te (gName i)) z En σ H := s_setSV (En := { En with nx := z En }) c h k
theorem q_setL {z : TS} {p : List α → Prop} (c : Cc D m H) (h : EvL D m te σ H p) (k : ∀ xs a H1, H a = none → Gd D H H1 → Own m H1 a xs → p xs → z En (σ.set i (some (.ref a))) H1) : tSeq (tAsg te (gName i)) z En σ H := s_setL (En := { En with nx := z En }) c h k
theorem q_setLV {z : TS} {xs : List α} (c : Cc D m H) (h : EvLV D m te σ H xs) (k : ∀ a H1, H a = none → Gd D H H1 → Own m H1 a xs → z En (σ.set i (some (.ref a))) H1) : tSeq (tAsg te (gName i)) z En σ H := s_setLV (En := { En with nx := z En }) c h k
theorem q_drop {z : TS} {p : α → Prop} (c : Cc D m H) (h : Ev D m te σ H p) (k : ∀ x H1, Gd D H H1 → p x → z En σ H1) : tSeq (tDrop te) z En σ H := s_drop (En := { En with nx := z En }) c h k
theorem q_if {z : TS} {p : Bool → Prop} (c : Cc D m H) (h : EvT D m tt σ H p) (h1 : p true → ∀ H1, Gd D H H1 → t { En with nx := z En } σ H1) (h2 : p false → ∀ H1, Gd D H H1 → u { En with nx := z En } σ H1) : tSeq (tIfS tt t u) z En σ H := s_if (En := { En with nx := z En }) c h h1 h2
theorem q_ifV {z : TS} {b : Bool} (c : Cc D m H) (h : EvB D m tt σ H b) (h1 : b = true → ∀ H1, Gd D H H1 → t { En with nx := z En } σ H1) (h2 : b = false → ∀ H1, Gd D H H1 → u { En with nx := z En } σ H1) : tSeq (tIfS tt t u) z En σ H := s_ifV (En := { En with nx := z En }) c h h1 h2
theorem q_forR1 {z : TS} {g : TG} {p : Int → Prop} (c : Cc D m H) (h : Ev D m te σ H p)
    (k : ∀ n H1, Gd D H H1 → p n → (-(2 ^ 62) ≤ n ∧ n < 2 ^ 62) ∧ ∃ Pv : Nat → St → Hp → Prop, Pv 0 σ H1 ∧ (∀ (j : Nat) σ' H', (j : Int) < n → Pv j σ' H' → g (.int (j : Int)) σ' H' fun σ2 H2 => t { En with nx := Pv (j + 1), ct := Pv (j + 1), bk := z En } σ2 H2) ∧ ∀ σ' H', Pv n.toNat σ' H' → z En σ' H') : tSeq (tFor (iRng1 (tCons te tNil)) g t) z En σ H := s_forR1 (En := { En with nx := z En }) c h k
theorem q_forR2 {z : TS} {g : TG} {p q : Int → Prop} (c : Cc D m H) (h : Ev D m ta σ H p) (h' : Ev D m tb σ H q)
    (k : ∀ lo n H1, Gd D H H1 → p lo → q n → (-(2 ^ 62) ≤ lo ∧ lo < 2 ^ 62 ∧ -(2 ^ 62) ≤ n ∧ n < 2 ^ 62) ∧ ∃ Pv : Nat → St → Hp → Prop, Pv 0 σ H1 ∧ (∀ (j : Nat) σ' H', lo + (j : Int) < n → Pv j σ' H' → g (.int (lo + (j : Int))) σ' H' fun σ2 H2 => t { En with nx := Pv (j + 1), ct := Pv (j + 1), bk := z En } σ2 H2) ∧ ∀ σ' H', Pv (n - lo).toNat σ' H' → z En σ' H') : tSeq (tFor (iRng2 (tCons ta (tCons tb tNil))) g t) z En σ H := s_forR2 (En := { En with nx := z En }) c h h' k
theorem q_forL {z : TS} {g : TG} {xs : List α} (c : Cc D m H) (h : EvV D m te σ H xs)
    (k : ∀ a vs H1, Gd D H H1 → a ∉ m → H1 a = some (.lst vs) → Paired (Rp.rp m H1) xs vs → ∃ Pv : Nat → St → Hp → Prop, Pv 0 σ H1 ∧ (∀ j σ' H', Pv j σ' H' → H' a = some (.lst vs)) ∧
      (∀ (j : Nat) x v σ' H', xs[j]? = some x → Rp.rp m H1 x v → Pv j σ' H' → g v σ' H' fun σ2 H2 => t { En with nx := Pv (j + 1), ct := Pv (j + 1), bk := z En } σ2 H2) ∧ ∀ σ' H', Pv xs.length σ' H' → z En σ' H') : tSeq (tFor (iList K te) g t) z En σ H := s_forL (En := { En with nx := z En }) c h k
theorem q_app {z : TS} [Nl α] {xs : List α} {a : Addr} {p : α → Prop} (c : Cc D m H) (o : Own m H a xs) (hv : σ[i]? = some (some (.ref a))) (h : Ev D m te σ H p) (hz : xs.length < 100000)
    (k : ∀ x H1 H2, Gd D H H1 → p x → Own m H2 a (xs ++ [x]) → (∃ vs, H2 = upd H1 a (.lst vs)) → z En σ H2) : tSeq (tDrop (tBM K "list" rAppend (tVar i) (tCons te tNil))) z En σ H := s_app (En := { En with nx := z En }) c o hv h hz k
end

/-! ### comprehensions -/
theorem mut_gd {D : Dst} {m : List Addr} {H H' : Hp} {a : Addr} {o : HO} (g : Gd D H H') (c : Cc D m H) (h : H a = none) : Gd D H (upd H' a o) := by
  refine ⟨g.gr.mut h, fun ok => ?_⟩
  have ok' := g.ok ok
  rcases D with _ | ⟨p, q⟩
  · trivial
  · refine DrawAt.go ok' (fun o e => ?_) (fun o e => ?_)
    · have hp : H p ≠ none := c.dm p (c.sub p (by simp [Dst.m]))
      rw [upd_ne (fun z => hp (by rw [z]; exact h))]; exact e
    · have hp : H q ≠ none := c.dm q (c.sub q (by simp [Dst.m]))
      rw [upd_ne (fun z => hp (by rw [z]; exact h))]; exact e
section
variable {α β : Type} [Rp α] [Rp β] {K : PySem.W.Frag} {D : Dst} {m : List Addr} {σ : St} {H H' : Hp} {ta tb te tl : TE} {tt : TT} {v : V} {g : TG} {ws : List Nat}
/-- one turn of a comprehension: the target, the test, the item -/
def LcT (D : Dst) (m : List Addr) (g : TG) (tt : TT) (te : TE) (ws : List Nat) (σ : St) (v : V) (H : Hp) (pt : Bool → Prop) (py : β → Prop) : Prop :=
  ∃ σ2, (∀ H' R, (∀ a xs, H a = some (.tup xs) → H' a = some (.tup xs)) → R σ2 H' → g v (wipe σ ws) H' R) ∧ wipe σ2 ws = wipe σ ws ∧ EvT D m tt σ2 H pt ∧ (pt true → Ev D m te σ2 H py)
theorem lc_turn [Nl β] {a : Addr} {H1 : Hp} {acc : List β} {pt : Bool → Prop} {py : β → Prop} {P : Hp → Prop} (hT : LcT D m g tt te ws σ v H pt py) (c : Cc D m H1) (gh : Gd D H H1) (o : Own m H1 a acc) (hz : acc.length < 100000)
    (k1 : ∀ y vs H2, Gd D H1 H2 → pt true → py y → Own m (upd H2 a (.lst vs)) a (acc ++ [y]) → P (upd H2 a (.lst vs))) (k2 : ∀ H2, Gd D H1 H2 → pt false → P H2) :
    g v (wipe σ ws) H1 fun σ2 H2 => wipe σ2 ws = wipe σ ws ∧ tt σ2 H2 fun b H3 => if b = true then te σ2 H3 fun y H4 => ∃ acc, H4 a = some (.lst acc) ∧ acc.length < sizeLine ∧ P (upd H4 a (.lst (acc ++ [y]))) else P H3 := by
  obtain ⟨σ2, hg, hw, ht, he⟩ := hT
  refine hg _ _ gh.gr.tup ⟨hw, ht H1 gh c _ fun b H3 g3 z => ?_⟩
  cases b with
  | true =>
    rw [if_pos rfl]
    refine he z H3 (gh.trans g3) (c.go g3) _ fun y w H4 g4 r py => ?_
    have o4 := (o.gd c g3).gd (c.go g3) g4
    obtain ⟨vs, h4, ps, hl⟩ := o4.ex
    exact ⟨vs, h4, by rw [← hl]; exact Evl.sz_lt hz, k1 y _ H4 (g3.trans g4) z py (o4.app h4 r)⟩
  | false =>
    rw [if_neg Bool.false_ne_true]
    exact k2 H3 g3 z
/-- [e for x in xs if t], told by an invariant -/
theorem el_lcL [Nl β] {xs : List α} {p : List β → Prop} (I : Nat → List β → Prop) (h : EvV D m tl σ H xs) (hz : xs.length ≤ 90000) (h0 : I 0 [])
    (hs : ∀ (j : Nat) x v H1 acc, xs[j]? = some x → Gd D H H1 → Cc D m H1 → Rp.rp m H1 x v → I j acc → ∃ pt py, LcT D m g tt te ws σ v H1 pt py ∧ (∀ y, pt true → py y → I (j + 1) (acc ++ [y])) ∧ (pt false → I (j + 1) acc))
    (hd : ∀ acc, I xs.length acc → p acc) : EvL D m (tLc (iList K tl) g tt te ws) σ H p := fun H1 e c Q w => h H1 e c _ fun xs' v H2 e2 r z => by
  cases z
  obtain ⟨a, vs, rfl, n, ha, ps⟩ := rp_lst r
  have c2 := c.go e2
  refine ⟨a, rfl, ⟨vs, .of ha⟩, fun Dl hD => ?_⟩
  have nD : Dl ∉ m := c2.free hD
  refine lc_list (K := K) (a := a) (xs := vs) (fun j H' => ∃ acc, Gd D H2 H' ∧ Own m H' Dl acc ∧ acc.length ≤ j ∧ I j acc) ⟨[], .new hD, .nil nD upd_same, Nat.zero_le _, h0⟩ (fun j H' hj ⟨acc, g', _⟩ => .of (g'.gr.keep a _ ha fun q => n (c2.sub a q))) (fun j u H' hj ⟨acc, g', o, hl, hI⟩ => ?_) (fun H' ⟨acc, g', o, hl, hI⟩ => ?_)
  · have hlt : j < xs.length := by rw [ps.length]; exact (List.getElem?_eq_some_iff.mp hj).1
    obtain ⟨y, hy, ry⟩ := paired_at ps (List.getElem?_eq_getElem hlt)
    rw [hj] at hy
    cases hy
    obtain ⟨pt, py, hT, k1, k2⟩ := hs j _ u H' acc (List.getElem?_eq_getElem hlt) ((e.trans e2).trans g') (c2.go g') (rp_gd ry c2 g') hI
    refine lc_turn hT (c2.go g') .refl o (by omega) (fun y ws H4 g4 z py o4 => ⟨acc ++ [y], mut_gd (g'.trans g4) c2 hD, o4, by simp; omega, k1 y z py⟩) (fun H4 g4 z => ⟨acc, g'.trans g4, o.gd (c2.go g') g4, by omega, k2 z⟩)
  · exact w acc Dl H' (e2.gr.dom Dl hD) (e2.trans g') o (hd acc (by rw [ps.length]; exact hI))
/-- [e for x in range(n) if t] -/
theorem el_lcR1 [Nl β] {q : Int → Prop} {p : List β → Prop} (I : Int → Nat → List β → Prop) (h : Ev D m tl σ H q) (hz : ∀ n, q n → n ≤ 90000 ∧ -(2 ^ 62) ≤ n) (h0 : ∀ n, q n → I n 0 [])
    (hs : ∀ (n : Int) (j : Nat) H1 acc, q n → (j : Int) < n → Gd D H H1 → Cc D m H1 → I n j acc → ∃ pt py, LcT D m g tt te ws σ (.int (j : Int)) H1 pt py ∧ (∀ y, pt true → py y → I n (j + 1) (acc ++ [y])) ∧ (pt false → I n (j + 1) acc))
    (hd : ∀ n acc, q n → I n n.toNat acc → p acc) : EvL D m (tLc (iRng1 (tCons tl tNil)) g tt te ws) σ H p := fun H1 e c Q w => h H1 e c _ fun n v H2 e2 r z => by
  cases rp_int r
  have c2 := c.go e2
  have b := hz n z
  refine ⟨n, rfl, b.2, by omega, fun Dl hD => ?_⟩
  have nD : Dl ∉ m := c2.free hD
  refine lc_range (lo := 0) (n := n.toNat) (fun j H' => ∃ acc, Gd D H2 H' ∧ Own m H' Dl acc ∧ acc.length ≤ j ∧ I n j acc) ⟨[], .new hD, .nil nD upd_same, Nat.zero_le _, h0 n z⟩ (fun j H' hj ⟨acc, g', o, hl, hI⟩ => ?_) (fun H' ⟨acc, g', o, hl, hI⟩ => ?_)
  · obtain ⟨pt, py, hT, k1, k2⟩ := hs n j H' acc z (by omega) ((e.trans e2).trans g') (c2.go g') hI
    rw [Int.zero_add]
    refine lc_turn hT (c2.go g') .refl o (by omega) (fun y ws H4 g4 z py o4 => ⟨acc ++ [y], mut_gd (g'.trans g4) c2 hD, o4, by simp; omega, k1 y z py⟩) (fun H4 g4 z => ⟨acc, g'.trans g4, o.gd (c2.go g') g4, by omega, k2 z⟩)
  · exact w acc Dl H' (e2.gr.dom Dl hD) (e2.trans g') o (hd n acc z hI)
theorem tYes_ok {σ : St} {H : Hp} : EvB D m tYes σ H true := fun H1 _ _ Q w => w true H1 .refl rfl
/-- the target a name -/
theorem lcT_name {i : Nat} {pt : Bool → Prop} {py : β → Prop} (hw : wipe ((wipe σ ws).set i (some v)) ws = wipe σ ws) (ht : EvT D m tt ((wipe σ ws).set i (some v)) H pt) (he : pt true → Ev D m te ((wipe σ ws).set i (some v)) H py) :
    LcT D m (gName i) tt te ws σ v H pt py := ⟨_, fun _ _ _ r => r, hw, ht, he⟩
/-- the target a pair of names -/
theorem lcT_pair {γ δ : Type} [Rp γ] [Rp δ] {i j : Nat} {x : γ × δ} {pt : Bool → Prop} {py : β → Prop} (r : Rp.rp m H x v)
    (k : ∀ u w, Rp.rp m H x.1 u → Rp.rp m H x.2 w → wipe (((wipe σ ws).set i (some u)).set j (some w)) ws = wipe σ ws ∧ EvT D m tt (((wipe σ ws).set i (some u)).set j (some w)) H pt ∧ (pt true → Ev D m te (((wipe σ ws).set i (some u)).set j (some w)) H py)) :
    LcT D m (gTup K 2 (gCons (gName i) (gCons (gName j) gNil))) tt te ws σ v H pt py := by
  obtain ⟨a, u, w, rfl, h, r1, r2⟩ := r
  obtain ⟨h1, h2, h3⟩ := k u w r1 r2
  exact ⟨_, fun H' R t hr => ⟨a, _, rfl, .of (t a _ h), rfl, u, _, rfl, w, _, rfl, rfl, hr⟩, h1, h2, h3⟩
/-- [f(x) for x in xs] -/
theorem el_map [Nl β] {xs : List α} (f : α → β) (h : EvV D m tl σ H xs) (hz : xs.length ≤ 90000) (hs : ∀ x v H1, x ∈ xs → Gd D H H1 → Cc D m H1 → Rp.rp m H1 x v → LcT D m g tYes te ws σ v H1 (fun b => b = true) (fun y => y = f x)) :
    EvLV D m (tLc (iList K tl) g tYes te ws) σ H (xs.map f) :=
  el_lcL (fun j acc => acc = (xs.take j).map f) h hz rfl (fun j x v H1 acc hx g' c' r hI => ⟨_, _, hs x v H1 (List.mem_of_getElem? hx) g' c' r, fun y _ e => by rw [hI, e, List.take_add_one, hx]; simp, fun z => by cases z⟩) (fun acc hI => by rw [hI, List.take_length])
/-- [f(x) for x in xs if p(x)] -/
theorem el_filterMap [Nl β] {xs : List α} (q : α → Bool) (f : α → β) (h : EvV D m tl σ H xs) (hz : xs.length ≤ 90000) (hs : ∀ x v H1, x ∈ xs → Gd D H H1 → Cc D m H1 → Rp.rp m H1 x v → LcT D m g tt te ws σ v H1 (fun b => b = q x) (fun y => y = f x)) :
    EvLV D m (tLc (iList K tl) g tt te ws) σ H ((xs.filter q).map f) :=
  el_lcL (fun j acc => acc = ((xs.take j).filter q).map f) h hz rfl (fun j x v H1 acc hx g' c' r hI => ⟨_, _, hs x v H1 (List.mem_of_getElem? hx) g' c' r, fun y z e => by rw [hI, e, List.take_add_one, hx]; simp [← z], fun z => by rw [hI, List.take_add_one, hx]; simp [← z]⟩) (fun acc hI => by rw [hI, List.take_length])
end

/-! ### arguments; what a def promises -/
class RpA (A : Type) where
  rpa : List Addr → Hp → A → List V → Prop
  go : ∀ {m m' : List Addr} {H H' : Hp} {x : A} {vs : List V}, (∀ a o, H a = some o → a ∉ m → a ∉ m' ∧ H' a = some o) → (∀ a xs, H a = some (.tup xs) → H' a = some (.tup xs)) → rpa m H x vs → rpa m' H' x vs
instance : RpA Unit := ⟨fun _ _ _ vs => vs = [], fun _ _ h => h⟩
instance {α A : Type} [Rp α] [RpA A] : RpA (α × A) := ⟨fun m H x vs => ∃ v r, vs = v :: r ∧ Rp.rp m H x.1 v ∧ RpA.rpa m H x.2 r, fun k t ⟨v, r, e, h1, h2⟩ => ⟨v, r, e, Rp.go k t h1, RpA.go k t h2⟩⟩
section
variable {α β A R : Type} [Rp α] [Rp β] [RpA A] [Rp R] {K : PySem.W.Frag} {D : Dst} {m : List Addr} {σ : St} {H H' : Hp} {te : TE} {ta tr : TA} {v : V} {vs : List V}
theorem rpa_gr {ms : List Addr} {x : A} (h : RpA.rpa m H x vs) (g : Gr ms H H') (s : ∀ a, a ∈ ms → a ∈ m) : RpA.rpa m H' x vs := RpA.go (fun a o e n => ⟨n, g.keep a o e fun z => n (s a z)⟩) (fun a xs e => g.tup a xs e) h
theorem rpa_gd {x : A} (h : RpA.rpa m H x vs) (c : Cc D m H) (g : Gd D H H') : RpA.rpa m H' x vs := rpa_gr h g.gr c.sub
/-- arguments that come to x with p x -/
def EvAr (D : Dst) (m : List Addr) (t : TA) (σ : St) (H : Hp) (p : A → Prop) : Prop :=
  ∀ H1, Gd D H H1 → Cc D m H1 → ∀ Q : List V → Hp → Prop, (∀ x vs H2, Gd D H1 H2 → RpA.rpa m H2 x vs → p x → Q vs H2) → t σ H1 Q
theorem ea_nil : EvAr D m tNil σ H (fun x : Unit => x = ()) := fun H1 _ _ Q w => w () [] H1 .refl rfl rfl
theorem ea_cons {p : α → Prop} {q : A → Prop} {r : α × A → Prop} (h : Ev D m te σ H p) (hr : EvAr D m tr σ H q) (k : ∀ x y, p x → q y → r (x, y)) : EvAr D m (tCons te tr) σ H r := fun H1 e c Q w =>
  h H1 e c _ fun x v H2 e2 rx px => hr H2 (e.trans e2) (c.go e2) _ fun y vs H3 e3 ry qy => w (x, y) (v :: vs) H3 (e2.trans e3) ⟨v, vs, rfl, rp_gd rx (c.go e2) e3, ry⟩ (k x y px qy)
theorem ea_c {x : α} {y : A} (h : EvV D m te σ H x) (hr : EvAr D m tr σ H (fun z => z = y)) : EvAr D m (tCons te tr) σ H (fun z => z = (x, y)) := ea_cons h hr fun _ _ a b => by rw [a, b]
end
/-! the errors -/
structure Er where
  (base badSieve badKey notIn stuck unlike noSieve badText : Addr)
inductive Err where
  | badSieve (why : Str)
  | badKey
  | notIn
  | stuck (cells : List Int)
  | unlike
  | noSieve (paper : List (Tri Int Int (List Int)))
  | badText (row : Int)
/-- how an error lies: its class, its dict -/
def ErrAt (T : Er) (H0 H : Hp) : Err → Value → Option Addr → Prop
  | .badSieve w, c, d => c = .ref T.badSieve ∧ ∃ a, d = some a ∧ H a = some (.xd [("why", .str w)])
  | .badKey, c, d => c = .ref T.badKey ∧ d = none
  | .notIn, c, d => c = .ref T.notIn ∧ d = none
  | .stuck l, c, d => c = .ref T.stuck ∧ ∃ a b, d = some a ∧ H a = some (.xd [("cells", .ref b)]) ∧ ∀ m, (∀ x, x ∈ m → H0 x ≠ none) → Own m H b l
  | .unlike, c, d => c = .ref T.unlike ∧ d = none
  | .noSieve p, c, d => c = .ref T.noSieve ∧ ∃ a v, d = some a ∧ H a = some (.xd [("paper", v)]) ∧ ∀ m, (∀ x, x ∈ m → H0 x ≠ none) → Rp.rp m H p v
  | .badText r, c, d => c = .ref T.badText ∧ ∃ a, d = some a ∧ H a = some (.xd [("row", .int r)])
theorem ErrAt.from {T : Er} {ms : List Addr} {H0 H1 H : Hp} {e : Err} {c : Value} {d : Option Addr} (h : ErrAt T H1 H e c d) (g : Gr ms H0 H1) : ErrAt T H0 H e c d := by
  cases e with
  | stuck l =>
    obtain ⟨h1, a, b, h2, h3, h4⟩ := h
    exact ⟨h1, a, b, h2, h3, fun m hm => h4 m fun x hx q => hm x hx (g.dom x q)⟩
  | noSieve p =>
    obtain ⟨h1, a, b, h2, h3, h4⟩ := h
    exact ⟨h1, a, b, h2, h3, fun m hm => h4 m fun x hx q => hm x hx (g.dom x q)⟩
  | badSieve w => exact h
  | badKey => exact h
  | notIn => exact h
  | unlike => exact h
  | badText r => exact h
section
variable {α β A R : Type} [Rp α] [Rp β] [RpA A] [Rp R] {K : PySem.W.Frag} {D : Dst} {m : List Addr} {σ : St} {H H' : Hp} {te : TE} {ta tr : TA} {v : V} {vs : List V} {T : Er}
/-- nothing changes; the answer is f of the arguments -/
def SpF (pre : A → Prop) (f : A → R) : Sp := fun vs H Q _ => ∃ m x, Cc none m H ∧ RpA.rpa m H x vs ∧ pre x ∧ ∀ v H', Gr [] H H' → Rp.rp m H' (f x) v → Q v H'
/-- .. a new list -/
def SpL (pre : A → Prop) (f : A → List β) : Sp := fun vs H Q _ => ∃ m x, Cc none m H ∧ RpA.rpa m H x vs ∧ pre x ∧ ∀ a H', H a = none → Gr [] H H' → Own m H' a (f x) → Q (.ref a) H'
/-- nothing changes; an answer, or an error -/
def SpX (T : Er) (pre : A → Prop) (f : A → Except Err R) : Sp := fun vs H Q E => ∃ m x, Cc none m H ∧ RpA.rpa m H x vs ∧ pre x ∧ (∀ y, f x = .ok y → ∀ v H', Gr [] H H' → Rp.rp m H' y v → Q v H') ∧
  ∀ e, f x = .error e → ∀ c d H', Gr [] H H' → ErrAt T H H' e c d → E c d H'
def SpXL (T : Er) (pre : A → Prop) (f : A → Except Err (List β)) : Sp := fun vs H Q E => ∃ m x, Cc none m H ∧ RpA.rpa m H x vs ∧ pre x ∧ (∀ y, f x = .ok y → ∀ a H', H a = none → Gr [] H H' → Own m H' a y → Q (.ref a) H') ∧
  ∀ e, f x = .error e → ∀ c d H', Gr [] H H' → ErrAt T H H' e c d → E c d H'
theorem ev_call {pre : A → Prop} {f : A → R} {E : XK} {q : A → Prop} {p : R → Prop} (h : EvAr D m ta σ H q) (hp : ∀ x, q x → pre x ∧ p (f x)) : Ev D m (tCall (SpF pre f) [] E ta) σ H p := fun H1 e c Q w =>
  h H1 e c _ fun x vs H2 e2 rx qx => ⟨m, x, (c.go e2).none, (by rw [List.append_nil]; exact rx), (hp x qx).1, fun v H' g r => w _ v H' (e2.trans (.pure g)) r (hp x qx).2⟩
theorem ev_callV {pre : A → Prop} {f : A → R} {E : XK} {x : A} (h : EvAr D m ta σ H fun y => y = x) (hp : pre x) : EvV D m (tCall (SpF pre f) [] E ta) σ H (f x) := ev_call h fun y e => by rw [e]; exact ⟨hp, rfl⟩
theorem el_call {pre : A → Prop} {f : A → List β} {E : XK} {q : A → Prop} {p : List β → Prop} (h : EvAr D m ta σ H q) (hp : ∀ x, q x → pre x ∧ p (f x)) : EvL D m (tCall (SpL pre f) [] E ta) σ H p := fun H1 e c Q w =>
  h H1 e c _ fun x vs H2 e2 rx qx => ⟨m, x, (c.go e2).none, (by rw [List.append_nil]; exact rx), (hp x qx).1, fun a H' n g r => w _ a H' (e2.gr.dom a n) (e2.trans (.pure g)) r (hp x qx).2⟩
theorem el_callV {pre : A → Prop} {f : A → List β} {E : XK} {x : A} (h : EvAr D m ta σ H fun y => y = x) (hp : pre x) : EvLV D m (tCall (SpL pre f) [] E ta) σ H (f x) := el_call h fun y e => by rw [e]; exact ⟨hp, rfl⟩
/-- te comes to what r tells, or raises it -/
def EvX (T : Er) (D : Dst) (m : List Addr) (te : TE) (σ : St) (H : Hp) (E : XK) (r : Except Err α) : Prop :=
  ∀ H1, Gd D H H1 → Cc D m H1 → ∀ Q : VK, (∀ x, r = .ok x → ∀ v H2, Gd D H1 H2 → Rp.rp m H2 x v → Q v H2) → (∀ e, r = .error e → ∀ c d H2, Gd D H1 H2 → ErrAt T H1 H2 e c d → E c d H2) → te σ H1 Q
def EvXL (T : Er) (D : Dst) (m : List Addr) (te : TE) (σ : St) (H : Hp) (E : XK) (r : Except Err (List α)) : Prop :=
  ∀ H1, Gd D H H1 → Cc D m H1 → ∀ Q : VK, (∀ x, r = .ok x → ∀ a H2, H1 a = none → Gd D H1 H2 → Own m H2 a x → Q (.ref a) H2) → (∀ e, r = .error e → ∀ c d H2, Gd D H1 H2 → ErrAt T H1 H2 e c d → E c d H2) → te σ H1 Q
theorem EvX.ok {E : XK} {r : Except Err α} {x : α} (h : EvX T D m te σ H E r) (e : r = .ok x) : EvV D m te σ H x := fun H1 g c Q w => h H1 g c Q (fun y ey v H2 g2 ry => by rw [e] at ey; cases ey; exact w x v H2 g2 ry rfl) fun y ey => by rw [e] at ey; cases ey
theorem EvXL.ok {E : XK} {r : Except Err (List α)} {x : List α} (h : EvXL T D m te σ H E r) (e : r = .ok x) : EvLV D m te σ H x := fun H1 g c Q w => h H1 g c Q (fun y ey a H2 n g2 ry => by rw [e] at ey; cases ey; exact w x a H2 n g2 ry rfl) fun y ey => by rw [e] at ey; cases ey
theorem ex_call {pre : A → Prop} {f : A → Except Err R} {E : XK} {x : A} (h : EvAr D m ta σ H fun y => y = x) (hp : pre x) : EvX T D m (tCall (SpX T pre f) [] E ta) σ H E (f x) := fun H1 e c Q w1 w2 =>
  h H1 e c _ fun y vs H2 e2 rx qx => by
    cases qx
    exact ⟨m, x, (c.go e2).none, (by rw [List.append_nil]; exact rx), hp, fun y ey v H' g r => w1 y ey v H' (e2.trans (.pure g)) r, fun y ey c d H' g r => w2 y ey c d H' (e2.trans (.pure g)) (r.from e2.gr)⟩
theorem ex_callL {pre : A → Prop} {f : A → Except Err (List β)} {E : XK} {x : A} (h : EvAr D m ta σ H fun y => y = x) (hp : pre x) : EvXL T D m (tCall (SpXL T pre f) [] E ta) σ H E (f x) := fun H1 e c Q w1 w2 =>
  h H1 e c _ fun y vs H2 e2 rx qx => by
    cases qx
    exact ⟨m, x, (c.go e2).none, (by rw [List.append_nil]; exact rx), hp, fun y ey a H' n g r => w1 y ey a H' (e2.gr.dom a n) (e2.trans (.pure g)) r, fun y ey c d H' g r => w2 y ey c d H' (e2.trans (.pure g)) (r.from e2.gr)⟩
/-- the same in a try, where what is wished hangs on the slots -/
theorem ex_callS {pre : A → Prop} {f : A → Except Err R} {E : St → XK} {x : A} (h : EvAr D m ta σ H fun y => y = x) (hp : pre x) : EvX T D m (tCallS (SpX T pre f) E ta) σ H (E σ) (f x) := fun H1 e c Q w1 w2 =>
  h H1 e c _ fun y vs H2 e2 rx qx => by
    cases qx
    exact ⟨m, x, (c.go e2).none, rx, hp, fun y ey v H' g r => w1 y ey v H' (e2.trans (.pure g)) r, fun y ey c d H' g r => w2 y ey c d H' (e2.trans (.pure g)) (r.from e2.gr)⟩
theorem ex_callLS {pre : A → Prop} {f : A → Except Err (List β)} {E : St → XK} {x : A} (h : EvAr D m ta σ H fun y => y = x) (hp : pre x) : EvXL T D m (tCallS (SpXL T pre f) E ta) σ H (E σ) (f x) := fun H1 e c Q w1 w2 =>
  h H1 e c _ fun y vs H2 e2 rx qx => by
    cases qx
    exact ⟨m, x, (c.go e2).none, rx, hp, fun y ey a H' n g r => w1 y ey a H' (e2.gr.dom a n) (e2.trans (.pure g)) r, fun y ey c d H' g r => w2 y ey c d H' (e2.trans (.pure g)) (r.from e2.gr)⟩
theorem EvXL.x {E : XK} {r : Except Err (List α)} (h : EvXL T D m te σ H E r) : EvX T D m te σ H E r := fun H1 g c Q w1 w2 => h H1 g c Q (fun x ex a H2 _ g2 o => w1 x ex _ H2 g2 o.rp) w2
variable {En : Ends} {E : XK} {i : Nat}
theorem s_dropX {r : Except Err α} (c : Cc D m H) (h : EvX T D m te σ H E r) (k1 : ∀ x, r = .ok x → ∀ H1, Gd D H H1 → En.nx σ H1) (k2 : ∀ e, r = .error e → ∀ c d H1, Gd D H H1 → ErrAt T H H1 e c d → E c d H1) : tDrop te En σ H :=
  h H .refl c _ (fun x ex v H1 g _ => k1 x ex H1 g) k2
theorem s_setX {r : Except Err α} (c : Cc D m H) (h : EvX T D m te σ H E r) (k1 : ∀ x, r = .ok x → ∀ v H1, Gd D H H1 → Rp.rp m H1 x v → En.nx (σ.set i (some v)) H1) (k2 : ∀ e, r = .error e → ∀ c d H1, Gd D H H1 → ErrAt T H H1 e c d → E c d H1) : tAsg te (gName i) En σ H :=
  h H .refl c _ (fun x ex v H1 g r => k1 x ex v H1 g r) k2
theorem s_setXL {r : Except Err (List α)} (c : Cc D m H) (h : EvXL T D m te σ H E r) (k1 : ∀ x, r = .ok x → ∀ a H1, H a = none → Gd D H H1 → Own m H1 a x → En.nx (σ.set i (some (.ref a))) H1) (k2 : ∀ e, r = .error e → ∀ c d H1, Gd D H H1 → ErrAt T H H1 e c d → E c d H1) : tAsg te (gName i) En σ H :=
  h H .refl c _ (fun x ex a H1 n g r => k1 x ex a H1 n g r) k2
theorem s_retX {r : Except Err α} (c : Cc D m H) (h : EvX T D m te σ H E r) (k1 : ∀ x, r = .ok x → ∀ v H1, Gd D H H1 → Rp.rp m H1 x v → En.rt v H1) (k2 : ∀ e, r = .error e → ∀ c d H1, Gd D H H1 → ErrAt T H H1 e c d → E c d H1) : tRet te En σ H :=
  h H .refl c _ (fun x ex v H1 g r => k1 x ex v H1 g r) k2
theorem s_retXL {r : Except Err (List α)} (c : Cc D m H) (h : EvXL T D m te σ H E r) (k1 : ∀ x, r = .ok x → ∀ a H1, H a = none → Gd D H H1 → Own m H1 a x → En.rt (.ref a) H1) (k2 : ∀ e, r = .error e → ∀ c d H1, Gd D H H1 → ErrAt T H H1 e c d → E c d H1) : tRet te En σ H :=
  h H .refl c _ (fun x ex a H1 n g r => k1 x ex a H1 n g r) k2
/-! the same, more statements behind -/
theorem q_dropX {z : TS} {r : Except Err α} (c : Cc D m H) (h : EvX T D m te σ H E r) (k1 : ∀ x, r = .ok x → ∀ H1, Gd D H H1 → z En σ H1) (k2 : ∀ e, r = .error e → ∀ c d H1, Gd D H H1 → ErrAt T H H1 e c d → E c d H1) : tSeq (tDrop te) z En σ H := s_dropX (En := { En with nx := z En }) c h k1 k2
theorem q_setX {z : TS} {r : Except Err α} (c : Cc D m H) (h : EvX T D m te σ H E r) (k1 : ∀ x, r = .ok x → ∀ v H1, Gd D H H1 → Rp.rp m H1 x v → z En (σ.set i (some v)) H1) (k2 : ∀ e, r = .error e → ∀ c d H1, Gd D H H1 → ErrAt T H H1 e c d → E c d H1) : tSeq (tAsg te (gName i)) z En σ H := s_setX (En := { En with nx := z En }) c h k1 k2
theorem q_setXL {z : TS} {r : Except Err (List α)} (c : Cc D m H) (h : EvXL T D m te σ H E r) (k1 : ∀ x, r = .ok x → ∀ a H1, H a = none → Gd D H H1 → Own m H1 a x → z En (σ.set i (some (.ref a))) H1) (k2 : ∀ e, r = .error e → ∀ c d H1, Gd D H H1 → ErrAt T H H1 e c d → E c d H1) : tSeq (tAsg te (gName i)) z En σ H := s_setXL (En := { En with nx := z En }) c h k1 k2
end
/-! in the def that may raise: what a callee raises leaves it, too -/
theorem passX {X : Cx} {E : XK} {E₁ : Value → Shared → Prop} (hs : X.stack = X.env :: X.outer) (hf : X.env.frame = some X.env.locals) (hex : X.ex = [])
    (hx : X.xe = fun e s' => wpAny (model X.prog X.w) X.A (leaving X.env e) (fun _ s'' => L2.CX X.prog X.w X.outer X.H_0 X.s_0 E e s'') E₁ s') : Passes (L2.CX X.prog X.w) X E :=
  passes_call (takes_of hs hf hex hx) fun _ _ _ _ h => h
/-- the method of an object called in a try -/
def tMethS (C : Addr) (m : Str) (sp : Sp) (E : St → XK) (ta : TE) (t : TA) : TE := fun σ H Q => ta σ H fun x H1 => ∃ a dx fs, x = .ref a ∧ H1 a = some (.ins C dx fs) ∧ fs.lookup m = none ∧
  t σ H1 fun vs H2 => sp (x :: vs) H2 Q (E σ)
theorem pe_methE {X : Cx} {CX : CXT} {k : Nat} {f C : Addr} {fd : FuncData} {ps : List Str} {sp : Sp} {E : St → XK} {m : Str} {pos apos : Pos} {e o : Expr} {es : List Expr} {ta : TE} {t : TA}
    {pl : Sem Bool} (he : PE X o ta) (c : Cls X.K C) (hm : Meth X.K C m f) (F : FnOk X.prog X.w X.K X.mg X.base CX k f fd ps sp) (hr : Room k X.A) (hb : Binds X.K fd ps []) (hx : ∀ σ, PassesAt CX X σ (E σ)) (ha : PA X (e :: es) t)
    (hst : starEach (e :: es) X.env = (false, eval e X.env) :: starEach es X.env := by rfl) (hpl : (backTo pos (starEach es X.env)).any (·.1) = false := by rfl)
    (ht : eval (.Call (.Attribute o m apos) (e :: es) [] pos) X.env = (do
      let ov ← eval o X.env
      standAt apos.atName
      let (f, first) ← holding [ov] (getMethod ov m pl)
      callWith pos f first (backTo pos (starEach (e :: es) X.env)) (backToKw pos (keywordEach [] X.env))) := by rfl) :
    PE X (.Call (.Attribute o m apos) (e :: es) [] pos) (tMethS C m sp E ta t) := by
  refine ⟨fun pins s σ H Q I h => ?_⟩
  refine PySem.W.methodCall_KW (pl := pl) (thn (he.run pins s σ H _ I h) fun u s1 ⟨x, H1, I1, rx, a, dx, fs, ex, ea, l, q⟩ => ?_) ht
  subst ex
  obtain rfl : u = Value.ref a := rx
  refine getmeth_ok I1 ea c hm l ?_
  refine PySem.W.callWith_K (first := [.ref a]) (h₀ := X.base) I.ok.mod.kin hm.kp (thn (ha.run pos pins s1 σ H1 _ I1 q) fun us s2 ⟨vs, H2, I2, r, q2⟩ => ⟨I2.kIn, ?_⟩) hst hpl
  exact run_fnS (us := .ref a :: us) (vs := .ref a :: vs) F hr hb (hx σ) I2 (.cons rfl r) q2

theorem g_name {i : Nat} {v : V} {σ : St} {H : Hp} {R : St → Hp → Prop} (h : R (σ.set i (some v)) H) : gName i v σ H R := h
/-- raw readings, more statements behind -/
theorem q_rawA {te : TE} {g : TG} {z : TS} {En : Ends} {σ : St} {H : Hp} (h : te σ H fun x H1 => g x σ H1 (z En)) : tSeq (tAsg te g) z En σ H := h
theorem q_rawD {te : TE} {z : TS} {En : Ends} {σ : St} {H : Hp} (h : te σ H fun _ H1 => z En σ H1) : tSeq (tDrop te) z En σ H := h
theorem q_rawIf {c : TT} {t u z : TS} {En : Ends} {σ : St} {H : Hp} (h : c σ H fun b H1 => if b = true then t { En with nx := z En } σ H1 else u { En with nx := z En } σ H1) : tSeq (tIfS c t u) z En σ H := h
theorem q_rawWhen {c : TT} {t z : TS} {En : Ends} {σ : St} {H : Hp} (h : c σ H fun b H1 => if b = true then t { En with nx := z En } σ H1 else z En σ H1) : tSeq (tIfS c t tNext) z En σ H := h
section
variable {D : Dst} {m : List Addr} {σ : St} {H : Hp} {tt : TT} {t z : TS} {En : Ends}
/-- an if without else -/
theorem q_when {p : Bool → Prop} (c : Cc D m H) (h : EvT D m tt σ H p) (h1 : p true → ∀ H1, Gd D H H1 → t { En with nx := z En } σ H1) (h2 : p false → ∀ H1, Gd D H H1 → z En σ H1) : tSeq (tIfS tt t tNext) z En σ H := s_if (En := { En with nx := z En }) c h h1 h2
theorem q_whenV {b : Bool} (c : Cc D m H) (h : EvB D m tt σ H b) (h1 : b = true → ∀ H1, Gd D H H1 → t { En with nx := z En } σ H1) (h2 : b = false → ∀ H1, Gd D H H1 → z En σ H1) : tSeq (tIfS tt t tNext) z En σ H := s_ifV (En := { En with nx := z En }) c h h1 h2
theorem s_when {p : Bool → Prop} (c : Cc D m H) (h : EvT D m tt σ H p) (h1 : p true → ∀ H1, Gd D H H1 → t En σ H1) (h2 : p false → ∀ H1, Gd D H H1 → En.nx σ H1) : tIfS tt t tNext En σ H := s_if c h h1 h2
theorem s_whenV {b : Bool} (c : Cc D m H) (h : EvB D m tt σ H b) (h1 : b = true → ∀ H1, Gd D H H1 → t En σ H1) (h2 : b = false → ∀ H1, Gd D H H1 → En.nx σ H1) : tIfS tt t tNext En σ H := s_ifV c h h1 h2
/-- a test that comes out false: what hangs on it is not asked -/
theorem q_skip {p : Bool → Prop} (c : Cc D m H) (h : EvT D m tt σ H p) (hf : ∀ b, p b → b = false) (h2 : ∀ H1, Gd D H H1 → z En σ H1) : tSeq (tIfS tt t tNext) z En σ H := q_when c h (fun q => by cases hf _ q) fun _ => h2
theorem s_skip {p : Bool → Prop} (c : Cc D m H) (h : EvT D m tt σ H p) (hf : ∀ b, p b → b = false) (h2 : ∀ H1, Gd D H H1 → En.nx σ H1) : tIfS tt t tNext En σ H := s_when c h (fun q => by cases hf _ q) fun _ => h2
end
/-- if t: x = e, x holding something as good already -/
theorem q_ifset {α : Type} [Rp α] {D : Dst} {m : List Addr} {σ : St} {H : Hp} {tt : TT} {te : TE} {z : TS} {En : Ends} {i : Nat} {q : Bool → Prop} {p : α → Prop} (c : Cc D m H) (h : EvT D m tt σ H q) (h1 : q true → Ev D m te σ H p) (h0 : q false → ∃ x v, σ[i]? = some (some v) ∧ Rp.rp m H x v ∧ p x)
    (k : ∀ x v H1, Gd D H H1 → Rp.rp m H1 x v → p x → z En (σ.set i (some v)) H1) : tSeq (tIfS tt (tAsg te (gName i)) tNext) z En σ H :=
  q_when c h (fun z H1 g => s_set (c.go g) ((h1 z).mono g) fun x v H2 g2 r px => k x v H2 (g.trans g2) r px) fun z H1 g => by
    obtain ⟨x, v, e, r, px⟩ := h0 z
    have q := k x v H1 g (rp_gd r c g) px
    have e2 : σ.set i (some v) = σ := by
      apply List.ext_getElem?
      intro j
      rw [List.getElem?_set]
      split
      · rename_i ej
        subst ej
        rw [e]
        have hlt := (List.getElem?_eq_some_iff.mp e).1
        simp [hlt]
      · rfl
    rw [e2] at q
    exact q
/-- try: what is wished of the body's errors hangs on what follows -/
theorem q_try {tb : WX → TS} {W : Ends → WX} {z : TS} {En : Ends} {σ : St} {H : Hp} (h : tb (W { En with nx := z En }) { En with nx := z En } σ H) : tSeq (fun D σ H => tb (W D) D σ H) z En σ H := h
/-- a statement ahead of others -/
theorem sq {t u : TS} {En : Ends} {σ : St} {H : Hp} (h : t { En with nx := u En } σ H) : tSeq t u En σ H := h
/-! ### draws -/
/-- what the law promises -/
def spLaw (K : PySem.W.Frag) : Sp := fun vs H Q _ => ∃ (a : Addr) (ns : List Int), vs = [.ref a] ∧ SqL K H a (ns.map V.int) ∧ ns.length ≤ 63 ∧ ∀ H', Q (.bl true) H'
def spMix (K : PySem.W.Frag) : Sp := fun vs H Q _ => ∃ (a : Addr) (ns : List Int) (seed : Int), vs = [.ref a, .int seed] ∧ SqL K H a (ns.map V.int) ∧ ns.length ≤ 63 ∧
  ∀ p q H', H p = none → H q = none → p ≠ q → Gr [] H H' → DrawAt p q H' → Q (.ref p) H'
/-- a draw: some number below many -/
def spNext : Sp := fun vs H Q _ => ∃ (p q : Addr) (many : Int), vs = [.ref p, .int many] ∧ DrawAt p q H ∧ 0 < many ∧ many < 1073741824 ∧ ∀ n H', 0 ≤ n → n < many → Gr [p, q] H H' → DrawAt p q H' → Q (.int n) H'
/-- drawn data: a value by the draws of p, q and further arguments; m: what else may not be touched by the answer -/
def SpD {A R : Type} [RpA A] [Rp R] (pre : A → Prop) (res : A → R → Prop) : Sp := fun vs H Q _ => ∃ (p q : Addr) (m : List Addr) (x : A) (ws : List V), vs = .ref p :: ws ∧ Cc (some (p, q)) m H ∧ RpA.rpa m H x ws ∧ pre x ∧
  ∀ y v H', Gd (some (p, q)) H H' → Rp.rp m H' y v → res x y → Q v H'
def SpDL {A β : Type} [RpA A] [Rp β] (pre : A → Prop) (res : A → List β → Prop) : Sp := fun vs H Q _ => ∃ (p q : Addr) (m : List Addr) (x : A) (ws : List V), vs = .ref p :: ws ∧ Cc (some (p, q)) m H ∧ RpA.rpa m H x ws ∧ pre x ∧
  ∀ ys a H', H a = none → Gd (some (p, q)) H H' → Own m H' a ys → res x ys → Q (.ref a) H'
section
variable {α β A R : Type} [Rp α] [Rp β] [RpA A] [Rp R] {K : PySem.W.Frag} {m : List Addr} {σ : St} {H H' : Hp} {te : TE} {ta : TA} {p q : Addr} {i : Nat} {E : XK}
theorem gd_of {H H' : Hp} (g : Gr [p, q] H H') (d : DrawAt p q H') : Gd (some (p, q)) H H' := ⟨g, fun _ => d⟩
/-- _law_next(h, many) -/
theorem ev_next {s : Int → Prop} {r : Int → Prop} (hv : σ[i]? = some (some (.ref p))) (h : Ev (some (p, q)) m te σ H s) (hb : ∀ n, s n → 0 < n ∧ n < 1073741824) (k : ∀ n j, s n → 0 ≤ j → j < n → r j) :
    Ev (some (p, q)) m (tCall spNext [] E (tCons (tVar i) (tCons te tNil))) σ H r := fun H1 e c Q w => ⟨_, hv, h H1 e c _ fun n v H2 e2 rn sn => by
  cases rp_int rn
  exact ⟨p, q, n, rfl, (c.go e2).ok, (hb n sn).1, (hb n sn).2, fun j H' h0 h1 g d => w j _ H' (e2.trans (gd_of g d)) rfl (k n j sn h0 h1)⟩⟩
/-- .. a written bound -/
theorem ev_nextC {b : Int} (hv : σ[i]? = some (some (.ref p))) (hb : 0 < b ∧ b < 1073741824) : Ev (some (p, q)) m (tCall spNext [] E (tCons (tVar i) (tCons (tC (.int b)) tNil))) σ H (fun n : Int => 0 ≤ n ∧ n < b) :=
  ev_next hv ev_c (fun n e => by rw [e]; exact hb) fun n j e h0 h1 => ⟨h0, by rw [← e]; exact h1⟩
theorem ev_drawn {pre : A → Prop} {res : A → R → Prop} {s : A → Prop} {r : R → Prop} (hv : σ[i]? = some (some (.ref p))) (h : EvAr (some (p, q)) m ta σ H s) (hp : ∀ x, s x → pre x ∧ ∀ y, res x y → r y) :
    Ev (some (p, q)) m (tCall (SpD pre res) [] E (tCons (tVar i) ta)) σ H r := fun H1 e c Q w => ⟨_, hv, h H1 e c _ fun x vs H2 e2 rx sx => ⟨p, q, m, x, vs ++ [], rfl, c.go e2, (by rw [List.append_nil]; exact rx), (hp x sx).1, fun y v H' g ry z => w y v H' (e2.trans g) ry ((hp x sx).2 y z)⟩⟩
theorem el_drawn {pre : A → Prop} {res : A → List β → Prop} {s : A → Prop} {r : List β → Prop} (hv : σ[i]? = some (some (.ref p))) (h : EvAr (some (p, q)) m ta σ H s) (hp : ∀ x, s x → pre x ∧ ∀ y, res x y → r y) :
    EvL (some (p, q)) m (tCall (SpDL pre res) [] E (tCons (tVar i) ta)) σ H r := fun H1 e c Q w => ⟨_, hv, h H1 e c _ fun x vs H2 e2 rx sx => ⟨p, q, m, x, vs ++ [], rfl, c.go e2, (by rw [List.append_nil]; exact rx), (hp x sx).1, fun y a H' n g ry z => w y a H' (e2.gr.dom a n) (e2.trans g) ry ((hp x sx).2 y z)⟩⟩
theorem Cc.draw (c : Cc (some (p, q)) m H) : DrawAt p q H := c.ok
theorem cc_draw (d : DrawAt p q H) : Cc (some (p, q)) [p, q] H := ⟨fun _ h => h, fun a h => by
  obtain ⟨_, cs, _, h1, h2, _⟩ := d
  rcases List.mem_cons.mp h with z | z
  · rw [z, h1]; simp
  · rw [List.mem_singleton.mp z, h2]; simp, d⟩
end

/-! ### rules within a comprehension: the written part by its name -/
section
variable {X : Cx} {K : PySem.W.Frag} {e : Expr} {ta : TE} {f : Str} {pos : Pos}
theorem pe_fldK (he : PE X e ta) (hb : attributeBase e f X.env (eval e X.env) = eval e X.env) (hk : X.K = K := by rfl) : PE X (.Attribute e f pos) (tFld K ta f) := hk ▸ pe_fld he hb
theorem pi_listK {tg l : Expr} {tl : TE} (hl : PE X l tl) (hk : X.K = K := by rfl) : PI X tg l (iList K tl) := hk ▸ pi_list hl
theorem pi_tupK {tg l : Expr} {tl : TE} (hl : PE X l tl) (hk : X.K = K := by rfl) : PI X tg l (iTup K tl) := hk ▸ pi_tup hl
variable {o : Expr} {es : List Expr} {to : TE} {t : TA} {name : Str} {apos cpos : Pos} {T id : String} {r : V → List V → Hp → VK → Prop}
theorem pe_bm0K (pa : PySem.PlainAttrs T) (slot : PySem.Slot T name id) (hty : typeOf (.builtin id) = pure (.type "method_descriptor")) (hm : MtR X id r) (ho : PE X o to)
    (hbase : attributeBase o name X.env (eval o X.env) = eval o X.env := by rfl) (hline : (apos.endLine == cpos.line) = true := by rfl) (hk : X.K = K := by rfl) : PE X (.Call (.Attribute o name apos) [] [] cpos) (tBM0 K T r to) := hk ▸ pe_bm0 pa slot hty hm ho hbase hline
end

/-! ### the top's facts -/
section
variable {K : PySem.W.Frag} {h : Heap} {mg : Str → Option Value} {x qual : Str} {st : Stmt} {f c : Addr} {oc kV dc pm cd ct : Value} {od an : Option Addr} {sl : Array (Option Value)}
theorem clsX (X : K.In h) (G : h.Ns mainGlobals mg) (a : PySem.W.nsIn K mainGlobals x = some (some (.ref c))) : ∃ c, PySem.W.nsIn K mainGlobals x = some (some (.ref c)) ∧ mg x = some (.ref c) := ⟨c, a, PySem.W.mg_of X G a⟩
theorem fnX (X : K.In h) (G : h.Ns mainGlobals mg) (a : PySem.W.nsIn K mainGlobals x = some (some (.ref f))) (l : K.lookup f = some ⟨oc, od, .func (PySem.W.fnOf x x (defArgs st) (defBody st) (defScope st) .none kV dc pm an cd ct), sl⟩)
    (hc : PySem.W.codeIn K cd x = true) (k : PySem.W.keepIn K (.ref f) = true) : ∃ f d, mg x = some (.ref f) ∧ Fun K x x st f d := ⟨f, _, PySem.W.mg_of X G a, fun_mk (st := st) l hc k⟩
theorem meX {C : Addr} (a : PySem.W.findIn K (.ref C) x = some (some (.ref f))) (i : PySem.W.isFn K (.ref f) = true) (l : K.lookup f = some ⟨oc, od, .func (PySem.W.fnOf x qual (defArgs st) (defBody st) (defScope st) .none kV dc pm an cd ct), sl⟩)
    (hc : PySem.W.codeIn K cd qual = true) (k : PySem.W.keepIn K (.ref f) = true) : ∃ f d, Meth K C x f ∧ Fun K x qual st f d := ⟨f, _, ⟨a, i, k⟩, fun_mk (st := st) l hc k⟩
theorem intX {i : Int} {t : Tok} (X : K.In h) (G : h.Ns mainGlobals mg) (a : PySem.W.nsIn K mainGlobals x = some (some (.int i t))) : ∃ t, mg x = some (.int i t) := ⟨t, PySem.W.mg_of X G a⟩
theorem strX {i : Str} {t : Tok} (X : K.In h) (G : h.Ns mainGlobals mg) (a : PySem.W.nsIn K mainGlobals x = some (some (.str i t))) : ∃ t, mg x = some (.str i t) := ⟨t, PySem.W.mg_of X G a⟩
end
/-- the law's one parameter is bound -/
theorem law_binds {K : PySem.W.Frag} {x qual : Str} {st : Stmt} {f : Addr} {fd : FuncData} {p : Str} (F : Fun K x qual st f fd)
    (h : ∀ (kV doc pm : Value) (an : Option Addr) (cdv ct : Value) (u : Value), bindArgs (PySem.W.fnOf x qual (defArgs st) (defBody st) (defScope st) .none kV doc pm an cdv ct) ⟨[u], []⟩ = pure [(p, u)]) (s : Shared) (u : Value) : BindsTo s fd ⟨[u], []⟩ [(p, u)] := by
  obtain ⟨oc, od, kV, doc, pm, an, cdv, ct, osl, rfl, lk, hcd⟩ := F.ex
  exact .of_eq (h kV doc pm an cdv ct u)

/-! ### data as a whole: == of any depth -/
class Dat (α : Type) [Rp α] where
  dat : α → PyData
  okd : α → Prop
  dep : Nat
  dp : ∀ {K : PySem.W.Frag} {m : List Addr} {H : Hp} {x : α} {v : V}, Rp.rp m H x v → Dp K H v (dat x)
  can : ∀ x : α, okd x → (dat x).canLay0 = true
  depth : ∀ x : α, (dat x).depth ≤ dep
  eq : ∀ x y : α, PyData.eqv (dat x) (dat y) = true ↔ x = y
instance : Dat Int := ⟨fun i => .int i, fun _ => True, 0, fun {K m H x v} r => by cases rp_int r; exact .int x, fun _ _ => by simp only [PyData.canLay0], fun _ => by simp [PyData.depth], fun x y => by simp [PyData.eqv]⟩
instance : Dat Bool := ⟨fun i => .bool i, fun _ => True, 0, fun {K m H x v} r => by cases rp_bool r; exact .bl x, fun _ _ => by simp only [PyData.canLay0], fun _ => by simp [PyData.depth], fun x y => by simp [PyData.eqv]⟩
instance : Dat Str := ⟨fun i => .str i, fun i => PyData.strOk i = true, 0, fun {K m H x v} r => by cases rp_str r; exact .str x, fun _ h => by simp only [PyData.canLay0]; exact h, fun _ => by simp [PyData.depth], fun x y => by simp [PyData.eqv]⟩
section
variable {α β γ : Type} [Rp α] [Rp β] [Rp γ] [Dat α] [Dat β] [Dat γ] {K : PySem.W.Frag} {m : List Addr} {H : Hp}
theorem dpAll_of {xs : List α} {vs : List V} (h : Paired (Rp.rp m H) xs vs) : DpAll K H vs (xs.map Dat.dat) := by
  induction h with
  | nil => exact .nil
  | cons r _ ih => exact .cons (Dat.dp r) ih
theorem canAll {xs : List α} (h : ∀ x, x ∈ xs → Dat.okd x) : PyData.canLayAll0 (xs.map Dat.dat) = true := by
  induction xs with
  | nil => simp [PyData.canLayAll0]
  | cons x xs ih =>
    rw [List.map_cons, PyData.canLayAll0, Dat.can x (h x (by simp)), ih fun y hy => h y (by simp [hy])]
    rfl
theorem depAll (xs : List α) : PyData.depthAll (xs.map Dat.dat) ≤ Dat.dep α := by
  induction xs with
  | nil => simp [PyData.depthAll]
  | cons x xs ih =>
    rw [List.map_cons, PyData.depthAll]
    exact Nat.max_le.mpr ⟨Dat.depth x, ih⟩
theorem eqAll : ∀ xs ys : List α, PyData.eqvAll (xs.map Dat.dat) (ys.map Dat.dat) = true ↔ xs = ys
  | [], [] => by simp [PyData.eqvAll]
  | [], y :: ys => by simp [PyData.eqvAll]
  | x :: xs, [] => by simp [PyData.eqvAll]
  | x :: xs, y :: ys => by rw [List.map_cons, List.map_cons, PyData.eqvAll, Bool.and_eq_true, Dat.eq, eqAll xs ys]; simp
instance : Dat (List α) := ⟨fun xs => .list (xs.map Dat.dat), fun xs => ∀ x, x ∈ xs → Dat.okd x, Dat.dep α + 1, fun ⟨a, vs, e, n, h, ps⟩ => by rw [e]; exact .lst (.of h) (dpAll_of ps), fun xs h => by rw [PyData.canLay0]; exact canAll h, fun xs => by
  rw [PyData.depth]; have := depAll xs; omega, fun xs ys => by rw [PyData.eqv]; exact eqAll xs ys⟩
instance : Dat (Tp α) := ⟨fun xs => .tuple (xs.l.map Dat.dat), fun xs => ∀ x, x ∈ xs.l → Dat.okd x, Dat.dep α + 1, fun ⟨a, vs, e, h, ps⟩ => by rw [e]; exact .tup (.of h) (dpAll_of ps), fun xs h => by rw [PyData.canLay0]; exact canAll h, fun xs => by
  rw [PyData.depth]; have := depAll xs.l; omega, fun xs ys => by rw [PyData.eqv, eqAll xs.l ys.l]; cases xs; cases ys; simp⟩
instance : Dat (α × β) := ⟨fun x => .tuple [Dat.dat x.1, Dat.dat x.2], fun x => Dat.okd x.1 ∧ Dat.okd x.2, max (Dat.dep α) (Dat.dep β) + 1, fun ⟨a, u, w, e, h, r1, r2⟩ => by rw [e]; exact .tup (.of h) (.cons (Dat.dp r1) (.cons (Dat.dp r2) .nil)), fun x h => by
  rw [PyData.canLay0, PyData.canLayAll0, PyData.canLayAll0, PyData.canLayAll0, Dat.can _ h.1, Dat.can _ h.2]; rfl, fun x => by
  rw [PyData.depth, PyData.depthAll, PyData.depthAll, PyData.depthAll]; have h1 := Dat.depth x.1; have h2 := Dat.depth x.2; omega, fun x y => by
  rw [PyData.eqv, PyData.eqvAll, PyData.eqvAll, PyData.eqvAll, Bool.and_true, Bool.and_eq_true, Dat.eq, Dat.eq]; cases x; cases y; simp⟩
instance : Dat (Tri α β γ) := ⟨fun x => .tuple [Dat.dat x.a, Dat.dat x.b, Dat.dat x.c], fun x => Dat.okd x.a ∧ Dat.okd x.b ∧ Dat.okd x.c, max (Dat.dep α) (max (Dat.dep β) (Dat.dep γ)) + 1, fun ⟨a, u, w, z, e, h, r1, r2, r3⟩ => by rw [e]; exact .tup (.of h) (.cons (Dat.dp r1) (.cons (Dat.dp r2) (.cons (Dat.dp r3) .nil))), fun x h => by
  rw [PyData.canLay0, PyData.canLayAll0, PyData.canLayAll0, PyData.canLayAll0, PyData.canLayAll0, Dat.can _ h.1, Dat.can _ h.2.1, Dat.can _ h.2.2]; rfl, fun x => by
  rw [PyData.depth, PyData.depthAll, PyData.depthAll, PyData.depthAll, PyData.depthAll]; have h1 := Dat.depth x.a; have h2 := Dat.depth x.b; have h3 := Dat.depth x.c; omega, fun x y => by
  rw [PyData.eqv, PyData.eqvAll, PyData.eqvAll, PyData.eqvAll, PyData.eqvAll, Bool.and_true, Bool.and_eq_true, Bool.and_eq_true, Dat.eq, Dat.eq, Dat.eq]; cases x; cases y; simp⟩
theorem eqv_dec [DecidableEq α] (x y : α) : PyData.eqv (Dat.dat x) (Dat.dat y) = decide (x = y) := by
  by_cases h : x = y
  · rw [decide_eq_true h]; exact (Dat.eq x y).mpr h
  · rw [decide_eq_false h]; exact Bool.eq_false_iff.mpr fun z => h ((Dat.eq x y).mp z)
theorem shaped_of {x : α} (h : Dat.okd x) (hd : Dat.dep α ≤ 64) : SeqAt.shaped (Dat.dat x) = true := Bool.and_eq_true_iff.mpr ⟨Dat.can x h, decide_eq_true (Nat.le_trans (Dat.depth x) hd)⟩
variable {D : Dst} {σ : St} {ta tb : TE}
theorem ev_eqD [DecidableEq α] {p q : α → Prop} {r : Bool → Prop} (ha : Ev D m ta σ H p) (hb : Ev D m tb σ H q) (ok : ∀ x y, p x → q y → Dat.okd x ∧ Dat.okd y) (k : ∀ x y, p x → q y → r (decide (x = y))) (hd : Dat.dep α ≤ 64 := by decide) : Ev D m (tOp (rEqD K) ta tb) σ H r := fun H1 e c Q w =>
  ha H1 e c _ fun x v H2 e2 rx px => hb H2 (e.trans e2) (c.go e2) _ fun y u H3 e3 ry qy => ⟨_, _, Dat.dp (rp_gd rx (c.go e2) e3), Dat.dp ry, shaped_of (ok x y px qy).1 hd, shaped_of (ok x y px qy).2 hd, w _ _ H3 (e2.trans e3) (show V.bl _ = V.bl _ by rw [eqv_dec]) (k x y px qy)⟩
theorem ev_neD [DecidableEq α] {p q : α → Prop} {r : Bool → Prop} (ha : Ev D m ta σ H p) (hb : Ev D m tb σ H q) (ok : ∀ x y, p x → q y → Dat.okd x ∧ Dat.okd y) (k : ∀ x y, p x → q y → r (!decide (x = y))) (hd : Dat.dep α ≤ 64 := by decide) : Ev D m (tOp (rNeD K) ta tb) σ H r := fun H1 e c Q w =>
  ha H1 e c _ fun x v H2 e2 rx px => hb H2 (e.trans e2) (c.go e2) _ fun y u H3 e3 ry qy => ⟨_, _, Dat.dp (rp_gd rx (c.go e2) e3), Dat.dp ry, shaped_of (ok x y px qy).1 hd, shaped_of (ok x y px qy).2 hd, w _ _ H3 (e2.trans e3) (show V.bl _ = V.bl _ by rw [eqv_dec]) (k x y px qy)⟩
theorem ev_eqDV [DecidableEq α] {x y : α} (ha : EvV D m ta σ H x) (hb : EvV D m tb σ H y) (o1 : Dat.okd x) (o2 : Dat.okd y) (hd : Dat.dep α ≤ 64 := by decide) : EvV D m (tOp (rEqD K) ta tb) σ H (decide (x = y)) :=
  ev_eqD ha hb (fun _ _ a b => by rw [a, b]; exact ⟨o1, o2⟩) (fun _ _ a b => by rw [a, b]) hd
theorem ev_neDV [DecidableEq α] {x y : α} (ha : EvV D m ta σ H x) (hb : EvV D m tb σ H y) (o1 : Dat.okd x) (o2 : Dat.okd y) (hd : Dat.dep α ≤ 64 := by decide) : EvV D m (tOp (rNeD K) ta tb) σ H (!decide (x = y)) :=
  ev_neD ha hb (fun _ _ a b => by rw [a, b]; exact ⟨o1, o2⟩) (fun _ _ a b => by rw [a, b]) hd
end
theorem ok_ints (xs : List Int) : Dat.okd xs := fun _ _ => trivial
theorem ok_hands (xs : List (Int × Int)) : Dat.okd xs := fun _ _ => ⟨trivial, trivial⟩
/-- [] as any list -/
theorem el_nil {α : Type} [Rp α] {D : Dst} {m : List Addr} {σ : St} {H : Hp} : EvLV D m (tLst tNil) σ H ([] : List α) := el_lst ei_nil fun xs e => by rw [e]; simp

/-! ### isinstance -/
section
variable {D : Dst} {m : List Addr} {σ : St} {H : Hp} {ta : TE} {K : PySem.W.Frag} {n : String} {b : Bool}
theorem ev_isT {α : Type} [Rp α] {t : String} {p : α → Prop} (ha : Ev D m ta σ H p) (ty : ∀ x v H', Rp.rp m H' x v → p x → TyX K H' v (.type t)) (h : kitB t n = some b) : EvV D m (tCB (rIsi K) (tCons ta (tCons (tC (.ty n)) tNil))) σ H b := fun H1 e c Q w =>
  ha H1 e c _ fun x v H2 e2 r px => ⟨v, _, _, _, b, rfl, .ty n, ty x v H2 r px, kit_ty h, w b _ H2 e2 rfl rfl⟩
theorem ty_list {α : Type} [Rp α] {m : List Addr} {H : Hp} {x : List α} {v : V} (r : Rp.rp m H x v) : TyX K H v (.type "list") := by
  obtain ⟨a, vs, rfl, n, h, _⟩ := r
  exact .base (.lst h)
theorem ty_int {m : List Addr} {H : Hp} {x : Int} {v : V} (r : Rp.rp m H x v) : TyX K H v (.type "int") := by cases rp_int r; exact .base (.int x)
theorem ty_bool {m : List Addr} {H : Hp} {x : Bool} {v : V} (r : Rp.rp m H x v) : TyX K H v (.type "bool") := by cases rp_bool r; exact .base (.bl x)
theorem ty_str {m : List Addr} {H : Hp} {x : Str} {v : V} (r : Rp.rp m H x v) : TyX K H v (.type "str") := by cases rp_str r; exact .base (.str x)
theorem ty_tp {α : Type} [Rp α] {m : List Addr} {H : Hp} {x : Tp α} {v : V} (r : Rp.rp m H x v) : TyX K H v (.type "tuple") := by
  obtain ⟨a, vs, rfl, h, _⟩ := r
  exact .base (.tup h)
theorem ty_pair {α β : Type} [Rp α] [Rp β] {m : List Addr} {H : Hp} {x : α × β} {v : V} (r : Rp.rp m H x v) : TyX K H v (.type "tuple") := by
  obtain ⟨a, u, w, rfl, h, _⟩ := r
  exact .base (.tup h)
theorem ev_isL {α : Type} [Rp α] {x : List α} (ha : EvV D m ta σ H x) (h : kitB "list" n = some b := by decide +kernel) : EvV D m (tCB (rIsi K) (tCons ta (tCons (tC (.ty n)) tNil))) σ H b := ev_isT ha (fun _ _ _ r _ => ty_list r) h
theorem ev_isI {p : Int → Prop} (ha : Ev D m ta σ H p) (h : kitB "int" n = some b := by decide +kernel) : EvV D m (tCB (rIsi K) (tCons ta (tCons (tC (.ty n)) tNil))) σ H b := ev_isT ha (fun _ _ _ r _ => ty_int r) h
theorem ev_isB {p : Bool → Prop} (ha : Ev D m ta σ H p) (h : kitB "bool" n = some b := by decide +kernel) : EvV D m (tCB (rIsi K) (tCons ta (tCons (tC (.ty n)) tNil))) σ H b := ev_isT ha (fun _ _ _ r _ => ty_bool r) h
end

/-- xs + ys -/
theorem el_catP {α : Type} [Rp α] {D : Dst} {m : List Addr} {σ : St} {H : Hp} {ta tb : TE} {p q r : List α → Prop} (ha : Ev D m ta σ H p) (hb : Ev D m tb σ H q) (hl : ∀ xs ys, p xs → q ys → xs.length ≤ 100000 ∧ ys.length ≤ 100000) (k : ∀ xs ys, p xs → q ys → r (xs ++ ys)) : EvL D m (tOp rCat ta tb) σ H r :=
  rCat_ok (fun a b us ws H Q h1 h2 l1 l2 k => ⟨a, b, us, ws, rfl, rfl, h1, h2, Nat.le_trans (Nat.add_le_add l1 l2) (by decide), k⟩) ha hb hl k
theorem el_catV {α : Type} [Rp α] {D : Dst} {m : List Addr} {σ : St} {H : Hp} {ta tb : TE} {xs ys : List α} (ha : EvV D m ta σ H xs) (hb : EvV D m tb σ H ys) (hl : xs.length ≤ 100000 ∧ ys.length ≤ 100000) : EvLV D m (tOp rCat ta tb) σ H (xs ++ ys) :=
  el_catP ha hb (fun _ _ a b => by rw [a, b]; exact hl) fun _ _ a b => by rw [a, b]

/-! ### isinstance of a caught error -/
/-- the dict of a caught error is told by H -/
def DcOk (H : Hp) : Option Addr → Prop
  | none => True
  | some d => ∃ fs, H d = some (.xd fs)
def rIsX (K : PySem.W.Frag) (cls : Value) (d : Option Addr) (a : Addr) : List V → Hp → VK → Prop := fun xs H Q => ∃ (D : Addr) (c : V) (cv : Value) (b : Bool), cls = .ref D ∧ ExcC K D ∧ DcOk H d ∧ xs = [.ref a, c] ∧ ClsV c cv ∧ PySem.W.kitOne K (.ref D) cv = some b ∧ Q (.bl b) H
def rIsXT (K : PySem.W.Frag) (cls : Value) (d : Option Addr) (a : Addr) : List V → Hp → VK → Prop := fun xs H Q => ∃ (D tp : Addr) (cs : List V) (us : List Value) (b : Bool), cls = .ref D ∧ ExcC K D ∧ DcOk H d ∧ xs = [.ref a, .ref tp] ∧ H tp = some (.tup cs) ∧ Paired ClsV cs us ∧ PySem.W.kitAny K (.ref D) us = some b ∧ Q (.bl b) H
section
variable {X : Cx} {a : Addr} {oe : Obj} {cls : Value} {d : Option Addr} {pn : List (Addr × Obj)}
theorem exc_at {pins : List (Addr × Obj)} {σ : St} {H : Hp} {s : Shared} (hz : Zc cls d oe) (hf : ∃ vs, oe.data = .fields vs) (I : Inv (X.suite a ((a, oe) :: pn)) pins σ H s) {D : Addr} (e : cls = .ref D) (hd : DcOk H d) :
    ∃ od, PySem.W.InstAt s.heap a oe D od := by
  obtain ⟨ha, _⟩ := I.pin (a, oe) (List.mem_append_left _ List.mem_cons_self)
  obtain ⟨vs, hv⟩ := hf
  subst e
  cases d with
  | none => exact ⟨none, ha, hz.1, by unfold PySem.W.notCls; rw [hv] <;> rfl, by rw [hz.2]; trivial⟩
  | some dd =>
    obtain ⟨fs, h⟩ := hd
    have hx : ObjOk X.prog X.w H s.heap dd (.xd fs) := I.hok dd _ h
    obtain ⟨mA, hns, hr⟩ := hx
    obtain ⟨od, ho, hl⟩ := lookIn_ns hns
    exact ⟨some od, ha, hz.1, by unfold PySem.W.notCls; rw [hv] <;> rfl, by rw [hz.2]; exact ho⟩
theorem kitX_of {D : Addr} {K : PySem.W.Frag} {od : Option Obj} (C : ExcC K D) : PySem.W.KitX K (.ref a) (.ref D) (fun h => PySem.W.InstAt h a oe D od) :=
  PySem.W.kitx_exc (by obtain ⟨cd, hc, _⟩ := PySem.W.any_some C.hd; rw [hc]; rfl) C.hg C.hk C.hs C.ha C.hn C.ht C.hm
theorem call_isX (hz : Zc cls d oe) (hf : ∃ vs, oe.data = .fields vs) : CallR (X.suite a ((a, oe) :: pn)) (.builtin "isinstance") (rIsX X.K cls d a) := by
  intro pins s σ H xs us Q I r h
  obtain ⟨D, c, cv, b, ec, C, hd, rfl, hcv, e, q⟩ := h
  obtain ⟨u1, u2, rfl, r1, r2⟩ := vals2 r
  cases (show u1 = Value.ref a from r1)
  cases hcv.eq r2
  obtain ⟨od, J⟩ := exc_at hz hf I ec hd
  exact PySem.W.kia_one (kitX_of C) I.kIn J e (fun z => nomatch z) fun tk => ⟨.bl b, H, I.kept (t' := tk) fun _ _ z => z, rfl, q⟩
theorem call_isXT (hz : Zc cls d oe) (hf : ∃ vs, oe.data = .fields vs) : CallR (X.suite a ((a, oe) :: pn)) (.builtin "isinstance") (rIsXT X.K cls d a) := by
  intro pins s σ H xs us Q I r h
  obtain ⟨D, tp, cs, ws, b, ec, C, hd, rfl, hT, k, e, q⟩ := h
  obtain ⟨u1, u2, rfl, r1, r2⟩ := vals2 r
  cases (show u1 = Value.ref a from r1)
  cases (show u2 = Value.ref tp from r2)
  obtain ⟨od, J⟩ := exc_at hz hf I ec hd
  obtain ⟨_, its, rv, o, h1, h2, n, h3⟩ := (show ObjOk X.prog X.w H s.heap tp (.tup cs) from I.hok tp _ hT)
  have e3 := ClsV.all k rv
  subst e3
  obtain ⟨oc, od', dt, sl⟩ := o
  simp only at h2 h3
  subst h2 h3
  exact PySem.W.kia_tup (kitX_of C) I.kIn J h1 e (fun z => nomatch z) fun tk => ⟨.bl b, H, I.kept (t' := tk) fun _ _ z => z, rfl, q⟩
end
section
variable {D : Dst} {m : List Addr} {σ : St} {H : Hp} {K : PySem.W.Frag} {cls : Value} {d : Option Addr} {a C : Addr} {i : Nat} {b : Bool}
/-- isinstance(e, c) in the suite -/
theorem ev_isX {c : V} {cv : Value} (hv : σ[i]? = some (some (.ref a))) (ec : cls = .ref C) (X : ExcC K C) (hd : DcOk H d) (nd : ∀ x, d = some x → x ∉ D.m) (hc : ClsV c cv) (e : PySem.W.kitOne K (.ref C) cv = some b) : EvV D m (tCB (rIsX K cls d a) (tCons (tVar i) (tCons (tC c) tNil))) σ H b := fun H1 g cc Q w =>
  ⟨_, hv, C, c, cv, b, ec, X, (by
    cases d with
    | none => trivial
    | some x => obtain ⟨fs, h⟩ := hd; exact ⟨fs, g.gr.keep x _ h (nd x rfl)⟩), rfl, hc, e, w b _ H1 .refl rfl rfl⟩
theorem ev_isXT {cs : List V} {us : List Value} {ta : TA} (hta : ∀ (H : Hp) (Q : List V → Hp → Prop), Q cs H → ta σ H Q) (hv : σ[i]? = some (some (.ref a))) (ec : cls = .ref C) (X : ExcC K C) (hd : DcOk H d) (nd : ∀ x, d = some x → x ∉ D.m) (hl : cs.length ≤ 100) (hc : Paired ClsV cs us) (e : PySem.W.kitAny K (.ref C) us = some b) :
    EvV D m (tCB (rIsXT K cls d a) (tCons (tVar i) (tCons (tTup ta) tNil))) σ H b := fun H1 g cc Q w =>
  ⟨_, hv, hta H1 _ ⟨Evl.sz_of (Nat.le_trans hl (by decide)), fun tp hp => ⟨C, tp, cs, us, b, ec, X, (by
    cases d with
    | none => trivial
    | some x => obtain ⟨fs, h⟩ := hd; exact ⟨fs, (Gr.new (m := []) hp).at0 (g.gr.keep x _ h (nd x rfl))⟩), rfl, upd_same, hc, e, w b _ _ (.new hp) rfl rfl⟩⟩⟩
theorem kany_f {t c : Value} {cs : List Value} (h : PySem.W.kitOne K t c = some false) (r : PySem.W.kitAny K t cs = some b) : PySem.W.kitAny K t (c :: cs) = some b := kitAny_cons h (fun _ => r) fun z => by cases z
theorem kany_t {t c : Value} {cs : List Value} (h : PySem.W.kitOne K t c = some true) : PySem.W.kitAny K t (c :: cs) = some true := kitAny_cons h (fun z => by cases z) fun _ => rfl
end

section
variable {X : Cx} {K : PySem.W.Frag} {o e : Expr} {es : List Expr} {to : TE} {t : TA} {name : Str} {apos cpos : Pos} {T id : String} {r : V → List V → Hp → VK → Prop}
theorem pe_bmK (pa : PySem.PlainAttrs T) (slot : PySem.Slot T name id) (hty : typeOf (.builtin id) = pure (.type "method_descriptor")) (hm : MtR X id r) (ho : PE X o to) (ha : PA X (e :: es) t)
    (hbase : attributeBase o name X.env (eval o X.env) = eval o X.env := by rfl)
    (hfew : ((backTo cpos (starEach (e :: es) X.env)).all (fun x => !x.1) && (backToKw cpos (keywordEach [] X.env)).all (fun x => x.1.isSome)
      && decide ((e :: es).length + ([] : List Keyword).length + (if ([] : List Keyword).isEmpty then 0 else 1) < 30)) = true := by rfl)
    (hline : (apos.endLine == cpos.line) = true := by rfl) (hs : starEach (e :: es) X.env = (false, eval e X.env) :: starEach es X.env := by rfl) (hplain : (backTo cpos (starEach es X.env)).any (·.1) = false := by rfl) (hk : X.K = K := by rfl) :
    PE X (.Call (.Attribute o name apos) (e :: es) [] cpos) (tBM K T r to t) := hk ▸ pe_bm pa slot hty hm ho ha hbase hfew hline hs hplain
end

/-! ### more rules -/
section
variable {α β : Type} [Rp α] [Rp β] {K : PySem.W.Frag} {D : Dst} {m m' : List Addr} {σ : St} {H H' : Hp} {ta tb te : TE} {tt : TT} {v : V} {En : Ends} {i : Nat} {t u z : TS} {a p : Addr}
/-- an if whose both ways come to what is asked ahead of what follows -/
theorem q_ifJ {pb : Bool → Prop} (J : St → Hp → Prop) (c : Cc D m H) (h : EvT D m tt σ H pb) (hz : ∀ σ1 H1, J σ1 H1 → z En σ1 H1) (h1 : (∀ σ1 H1, J σ1 H1 → z En σ1 H1) → pb true → ∀ H1, Gd D H H1 → t { En with nx := z En } σ H1) (h2 : (∀ σ1 H1, J σ1 H1 → z En σ1 H1) → pb false → ∀ H1, Gd D H H1 → u { En with nx := z En } σ H1) :
    tSeq (tIfS tt t u) z En σ H := q_if c h (h1 hz) (h2 hz)
theorem Own.more [Nl α] {xs : List α} (o : Own m H a xs) (hp : H p = none) : Own (p :: m) H a xs := by
  obtain ⟨n, vs, h, q⟩ := o
  refine ⟨?_, vs, h, paired_go q fun _ _ r => rp_nl r fun _ _ e => e⟩
  intro z
  rcases List.mem_cons.mp z with z | z
  · rw [z, hp] at h; cases h
  · exact n z
theorem Own.less [Nl α] {xs : List α} (o : Own m H a xs) (h : ∀ x, x ∈ m' → x ∈ m) : Own m' H a xs := by
  obtain ⟨n, vs, e, q⟩ := o
  exact ⟨fun z => n (h a z), vs, e, paired_go q fun _ _ r => rp_nl r fun _ _ e => e⟩
theorem Own.ne_new {xs : List α} (o : Own m H a xs) (hp : H p = none) : a ≠ p := by
  obtain ⟨vs, h, _⟩ := o.ex
  exact ne_of_none h hp
theorem Cc.goM (c : Cc D m H) (g : Gr m H H') (ok : D.ok H') : Cc D m H' := ⟨c.sub, fun a h z => c.dm a h (g.dom a z), ok⟩
/-- a list that is new stands apart from all that was there -/
theorem Own.mem_more [Nl α] {xs : List α} (o : Own m H' a xs) (hp : H a = none) (h : ∀ b, b ∈ m' → H b ≠ none) : Own m' H' a xs := by
  obtain ⟨n, vs, e, q⟩ := o
  exact ⟨fun z => h a z hp, vs, e, paired_go q fun _ _ r => rp_nl r fun _ _ e => e⟩
/-- x is not True -/
theorem ev_notB {x y : Bool} (ha : EvV D m ta σ H x) (hb : EvV D m tb σ H y) : EvV D m (tOp rNotB ta tb) σ H (!decide (x = y)) := fun H1 e c Q w =>
  ha H1 e c _ fun x' v H2 e2 ri pi => hb H2 (e.trans e2) (c.go e2) _ fun y' u H3 e3 rj qj => by
    subst pi qj
    cases rp_bool ri
    cases rp_bool rj
    exact ⟨x', y', rfl, rfl, w _ _ H3 (e2.trans e3) rfl rfl⟩
theorem ev_isB' {x y : Bool} (ha : EvV D m ta σ H x) (hb : EvV D m tb σ H y) : EvV D m (tOp rIsB ta tb) σ H (decide (x = y)) := fun H1 e c Q w =>
  ha H1 e c _ fun x' v H2 e2 ri pi => hb H2 (e.trans e2) (c.go e2) _ fun y' u H3 e3 rj qj => by
    subst pi qj
    cases rp_bool ri
    cases rp_bool rj
    exact ⟨x', y', rfl, rfl, w _ _ H3 (e2.trans e3) rfl rfl⟩
/-- x is None, is not None -/
theorem ev_isN (hv : σ[i]? = some (some v)) : EvV D m (tOp (fun x y H Q => y = .non ∧ Q (.bl (decide (x = .non))) H) (tVar i) (tC .non)) σ H (decide (v = .non)) := fun H1 e c Q w => ⟨_, hv, rfl, w _ _ H1 .refl rfl rfl⟩
theorem ev_notN (hv : σ[i]? = some (some v)) : EvV D m (tOp (fun x y H Q => y = .non ∧ Q (.bl (!decide (x = .non))) H) (tVar i) (tC .non)) σ H (!decide (v = .non)) := fun H1 e c Q w => ⟨_, hv, rfl, w _ _ H1 .refl rfl rfl⟩
theorem ev_isN0 (hv : σ[i]? = some (some .non)) : EvV D m (tOp (fun x y H Q => y = .non ∧ Q (.bl (decide (x = .non))) H) (tVar i) (tC .non)) σ H true := (ev_isN hv).imp fun b e => by rw [e]; rfl
theorem ev_isN1 (hv : σ[i]? = some (some (.ref a))) : EvV D m (tOp (fun x y H Q => y = .non ∧ Q (.bl (decide (x = .non))) H) (tVar i) (tC .non)) σ H false := (ev_isN hv).imp fun b e => by rw [e]; rfl
theorem ev_notN0 (hv : σ[i]? = some (some .non)) : EvV D m (tOp (fun x y H Q => y = .non ∧ Q (.bl (!decide (x = .non))) H) (tVar i) (tC .non)) σ H false := (ev_notN hv).imp fun b e => by rw [e]; rfl
theorem ev_notN1 (hv : σ[i]? = some (some (.ref a))) : EvV D m (tOp (fun x y H Q => y = .non ∧ Q (.bl (!decide (x = .non))) H) (tVar i) (tC .non)) σ H true := (ev_notN hv).imp fun b e => by rw [e]; rfl
/-- None == [..] -/
theorem ev_eqNL [Dat α] {xs : List α} (hv : σ[i]? = some (some .non)) (hb : EvV D m tb σ H xs) (ok : Dat.okd xs) (hd : Dat.dep (List α) ≤ 64 := by decide) : EvV D m (tOp (rEqD K) (tVar i) tb) σ H false := fun H1 e c Q w => ⟨_, hv, hb H1 e c _ fun xs' u H2 e2 r q => by
  subst q
  exact ⟨.none, _, .non, Dat.dp r, rfl, shaped_of ok hd, w false _ H2 e2 rfl rfl⟩⟩
/-- e.append(x), e a new list -/
theorem s_appL [Nl α] {xs : List α} {x : α} (c : Cc D m H) (h : EvLV D m te σ H xs) (hb : EvV D m tb σ H x) (hz : xs.length < 100000) (k : ∀ H2, Gd D H H2 → En.nx σ H2) : tDrop (tBM K "list" rAppend te (tCons tb tNil)) En σ H := h H .refl c _ fun ys a H1 n g o e => by
  subst e
  obtain ⟨_, vs, ha, ps⟩ := id o
  refine ⟨.inl ⟨rfl, _, .inl (.inl ha)⟩, hb H1 g (c.go g) _ fun x v H2 g2 r z => ?_⟩
  have h2 : H2 a = some (.lst vs) := g2.gr.keep a _ ha fun q => o.1 (c.sub a q)
  exact ⟨a, vs, v, rfl, rfl, h2, by rw [← ps.length]; exact Evl.sz_lt hz, k _ (mut_gd (g.trans g2) c n)⟩
theorem q_appL [Nl α] {xs : List α} {x : α} (c : Cc D m H) (h : EvLV D m te σ H xs) (hb : EvV D m tb σ H x) (hz : xs.length < 100000) (k : ∀ H2, Gd D H H2 → z En σ H2) : tSeq (tDrop (tBM K "list" rAppend te (tCons tb tNil))) z En σ H := s_appL (En := { En with nx := z En }) c h hb hz k
/-- xs.clear() -/
theorem q_clear {xs : List α} (o : Own m H a xs) (hv : σ[i]? = some (some (.ref a))) (k : z En σ (upd H a (.lst []))) : tSeq (tDrop (tBM0 K "list" rClear (tVar i))) z En σ H := by
  obtain ⟨n, vs, ha, ps⟩ := o
  exact ⟨_, hv, .inl ⟨rfl, _, .inl (.inl ha)⟩, a, vs, rfl, rfl, ha, k⟩
theorem first_at {l : List Int} {k : Int} (h : k ∈ l) : ∃ n, l[n]? = some k ∧ ∀ m : Nat, m < n → l[m]? ≠ some k := by
  induction l with
  | nil => simp at h
  | cons a r ih =>
    by_cases e : a = k
    · exact ⟨0, by simp [e], fun m h => by omega⟩
    · have hr : k ∈ r := by
        rcases List.mem_cons.mp h with z | z
        · exact absurd z.symm e
        · exact z
      obtain ⟨n, h1, h2⟩ := ih hr
      refine ⟨n + 1, by simpa using h1, fun m hm => ?_⟩
      cases m with
      | zero => simpa using e
      | succ m => simpa using h2 m (by omega)
end
/-! ### [a, b, ..][i], each item well -/
section
variable {K : PySem.W.Frag} {D : Dst} {m : List Addr} {σ : St} {H : Hp} {ta te : TE} {ti tr : TA} {P : Int → Prop} {n : Nat}
def AllN (n : Nat) (P : Int → Prop) (xs : List Int) : Prop := xs.length = n ∧ ∀ x, x ∈ xs → P x
theorem ei_all0 : EvI D m tNil σ H (AllN 0 P) := fun H1 _ _ Q w => w [] [] H1 .refl .nil ⟨rfl, by simp⟩
theorem ei_allS (h : Ev D m ta σ H P) (hr : EvI D m tr σ H (AllN n P)) : EvI D m (tCons ta tr) σ H (AllN (n + 1) P) := ei_cons h hr fun x xs hx hxs => ⟨by rw [List.length_cons, hxs.1], fun y hy => by
  rcases List.mem_cons.mp hy with z | z
  · rw [z]; exact hx
  · exact hxs.2 y z⟩
theorem ev_pick {q : Int → Prop} (h : EvI D m ti σ H (AllN n P)) (hi : Ev D m te σ H q) (hq : ∀ i, q i → 0 ≤ i ∧ i < (n : Int)) (hn : n ≤ 1000 := by decide) : Ev D m (tOp (rIxL K) (tLst ti) te) σ H P :=
  ev_ixL' (EvL.ev (el_lst h fun xs e => by rw [e.1]; omega)) hi fun xs i hxs hi' => by
    obtain ⟨b0, b1⟩ := hq i hi'
    have hlt : i.toNat < xs.length := by rw [hxs.1]; omega
    have e := atI_nat (List.getElem?_eq_getElem hlt)
    rw [show ((i.toNat : Nat) : Int) = i by omega] at e
    exact ⟨_, e, hxs.2 _ (List.getElem_mem hlt)⟩
theorem ev_cP {i : Int} (h : P i) : Ev D m (tC (.int i)) σ H P := ev_c.imp fun j e => by rw [e]; exact h
end
end KS
set_option Elab.async false
set_option linter.all false
set_option maxRecDepth 100000
set_option maxHeartbeats 4000000
namespace KS
open PySem L2
/-! ### errors with a field of their own -/
/-- what an own error's __init__ does: self.f = v -/
def spErrI (C : Addr) (f : Str) : Sp := fun vs H Q _ => ∃ (a : Addr) (v : V), vs = [.ref a, v] ∧ H a = some (exo a C none) ∧ ∀ dx, H dx = none → dx ≠ a → Q .non (upd (upd H dx (exd dx [(f, v)])) a (exo a C (some dx)))
theorem mk_err {α : Type} [Rp α] {D : Dst} {m : List Addr} {C : Addr} {f : Str} {te : TE} {σ : St} {H : Hp} {Q : XK} {p : α → Prop} (c : Cc D m H) (h : Ev D m te σ H p)
    (k : ∀ x v H1, Gd D H H1 → Rp.rp m H1 x v → p x → ∀ d, H1 d = none → Q (.ref C) (some d) (upd H1 d (.xd [(f, v)]))) : tMkO C (spErrI C f) [] (tCons te tNil) σ H Q := h H .refl c _ fun x v H1 g r px => by
  refine ⟨(by show 1 ≤ 1000; decide), fun a ha => ⟨a, v, rfl, upd_same, fun dx hd hne => ⟨rfl, dx, [(f, v)], upd_same, by rw [upd_ne hne]; exact upd_same, by rw [upd_ne hne] at hd; exact hd, ?_⟩⟩⟩
  rw [upd_ne hne] at hd
  have e : upd (del (upd (upd (upd H1 a (exo a C none)) dx (exd dx [(f, v)])) a (exo a C (some dx))) a) dx (.xd [(f, v)]) = upd H1 dx (.xd [(f, v)]) := by
    funext b
    by_cases hb : b = dx
    · rw [hb, upd_same, upd_same]
    · rw [upd_ne hb, upd_ne hb]
      by_cases hba : b = a
      · rw [hba, del_same, ha]
      · rw [del_ne hba, upd_ne hba, upd_ne hb, upd_ne hba]
  rw [e]
  exact k x v H1 g r px dx hd

theorem mk_errV {C : Addr} {f : Str} {i : Nat} {v : V} {σ : St} {H : Hp} {Q : XK} (hv : σ[i]? = some (some v)) (k : ∀ d, H d = none → Q (.ref C) (some d) (upd H d (.xd [(f, v)]))) : tMkO C (spErrI C f) [] (tCons (tVar i) tNil) σ H Q := by
  refine ⟨v, hv, (by show 1 ≤ 1000; decide), fun a ha => ⟨a, v, rfl, upd_same, fun dx hd hne => ⟨rfl, dx, [(f, v)], upd_same, by rw [upd_ne hne]; exact upd_same, by rw [upd_ne hne] at hd; exact hd, ?_⟩⟩⟩
  rw [upd_ne hne] at hd
  have e : upd (del (upd (upd (upd H a (exo a C none)) dx (exd dx [(f, v)])) a (exo a C (some dx))) a) dx (.xd [(f, v)]) = upd H dx (.xd [(f, v)]) := by
    funext b
    by_cases hb : b = dx
    · rw [hb, upd_same, upd_same]
    · rw [upd_ne hb, upd_ne hb]
      by_cases hba : b = a
      · rw [hba, del_same, ha]
      · rw [del_ne hba, upd_ne hba, upd_ne hb, upd_ne hba]
  rw [e]
  exact k dx hd

/-- from the left, item by item -/
theorem snoc_ind {α : Type} {P : List α → Prop} (nil : P []) (snoc : ∀ l a, P l → P (l ++ [a])) (l : List α) : P l := by
  have h : ∀ r : List α, P r.reverse := by
    intro r
    induction r with
    | nil => exact nil
    | cons a r ih => rw [List.reverse_cons]; exact snoc _ _ ih
  have q := h l.reverse
  rw [List.reverse_reverse] at q
  exact q

/-! ### dicts of whole numbers -/
/-- a dict from numbers to numbers, in its order -/
structure Dc where
  l : List (Int × Int)
def dK (l : List (Int × Int)) : List (Key × V) := l.map fun kv => (Sum.inl kv.1, V.int kv.2)
instance : Rp Dc := ⟨fun m H x v => ∃ a, v = .ref a ∧ a ∉ m ∧ H a = some (.dK (dK x.l)), fun k _ ⟨a, e, n, h⟩ => ⟨a, e, (k a _ h n).1, (k a _ h n).2⟩⟩
def look (l : List (Int × Int)) (k : Int) : Option Int := (l.find? fun kv => decide (kv.1 = k)).map (·.2)
def put (l : List (Int × Int)) (k v : Int) : List (Int × Int) := if (l.any fun kv => decide (kv.1 = k)) = true then l.map (fun kv => if kv.1 = k then (kv.1, v) else kv) else l ++ [(k, v)]
theorem val_dK (l : List (Int × Int)) (k : Int) : valV (dK l) (Sum.inl k) = (look l k).map V.int := by
  induction l with
  | nil => rfl
  | cons p r ih =>
    by_cases e : p.1 = k
    · have e1 : valV (dK (p :: r)) (Sum.inl k) = some (V.int p.2) := valV_pos (congrArg Sum.inl e)
      have e2 : look (p :: r) k = some p.2 := by unfold look; rw [List.find?_cons, decide_eq_true e]; rfl
      rw [e1, e2]; rfl
    · have e1 : valV (dK (p :: r)) (Sum.inl k) = valV (dK r) (Sum.inl k) := valV_neg fun z => e (Sum.inl.inj z)
      have e2 : look (p :: r) k = look r k := by unfold look; rw [List.find?_cons, decide_eq_false e]
      rw [e1, e2, ih]
theorem any_dK (l : List (Int × Int)) (k : Int) : ((dK l).any fun kv => decide (kv.1 = (Sum.inl k : Key))) = l.any fun kv => decide (kv.1 = k) := by
  unfold dK
  rw [List.any_map]
  congr 1
  funext kv
  show decide ((Sum.inl kv.1 : Key) = Sum.inl k) = decide (kv.1 = k)
  by_cases e : kv.1 = k
  · rw [decide_eq_true e, decide_eq_true (congrArg Sum.inl e)]
  · rw [decide_eq_false e, decide_eq_false fun z => e (Sum.inl.inj z)]
theorem put_dK (l : List (Int × Int)) (k v : Int) : putK (dK l) (Sum.inl k) (.int v) = dK (put l k v) := by
  unfold putK put
  rw [any_dK]
  by_cases h : (l.any fun kv => decide (kv.1 = k)) = true
  · rw [if_pos h, if_pos h]
    unfold dK
    rw [List.map_map, List.map_map]
    refine List.map_congr_left fun kv _ => ?_
    show (if (Sum.inl kv.1 : Key) = Sum.inl k then ((Sum.inl kv.1 : Key), V.int v) else (Sum.inl kv.1, V.int kv.2)) = (Sum.inl (if kv.1 = k then (kv.1, v) else kv).1, V.int (if kv.1 = k then (kv.1, v) else kv).2)
    by_cases e : kv.1 = k
    · rw [if_pos e, if_pos (congrArg Sum.inl e)]
    · rw [if_neg e, if_neg fun z => e (Sum.inl.inj z)]
  · rw [if_neg h, if_neg h]
    unfold dK
    rw [List.map_append]
    rfl
theorem look_put (l : List (Int × Int)) (k j v : Int) : look (put l k v) j = if j = k then some v else look l j := by
  have h := valV_put (dK l) (Sum.inl k) (Sum.inl j) (V.int v)
  rw [put_dK, val_dK, val_dK] at h
  by_cases e : j = k
  · rw [if_pos (congrArg Sum.inl e)] at h
    rw [if_pos e]
    cases q : look (put l k v) j with
    | none => rw [q] at h; cases h
    | some y => rw [q] at h; simpa using h
  · rw [if_neg fun z => e (Sum.inl.inj z)] at h
    rw [if_neg e]
    cases q : look (put l k v) j with
    | none =>
      rw [q] at h
      cases q2 : look l j with
      | none => rfl
      | some z => rw [q2] at h; cases h
    | some y =>
      rw [q] at h
      cases q2 : look l j with
      | none => rw [q2] at h; cases h
      | some z => rw [q2] at h; simpa using h
theorem put_len (l : List (Int × Int)) (k v : Int) : (put l k v).length ≤ l.length + 1 := by
  unfold put
  split <;> simp
/-- how often each is met, in the order of the first times -/
def tally (cs : List Int) : List (Int × Int) := cs.foldl (fun d c => put d c ((look d c).getD 0 + 1)) []
theorem tally_snoc (cs : List Int) (c : Int) : tally (cs ++ [c]) = put (tally cs) c ((look (tally cs) c).getD 0 + 1) := by
  unfold tally
  rw [List.foldl_append]
  rfl
theorem tally_len (cs : List Int) : (tally cs).length ≤ cs.length := by
  induction cs using snoc_ind with
  | nil => decide
  | snoc cs c ih =>
    rw [tally_snoc, List.length_append]
    exact Nat.le_trans (put_len _ _ _) (Nat.add_le_add_right ih 1)
theorem look_tally (cs : List Int) (c : Int) : look (tally cs) c = if c ∈ cs then some (cs.count c : Int) else none := by
  induction cs using snoc_ind with
  | nil => simp [tally, look]
  | snoc cs d ih =>
    rw [tally_snoc, look_put]
    by_cases e : c = d
    · subst e
      have hm : c ∈ cs ++ [c] := List.mem_append_right _ List.mem_cons_self
      have h1 : List.count c [c] = 1 := by simp
      rw [if_pos rfl, ih, if_pos hm, List.count_append, h1]
      by_cases h : c ∈ cs
      · rw [if_pos h]; simp
      · rw [if_neg h, List.count_eq_zero.mpr h]; simp
    · rw [if_neg e, ih, List.count_append]
      have h1 : (c ∈ cs ++ [d]) ↔ c ∈ cs := by simp [e]
      have h2 : List.count c [d] = 0 := List.count_eq_zero.mpr (by simp [e])
      rw [h2]
      by_cases h : c ∈ cs
      · rw [if_pos h, if_pos (h1.mpr h)]; simp
      · rw [if_neg h, if_neg fun z => h (h1.mp z)]
theorem put_keys (l : List (Int × Int)) (k v : Int) : (put l k v).map (·.1) = if k ∈ l.map (·.1) then l.map (·.1) else l.map (·.1) ++ [k] := by
  unfold put
  have e : ((l.any fun kv => decide (kv.1 = k)) = true) ↔ k ∈ l.map (·.1) := by
    rw [List.any_eq_true]
    constructor
    · rintro ⟨kv, h1, h2⟩
      exact List.mem_map.mpr ⟨kv, h1, of_decide_eq_true h2⟩
    · intro h
      obtain ⟨kv, h1, h2⟩ := List.mem_map.mp h
      exact ⟨kv, h1, decide_eq_true h2⟩
  by_cases h : k ∈ l.map (·.1)
  · rw [if_pos (e.mpr h), if_pos h, List.map_map]
    refine List.map_congr_left fun kv _ => ?_
    show (if kv.1 = k then (kv.1, v) else kv).1 = kv.1
    split <;> rfl
  · rw [if_neg (fun z => h (e.mp z)), if_neg h, List.map_append]
    rfl
theorem tally_keys_nodup (cs : List Int) : ((tally cs).map (·.1)).Nodup := by
  induction cs using snoc_ind with
  | nil => simp [tally]
  | snoc cs c ih =>
    rw [tally_snoc, put_keys]
    split
    · exact ih
    · rename_i h
      rw [List.nodup_append]
      refine ⟨ih, by simp, ?_⟩
      intro a ha b hb e
      rw [List.mem_singleton.mp hb] at e
      exact h (e ▸ ha)
theorem tally_mem (cs : List Int) (c n : Int) : (c, n) ∈ tally cs ↔ c ∈ cs ∧ n = (cs.count c : Int) := by
  have hn := tally_keys_nodup cs
  have key : ∀ (l : List (Int × Int)), (l.map (·.1)).Nodup → ((c, n) ∈ l ↔ look l c = some n) := by
    intro l
    induction l with
    | nil => intro _; simp [look]
    | cons p r ih =>
      intro h
      rw [List.map_cons, List.nodup_cons] at h
      by_cases e : p.1 = c
      · have e2 : look (p :: r) c = some p.2 := by unfold look; rw [List.find?_cons, decide_eq_true e]; rfl
        rw [e2, List.mem_cons]
        constructor
        · rintro (z | z)
          · rw [← z]
          · exact absurd (List.mem_map.mpr ⟨_, z, rfl⟩) (e ▸ h.1)
        · intro z
          left
          rw [← e, ← Option.some.inj z]
      · have e2 : look (p :: r) c = look r c := by unfold look; rw [List.find?_cons, decide_eq_false e]
        rw [e2, ← ih h.2, List.mem_cons]
        constructor
        · rintro (z | z)
          · rw [← z] at e; exact absurd rfl e
          · exact z
        · exact Or.inr
  rw [key _ hn, look_tally]
  constructor
  · intro h
    by_cases hc : c ∈ cs
    · rw [if_pos hc] at h; exact ⟨hc, (Option.some.inj h).symm⟩
    · rw [if_neg hc] at h; cases h
  · rintro ⟨hc, rfl⟩
    rw [if_pos hc]

/-! ### any walk, in a comprehension and in a loop -/
theorem lc_gen {J : It} {n : Nat} {g : TG} {tt : TT} {te : TE} {vs : List Nat} {σ : St} {H1 : Hp} {D : Addr} {Qd : Hp → Prop} (Pv : Nat → Hp → Prop) (h0 : Pv 0 (upd H1 D (.lst []))) (hst : ∀ H, Pv n H → J.stop n H) (hgo : ∀ i H, i < n → Pv i H → J.go i H)
    (hs : ∀ i x H H', i < n → Pv i H → J.yld i H x H' → g x (wipe σ vs) H' fun σ2 H2 => wipe σ2 vs = wipe σ vs ∧ tt σ2 H2 fun b H3 =>
      if b = true then te σ2 H3 fun y H4 => ∃ acc, H4 D = some (.lst acc) ∧ acc.length < sizeLine ∧ Pv (i + 1) (upd H4 D (.lst (acc ++ [y]))) else Pv (i + 1) H3) (hd : ∀ H, Pv n H → Qd H) :
    ∃ W : Nat → Nat → Hp → Prop, (∃ m, W 0 m (upd H1 D (.lst []))) ∧ ∀ i m H, W i m H →
      (J.stop i H ∧ Qd H) ∨ (J.go i H ∧ ∃ Nx : Hp → Prop, (∀ H', Nx H' → ∃ m', m' < m ∧ W (i + 1) m' H') ∧ ∀ x H', J.yld i H x H' → g x (wipe σ vs) H' fun σ2 H2 => wipe σ2 vs = wipe σ vs ∧ tt σ2 H2 fun b H3 =>
        if b = true then te σ2 H3 fun y H4 => ∃ acc, H4 D = some (.lst acc) ∧ acc.length < sizeLine ∧ Nx (upd H4 D (.lst (acc ++ [y]))) else Nx H3) := by
  refine ⟨fun i k H => k = n - i ∧ i ≤ n ∧ Pv i H, ⟨n, by simp, Nat.zero_le _, h0⟩, ?_⟩
  rintro i k H ⟨rfl, hi, p⟩
  by_cases hlt : i < n
  · exact .inr ⟨hgo i H hlt p, Pv (i + 1), fun H' p' => ⟨n - (i + 1), by omega, rfl, hlt, p'⟩, fun x H' y => hs i x H H' hlt p y⟩
  · have e : i = n := by omega
    subst e
    exact .inl ⟨hst H p, hd H p⟩
theorem for_gen {J : It} {n : Nat} {g : TG} {tb : TS} {D : Ends} {σ : St} {H : Hp} (Pv : Nat → St → Hp → Prop) (h0 : Pv 0 σ H) (hst : ∀ σ H, Pv n σ H → J.stop n H) (hgo : ∀ i σ H, i < n → Pv i σ H → J.go i H)
    (hs : ∀ i x σ H H', i < n → Pv i σ H → J.yld i H x H' → g x σ H' fun σ2 H2 => tb { D with nx := Pv (i + 1), ct := Pv (i + 1), bk := D.nx } σ2 H2) (hd : ∀ σ H, Pv n σ H → D.nx σ H) :
    ∃ W : Nat → Nat → St → Hp → Prop, (∃ m, W 0 m σ H) ∧ ∀ i m σ H, W i m σ H →
      (J.stop i H ∧ D.nx σ H) ∨ (J.go i H ∧ ∃ N : St → Hp → Prop, (∀ σ' H', N σ' H' → ∃ m', m' < m ∧ W (i + 1) m' σ' H') ∧ ∀ x H', J.yld i H x H' → g x σ H' fun σ2 H2 => tb { D with nx := N, ct := N, bk := D.nx } σ2 H2) := by
  refine ⟨fun i k σ H => k = n - i ∧ i ≤ n ∧ Pv i σ H, ⟨n, by simp, Nat.zero_le _, h0⟩, ?_⟩
  rintro i k σ H ⟨rfl, hi, p⟩
  by_cases hlt : i < n
  · exact .inr ⟨hgo i σ H hlt p, Pv (i + 1), fun σ' H' p' => ⟨n - (i + 1), by omega, rfl, hlt, p'⟩, fun x H' y => hs i x σ H H' hlt p y⟩
  · have e : i = n := by omega
    subst e
    exact .inl ⟨hst σ H p, hd σ H p⟩

/-! ### a dict of numbers: read, written, walked -/
section
variable {D : Dst} {m : List Addr} {σ : St} {H H' : Hp} {td ty tx : TE} {d : Addr} {l : List (Int × Int)} {i : Nat}
/-- the dict at d; what changes it is told elsewhere -/
structure DAt (m : List Addr) (H : Hp) (d : Addr) (l : List (Int × Int)) : Prop where
  nm : d ∉ m
  at_ : H d = some (.dK (dK l))
theorem DAt.rp (h : DAt m H d l) : Rp.rp m H (Dc.mk l) (.ref d) := ⟨d, rfl, h.nm, h.at_⟩
theorem DAt.gd (h : DAt m H d l) (c : Cc D m H) (g : Gd D H H') : DAt m H' d l := ⟨h.nm, g.gr.keep d _ h.at_ fun z => h.nm (c.sub d z)⟩
/-- d.get(k, x) -/
theorem ev_dget2 {k v : Int} (hv : σ[i]? = some (some (.ref d))) (hd : H d = some (.dK (dK l))) (nd : d ∉ D.m) (hk : EvV D m ty σ H k) (hx : EvV D m tx σ H v) : EvV D m (tDGet2 (tVar i) ty tx) σ H ((look l k).getD v) := fun H1 g c Q w => by
  have h1 := g.gr.keep d _ hd nd
  refine ⟨_, hv, d, rfl, .inl ⟨_, .inl h1⟩, hk H1 g c _ fun k' u H2 g2 rk ek => hx H2 (g.trans g2) (c.go g2) _ fun v' u' H3 g3 rx ex => ?_⟩
  subst ek ex
  cases rp_int rk
  cases rp_int rx
  have h3 := g3.gr.keep d _ (g2.gr.keep d _ h1 nd) nd
  refine ⟨_, DGet.k (k := Sum.inl _) h3, ?_⟩
  rw [val_dK]
  refine w _ _ H3 (g2.trans g3) ?_ rfl
  cases look l k' <;> rfl
/-- d[k], there; d perhaps locked by a walk -/
theorem ev_dget {k v : Int} (hv : σ[i]? = some (some (.ref d))) (hd : Rd H d (.dK (dK l))) (nd : d ∉ D.m) (hk : EvV D m ty σ H k) (hl : look l k = some v) : EvV D m (tDGet (tVar i) ty) σ H v := fun H1 g c Q w => by
  refine ⟨_, hv, hk H1 g c _ fun k' u H2 g2 rk ek => ?_⟩
  subst ek
  cases rp_int rk
  have h2 : Rd H2 d (.dK (dK l)) := by
    rcases hd with h | ⟨o, h⟩
    · exact .inl (g2.gr.keep d _ (g.gr.keep d _ h nd) nd)
    · exact .inr ⟨o, g2.gr.keep d _ (g.gr.keep d _ h nd) nd⟩
  exact ⟨d, .int v, rfl, .inl ⟨_, Sum.inl k', h2, rfl, by rw [val_dK, hl]; rfl⟩, w v _ H2 g2 rfl rfl⟩
/-- d[k] = e -/
theorem s_dput {En : Ends} {tv : TE} {k v : Int} (c : Cc D m H) (hv : σ[i]? = some (some (.ref d))) (hd : H d = some (.dK (dK l))) (nd : d ∉ D.m) (he : EvV D m tv σ H v) (hk : EvV D m ty σ H k) (hl : l.length < 100000)
    (kk : ∀ H1, Gd D H H1 → En.nx σ (upd H1 d (.dK (dK (put l k v))))) : sDPut (tVar i) ty tv En σ H := he H .refl c _ fun v' u H1 g r ev => ⟨_, hv, hk H1 g (c.go g) _ fun k' u' H2 g2 r' ek => by
  subst ev ek
  cases rp_int r
  cases rp_int r'
  have h2 := g2.gr.keep d _ (g.gr.keep d _ hd nd) nd
  refine ⟨d, _, rfl, DPut.k (k := Sum.inl _) h2 (by unfold dK; rw [List.length_map]; exact Evl.sz_lt hl), ?_⟩
  rw [put_dK]
  exact kk H2 (g.trans g2)⟩
/-- {} -/
theorem s_dnew {En : Ends} (c : Cc D m H) (k : ∀ d H1, H d = none → Gd D H H1 → DAt m H1 d [] → En.nx (σ.set i (some (.ref d))) H1) : tAsg tDNewK (gName i) En σ H := fun d hd => k d _ hd (.new hd) ⟨c.free hd, upd_same⟩
variable {β : Type} [Rp β] [Nl β] {g : TG} {tt : TT} {te : TE} {ws : List Nat}
/-- [e for k in d if t]: the dict stands under a lock meanwhile -/
theorem el_lcKeys {p : List β → Prop} (I : Nat → List β → Prop) (hv : σ[i]? = some (some (.ref d))) (hd : H d = some (.dK (dK l))) (hdm : d ∈ m) (hz : l.length ≤ 90000) (h0 : I 0 [])
    (hs : ∀ (j : Nat) kv od H1 acc, l[j]? = some kv → Gr [d] H H1 → H1 d = some (.frz od (.dK (dK l))) → Cc none m H1 → I j acc → ∃ pt py, LcT none m g tt te ws σ (.int kv.1) H1 pt py ∧ (∀ y, pt true → py y → I (j + 1) (acc ++ [y])) ∧ (pt false → I (j + 1) acc))
    (hp : ∀ acc, I l.length acc → p acc) : EvL none m (tLockE (tLc (iKeys (tVar i)) g tt te ws)) σ H p := fun H0 g0 c0 Q w => by
  have hd0 := g0.gr0.at0 hd
  refine ⟨d, _, hd0, trivial, fun od => ⟨_, hv, d, od, rfl, .inl ⟨dK l, upd_same, fun Dl hD => ?_⟩⟩⟩
  have nDd : Dl ≠ d := fun z => by rw [z, upd_same] at hD; cases hD
  have hDl : H0 Dl = none := by rw [upd_ne nDd] at hD; exact hD
  have nD : Dl ∉ m := c0.free hDl
  have lk : Gr [d] H0 (upd H0 d (.frz od (.dK (dK l)))) := Gr.refl.put (by simp) hd0 (fun _ z => by cases z)
  have cl : Cc none m (upd H0 d (.frz od (.dK (dK l)))) := ⟨fun _ h => absurd h (by simp [Dst.m]), fun a ha => by
    by_cases z : a = d
    · rw [z, upd_same]; simp
    · rw [upd_ne z]; exact c0.dm a ha, trivial⟩
  have hlen : (dK l).length = l.length := by unfold dK; rw [List.length_map]
  have goal := lc_gen (J := Itk d od (dK l)) (n := l.length) (g := g) (tt := tt) (te := te) (vs := ws) (σ := σ) (H1 := upd H0 d (.frz od (.dK (dK l)))) (D := Dl) (Qd := fun H' => H' d = some (.frz od (.dK (dK l))) ∧ Q (.ref Dl) (upd H' d (.dK (dK l))))
    (fun j H' => ∃ acc, Gd none (upd H0 d (.frz od (.dK (dK l)))) H' ∧ Own m H' Dl acc ∧ acc.length ≤ j ∧ I j acc) ⟨[], .new hD, .nil nD upd_same, Nat.zero_le _, h0⟩
    (fun H' ⟨acc, g', _⟩ => ⟨g'.gr0.at0 upd_same, by rw [hlen]; exact Nat.le_refl _⟩) (fun j H' hj ⟨acc, g', _⟩ => ⟨g'.gr0.at0 upd_same, by rw [hlen]; exact hj⟩)
    (fun j x H' H'' hj ⟨acc, g', o, hl, hI⟩ y => ?_) (fun H' ⟨acc, g', o, hl, hI⟩ => ?_)
  · exact goal
  · obtain ⟨rfl, k, v, hkv, rfl⟩ := y
    have hkl : l[j]? = some l[j] := List.getElem?_eq_getElem hj
    have e : k = Sum.inl l[j].1 := by
      unfold dK at hkv
      rw [List.getElem?_map, hkl] at hkv
      simp at hkv
      exact hkv.1.symm
    subst e
    have gall : Gr [d] H H'' := (g0.gr0.any).trans (lk.trans g'.gr0.any)
    obtain ⟨pt, py, hT, k1, k2⟩ := hs j l[j] od H'' acc hkl gall (g'.gr0.at0 upd_same) (cl.go g') hI
    exact lc_turn hT (cl.go g') .refl o (by omega) (fun y ws H4 g4 z py o4 => ⟨acc ++ [y], mut_gd (g'.trans g4) cl hD, o4, by simp; omega, k1 y z py⟩) (fun H4 g4 z => ⟨acc, g'.trans g4, o.gd (cl.go g') g4, by omega, k2 z⟩)
  · have hd' := g'.gr0.at0 (upd_same (H := H0) (a := d) (o := .frz od (.dK (dK l))))
    refine ⟨hd', w acc Dl _ hDl (.pure ⟨fun a u e _ => ?_, fun a xs e => ?_, fun a e => ?_⟩) (o.upd_ne nDd hd' (fun _ z => by cases z)) (hp acc hI)⟩
    · by_cases z : a = d
      · rw [z, upd_same]; rw [z, hd0] at e; exact e
      · rw [upd_ne z]; exact g'.gr0.at0 (by rw [upd_ne z]; exact e)
    · have z : a ≠ d := fun z => by rw [z, hd0] at e; cases e
      rw [upd_ne z]; exact g'.gr0.at0 (by rw [upd_ne z]; exact e)
    · by_cases z : a = d
      · rw [z, upd_same] at e; cases e
      · rw [upd_ne z] at e
        have q := g'.gr.dom a e
        rw [upd_ne z] at q; exact q
end

/-! ### sorted -/
def isort (xs : List Int) : List Int := xs.mergeSort fun a b => decide (a ≤ b)
theorem isort_perm (xs : List Int) : (isort xs).Perm xs := List.mergeSort_perm _ _
theorem isort_le (xs : List Int) : (isort xs).Pairwise (· ≤ ·) := by
  have h := List.pairwise_mergeSort (le := fun a b : Int => decide (a ≤ b)) (fun a b c h1 h2 => by simp at *; omega) (fun a b => by simp; omega) xs
  exact h.imp fun h => by simpa using h
theorem isort_mem {xs : List Int} {x : Int} : x ∈ isort xs ↔ x ∈ xs := (isort_perm xs).mem_iff
theorem lt_unique : ∀ {a b : List Int}, a.Pairwise (· < ·) → b.Pairwise (· < ·) → (∀ x, x ∈ a ↔ x ∈ b) → a = b
  | [], [], _, _, _ => rfl
  | [], y :: b, _, _, h => absurd ((h y).mpr (by simp)) (by simp)
  | x :: a, [], _, _, h => absurd ((h x).mp (by simp)) (by simp)
  | x :: a, y :: b, ha, hb, h => by
    rw [List.pairwise_cons] at ha hb
    have e : x = y := by
      rcases List.mem_cons.mp ((h x).mp (by simp)) with z | z
      · exact z
      · rcases List.mem_cons.mp ((h y).mpr (by simp)) with z' | z'
        · exact z'.symm
        · have h1 := hb.1 x z
          have h2 := ha.1 y z'
          omega
    subst e
    congr 1
    refine lt_unique ha.2 hb.2 fun z => ?_
    constructor
    · intro hz
      rcases List.mem_cons.mp ((h z).mp (List.mem_cons_of_mem _ hz)) with q | q
      · rw [q] at hz; exact absurd (ha.1 x hz) (by omega)
      · exact q
    · intro hz
      rcases List.mem_cons.mp ((h z).mpr (List.mem_cons_of_mem _ hz)) with q | q
      · rw [q] at hz; exact absurd (hb.1 x hz) (by omega)
      · exact q
/-- the members, each once, rising -/
def once : List Int → List Int
  | [] => []
  | x :: xs => if x ∈ xs then once xs else x :: once xs
theorem once_mem {x : Int} : ∀ {xs : List Int}, x ∈ once xs ↔ x ∈ xs
  | [] => by simp [once]
  | y :: xs => by
    unfold once
    by_cases h : y ∈ xs
    · rw [if_pos h, once_mem, List.mem_cons]
      constructor
      · exact .inr
      · rintro (rfl | z)
        · exact h
        · exact z
    · rw [if_neg h, List.mem_cons, List.mem_cons, once_mem]
theorem once_nodup : ∀ xs : List Int, (once xs).Nodup
  | [] => by simp [once]
  | y :: xs => by
    unfold once
    by_cases h : y ∈ xs
    · rw [if_pos h]; exact once_nodup xs
    · rw [if_neg h, List.nodup_cons, once_mem]
      exact ⟨h, once_nodup xs⟩
def sset (xs : List Int) : List Int := isort (once xs)
theorem sset_lt (xs : List Int) : (sset xs).Pairwise (· < ·) := by
  have h1 := isort_le (once xs)
  have h2 : (isort (once xs)).Nodup := (isort_perm _).nodup_iff.mpr (once_nodup xs)
  unfold sset
  have := h1.and h2
  exact this.imp fun ⟨a, b⟩ => by omega
theorem sset_mem {xs : List Int} {x : Int} : x ∈ sset xs ↔ x ∈ xs := by
  unfold sset
  rw [isort_mem, once_mem]
section
variable {D : Dst} {m : List Addr} {σ : St} {H : Hp} {te : TE} {K : PySem.W.Frag}
/-- sorted(xs) -/
theorem el_sorted {xs : List Int} (h : EvV D m te σ H xs) : EvLV D m (tCB (rSortedI K) (tCons te tNil)) σ H (isort xs) := fun H1 g c Q w => h H1 g c _ fun xs' v H2 g2 r e => by
  subst e
  obtain ⟨a, vs, rfl, n, ha, ps⟩ := rp_lst r
  have := paired_ints ps
  subst this
  refine ⟨a, xs', rfl, .of ha, fun ns p hp hs hn => ?_⟩
  have e : ns = isort xs' := PySem.W.ksm_same (hp.trans (isort_perm xs').symm) hs (isort_le xs')
  subst e
  exact w _ p _ (g2.gr.dom p hn) (g2.trans (.new hn)) (.of_ints ((c.go g2).free hn) upd_same) rfl
end
/-! ### the program's mathematics -/
def needKey (k : Int) : Except Err Unit := if 0 ≤ k ∧ k < 10007 then .ok () else .error .badKey
def pointed (hands : List (Int × Int)) (size key : Int) : List Int := hands.map fun h => (key * h.1 + h.2) % 10007 % size
def places (hands : List (Int × Int)) (size key : Int) : Except Err (List Int) := if 0 ≤ key ∧ key < 10007 then .ok (pointed hands size key) else .error .badKey
def HandOk (h : Int × Int) : Prop := 1 ≤ h.1 ∧ h.1 ≤ 10006 ∧ 0 ≤ h.2 ∧ h.2 ≤ 10006
def HandsOk (most : Int) (hs : List (Int × Int)) : Prop := 1 ≤ hs.length ∧ (hs.length : Int) ≤ most ∧ ∀ h, h ∈ hs → HandOk h
def KeyOk (k : Int) : Prop := 0 ≤ k ∧ k < 10007
def KeysOk (many : Int) (ks : List Int) : Prop := (ks.length : Int) = many ∧ ∀ k, k ∈ ks → KeyOk k
end KS
set_option Elab.async false
set_option linter.all false
set_option maxRecDepth 100000
set_option maxHeartbeats 4000000
namespace KS
open PySem L2
/-! ### sieves -/
/-- what a sieve of the class at C tells -/
structure Sv (C : Addr) where
  size : Int
  hands : List (Int × Int)
  cap : Int
  cells : List Int
def svf (size : Int) (a : Addr) (cap : Int) (c : Addr) : List (Str × V) := [("many", .int size), ("pointers", .ref a), ("most", .int cap), ("cells", .ref c)]
/-- the sieve at s, its counts at c -/
structure SvAt {C : Addr} (m : List Addr) (H : Hp) (s c : Addr) (x : Sv C) : Prop where
  ns : s ∉ m
  nc : c ∉ m
  cl : H c = some (.lst (x.cells.map V.int))
  ob : ∃ dx a, H s = some (.ins C dx (svf x.size a x.cap c)) ∧ a ≠ c ∧ Rp.rp m H x.hands (.ref a)
theorem SvAt.go {C : Addr} {m m' : List Addr} {H H' : Hp} {s c : Addr} {x : Sv C} (k : ∀ a o, H a = some o → a ∉ m → a ∉ m' ∧ H' a = some o) (t : ∀ a xs, H a = some (.tup xs) → H' a = some (.tup xs)) (h : SvAt m H s c x) : SvAt m' H' s c x := by
  obtain ⟨ns, nc, cl, dx, a, ho, na, r⟩ := h
  exact ⟨(k s _ ho ns).1, (k c _ cl nc).1, (k c _ cl nc).2, dx, a, (k s _ ho ns).2, na, Rp.go k t r⟩
instance {C : Addr} : Rp (Sv C) := ⟨fun m H x v => ∃ s c, v = .ref s ∧ SvAt m H s c x, fun k t ⟨s, c, e, h⟩ => ⟨s, c, e, h.go k t⟩⟩
section
variable {C : Addr} {D : Dst} {m m' : List Addr} {H H' : Hp} {s c : Addr} {x : Sv C} {v : V}
theorem SvAt.rp (h : SvAt m H s c x) : Rp.rp m H x (.ref s) := ⟨s, c, rfl, h⟩
theorem SvAt.gr {ms : List Addr} (h : SvAt m H s c x) (g : Gr ms H H') (z : ∀ a, a ∈ ms → a ∈ m) : SvAt m H' s c x := h.go (fun a o e n => ⟨n, g.keep a o e fun q => n (z a q)⟩) fun a xs e => g.tup a xs e
theorem SvAt.gd (h : SvAt m H s c x) (k : Cc D m H) (g : Gd D H H') : SvAt m H' s c x := h.gr g.gr k.sub
theorem SvAt.less (h : SvAt m H s c x) (z : ∀ a, a ∈ m' → a ∈ m) : SvAt m' H s c x := h.go (fun a o e n => ⟨fun q => n (z a q), e⟩) fun _ _ e => e
theorem SvAt.sc (h : SvAt m H s c x) : s ≠ c := by
  obtain ⟨ns, nc, cl, dx, a, ho, na, r⟩ := h
  exact ne_of ho cl fun z => by cases z
theorem SvAt.here (h : SvAt m H s c x) : H c ≠ none := by rw [h.cl]; simp
theorem SvAt.here' (h : SvAt m H s c x) : H s ≠ none := by
  obtain ⟨dx, a, ho, _⟩ := h.ob
  rw [ho]; simp
/-- its counts change -/
theorem SvAt.set {l : List Int} (h : SvAt m H s c x) (g : Gr [c] H H') (e : H' c = some (.lst (l.map V.int))) : SvAt m H' s c ({ x with cells := l } : Sv C) := by
  have sc := h.sc
  obtain ⟨ns, nc, cl, dx, a, ho, na, r⟩ := h
  refine ⟨ns, nc, e, dx, a, g.keep s _ ho (by simpa using sc), na, ?_⟩
  obtain ⟨a', vs, e', n, ha, ps⟩ := rp_lst r
  cases e'
  exact ⟨a, vs, rfl, n, g.keep a _ ha (by simpa using na), paired_go ps fun _ _ r => rp_nl r g.tup⟩
/-- the counts of one number -/
def cat (l : List Int) (i : Int) : Int := l[i.toNat]?.getD 0
def inc (cap : Int) (l : List Int) (i : Int) : List Int := l.set i.toNat (min cap (cat l i + 1))
def dec1 (l : List Int) (i : Int) : List Int := l.set i.toNat (cat l i - 1)
def wanted (x : Sv C) (key : Int) : List (Int × Int) := tally (pointed x.hands x.size key)
def poorB (cap : Int) (cells : List Int) (kv : Int × Int) : Bool := decide (cat cells kv.1 < min cap kv.2)
def Sv.yes (x : Sv C) (key : Int) : Bool := decide (((wanted x key).filter (poorB x.cap x.cells)).map (·.1) = [])
def Sv.stuck (x : Sv C) (key : Int) : List Int := isort (((wanted x key).filter fun kv => decide (cat x.cells kv.1 = x.cap)).map (·.1))
def Sv.says (x : Sv C) (key : Int) : Except Err Bool := if 0 ≤ key ∧ key < 10007 then .ok (x.yes key) else .error .badKey
def Sv.may (x : Sv C) (key : Int) : Except Err Unit := if 0 ≤ key ∧ key < 10007 then if x.yes key = true then if x.stuck key = [] then .ok () else .error (.stuck (x.stuck key)) else .error .notIn else .error .badKey
def Sv.put1 (x : Sv C) (key : Int) : Sv C := { x with cells := (pointed x.hands x.size key).foldl (inc x.cap) x.cells }
def Sv.take1 (x : Sv C) (key : Int) : Sv C := { x with cells := (pointed x.hands x.size key).foldl dec1 x.cells }
def Sv.put (x : Sv C) (key : Int) : Except Err (Sv C) := if 0 ≤ key ∧ key < 10007 then .ok (x.put1 key) else .error .badKey
def Sv.take (x : Sv C) (key : Int) : Except Err (Sv C) := match x.may key with
  | .ok _ => .ok (x.take1 key)
  | .error e => .error e
/-- what the walks need -/
structure Sv.Ok (x : Sv C) : Prop where
  s0 : 0 < x.size
  s1 : x.size ≤ 1000
  h : x.hands.length ≤ 1000
  n : (x.cells.length : Int) = x.size
def handsB (hs : List (Int × Int)) : Bool := decide (1 ≤ hs.length ∧ hs.length ≤ 6) && hs.all fun h => decide (1 ≤ h.1 ∧ h.1 < 10007) && decide (0 ≤ h.2 ∧ h.2 < 10007)
def chkSize (size : Int) : Except Err Unit := if 1 ≤ size ∧ size ≤ 96 then .ok () else .error (.badSieve "size")
def chkHands (hs : List (Int × Int)) : Except Err Unit := if handsB hs = true then .ok () else .error (.badSieve "hands")
def chkCap (cap : Int) : Except Err Unit := if 1 ≤ cap ∧ cap ≤ 9 then .ok () else .error (.badSieve "cap")
def Sv.new (C : Addr) (size : Int) (hands : List (Int × Int)) (cap : Int) : Sv C := ⟨size, hands, cap, List.replicate size.toNat 0⟩
def mkS (C : Addr) (size : Int) (hands : List (Int × Int)) (cap : Int) : Except Err (Sv C) := do
  chkSize size
  chkHands hands
  chkCap cap
  return Sv.new C size hands cap
theorem pointed_mem {hands : List (Int × Int)} {size key i : Int} (h0 : 0 < size) (h : i ∈ pointed hands size key) : 0 ≤ i ∧ i < size := by
  unfold pointed at h
  obtain ⟨p, _, e⟩ := List.mem_map.mp h
  subst e
  exact ⟨Int.emod_nonneg _ (by omega), Int.emod_lt_of_pos _ h0⟩
theorem foldl_len {f : List Int → Int → List Int} (hf : ∀ l i, (f l i).length = l.length) (ps : List Int) (l : List Int) : (ps.foldl f l).length = l.length := by
  induction ps generalizing l with
  | nil => rfl
  | cons p ps ih => rw [List.foldl_cons, ih, hf]
theorem inc_len (cap : Int) (l : List Int) (i : Int) : (inc cap l i).length = l.length := by unfold inc; simp
theorem dec1_len (l : List Int) (i : Int) : (dec1 l i).length = l.length := by unfold dec1; simp
theorem Sv.Ok.put1 (h : x.Ok) (key : Int) : (x.put1 key).Ok := ⟨h.s0, h.s1, h.h, by unfold Sv.put1; dsimp only; rw [foldl_len (inc_len _)]; exact h.n⟩
theorem Sv.Ok.take1 (h : x.Ok) (key : Int) : (x.take1 key).Ok := ⟨h.s0, h.s1, h.h, by unfold Sv.take1; dsimp only; rw [foldl_len dec1_len]; exact h.n⟩
theorem Sv.Ok.put {key : Int} {y : Sv C} (h : x.Ok) (e : x.put key = .ok y) : y.Ok := by
  unfold Sv.put at e
  split at e
  · cases e; exact h.put1 key
  · cases e
theorem Sv.Ok.take {key : Int} {y : Sv C} (h : x.Ok) (e : x.take key = .ok y) : y.Ok := by
  unfold Sv.take at e
  split at e
  · cases e; exact h.take1 key
  · cases e
end

/-! ### reading a sieve -/
section
variable {C : Addr} {α β A R : Type} [Rp α] [Rp β] [RpA A] [Rp R] {K : PySem.W.Frag} {D : Dst} {m m' : List Addr} {σ : St} {H H' : Hp} {s c : Addr} {x : Sv C} {v : V} {ta te : TE} {t : TA} {T : Er} {En : Ends} {i : Nat} {E : XK}
theorem ev_many (h : EvV D m ta σ H x) (cl : Cls K C) (na : NoAttr K C "many") : EvV D m (tFld K ta "many") σ H x.size := fun H1 g c Q w => h H1 g c _ fun x' v H2 g2 r e => by
  subst e
  obtain ⟨s, cc, rfl, a⟩ := r
  obtain ⟨dx, b, ho, _, _⟩ := a.ob
  exact ⟨s, C, dx, _, _, rfl, ho, cl, na, rfl, w _ _ H2 g2 rfl rfl⟩
theorem ev_most (h : EvV D m ta σ H x) (cl : Cls K C) (na : NoAttr K C "most") : EvV D m (tFld K ta "most") σ H x.cap := fun H1 g c Q w => h H1 g c _ fun x' v H2 g2 r e => by
  subst e
  obtain ⟨s, cc, rfl, a⟩ := r
  obtain ⟨dx, b, ho, _, _⟩ := a.ob
  exact ⟨s, C, dx, _, _, rfl, ho, cl, na, rfl, w _ _ H2 g2 rfl rfl⟩
theorem ev_hands (h : EvV D m ta σ H x) (cl : Cls K C) (na : NoAttr K C "pointers") : EvV D m (tFld K ta "pointers") σ H x.hands := fun H1 g c Q w => h H1 g c _ fun x' v H2 g2 r e => by
  subst e
  obtain ⟨s, cc, rfl, a⟩ := r
  obtain ⟨dx, b, ho, _, r2⟩ := a.ob
  exact ⟨s, C, dx, _, _, rfl, ho, cl, na, rfl, w _ _ H2 g2 r2 rfl⟩
theorem ev_cells (h : EvV D m ta σ H x) (cl : Cls K C) (na : NoAttr K C "cells") : EvV D m (tFld K ta "cells") σ H x.cells := fun H1 g c Q w => h H1 g c _ fun x' v H2 g2 r e => by
  subst e
  obtain ⟨s, cc, rfl, a⟩ := r
  obtain ⟨dx, b, ho, _, _⟩ := id a.ob
  exact ⟨s, C, dx, _, _, rfl, ho, cl, na, rfl, w _ _ H2 g2 (Own.of_ints a.nc a.cl).rp rfl⟩
/-- self.cells[i] -/
theorem ev_cell {tb : TE} {i : Int} (h : EvV D m ta σ H x) (cl : Cls K C) (na : NoAttr K C "cells") (hi : EvV D m tb σ H i) (h0 : 0 ≤ i) (h1 : i < x.cells.length) : EvV D m (tOp (rIxL K) (tFld K ta "cells") tb) σ H (cat x.cells i) := by
  refine ev_ixLV (ev_cells h cl na) hi ?_
  have hl : i.toNat < x.cells.length := by omega
  have : i = (i.toNat : Int) := by omega
  rw [this, atI_nat (List.getElem?_eq_getElem hl)]
  unfold cat
  rw [← this, List.getElem?_eq_getElem hl]
  rfl
/-- min(a, b) -/
theorem ev_min {tb : TE} {i j : Int} (ha : EvV D m ta σ H i) (hb : EvV D m tb σ H j) : EvV D m (tCB (fun xs H Q => ∃ i j, xs = [.int i, .int j] ∧ Q (.int (if j < i then j else i)) H) (tCons ta (tCons tb tNil))) σ H (min i j) := fun H1 e c Q w =>
  ha H1 e c _ fun i' v H2 e2 ri pi => hb H2 (e.trans e2) (c.go e2) _ fun j' u H3 e3 rj qj => by
    subst pi qj
    cases rp_int ri
    cases rp_int rj
    exact ⟨i', j', rfl, w _ _ H3 (e2.trans e3) (by show V.int _ = V.int _; congr 1; split <;> omega) rfl⟩
theorem ev_max {tb : TE} {i j : Int} (ha : EvV D m ta σ H i) (hb : EvV D m tb σ H j) : EvV D m (tCB (fun xs H Q => ∃ i j, xs = [.int i, .int j] ∧ Q (.int (if j > i then j else i)) H) (tCons ta (tCons tb tNil))) σ H (max i j) := fun H1 e c Q w =>
  ha H1 e c _ fun i' v H2 e2 ri pi => hb H2 (e.trans e2) (c.go e2) _ fun j' u H3 e3 rj qj => by
    subst pi qj
    cases rp_int ri
    cases rp_int rj
    exact ⟨i', j', rfl, w _ _ H3 (e2.trans e3) (by show V.int _ = V.int _; congr 1; split <;> omega) rfl⟩

/-! ### the methods that only read -/
variable {n : Str}
theorem svf_none (hn : n ≠ "many" ∧ n ≠ "pointers" ∧ n ≠ "most" ∧ n ≠ "cells") (z : Int) (a : Addr) (k : Int) (c : Addr) : (svf z a k c).lookup n = none := by
  obtain ⟨h1, h2, h3, h4⟩ := hn
  have f : ∀ {y : Str}, n ≠ y → (n == y) = false := fun {y} h => by simpa using h
  unfold svf
  rw [List.lookup_cons, f h1, List.lookup_cons, f h2, List.lookup_cons, f h3, List.lookup_cons, f h4]
  rfl
theorem meth_arg {sp : Sp} {p : A → Prop} (h : EvV D m ta σ H x) (ha : EvAr D m t σ H p) (hn : n ≠ "many" ∧ n ≠ "pointers" ∧ n ≠ "most" ∧ n ≠ "cells") {H1 : Hp} (g : Gd D H H1) (c : Cc D m H1) {Q : VK}
    (k : ∀ y s cc vs H2, Gd D H1 H2 → SvAt m H2 s cc x → RpA.rpa m H2 y vs → p y → sp (.ref s :: (vs ++ [])) H2 Q E) : tMeth C n sp [] E ta t σ H1 Q := h H1 g c _ fun x' v H2 g2 r e => by
  subst e
  obtain ⟨s, cc, rfl, a⟩ := r
  obtain ⟨dx, b, ho, _, _⟩ := id a.ob
  exact ⟨s, dx, _, rfl, ho, svf_none hn _ _ _ _, ha H2 (g.trans g2) (c.go g2) _ fun y vs H3 g3 ry py => k y s cc vs H3 (g2.trans g3) (a.gd (c.go g2) g3) ry py⟩
theorem ev_meth {pre : Sv C × A → Prop} {f : Sv C × A → R} {y : A} (h : EvV D m ta σ H x) (ha : EvAr D m t σ H fun z => z = y) (hp : pre (x, y)) (hn : n ≠ "many" ∧ n ≠ "pointers" ∧ n ≠ "most" ∧ n ≠ "cells" := by decide) : EvV D m (tMeth C n (SpF pre f) [] E ta t) σ H (f (x, y)) := fun H1 g c Q w =>
  meth_arg h ha hn g c fun y' s cc vs H2 g2 a ry e => by
    subst e
    exact ⟨m, (x, y'), (c.go g2).none, ⟨_, _, by rw [List.append_nil], ⟨s, cc, rfl, a⟩, ry⟩, hp, fun v H' g3 r => w _ v H' (g2.trans (.pure g3)) r rfl⟩
theorem el_meth {pre : Sv C × A → Prop} {f : Sv C × A → List β} {y : A} (h : EvV D m ta σ H x) (ha : EvAr D m t σ H fun z => z = y) (hp : pre (x, y)) (hn : n ≠ "many" ∧ n ≠ "pointers" ∧ n ≠ "most" ∧ n ≠ "cells" := by decide) : EvLV D m (tMeth C n (SpL pre f) [] E ta t) σ H (f (x, y)) := fun H1 g c Q w =>
  meth_arg h ha hn g c fun y' s cc vs H2 g2 a ry e => by
    subst e
    exact ⟨m, (x, y'), (c.go g2).none, ⟨_, _, by rw [List.append_nil], ⟨s, cc, rfl, a⟩, ry⟩, hp, fun v H' n g3 r => w _ v H' (g2.gr.dom v n) (g2.trans (.pure g3)) r rfl⟩
theorem ex_meth {pre : Sv C × A → Prop} {f : Sv C × A → Except Err R} {y : A} (h : EvV D m ta σ H x) (ha : EvAr D m t σ H fun z => z = y) (hp : pre (x, y)) (hn : n ≠ "many" ∧ n ≠ "pointers" ∧ n ≠ "most" ∧ n ≠ "cells" := by decide) : EvX T D m (tMeth C n (SpX T pre f) [] E ta t) σ H E (f (x, y)) := fun H1 g c Q w1 w2 =>
  meth_arg h ha hn g c fun y' s cc vs H2 g2 a ry e => by
    subst e
    exact ⟨m, (x, y'), (c.go g2).none, ⟨_, _, by rw [List.append_nil], ⟨s, cc, rfl, a⟩, ry⟩, hp, fun z ez v H' g3 r => w1 z ez v H' (g2.trans (.pure g3)) r, fun e ee cl d H' g3 r => w2 e ee cl d H' (g2.trans (.pure g3)) (r.from g2.gr)⟩
theorem ex_methL {pre : Sv C × A → Prop} {f : Sv C × A → Except Err (List β)} {y : A} (h : EvV D m ta σ H x) (ha : EvAr D m t σ H fun z => z = y) (hp : pre (x, y)) (hn : n ≠ "many" ∧ n ≠ "pointers" ∧ n ≠ "most" ∧ n ≠ "cells" := by decide) : EvXL T D m (tMeth C n (SpXL T pre f) [] E ta t) σ H E (f (x, y)) := fun H1 g c Q w1 w2 =>
  meth_arg h ha hn g c fun y' s cc vs H2 g2 a ry e => by
    subst e
    exact ⟨m, (x, y'), (c.go g2).none, ⟨_, _, by rw [List.append_nil], ⟨s, cc, rfl, a⟩, ry⟩, hp, fun z ez v H' n g3 r => w1 z ez v H' (g2.gr.dom v n) (g2.trans (.pure g3)) r, fun e ee cl d H' g3 r => w2 e ee cl d H' (g2.trans (.pure g3)) (r.from g2.gr)⟩

/-! ### put, take: the counts change -/
def SpMut (C : Addr) (T : Er) (f : Sv C → Int → Except Err (Sv C)) : Sp := fun vs H Q E => ∃ (m : List Addr) (s c : Addr) (x : Sv C) (key : Int), vs = [.ref s, .int key] ∧ Cc none m H ∧ SvAt m H s c x ∧ x.Ok ∧
  (∀ y, f x key = .ok y → ∀ H', Gr [c] H H' → SvAt m H' s c y → Q .non H') ∧ ∀ e, f x key = .error e → ∀ cl d H', Gr [] H H' → ErrAt T H H' e cl d → E cl d H'
variable {f : Sv C → Int → Except Err (Sv C)} {key : Int} {tk : TE} {cc : Addr}
theorem s_mut (c : Cc D m H) (hv : σ[i]? = some (some (.ref s))) (a : SvAt m H s cc x) (ok : x.Ok) (hk : EvV D m tk σ H key) (hn : n ≠ "many" ∧ n ≠ "pointers" ∧ n ≠ "most" ∧ n ≠ "cells")
    (k1 : ∀ y, f x key = .ok y → ∀ H1 H2, Gd D H H1 → Gr [cc] H1 H2 → SvAt m H2 s cc y → En.nx σ H2) (k2 : ∀ e, f x key = .error e → ∀ cl d H1, Gd D H H1 → ErrAt T H H1 e cl d → E cl d H1) :
    tDrop (tMeth C n (SpMut C T f) [] E (tVar i) (tCons tk tNil)) En σ H := by
  obtain ⟨dx, b, ho, _, _⟩ := id a.ob
  refine ⟨_, hv, s, dx, _, rfl, ho, svf_none hn _ _ _ _, hk H .refl c _ fun k v H1 g r e => ?_⟩
  subst e
  cases rp_int r
  exact ⟨m, s, cc, x, k, rfl, (c.go g).none, a.gd c g, ok, fun y ey H' g2 a2 => k1 y ey H1 H' g g2 a2, fun e ee cl d H' g2 z => k2 e ee cl d H' (g.trans (.pure g2)) (z.from g.gr)⟩
theorem s_mutS {E : St → XK} (c : Cc D m H) (hv : σ[i]? = some (some (.ref s))) (a : SvAt m H s cc x) (ok : x.Ok) (hk : EvV D m tk σ H key) (hn : n ≠ "many" ∧ n ≠ "pointers" ∧ n ≠ "most" ∧ n ≠ "cells")
    (k1 : ∀ y, f x key = .ok y → ∀ H1 H2, Gd D H H1 → Gr [cc] H1 H2 → SvAt m H2 s cc y → En.nx σ H2) (k2 : ∀ e, f x key = .error e → ∀ cl d H1, Gd D H H1 → ErrAt T H H1 e cl d → E σ cl d H1) :
    tDrop (tMethS C n (SpMut C T f) E (tVar i) (tCons tk tNil)) En σ H := by
  obtain ⟨dx, b, ho, _, _⟩ := id a.ob
  refine ⟨_, hv, s, dx, _, rfl, ho, svf_none hn _ _ _ _, hk H .refl c _ fun k v H1 g r e => ?_⟩
  subst e
  cases rp_int r
  exact ⟨m, s, cc, x, k, rfl, (c.go g).none, a.gd c g, ok, fun y ey H' g2 a2 => k1 y ey H1 H' g g2 a2, fun e ee cl d H' g2 z => k2 e ee cl d H' (g.trans (.pure g2)) (z.from g.gr)⟩
/-- self.cells[i] = e -/
theorem s_cell {i0 j : Nat} {tv : TE} {n k : Int} (c : Cc none m H) (hv : σ[i0]? = some (some (.ref s))) (hi : σ[j]? = some (some (.int k))) (a : SvAt m H s cc x) (cl : Cls K C) (na : NoAttr K C "cells") (h0 : 0 ≤ k) (h1 : k < x.cells.length) (he : EvV none m tv σ H n)
    (kk : ∀ H1, Gr [cc] H H1 → SvAt m H1 s cc ({ x with cells := x.cells.set k.toNat n } : Sv C) → En.nx σ H1) : tAsg tv (gSub (tFld K (tVar i0) "cells") (tVar j) rSetL) En σ H := he H .refl c _ fun y v H1 g r e => by
  subst e
  cases rp_int r
  have a1 := a.gd c g
  obtain ⟨dx, b, ho, _, _⟩ := id a1.ob
  refine ⟨_, hv, s, C, dx, _, _, rfl, ho, cl, na, rfl, _, hi, cc, _, k, k.toNat, rfl, rfl, a1.cl, ?_, ?_⟩
  · unfold ixN
    rw [if_pos h0, if_pos (by rw [List.length_map]; exact h1)]
  · have g2 : Gr [cc] H (upd H1 cc (.lst ((x.cells.map V.int).set k.toNat (.int y)))) := (g.gr0.any).put (by simp) a1.cl fun _ z => by cases z
    refine kk _ g2 (a.set g2 (l := x.cells.set k.toNat y) ?_)
    rw [upd_same, List.map_set]
/-- for x in e, e a new list -/
theorem s_forLL {g : TG} {t : TS} {xs : List α} (c : Cc D m H) (h : EvLV D m te σ H xs)
    (k : ∀ a vs H1, H a = none → Gd D H H1 → a ∉ m → H1 a = some (.lst vs) → Paired (Rp.rp m H1) xs vs → ∃ Pv : Nat → St → Hp → Prop, Pv 0 σ H1 ∧ (∀ j σ' H', Pv j σ' H' → H' a = some (.lst vs)) ∧
      (∀ (j : Nat) x v σ' H', xs[j]? = some x → Rp.rp m H1 x v → Pv j σ' H' → g v σ' H' fun σ2 H2 => t { En with nx := Pv (j + 1), ct := Pv (j + 1), bk := En.nx } σ2 H2) ∧ ∀ σ' H', Pv xs.length σ' H' → En.nx σ' H') :
    tFor (iList K te) g t En σ H := h H .refl c _ fun xs' a H1 nh gd o z => by
  subst z
  obtain ⟨n, vs, ha, ps⟩ := o
  obtain ⟨Pv, h0, hl, hs, hd⟩ := k a vs H1 nh gd n ha ps
  refine ⟨a, rfl, ⟨vs, .of ha⟩, for_list (K := K) (a := a) (xs := vs) Pv h0 (fun j σ' H' _ hp => .of (hl j σ' H' hp)) (fun j w σ' H' hj hp => ?_) (fun σ' H' hp => hd σ' H' (by rw [ps.length]; exact hp))⟩
  have hlt : j < xs'.length := by rw [ps.length]; exact (List.getElem?_eq_some_iff.mp hj).1
  obtain ⟨y, hy, ry⟩ := paired_at ps (List.getElem?_eq_getElem hlt)
  rw [hj] at hy
  cases hy
  exact hs j _ w σ' H' (List.getElem?_eq_getElem hlt) ry hp

/-! ### a new sieve -/
/-- all of it is new -/
def SvNew (H H' : Hp) (s c : Addr) (x : Sv C) : Prop := ∀ m', (∀ b, b ∈ m' → H b ≠ none) → SvAt m' H' s c x
theorem SvNew.at_ {c : Addr} (h : SvNew H H' s c x) (k : Cc D m H) : SvAt m H' s c x := h m k.dm
theorem SvNew.go {H2 : Hp} (h : SvNew H H' s c x) (g : Gr m' H' H2) (k : ∀ a, a ∈ m' → H a ≠ none) : SvNew H H2 s c x := fun m hm => ((h (m' ++ m) fun b hb => by
  rcases List.mem_append.mp hb with z | z
  · exact k b z
  · exact hm b z).gr g fun a ha => List.mem_append_left _ ha).less fun a ha => List.mem_append_right _ ha
/-- te comes to a new sieve, or raises -/
def EvS (T : Er) (D : Dst) (m : List Addr) (te : TE) (σ : St) (H : Hp) (E : XK) (r : Except Err (Sv C)) : Prop :=
  ∀ H1, Gd D H H1 → Cc D m H1 → ∀ Q : VK, (∀ x, r = .ok x → ∀ s c H2, H1 s = none → H1 c = none → Gd D H1 H2 → SvNew H1 H2 s c x → Q (.ref s) H2) → (∀ e, r = .error e → ∀ c d H2, Gd D H1 H2 → ErrAt T H1 H2 e c d → E c d H2) → te σ H1 Q
/-- Sieve.__init__ -/
def SpMk (C : Addr) (T : Er) : Sp := fun vs H Q E => ∃ (m : List Addr) (s dx : Addr) (size : Int) (hands : List (Int × Int)) (cap : Int) (hv : V), vs = [.ref s, .int size, hv, .int cap] ∧ Cc none m H ∧ s ∉ m ∧ H s = some (.ins C dx []) ∧ Rp.rp m H hands hv ∧ hands.length ≤ 90000 ∧
  (∀ y, mkS C size hands cap = .ok y → ∀ c H', H c = none → Gr [s] H H' → (∀ m', (∀ b, b ∈ m' → H b ≠ none) → s ∉ m' → SvAt m' H' s c y) → Q .non H') ∧ ∀ e, mkS C size hands cap = .error e → ∀ cl d H', Gr [s] H H' → ErrAt T H H' e cl d → E cl d H'
theorem gr_made {H1 H2 : Hp} {s dx : Addr} {u w : HO} (h : H s = none) (hd : H dx = none) (n : dx ≠ s) (g : Gr [s] (upd (upd H dx u) s w) H2) : Gr [] H H2 := by
  refine ⟨fun a o e _ => g.keep a o ?_ (by simpa using ne_of_none e h), fun a xs e => g.tup a xs ?_, fun a e => ?_⟩
  · rw [upd_ne (ne_of_none e h), upd_ne (ne_of_none e hd)]; exact e
  · rw [upd_ne (ne_of_none e h), upd_ne (ne_of_none e hd)]; exact e
  · have q := g.dom a e
    by_cases z : a = s
    · rw [z, upd_same] at q; cases q
    · rw [upd_ne z] at q
      by_cases z2 : a = dx
      · rw [z2, upd_same] at q; cases q
      · rw [upd_ne z2] at q; exact q
theorem es_make {size cap : Int} {hands : List (Int × Int)} (h : EvAr D m t σ H fun y => y = (size, hands, cap, ())) (hl : hands.length ≤ 90000) : EvS T D m (tMake C (SpMk C T) [] E t) σ H E (mkS C size hands cap) := fun H1 g c Q w1 w2 => h H1 g c _ fun y vs H2 g2 r e => by
  subst e
  obtain ⟨v, r1, rfl, rs, v2, r2, rfl, rh, v3, r3, rfl, rc, rfl⟩ := r
  cases (show v = V.int size from rs)
  cases (show v3 = V.int cap from rc)
  intro s dx hs hd ne
  have c2 := c.go g2
  have gm : Gr [] H2 (upd (upd H2 dx (.own s)) s (.ins C dx [])) := (Gr.new hd).mut hs
  refine ⟨m, s, dx, size, hands, cap, v2, rfl, (c2.go (.pure gm)).none, c2.free hs, upd_same, rp_g0 rh gm, hl, fun y ey cc H' hc g3 a => ⟨rfl, ?_⟩, fun e ee cl d H' g3 z => ?_⟩
  · refine w1 y ey s cc H' (g2.gr.dom s hs) (g2.gr.dom cc (gm.dom cc hc)) (g2.trans (.pure (gr_made (H1 := H2) hs hd ne g3))) fun m' hm' => ?_
    have hm2 : ∀ b, b ∈ m' → H2 b ≠ none := fun b hb z => hm' b hb (g2.gr.dom b z)
    exact a m' (fun b hb z => hm2 b hb (gm.dom b z)) fun z => hm2 s z hs
  · exact w2 e ee cl d H' (g2.trans (.pure (gr_made (H1 := H2) hs hd ne g3))) ((z.from gm).from g2.gr)
theorem EvS.ok {E : XK} {r : Except Err (Sv C)} {x : Sv C} (h : EvS T D m te σ H E r) (e : r = .ok x) (c : Cc D m H) {P : St → Hp → Prop} (k : ∀ s c H1, H s = none → H c = none → Gd D H H1 → SvNew H H1 s c x → P (σ.set i (some (.ref s))) H1) : te σ H fun v H1 => gName i v σ H1 P :=
  h H .refl c _ (fun y ey s cc H2 n1 n2 g a => by rw [e] at ey; cases ey; exact k s cc H2 n1 n2 g a) fun y ey => by rw [e] at ey; cases ey
theorem s_setS {r : Except Err (Sv C)} (c : Cc D m H) (h : EvS T D m te σ H E r) (k1 : ∀ x, r = .ok x → ∀ s cc H1, H s = none → H cc = none → Gd D H H1 → SvNew H H1 s cc x → En.nx (σ.set i (some (.ref s))) H1) (k2 : ∀ e, r = .error e → ∀ c d H1, Gd D H H1 → ErrAt T H H1 e c d → E c d H1) : tAsg te (gName i) En σ H :=
  h H .refl c _ (fun x ex s cc H1 n1 n2 g a => k1 x ex s cc H1 n1 n2 g a) k2
theorem q_setS {z : TS} {r : Except Err (Sv C)} (c : Cc D m H) (h : EvS T D m te σ H E r) (k1 : ∀ x, r = .ok x → ∀ s cc H1, H s = none → H cc = none → Gd D H H1 → SvNew H H1 s cc x → z En (σ.set i (some (.ref s))) H1) (k2 : ∀ e, r = .error e → ∀ c d H1, Gd D H H1 → ErrAt T H H1 e c d → E c d H1) : tSeq (tAsg te (gName i)) z En σ H := s_setS (En := { En with nx := z En }) c h k1 k2
theorem q_mkS {z : TS} {r : Except Err (Sv C)} {x : Sv C} (c : Cc D m H) (h : EvS T D m te σ H E r) (e : r = .ok x) (k1 : ∀ s cc H1, H s = none → H cc = none → Gd D H H1 → SvNew H H1 s cc x → z En (σ.set i (some (.ref s))) H1) : tSeq (tAsg te (gName i)) z En σ H := q_setS c h (fun y ey => by rw [e] at ey; cases ey; exact k1) fun y ey => by rw [e] at ey; cases ey
theorem s_retS {r : Except Err (Sv C)} (c : Cc D m H) (h : EvS T D m te σ H E r) (k1 : ∀ x, r = .ok x → ∀ s cc H1, H s = none → H cc = none → Gd D H H1 → SvNew H H1 s cc x → En.rt (.ref s) H1) (k2 : ∀ e, r = .error e → ∀ c d H1, Gd D H H1 → ErrAt T H H1 e c d → E c d H1) : tRet te En σ H :=
  h H .refl c _ (fun x ex s cc H1 n1 n2 g a => k1 x ex s cc H1 n1 n2 g a) k2
/-- fewer places that may change: for data without lists -/
theorem Cc.less (c : Cc D m H) (h : ∀ a, a ∈ m' → a ∈ m) (hd : ∀ a, a ∈ D.m → a ∈ m') : Cc D m' H := ⟨hd, fun a z => c.dm a (h a z), c.ok⟩
theorem Ev.less [Nl α] {p : α → Prop} (hv : Ev D m' te σ H p) (h : ∀ a, a ∈ m' → a ∈ m) (hd : ∀ a, a ∈ D.m → a ∈ m') : Ev D m te σ H p := fun H1 g c Q w => hv H1 g (c.less h hd) Q fun x v H2 g2 r => w x v H2 g2 (rp_nl r fun _ _ e => e)
theorem EvL.less [Nl α] {p : List α → Prop} (hv : EvL D m' te σ H p) (h : ∀ a, a ∈ m' → a ∈ m) (hd : ∀ a, a ∈ D.m → a ∈ m') : EvL D m te σ H p := fun H1 g c Q w => hv H1 g (c.less h hd) Q fun xs a H2 n g2 ⟨_, vs, e, ps⟩ => w xs a H2 n g2 ⟨c.free n, vs, e, paired_go ps fun _ _ r => rp_nl r fun _ _ e => e⟩
theorem EvT.less {tt : TT} {p : Bool → Prop} (hv : EvT D m' tt σ H p) (h : ∀ a, a ∈ m' → a ∈ m) (hd : ∀ a, a ∈ D.m → a ∈ m') : EvT D m tt σ H p := fun H1 g c Q w => hv H1 g (c.less h hd) Q w
end
/-! ### more statements -/
section
variable {C : Addr} {α β A R : Type} [Rp α] [Rp β] [RpA A] [Rp R] {K : PySem.W.Frag} {D : Dst} {m m' : List Addr} {σ : St} {H H' : Hp} {s c : Addr} {x : Sv C} {v : V} {ta tb te : TE} {t : TA} {T : Er} {En : Ends} {i : Nat} {E : XK} {z u : TS}
theorem q_dnew (c : Cc D m H) (k : ∀ d H1, H d = none → Gd D H H1 → DAt m H1 d [] → z En (σ.set i (some (.ref d))) H1) : tSeq (tAsg tDNewK (gName i)) z En σ H := s_dnew (En := { En with nx := z En }) c k
/-- a new dict of numbers is answered -/
def SpDc (pre : A → Prop) (f : A → List (Int × Int)) : Sp := fun vs H Q _ => ∃ m x, Cc none m H ∧ RpA.rpa m H x vs ∧ pre x ∧ ∀ d H', H d = none → Gr [] H H' → DAt m H' d (f x) → Q (.ref d) H'
theorem q_setD {pre : A → Prop} {f : A → List (Int × Int)} {y : A} (c : Cc D m H) (h : EvAr D m t σ H fun x => x = y) (hp : pre y) (k : ∀ d H1, H d = none → Gd D H H1 → DAt m H1 d (f y) → z En (σ.set i (some (.ref d))) H1) : tSeq (tAsg (tCall (SpDc pre f) [] E t) (gName i)) z En σ H := h H .refl c _ fun x vs H1 g r e => by
  subst e
  exact ⟨m, x, (c.go g).none, (by rw [List.append_nil]; exact r), hp, fun d H2 n g2 a => k d H2 (g.gr.dom d n) (g.trans (.pure g2)) a⟩
theorem look_of_mem {cs : List Int} {kv : Int × Int} (h : kv ∈ tally cs) : look (tally cs) kv.1 = some kv.2 := by
  obtain ⟨h1, h2⟩ := (tally_mem cs kv.1 kv.2).mp h
  rw [look_tally, if_pos h1, h2]
/-- tuple(x) of a pair -/
def rTuple (K : PySem.W.Frag) : List V → Hp → VK → Prop := fun xs H Q => ∃ p ys, xs = [.ref p] ∧ ((SqL K H p ys ∧ ∀ l, H l = none → Q (.ref l) (upd H l (.tup ys))) ∨ (SqT K H p ys ∧ Q (.ref p) H))
theorem ev_tupleP {p : α × β} (h : EvV D m ta σ H p) : EvV D m (tCB (rTuple K) (tCons ta tNil)) σ H p := fun H1 g c Q w => h H1 g c _ fun p' v H2 g2 r e => by
  obtain ⟨a, u, w', rfl, ha, r1, r2⟩ := id r
  exact ⟨a, _, rfl, .inr ⟨.of ha, w p' _ H2 g2 r e⟩⟩
/-- [x] * n -/
theorem el_rep0 {n k : Int} (h : EvV D m ta σ H k) (hb : EvV D m tb σ H n) (h0 : 0 ≤ n) (h1 : n ≤ 100000) : EvLV D m (tOp rRep (tLst (tCons ta tNil)) tb) σ H (List.replicate n.toNat k) := fun H1 g c Q w =>
  (el_lst (ei_consV h ei_nil) (fun xs e => by rw [e]; show 1 ≤ 100000; decide)).ev H1 g c _ fun xs v H2 g2 r e => hb H2 (g.trans g2) (c.go g2) _ fun n' v' H3 g3 r' e' => by
    subst e e'
    cases rp_int r'
    obtain ⟨a, vs, rfl, nm, ha, ps⟩ := rp_lst (rp_gd r (c.go g2) g3)
    have := paired_ints ps
    subst this
    refine ⟨a, n', _, rfl, rfl, ha, by omega, by omega, ?_, fun p hp => ?_⟩
    · rw [List.length_map, List.length_singleton, Nat.one_mul]; exact Evl.sz_of (by omega)
    · refine w _ p _ ((g2.trans g3).gr.dom p hp) ((g2.trans g3).trans (.new hp)) (.of_ints (((c.go g2).go g3).free hp) ?_) rfl
      rw [upd_same]
      congr 2
      generalize n'.toNat = j
      induction j with
      | zero => rfl
      | succ j ih => rw [List.replicate_succ, List.flatten_cons, ih, List.replicate_succ]; rfl
/-- an instance is no list -/
theorem rp_insL [Nl α] {xs : List α} {Cl dx : Addr} {fs : List (Str × V)} (r : Rp.rp m H xs v) (h : H s = some (.ins Cl dx fs)) : Rp.rp (s :: m) H xs v := by
  obtain ⟨a, vs, e, n, ha, ps⟩ := r
  refine ⟨a, vs, e, ?_, ha, paired_go ps fun _ _ r => rp_nl r fun _ _ e => e⟩
  intro z
  rcases List.mem_cons.mp z with z | z
  · rw [z, h] at ha; cases ha
  · exact n z
/-- if not e: .., e perhaps raising -/
theorem q_whenNX {w : TS} {r : Except Err Bool} (c : Cc D m H) (h : EvX T D m te σ H E r) (k1 : r = .ok true → ∀ H1, Gd D H H1 → z En σ H1) (k0 : r = .ok false → ∀ H1, Gd D H H1 → w { En with nx := z En } σ H1) (k2 : ∀ e, r = .error e → ∀ c d H1, Gd D H H1 → ErrAt T H H1 e c d → E c d H1) : tSeq (tIfS (tNot (tB te)) w tNext) z En σ H :=
  h H .refl c _ (fun b e v H1 g rb => by
    cases rp_bool rb
    refine ⟨b, rfl, ?_⟩
    cases b with
    | true => exact k1 e H1 g
    | false => exact k0 e H1 g) k2
/-- xs[i] = e -/
theorem s_item {i0 j : Nat} {tv : TE} {n k : Int} {a : Addr} {l : List Int} (c : Cc D m H) (hv : σ[i0]? = some (some (.ref a))) (hi : σ[j]? = some (some (.int k))) (o : Own m H a l) (h0 : 0 ≤ k) (h1 : k < l.length) (he : EvV D m tv σ H n)
    (kk : ∀ H1 H2, Gd D H H1 → (∃ o, H2 = upd H1 a o) → Own m H2 a (l.set k.toNat n) → En.nx σ H2) : tAsg tv (gSub (tVar i0) (tVar j) rSetL) En σ H := he H .refl c _ fun y v H1 g r e => by
  subst e
  cases rp_int r
  have o1 := o.gd c g
  refine ⟨_, hv, _, hi, a, _, k, k.toNat, rfl, rfl, o1.ints, ?_, ?_⟩
  · unfold ixN
    rw [if_pos h0, if_pos (by rw [List.length_map]; exact h1)]
  · refine kk H1 _ g ⟨_, rfl⟩ ?_
    rw [show (l.map V.int).set k.toNat (V.int y) = (l.set k.toNat y).map V.int by rw [List.map_set]]
    exact .of_ints o.1 upd_same
theorem q_forLL {g : TG} {t : TS} {xs : List α} (c : Cc D m H) (h : EvLV D m te σ H xs)
    (k : ∀ a vs H1, H a = none → Gd D H H1 → a ∉ m → H1 a = some (.lst vs) → Paired (Rp.rp m H1) xs vs → ∃ Pv : Nat → St → Hp → Prop, Pv 0 σ H1 ∧ (∀ j σ' H', Pv j σ' H' → H' a = some (.lst vs)) ∧
      (∀ (j : Nat) x v σ' H', xs[j]? = some x → Rp.rp m H1 x v → Pv j σ' H' → g v σ' H' fun σ2 H2 => t { En with nx := Pv (j + 1), ct := Pv (j + 1), bk := z En } σ2 H2) ∧ ∀ σ' H', Pv xs.length σ' H' → z En σ' H') :
    tSeq (tFor (iList K te) g t) z En σ H := s_forLL (En := { En with nx := z En }) c h k
/-- a call whose answer is no list, its arguments known by fewer places that may change -/
theorem SvAt.more {p : Addr} (h : SvAt m H s c x) (hp : H p = none) : SvAt (p :: m) H s c x := h.go (fun a o e n => ⟨fun q => (List.mem_cons.mp q).elim (fun q => ne_of_none e hp q) n, e⟩) fun _ _ e => e
/-- s.f = e, e a new list -/
theorem s_fldLV {f : Str} {Cl dx : Addr} {fs : List (Str × V)} {xs : List α} (c : Cc none m H) (hv : σ[i]? = some (some (.ref s))) (hs : H s = some (.ins Cl dx fs)) (cl : Cls K Cl) (na : NoAttr K Cl f) (hl : fs.length < 1000) (h : EvLV none m te σ H xs)
    (k : ∀ a H1, H a = none → Gd none H H1 → Own m H1 a xs → En.nx σ (upd H1 s (.ins Cl dx (putF f (.ref a) fs)))) : sFld K (tVar i) te f En σ H := h H .refl c _ fun ys a H1 n g o e => by
  subst e
  exact ⟨_, hv, s, Cl, dx, fs, rfl, g.gr0.at0 hs, cl, na, hl, k a H1 n g o⟩
theorem q_fldLV {f : Str} {Cl dx : Addr} {fs : List (Str × V)} {xs : List α} (c : Cc none m H) (hv : σ[i]? = some (some (.ref s))) (hs : H s = some (.ins Cl dx fs)) (cl : Cls K Cl) (na : NoAttr K Cl f) (hl : fs.length < 1000) (h : EvLV none m te σ H xs)
    (k : ∀ a H1, H a = none → Gd none H H1 → Own m H1 a xs → z En σ (upd H1 s (.ins Cl dx (putF f (.ref a) fs)))) : tSeq (sFld K (tVar i) te f) z En σ H := s_fldLV (En := { En with nx := z En }) c hv hs cl na hl h k
/-- for x in xs, xs a name's list at a -/
theorem s_forV {H0 : Hp} {g : TG} {t : TS} {xs : List α} {a : Addr} {vs : List V} (hv : σ[i]? = some (some (.ref a))) (ha : H a = some (.lst vs)) (ps : Paired (Rp.rp m H0) xs vs) (Pv : Nat → St → Hp → Prop) (h0 : Pv 0 σ H) (hl : ∀ j σ' H', Pv j σ' H' → H' a = some (.lst vs))
    (hs : ∀ (j : Nat) x v σ' H', xs[j]? = some x → Rp.rp m H0 x v → Pv j σ' H' → g v σ' H' fun σ2 H2 => t { En with nx := Pv (j + 1), ct := Pv (j + 1), bk := En.nx } σ2 H2) (hd : ∀ σ' H', Pv xs.length σ' H' → En.nx σ' H') : tFor (iList K (tVar i)) g t En σ H := by
  refine ⟨_, hv, a, rfl, ⟨vs, .of ha⟩, for_list (K := K) (a := a) (xs := vs) Pv h0 (fun j σ' H' _ hp => .of (hl j σ' H' hp)) (fun j w σ' H' hj hp => ?_) (fun σ' H' hp => hd σ' H' (by rw [ps.length]; exact hp))⟩
  have hlt : j < xs.length := by rw [ps.length]; exact (List.getElem?_eq_some_iff.mp hj).1
  obtain ⟨y, hy, ry⟩ := paired_at ps (List.getElem?_eq_getElem hlt)
  rw [hj] at hy
  cases hy
  exact hs j _ w σ' H' (List.getElem?_eq_getElem hlt) ry hp
theorem q_forV {H0 : Hp} {g : TG} {t : TS} {xs : List α} {a : Addr} {vs : List V} (hv : σ[i]? = some (some (.ref a))) (ha : H a = some (.lst vs)) (ps : Paired (Rp.rp m H0) xs vs) (Pv : Nat → St → Hp → Prop) (h0 : Pv 0 σ H) (hl : ∀ j σ' H', Pv j σ' H' → H' a = some (.lst vs))
    (hs : ∀ (j : Nat) x v σ' H', xs[j]? = some x → Rp.rp m H0 x v → Pv j σ' H' → g v σ' H' fun σ2 H2 => t { En with nx := Pv (j + 1), ct := Pv (j + 1), bk := z En } σ2 H2) (hd : ∀ σ' H', Pv xs.length σ' H' → z En σ' H') : tSeq (tFor (iList K (tVar i)) g t) z En σ H := s_forV (En := { En with nx := z En }) hv ha ps Pv h0 hl hs hd
theorem take_snoc {xs : List α} {j : Nat} {y : α} (h : xs[j]? = some y) : xs.take (j + 1) = xs.take j ++ [y] := by rw [List.take_add_one, h]; rfl
end
end KS
set_option Elab.async false
set_option linter.all false
set_option maxRecDepth 100000
set_option maxHeartbeats 4000000
namespace KS
open PySem L2
/-! ### what cells count: plain laws -/
def plus (l : List Int) (i : Int) : List Int := l.set i.toNat (cat l i + 1)
theorem plus_len (l : List Int) (i : Int) : (plus l i).length = l.length := by unfold plus; simp
/-- how often the keys point to each cell -/
def raw (keys : List Int) (size : Int) (hands : List (Int × Int)) : List Int := keys.foldl (fun l k => (pointed hands size k).foldl plus l) (List.replicate size.toNat 0)
def counts (keys : List Int) (size : Int) (hands : List (Int × Int)) (cap : Int) : List Int := (raw keys size hands).map fun n => min cap n
theorem cat_set {l : List Int} {i j v : Int} (h0 : 0 ≤ i) (h1 : i < l.length) (hj : 0 ≤ j) : cat (l.set i.toNat v) j = if j = i then v else cat l j := by
  unfold cat
  rw [List.getElem?_set]
  by_cases e : j = i
  · subst e
    rw [if_pos rfl, if_pos rfl, if_pos (by omega)]
    rfl
  · rw [if_neg (by omega), if_neg e]
theorem atI_cat {l : List Int} {i : Int} (h0 : 0 ≤ i) (h1 : i < l.length) : atI l i = some (cat l i) := by
  have hl : i.toNat < l.length := by omega
  have : i = (i.toNat : Int) := by omega
  rw [this, atI_nat (List.getElem?_eq_getElem hl)]
  unfold cat
  rw [← this, List.getElem?_eq_getElem hl]
  rfl
theorem ext_cat {a b : List Int} (hl : a.length = b.length) (h : ∀ i : Int, 0 ≤ i → i < a.length → cat a i = cat b i) : a = b := by
  refine List.ext_getElem hl fun n h1 h2 => ?_
  have q := h (n : Int) (by omega) (by omega)
  unfold cat at q
  rw [show ((n : Int)).toNat = n by omega, List.getElem?_eq_getElem h1, List.getElem?_eq_getElem h2] at q
  exact q
theorem cat_map {l : List Int} {f : Int → Int} {i : Int} (h0 : 0 ≤ i) (h1 : i < l.length) : cat (l.map f) i = f (cat l i) := by
  have hl : i.toNat < l.length := by omega
  unfold cat
  rw [List.getElem?_map, List.getElem?_eq_getElem hl]
  rfl
theorem cat_rep {n : Nat} {i k : Int} (h : i.toNat < n) : cat (List.replicate n k) i = k := by
  unfold cat
  rw [List.getElem?_replicate, if_pos h]
  rfl
def InR (n : Nat) (ps : List Int) : Prop := ∀ p, p ∈ ps → 0 ≤ p ∧ p < (n : Int)
theorem cat_plus {l : List Int} {ps : List Int} {j : Int} (h : InR l.length ps) (hj : 0 ≤ j) : cat (ps.foldl plus l) j = cat l j + (ps.count j : Int) := by
  induction ps generalizing l with
  | nil => simp
  | cons p ps ih =>
    rw [List.foldl_cons, ih (fun q hq => by rw [plus_len]; exact h q (by simp [hq]))]
    have hp := h p (by simp)
    unfold plus
    rw [cat_set hp.1 hp.2 hj, List.count_cons]
    by_cases e : j = p
    · subst e; simp; omega
    · have : ¬ (p = j) := fun z => e z.symm
      simp [e, this]
theorem cat_dec {l : List Int} {ps : List Int} {j : Int} (h : InR l.length ps) (hj : 0 ≤ j) : cat (ps.foldl dec1 l) j = cat l j - (ps.count j : Int) := by
  induction ps generalizing l with
  | nil => simp
  | cons p ps ih =>
    rw [List.foldl_cons, ih (fun q hq => by rw [dec1_len]; exact h q (by simp [hq]))]
    have hp := h p (by simp)
    unfold dec1
    rw [cat_set hp.1 hp.2 hj, List.count_cons]
    by_cases e : j = p
    · subst e; simp; omega
    · have : ¬ (p = j) := fun z => e z.symm
      simp [e, this]
theorem cat_inc {cap : Int} {l : List Int} {ps : List Int} {j : Int} (h : InR l.length ps) (hj : 0 ≤ j) (hc : cat l j ≤ cap) : cat (ps.foldl (inc cap) l) j = min cap (cat l j + (ps.count j : Int)) := by
  induction ps generalizing l with
  | nil => simp; omega
  | cons p ps ih =>
    have hp := h p (by simp)
    have e1 : cat (inc cap l p) j = if j = p then min cap (cat l p + 1) else cat l j := by unfold inc; rw [cat_set hp.1 hp.2 hj]
    rw [List.foldl_cons, ih (fun q hq => by rw [inc_len]; exact h q (by simp [hq])) (by rw [e1]; split <;> omega), e1, List.count_cons]
    by_cases e : j = p
    · subst e; simp; omega
    · have : ¬ (p = j) := fun z => e z.symm
      simp [e, this]
/-- how often keys point to j -/
def cnt (keys : List Int) (size : Int) (hands : List (Int × Int)) (j : Int) : Int := (keys.map fun k => ((pointed hands size k).count j : Int)).sum
theorem inR_pointed {n : Nat} {size key : Int} {hands : List (Int × Int)} (h0 : 0 < size) (hn : (n : Int) = size) : InR n (pointed hands size key) := fun p hp => by
  have := pointed_mem h0 hp
  omega
theorem raw_len (keys : List Int) (size : Int) (hands : List (Int × Int)) : (raw keys size hands).length = size.toNat := by
  have inner : ∀ (keys : List Int) (l : List Int), (keys.foldl (fun l k => (pointed hands size k).foldl plus l) l).length = l.length := fun keys => by
    induction keys with
    | nil => intro l; rfl
    | cons a r ih => intro l; rw [List.foldl_cons, ih, foldl_len plus_len]
  unfold raw
  rw [inner, List.length_replicate]
theorem raw_snoc (keys : List Int) (k size : Int) (hands : List (Int × Int)) : raw (keys ++ [k]) size hands = (pointed hands size k).foldl plus (raw keys size hands) := by
  unfold raw
  rw [List.foldl_append]
  rfl
theorem cat_raw {keys : List Int} {size : Int} {hands : List (Int × Int)} {j : Int} (h0 : 0 < size) (hj : 0 ≤ j) (hj1 : j < size) : cat (raw keys size hands) j = cnt keys size hands j := by
  induction keys using snoc_ind with
  | nil => unfold raw cnt; rw [List.foldl_nil, cat_rep (by omega)]; rfl
  | snoc keys k ih =>
    rw [raw_snoc, cat_plus (inR_pointed h0 (by rw [raw_len]; omega)) hj, ih]
    unfold cnt
    rw [List.map_append, List.sum_append]
    simp
theorem counts_len (keys : List Int) (size : Int) (hands : List (Int × Int)) (cap : Int) : (counts keys size hands cap).length = size.toNat := by unfold counts; rw [List.length_map, raw_len]
theorem cat_counts {keys : List Int} {size : Int} {hands : List (Int × Int)} {cap j : Int} (h0 : 0 < size) (hj : 0 ≤ j) (hj1 : j < size) : cat (counts keys size hands cap) j = min cap (cnt keys size hands j) := by
  unfold counts
  rw [cat_map hj (by rw [raw_len]; omega), cat_raw h0 hj hj1]
theorem cnt_nonneg (keys : List Int) (size : Int) (hands : List (Int × Int)) (j : Int) : 0 ≤ cnt keys size hands j := by
  unfold cnt
  induction keys with
  | nil => simp
  | cons a r ih => rw [List.map_cons, List.sum_cons]; omega
theorem cnt_append (a b : List Int) (size : Int) (hands : List (Int × Int)) (j : Int) : cnt (a ++ b) size hands j = cnt a size hands j + cnt b size hands j := by
  unfold cnt
  rw [List.map_append, List.sum_append]
theorem cnt_one (k size : Int) (hands : List (Int × Int)) (j : Int) : cnt [k] size hands j = ((pointed hands size k).count j : Int) := by unfold cnt; simp
/-- one of the keys taken out of the list -/
theorem cnt_erase {keys : List Int} {n : Nat} {k size : Int} {hands : List (Int × Int)} {j : Int} (h : keys[n]? = some k) : cnt keys size hands j = cnt (keys.eraseIdx n) size hands j + ((pointed hands size k).count j : Int) := by
  induction keys generalizing n with
  | nil => simp at h
  | cons a r ih =>
    cases n with
    | zero =>
      simp at h
      subst h
      rw [List.eraseIdx_cons_zero, ← cnt_one, ← List.singleton_append, cnt_append]
      omega
    | succ n =>
      rw [List.eraseIdx_cons_succ, ← List.singleton_append, cnt_append, ih (by simpa using h), ← List.singleton_append (l := r.eraseIdx n), cnt_append]
      omega
theorem cnt_mem {keys : List Int} {k size : Int} {hands : List (Int × Int)} {j : Int} (h : k ∈ keys) : ((pointed hands size k).count j : Int) ≤ cnt keys size hands j := by
  obtain ⟨n, hn⟩ := List.mem_iff_getElem?.mp h
  rw [cnt_erase hn]
  have := cnt_nonneg (keys.eraseIdx n) size hands j
  omega
section
variable {C : Addr}
/-- the sieve with just these keys in -/
def svOf (C : Addr) (keys : List Int) (size : Int) (hands : List (Int × Int)) (cap : Int) : Sv C := ⟨size, hands, cap, counts keys size hands cap⟩
variable {keys : List Int} {size cap k : Int} {hands : List (Int × Int)}
theorem svOf_new (h0 : 0 < size) (hc : 0 ≤ cap) : Sv.new C size hands cap = svOf C [] size hands cap := by
  unfold Sv.new svOf counts raw
  rw [List.foldl_nil, List.map_replicate, show min cap 0 = 0 by omega]
theorem svOf_ok (h0 : 0 < size) (h1 : size ≤ 1000) (hh : hands.length ≤ 1000) : (svOf C keys size hands cap).Ok := ⟨h0, h1, hh, by unfold svOf; dsimp only; rw [counts_len]; omega⟩
theorem svOf_put (h0 : 0 < size) (k : Int) : (svOf C keys size hands cap).put1 k = svOf C (keys ++ [k]) size hands cap := by
  unfold Sv.put1 svOf
  dsimp only
  congr 1
  have hr : InR (counts keys size hands cap).length (pointed hands size k) := inR_pointed h0 (by rw [counts_len]; omega)
  refine ext_cat (by rw [foldl_len (inc_len _), counts_len, counts_len]) fun i hi hi1 => ?_
  rw [foldl_len (inc_len _), counts_len] at hi1
  rw [cat_inc hr hi (by rw [cat_counts h0 hi (by omega)]; omega), cat_counts h0 hi (by omega), cat_counts h0 hi (by omega), cnt_append, cnt_one]
  omega
theorem yes_iff {x : Sv C} {k : Int} : x.yes k = true ↔ ∀ c, c ∈ pointed x.hands x.size k → min x.cap ((pointed x.hands x.size k).count c : Int) ≤ cat x.cells c := by
  unfold Sv.yes
  rw [decide_eq_true_eq, List.map_eq_nil_iff, List.filter_eq_nil_iff]
  unfold poorB wanted
  constructor
  · intro h c hc
    have q := h (c, _) ((tally_mem _ c _).mpr ⟨hc, rfl⟩)
    simp at q
    omega
  · rintro h ⟨c, n⟩ hm
    obtain ⟨hc, rfl⟩ := (tally_mem _ c n).mp hm
    have := h c hc
    simp
    omega
theorem svOf_yes (h0 : 0 < size) (h : k ∈ keys) : (svOf C keys size hands cap).yes k = true := by
  rw [yes_iff]
  unfold svOf
  dsimp only
  intro c hc
  have hp := pointed_mem h0 hc
  rw [cat_counts h0 hp.1 hp.2]
  have := cnt_mem (size := size) (hands := hands) (j := c) h
  omega
theorem stuck_eq (x : Sv C) (k : Int) : x.stuck k = sset ((pointed x.hands x.size k).filter fun c => decide (cat x.cells c = x.cap)) := by
  refine lt_unique ?_ (sset_lt _) fun c => ?_
  · unfold Sv.stuck
    have h1 := isort_le (((wanted x k).filter fun kv => decide (cat x.cells kv.1 = x.cap)).map (·.1))
    have h2 : (isort (((wanted x k).filter fun kv => decide (cat x.cells kv.1 = x.cap)).map (·.1))).Nodup := (isort_perm _).nodup_iff.mpr (by
      have q := tally_keys_nodup (pointed x.hands x.size k)
      exact q.sublist (List.Sublist.map _ List.filter_sublist))
    have := h1.and h2
    exact this.imp fun ⟨a, b⟩ => by omega
  · rw [sset_mem]
    unfold Sv.stuck
    rw [isort_mem, List.mem_filter, List.mem_map]
    constructor
    · rintro ⟨⟨c', n⟩, hm, rfl⟩
      obtain ⟨h1, h2⟩ := List.mem_filter.mp hm
      exact ⟨((tally_mem _ c' n).mp h1).1, h2⟩
    · rintro ⟨hc, h2⟩
      exact ⟨(c, _), List.mem_filter.mpr ⟨(tally_mem _ c _).mpr ⟨hc, rfl⟩, h2⟩, rfl⟩
theorem stuck_nil {x : Sv C} {k : Int} : x.stuck k = [] ↔ ∀ c, c ∈ pointed x.hands x.size k → cat x.cells c ≠ x.cap := by
  rw [stuck_eq]
  constructor
  · intro h c hc e
    have : c ∈ sset ((pointed x.hands x.size k).filter fun c => decide (cat x.cells c = x.cap)) := sset_mem.mpr (List.mem_filter.mpr ⟨hc, by simpa using e⟩)
    rw [h] at this
    simp at this
  · intro h
    refine List.eq_nil_iff_forall_not_mem.mpr fun c hc => ?_
    obtain ⟨h1, h2⟩ := List.mem_filter.mp (sset_mem.mp hc)
    exact h c h1 (by simpa using h2)
theorem svOf_take {n : Nat} (h0 : 0 < size) (hn : keys[n]? = some k) (hs : (svOf C keys size hands cap).stuck k = []) : (svOf C keys size hands cap).take1 k = svOf C (keys.eraseIdx n) size hands cap := by
  have hs' := stuck_nil.mp hs
  unfold svOf at hs'
  dsimp only at hs'
  unfold Sv.take1 svOf
  dsimp only
  congr 1
  have hr : InR (counts keys size hands cap).length (pointed hands size k) := inR_pointed h0 (by rw [counts_len]; omega)
  refine ext_cat (by rw [foldl_len dec1_len, counts_len, counts_len]) fun i hi hi1 => ?_
  rw [foldl_len dec1_len, counts_len] at hi1
  rw [cat_dec hr hi, cat_counts h0 hi (by omega), cat_counts h0 hi (by omega), cnt_erase hn]
  have nn := cnt_nonneg (keys.eraseIdx n) size hands i
  by_cases hm : i ∈ pointed hands size k
  · have q := hs' i hm
    rw [cat_counts h0 hi (by omega), cnt_erase hn] at q
    omega
  · rw [List.count_eq_zero.mpr hm]
    omega
theorem says_ok {x : Sv C} (h : KeyOk k) : x.says k = .ok (x.yes k) := if_pos h
theorem put_ok {x : Sv C} (h : KeyOk k) : x.put k = .ok (x.put1 k) := if_pos h
theorem take_ok {x : Sv C} (h : KeyOk k) (hy : x.yes k = true) (hs : x.stuck k = []) : x.take k = .ok (x.take1 k) := by
  have : x.may k = .ok () := by
    unfold Sv.may
    rw [if_pos (show 0 ≤ k ∧ k < 10007 from h), if_pos hy, if_pos hs]
  unfold Sv.take
  rw [this]
theorem mkS_ok (h0 : 1 ≤ size) (h1 : size ≤ 96) (hh : HandsOk 6 hands) (c0 : 1 ≤ cap) (c1 : cap ≤ 9) : mkS C size hands cap = .ok (Sv.new C size hands cap) := by
  have e1 : chkSize size = .ok () := if_pos ⟨h0, h1⟩
  have e2 : chkHands hands = .ok () := if_pos (by
    unfold handsB
    obtain ⟨a, b, d⟩ := hh
    rw [Bool.and_eq_true, List.all_eq_true]
    refine ⟨decide_eq_true ⟨a, by omega⟩, fun h hm => ?_⟩
    obtain ⟨z1, z2, z3, z4⟩ := d h hm
    simp
    omega)
  have e3 : chkCap cap = .ok () := if_pos ⟨c0, c1⟩
  unfold mkS
  rw [e1]
  show (do chkHands hands; chkCap cap; return Sv.new C size hands cap : Except Err _) = _
  rw [e2]
  show (do chkCap cap; return Sv.new C size hands cap : Except Err _) = _
  rw [e3]
  rfl
end
end KS
set_option Elab.async false
set_option linter.all false
set_option maxRecDepth 100000
set_option maxHeartbeats 4000000
namespace KS
open PySem L2
/-! ### defs that answer new sieves; keys put in, one by one -/
section
variable {C : Addr} {α β A R : Type} [Rp α] [Rp β] [RpA A] [Rp R] {K : PySem.W.Frag} {D : Dst} {m m' ms : List Addr} {σ : St} {H H' H2 : Hp} {s c : Addr} {x y : Sv C} {v : V} {ta tb te : TE} {t : TA} {T : Er} {En : Ends} {i : Nat} {E : XK} {z u : TS}
def SpNew (pre : A → Prop) (f : A → Sv C) : Sp := fun vs H Q _ => ∃ m x, Cc none m H ∧ RpA.rpa m H x vs ∧ pre x ∧ ∀ s c H', H s = none → H c = none → Gr [] H H' → SvNew H H' s c (f x) → Q (.ref s) H'
def SpNewX (T : Er) (pre : A → Prop) (f : A → Except Err (Sv C)) : Sp := fun vs H Q E => ∃ m x, Cc none m H ∧ RpA.rpa m H x vs ∧ pre x ∧ (∀ y, f x = .ok y → ∀ s c H', H s = none → H c = none → Gr [] H H' → SvNew H H' s c y → Q (.ref s) H') ∧
  ∀ e, f x = .error e → ∀ c d H', Gr [] H H' → ErrAt T H H' e c d → E c d H'
theorem SvNew.from (h : SvNew H' H2 s c x) (g : Gr ms H H') : SvNew H H2 s c x := fun m' hm => h m' fun b hb q => hm b hb (g.dom b q)
theorem es_call {pre : A → Prop} {f : A → Sv C} {a : A} (h : EvAr D m t σ H fun y => y = a) (hp : pre a) : EvS T D m (tCall (SpNew pre f) [] E t) σ H E (.ok (f a)) := fun H1 g c Q w1 w2 => h H1 g c _ fun y vs H2 g2 r e => by
  subst e
  exact ⟨m, y, (c.go g2).none, (by rw [List.append_nil]; exact r), hp, fun s cc H' n1 n2 g3 sn => w1 _ rfl s cc H' (g2.gr.dom s n1) (g2.gr.dom cc n2) (g2.trans (.pure g3)) (sn.from g2.gr)⟩
theorem es_callX {pre : A → Prop} {f : A → Except Err (Sv C)} {a : A} (h : EvAr D m t σ H fun y => y = a) (hp : pre a) : EvS T D m (tCall (SpNewX T pre f) [] E t) σ H E (f a) := fun H1 g c Q w1 w2 => h H1 g c _ fun y vs H2 g2 r e => by
  subst e
  exact ⟨m, y, (c.go g2).none, (by rw [List.append_nil]; exact r), hp, fun x hx s cc H' n1 n2 g3 sn => w1 x hx s cc H' (g2.gr.dom s n1) (g2.gr.dom cc n2) (g2.trans (.pure g3)) (sn.from g2.gr), fun e he cl d H' g3 z => w2 e he cl d H' (g2.trans (.pure g3)) (z.from g2.gr)⟩
theorem SvNew.upd (h : SvNew H H' s c x) (g : Gr [c] H' H2) (a : SvAt m H2 s c y) (e : y.size = x.size ∧ y.hands = x.hands ∧ y.cap = x.cap) : SvNew H H2 s c y := fun m' hm' => by
  have q := (h m' hm').set g a.cl
  obtain ⟨e1, e2, e3⟩ := e
  cases x
  cases y
  simp only at e1 e2 e3
  subst e1 e2 e3
  exact q
theorem gr_absorb (g : Gr ms H H') (g2 : Gr [c] H' H2) (n : H c = none) : Gr ms H H2 :=
  ⟨fun a o e q => g2.keep a o (g.keep a o e q) (by simpa using ne_of_none e n), fun a xs e => g2.tup a xs (g.tup a xs e), fun a e => g.dom a (g2.dom a e)⟩
theorem gd_absorb (g : Gd D H H') (g2 : Gr [c] H' H2) (n : H c = none) (k : Cc D m H) : Gd D H H2 := ⟨gr_absorb g.gr g2 n, fun ok => by
  have ok' := g.ok ok
  rcases D with _ | ⟨p, q⟩
  · trivial
  · refine DrawAt.go ok' (fun o e => g2.keep p o e fun z => ?_) (fun o e => g2.keep q o e fun z => ?_)
    · exact k.dm p (k.sub p (by simp [Dst.m])) (by rw [List.mem_singleton.mp z]; exact n)
    · exact k.dm q (k.sub q (by simp [Dst.m])) (by rw [List.mem_singleton.mp z]; exact n)⟩
theorem put_same {k : Int} (h : x.put k = .ok y) : y.size = x.size ∧ y.hands = x.hands ∧ y.cap = x.cap := by
  unfold Sv.put at h
  split at h
  · cases h; exact ⟨rfl, rfl, rfl⟩
  · cases h
theorem take_same {k : Int} (h : x.take k = .ok y) : y.size = x.size ∧ y.hands = x.hands ∧ y.cap = x.cap := by
  unfold Sv.take at h
  split at h
  · cases h; exact ⟨rfl, rfl, rfl⟩
  · cases h
theorem q_mut {f : Sv C → Int → Except Err (Sv C)} {key : Int} {tk : TE} {cc : Addr} {n : Str} (c : Cc D m H) (hv : σ[i]? = some (some (.ref s))) (a : SvAt m H s cc x) (ok : x.Ok) (hk : EvV D m tk σ H key) (hn : n ≠ "many" ∧ n ≠ "pointers" ∧ n ≠ "most" ∧ n ≠ "cells")
    (k1 : ∀ y, f x key = .ok y → ∀ H1 H2, Gd D H H1 → Gr [cc] H1 H2 → SvAt m H2 s cc y → z En σ H2) (k2 : ∀ e, f x key = .error e → ∀ cl d H1, Gd D H H1 → ErrAt T H H1 e cl d → E cl d H1) :
    tSeq (tDrop (tMeth C n (SpMut C T f) [] E (tVar i) (tCons tk tNil))) z En σ H := s_mut (En := { En with nx := z En }) c hv a ok hk hn k1 k2
/-- keys put in -/
def puts : List Int → Sv C → Except Err (Sv C)
  | [], x => .ok x
  | k :: ks, x => match x.put k with
    | .ok y => puts ks y
    | .error e => .error e
def bld (C : Addr) (keys : List Int) (size : Int) (hands : List (Int × Int)) (cap : Int) : Except Err (Sv C) := match mkS C size hands cap with
  | .ok x => puts keys x
  | .error e => .error e
theorem puts_snoc (ks : List Int) (k : Int) (x : Sv C) : puts (ks ++ [k]) x = match puts ks x with
  | .ok y => y.put k
  | .error e => .error e := by
  induction ks generalizing x with
  | nil =>
    show puts [k] x = x.put k
    unfold puts
    cases h : x.put k with
    | ok y => rfl
    | error e => rfl
  | cons a ks ih =>
    rw [List.cons_append]
    unfold puts
    cases h : x.put a with
    | ok y => exact ih y
    | error e => rfl
theorem puts_err {ks : List Int} {j : Nat} {k : Int} {x y : Sv C} {e : Err} (h : ks[j]? = some k) (h1 : puts (ks.take j) x = .ok y) (h2 : y.put k = .error e) : puts ks x = .error e := by
  induction ks generalizing j x with
  | nil => simp at h
  | cons a ks ih =>
    cases j with
    | zero =>
      simp at h
      subst h
      rw [List.take_zero] at h1
      cases h1
      unfold puts
      rw [h2]
    | succ j =>
      rw [List.take_succ_cons] at h1
      unfold puts at h1 ⊢
      cases h' : x.put a with
      | error e => rw [h'] at h1; cases h1
      | ok x' =>
        rw [h'] at h1
        exact ih (by simpa using h) h1
structure Sv.Good (x : Sv C) : Prop where
  s0 : 1 ≤ x.size
  s1 : x.size ≤ 96
  h : HandsOk 6 x.hands
  c0 : 1 ≤ x.cap
  c1 : x.cap ≤ 9
  n : (x.cells.length : Int) = x.size
theorem Sv.Good.ok (h : x.Good) : x.Ok := ⟨by have := h.s0; omega, by have := h.s1; omega, by have := h.h.2.1; omega, h.n⟩
theorem Sv.Good.to (h : x.Good) (e : y.size = x.size ∧ y.hands = x.hands ∧ y.cap = x.cap) (n : (y.cells.length : Int) = y.size) : y.Good := by
  obtain ⟨e1, e2, e3⟩ := e
  exact ⟨by rw [e1]; exact h.s0, by rw [e1]; exact h.s1, by rw [e2]; exact h.h, by rw [e3]; exact h.c0, by rw [e3]; exact h.c1, n⟩
theorem mkS_good {size cap : Int} {hands : List (Int × Int)} (h : mkS C size hands cap = .ok x) : x = Sv.new C size hands cap ∧ x.Good := by
  unfold mkS at h
  cases q1 : chkSize size with
  | error e1 => rw [q1] at h; cases h
  | ok _ =>
    rw [q1] at h
    cases q2 : chkHands hands with
    | error e1 => rw [q2] at h; cases h
    | ok _ =>
      rw [q2] at h
      cases q3 : chkCap cap with
      | error e1 => rw [q3] at h; cases h
      | ok _ =>
        rw [q3] at h
        cases h
        unfold chkSize at q1
        unfold chkHands at q2
        unfold chkCap at q3
        split at q1
        · split at q2
          · split at q3
            · rename_i h1 h2 h3
              unfold handsB at h2
              rw [Bool.and_eq_true, List.all_eq_true] at h2
              obtain ⟨h2, h4⟩ := h2
              have h2 := of_decide_eq_true h2
              refine ⟨rfl, h1.1, h1.2, ⟨h2.1, by show (hands.length : Int) ≤ 6; omega, fun hd hm => ?_⟩, h3.1, h3.2, by unfold Sv.new; simp; omega⟩
              have := h4 hd hm
              simp at this
              unfold HandOk
              omega
            · cases q3
          · cases q2
        · cases q1
theorem mkS_of_good (h : x.Good) : mkS C x.size x.hands x.cap = .ok (Sv.new C x.size x.hands x.cap) := mkS_ok h.s0 h.s1 h.h h.c0 h.c1
variable {keys : List Int} {size cap k : Int} {hands : List (Int × Int)}
theorem svOf_good (h0 : 1 ≤ size) (h1 : size ≤ 96) (hh : HandsOk 6 hands) (c0 : 1 ≤ cap) (c1 : cap ≤ 9) : (svOf C keys size hands cap).Good := ⟨h0, h1, hh, c0, c1, by show ((counts keys size hands cap).length : Int) = size; rw [counts_len]; omega⟩
theorem bld_ok (h0 : 1 ≤ size) (h1 : size ≤ 96) (hh : HandsOk 6 hands) (c0 : 1 ≤ cap) (c1 : cap ≤ 9) (hk : ∀ k, k ∈ keys → KeyOk k) : bld C keys size hands cap = .ok (svOf C keys size hands cap) := by
  unfold bld
  rw [mkS_ok h0 h1 hh c0 c1, svOf_new (by omega) (by omega)]
  show puts keys (svOf C [] size hands cap) = _
  induction keys using snoc_ind with
  | nil => rfl
  | snoc ks k ih =>
    rw [puts_snoc, ih fun k h => hk k (by simp [h])]
    show (svOf C ks size hands cap).put k = _
    rw [put_ok (hk k (by simp)), svOf_put (by omega)]
/-! ### keys -/
def needKeys (ks : List Int) : Except Err Unit := if (ks.all fun k => decide (0 ≤ k ∧ k < 10007)) = true then .ok () else .error .badKey
theorem needKeys_ok {ks : List Int} (h : ∀ k, k ∈ ks → KeyOk k) : needKeys ks = .ok () := if_pos (by rw [List.all_eq_true]; exact fun k hk => decide_eq_true (show 0 ≤ k ∧ k < 10007 from h k hk))
theorem needKeys_inv {ks : List Int} {u : Unit} (h : needKeys ks = .ok u) : ∀ k, k ∈ ks → KeyOk k := by
  unfold needKeys at h
  split at h
  · rename_i q
    rw [List.all_eq_true] at q
    exact fun k hk => of_decide_eq_true (p := 0 ≤ k ∧ k < 10007) (q k hk)
  · cases h
def uniq (ks : List Int) : List Int := ks.foldl (fun acc k => if k ∈ acc then acc else acc ++ [k]) []
theorem uniq_snoc (ks : List Int) (k : Int) : uniq (ks ++ [k]) = if k ∈ uniq ks then uniq ks else uniq ks ++ [k] := by
  unfold uniq
  rw [List.foldl_append]
  rfl
theorem uniq_mem {ks : List Int} {k : Int} : k ∈ uniq ks ↔ k ∈ ks := by
  induction ks using snoc_ind with
  | nil => simp [uniq]
  | snoc ks a ih =>
    rw [uniq_snoc]
    split
    · rename_i h
      rw [List.mem_append, List.mem_singleton, ih]
      constructor
      · exact .inl
      · rintro (z | rfl)
        · exact z
        · exact ih.mp h
    · rw [List.mem_append, List.mem_append, ih]
theorem uniq_len (ks : List Int) : (uniq ks).length ≤ ks.length := by
  induction ks using snoc_ind with
  | nil => simp [uniq]
  | snoc ks a ih =>
    rw [uniq_snoc, List.length_append]
    split
    · omega
    · rw [List.length_append]; exact Nat.add_le_add_right ih _
theorem inV_ints (k : Int) (ns : List Int) : inV (.int k) (ns.map V.int) = decide (k ∈ ns) := by
  unfold inV
  rw [List.any_map]
  induction ns with
  | nil => rfl
  | cons a r ih =>
    rw [List.any_cons, ih]
    show (eqV (.int a) (.int k) || decide (k ∈ r)) = decide (k ∈ a :: r)
    have e : eqV (V.int a) (V.int k) = decide (k = a) := by
      show _ = _
      by_cases h : k = a
      · subst h; simp [eqV]
      · have h' : ¬ a = k := fun z => h z.symm
        simp [eqV, h, h']
    rw [e]
    by_cases h : k = a <;> simp [h]
theorem ev_in {ns : List Int} (ha : EvV D m ta σ H k) (hb : EvV D m tb σ H ns) : EvV D m (tOp (rIn K false) ta tb) σ H (decide (k ∈ ns)) := fun H1 e c Q w => ha H1 e c _ fun k' v H2 e2 rk ek => hb H2 (e.trans e2) (c.go e2) _ fun ns' u H3 e3 rn en => by
  subst ek en
  cases rp_int rk
  obtain ⟨a, vs, rfl, n, ha, ps⟩ := rp_lst rn
  have := paired_ints ps
  subst this
  exact ⟨a, _, rfl, .inl (.of ha), rfl, by rw [List.all_map]; exact List.all_eq_true.mpr fun _ _ => rfl, w _ _ H3 (e2.trans e3) (by show V.bl _ = V.bl _; rw [inV_ints]; rfl) rfl⟩
theorem ev_nin {ns : List Int} (ha : EvV D m ta σ H k) (hb : EvV D m tb σ H ns) : EvV D m (tOp (rIn K true) ta tb) σ H (!decide (k ∈ ns)) := fun H1 e c Q w => ha H1 e c _ fun k' v H2 e2 rk ek => hb H2 (e.trans e2) (c.go e2) _ fun ns' u H3 e3 rn en => by
  subst ek en
  cases rp_int rk
  obtain ⟨a, vs, rfl, n, ha, ps⟩ := rp_lst rn
  have := paired_ints ps
  subst this
  exact ⟨a, _, rfl, .inl (.of ha), rfl, by rw [List.all_map]; exact List.all_eq_true.mpr fun _ _ => rfl, w _ _ H3 (e2.trans e3) (by show V.bl _ = V.bl _; rw [inV_ints]; rfl) rfl⟩
/-- what taking a key out harms -/
def harms (x : Sv C) (k : Int) (ks : List Int) : Except Err (List Int) := match needKey k with
  | .ok _ => match needKeys ks with
    | .ok _ => match x.take k with
      | .ok z => .ok ((uniq ks).filter fun o => !z.yes o)
      | .error e => .error e
    | .error e => .error e
  | .error e => .error e
/-! ### deeds -/
def deed (x : Sv C) (w : Str) (k : Int) : Str × Sv C := if w = "put" then ("done", x.put1 k) else if x.yes k = true then if x.stuck k = [] then ("done", x.take1 k) else ("stuck", x) else ("no", x)
def run (x : Sv C) (ds : List (Str × Int)) : List Str × Sv C := ds.foldl (fun a d => (a.1 ++ [(deed a.2 d.1 d.2).1], (deed a.2 d.1 d.2).2)) ([], x)
theorem run_snoc (x : Sv C) (ds : List (Str × Int)) (d : Str × Int) : run x (ds ++ [d]) = ((run x ds).1 ++ [(deed (run x ds).2 d.1 d.2).1], (deed (run x ds).2 d.1 d.2).2) := by
  unfold run
  rw [List.foldl_append]
  rfl
theorem deed_same (x : Sv C) (w : Str) (k : Int) : (deed x w k).2.size = x.size ∧ (deed x w k).2.hands = x.hands ∧ (deed x w k).2.cap = x.cap := by
  unfold deed
  split
  · exact ⟨rfl, rfl, rfl⟩
  · split
    · split
      · exact ⟨rfl, rfl, rfl⟩
      · exact ⟨rfl, rfl, rfl⟩
    · exact ⟨rfl, rfl, rfl⟩
theorem deed_ok {x : Sv C} (h : x.Ok) (w : Str) (k : Int) : (deed x w k).2.Ok := by
  unfold deed
  split
  · exact h.put1 k
  · split
    · split
      · exact h.take1 k
      · exact h
    · exact h
theorem run_len (x : Sv C) (ds : List (Str × Int)) : (run x ds).1.length = ds.length := by
  induction ds using snoc_ind with
  | nil => rfl
  | snoc ds d ih => rw [run_snoc, List.length_append, List.length_append, ih]; rfl
def play (C : Addr) (size : Int) (hands : List (Int × Int)) (cap : Int) (ds : List (Str × Int)) : Except Err (List Str × Sv C) := match mkS C size hands cap with
  | .ok x => match needKeys (ds.map (·.2)) with
    | .ok _ => .ok (run x ds)
    | .error e => .error e
  | .error e => .error e
/-- what is in, by how often -/
def often (ds : List (Str × Int)) (ws : List Str) : List (Int × Int) := (ds.zip ws).foldl (fun l dw => if dw.2 = ("done" : Str) then KS.put l dw.1.2 ((look l dw.1.2).getD 0 + if dw.1.1 = ("put" : Str) then 1 else -1) else l) []
def stillIn (ds : List (Str × Int)) (ws : List Str) : List Int := (uniq (ds.map (·.2))).filter fun k => decide (0 < (look (often ds ws) k).getD 0)
def SpWord (C : Addr) : Sp := fun vs H Q _ => ∃ (m : List Addr) (s c : Addr) (x : Sv C) (wd : Str) (k : Int) (dv : V), vs = [.ref s, dv] ∧ Cc none m H ∧ SvAt m H s c x ∧ x.Ok ∧ Rp.rp m H (wd, k) dv ∧ KeyOk k ∧ ∀ H', Gr [c] H H' → SvAt m H' s c (deed x wd k).2 → Q (.str (deed x wd k).1) H'
def SpPlay (C : Addr) (T : Er) : Sp := fun vs H Q E => ∃ (m : List Addr) (size : Int) (hands : List (Int × Int)) (cap : Int) (ds : List (Str × Int)) (hv dv : V), vs = [.int size, hv, .int cap, dv] ∧ Cc none m H ∧ Rp.rp m H hands hv ∧ Rp.rp m H ds dv ∧ hands.length ≤ 90000 ∧ ds.length ≤ 90000 ∧
  (∀ r, play C size hands cap ds = .ok r → ∀ t wl s c H', H t = none → H wl = none → H s = none → H c = none → Gr [] H H' → H' t = some (.tup [.ref wl, .ref s]) → (∀ m', (∀ b, b ∈ m' → H b ≠ none) → Own m' H' wl r.1 ∧ SvAt (wl :: m') H' s c r.2) → Q (.ref t) H') ∧
  ∀ e, play C size hands cap ds = .error e → ∀ cl d H', Gr [] H H' → ErrAt T H H' e cl d → E cl d H'
theorem take_eq {x : Sv C} {k : Int} (h : KeyOk k) : x.take k = if x.yes k = true then if x.stuck k = [] then .ok (x.take1 k) else .error (.stuck (x.stuck k)) else .error .notIn := by
  unfold Sv.take Sv.may
  rw [if_pos (show 0 ≤ k ∧ k < 10007 from h)]
  by_cases hy : x.yes k = true
  · rw [if_pos hy, if_pos hy]
    by_cases hs : x.stuck k = []
    · rw [if_pos hs, if_pos hs]
    · rw [if_neg hs, if_neg hs]
  · rw [if_neg hy, if_neg hy]
theorem SvAt.upd {m2 : List Addr} (h : SvAt m H s c x) (g : Gr [c] H H2) (a : SvAt m2 H2 s c y) (e : y.size = x.size ∧ y.hands = x.hands ∧ y.cap = x.cap) : SvAt m H2 s c y := by
  have q := h.set g a.cl
  obtain ⟨e1, e2, e3⟩ := e
  cases x
  cases y
  simp only at e1 e2 e3
  subst e1 e2 e3
  exact q
def lostF (C : Addr) (size : Int) (hands : List (Int × Int)) (cap : Int) (ds : List (Str × Int)) : Except Err (List Int) := match play C size hands cap ds with
  | .ok r => .ok ((stillIn ds r.1).filter fun k => !r.2.yes k)
  | .error e => .error e
/-- a, b = e -/
theorem q_set2 {j : Nat} {p : α × β} (c : Cc D m H) (h : EvV D m te σ H p) (k : ∀ u w H1, Gd D H H1 → Rp.rp m H1 p.1 u → Rp.rp m H1 p.2 w → z En ((σ.set i (some u)).set j (some w)) H1) : tSeq (tAsg te (gTup K 2 (gCons (gName i) (gCons (gName j) gNil)))) z En σ H := h H .refl c _ fun x v H1 g r e => by
  subst e
  exact g_pair r fun u w r1 r2 => k u w H1 g r1 r2
theorem t_yes {A B : Hp → Prop} (h : A H) : tYes σ H fun b H3 => if b = true then A H3 else B H3 := by
  show (if true = true then A H else B H)
  rw [if_pos rfl]
  exact h
theorem often_snoc {ds : List (Str × Int)} {ws : List Str} (h : ds.length = ws.length) (d : Str × Int) (wd : Str) : often (ds ++ [d]) (ws ++ [wd]) = if wd = ("done" : Str) then KS.put (often ds ws) d.2 ((look (often ds ws) d.2).getD 0 + if d.1 = ("put" : Str) then 1 else -1) else often ds ws := by
  unfold often
  rw [List.zip_append h, List.foldl_append]
  rfl
theorem run_ok {x : Sv C} (h : x.Ok) (ds : List (Str × Int)) : (run x ds).2.Ok := by
  induction ds using snoc_ind with
  | nil => exact h
  | snoc ds d ih => rw [run_snoc]; exact deed_ok ih _ _
theorem play_inv {ds : List (Str × Int)} {r : List Str × Sv C} (h : play C size hands cap ds = .ok r) : (∀ d, d ∈ ds → KeyOk d.2) ∧ r.2.Ok ∧ r.1.length = ds.length := by
  unfold play at h
  cases q : mkS C size hands cap with
  | error e => rw [q] at h; cases h
  | ok x =>
    rw [q] at h
    dsimp only at h
    cases q2 : needKeys (ds.map (·.2)) with
    | error e => rw [q2] at h; cases h
    | ok u =>
      rw [q2] at h
      cases h
      exact ⟨fun d hd => needKeys_inv q2 d.2 (List.mem_map.mpr ⟨d, hd, rfl⟩), run_ok (mkS_good q).2.ok ds, run_len _ _⟩
theorem stillIn_len (ds : List (Str × Int)) (ws : List Str) : (stillIn ds ws).length ≤ ds.length := by
  unfold stillIn
  have h1 := List.length_filter_le (fun k => decide (0 < (look (often ds ws) k).getD 0)) (uniq (ds.map (·.2)))
  have h2 := uniq_len (ds.map (·.2))
  rw [List.length_map] at h2
  omega
theorem stillIn_ok {ds : List (Str × Int)} {ws : List Str} {k : Int} (h : ∀ d, d ∈ ds → KeyOk d.2) (hm : k ∈ stillIn ds ws) : KeyOk k := by
  unfold stillIn at hm
  have := uniq_mem.mp (List.mem_filter.mp hm).1
  obtain ⟨d, hd, rfl⟩ := List.mem_map.mp this
  exact h d hd
end
/-! ### slices, walks with numbers, more lists -/
section
variable {C : Addr} {α β γ A R : Type} [Rp α] [Rp β] [RpA A] [Rp R] {K : PySem.W.Frag} {D : Dst} {m m' ms : List Addr} {σ : St} {H H' H2 : Hp} {s c : Addr} {v : V} {ta tb te tl : TE} {t : TA} {T : Er} {En : Ends} {i : Nat} {E : XK} {z u : TS} {g : TG} {tt : TT} {ws : List Nat}
theorem paired_take {F : α → V → Prop} : ∀ {l : List α} {r : List V} (n : Nat), Paired F l r → Paired F (l.take n) (r.take n)
  | _, _, 0, _ => by rw [List.take_zero, List.take_zero]; exact .nil
  | _, _, n + 1, .nil => by rw [List.take_nil, List.take_nil]; exact .nil
  | _, _, n + 1, .cons h t => by rw [List.take_succ_cons, List.take_succ_cons]; exact .cons h (paired_take n t)
theorem cut_hi (vs : List V) {n : Int} (h : 0 ≤ n) : cutV vs none (some n) = vs.take n.toNat := by
  have e : HT.sIx vs.length vs.length (some n) = min n.toNat vs.length := by
    show (if n < 0 then _ else _) = _
    rw [if_neg (by omega)]
  have e0 : HT.sIx vs.length 0 none = 0 := rfl
  unfold cutV
  rw [e, e0, List.drop_zero, Nat.sub_zero]
  by_cases q : n.toNat ≤ vs.length
  · rw [Nat.min_eq_left q]
  · rw [Nat.min_eq_right (by omega), List.take_length, List.take_of_length_le (by omega)]
/-- xs[:n] -/
theorem el_cutHi {xs : List α} {n : Int} (ha : EvV D m ta σ H xs) (hb : EvV D m tb σ H n) (h : 0 ≤ n) : EvLV D m (tSl (rSlL K) ta tNoPart (tPart tb)) σ H (xs.take n.toNat) := fun H1 g1 c Q w => ha H1 g1 c _ fun xs' v H2 g2 r e => hb H2 (g1.trans g2) (c.go g2) _ fun n' v' H3 g3 r' e' => by
  subst e e'
  cases rp_int r'
  obtain ⟨a, vs, rfl, nm, ha, ps⟩ := rp_lst (rp_gd r (c.go g2) g3)
  refine ⟨n', rfl, a, vs, rfl, .of ha, fun p hp => ?_⟩
  rw [cut_hi vs h]
  exact w _ p _ ((g2.trans g3).gr.dom p hp) ((g2.trans g3).trans (.new hp)) ⟨((c.go g2).go g3).free hp, _, upd_same, paired_go (paired_take _ ps) fun _ _ r => rp_g0 r (.new hp)⟩ rfl
theorem el_cutHiP {p : Int → Prop} {xs : List α} {r : List α → Prop} (ha : EvV D m ta σ H xs) (hb : Ev D m tb σ H p) (h : ∀ n, p n → 0 ≤ n ∧ r (xs.take n.toNat)) : EvL D m (tSl (rSlL K) ta tNoPart (tPart tb)) σ H r := fun H1 g1 c Q w => ha H1 g1 c _ fun xs' v H2 g2 r1 e => hb H2 (g1.trans g2) (c.go g2) _ fun n' v' H3 g3 r' e' => by
  subst e
  cases rp_int r'
  obtain ⟨a, vs, rfl, nm, ha, ps⟩ := rp_lst (rp_gd r1 (c.go g2) g3)
  obtain ⟨h0, hr⟩ := h n' e'
  refine ⟨n', rfl, a, vs, rfl, .of ha, fun p hp => ?_⟩
  rw [cut_hi vs h0]
  exact w _ p _ ((g2.trans g3).gr.dom p hp) ((g2.trans g3).trans (.new hp)) ⟨((c.go g2).go g3).free hp, _, upd_same, paired_go (paired_take _ ps) fun _ _ r => rp_g0 r (.new hp)⟩ hr
/-- [s] * n -/
theorem el_repS {n : Int} {k : Str} (h : EvV D m ta σ H k) (hb : EvV D m tb σ H n) (h0 : 0 ≤ n) (h1 : n ≤ 100000) : EvLV D m (tOp rRep (tLst (tCons ta tNil)) tb) σ H (List.replicate n.toNat k) := fun H1 g c Q w =>
  (el_lst (ei_consV h ei_nil) (fun xs e => by rw [e]; show 1 ≤ 100000; decide)).ev H1 g c _ fun xs v H2 g2 r e => hb H2 (g.trans g2) (c.go g2) _ fun n' v' H3 g3 r' e' => by
    subst e e'
    cases rp_int r'
    obtain ⟨a, vs, rfl, nm, ha, ps⟩ := rp_lst (rp_gd r (c.go g2) g3)
    have hvs : vs = [V.str k] := by
      cases ps with
      | cons h t => cases t; rw [rp_str h]
    subst hvs
    refine ⟨a, n', _, rfl, rfl, ha, by omega, by omega, ?_, fun p hp => ?_⟩
    · rw [List.length_singleton, Nat.one_mul]; exact Evl.sz_of (by omega)
    · have e : (List.replicate n'.toNat [V.str k]).flatten = (List.replicate n'.toNat k).map V.str := by
        generalize n'.toNat = j
        induction j with
        | zero => rfl
        | succ j ih => rw [List.replicate_succ, List.flatten_cons, ih, List.replicate_succ]; rfl
      refine w _ p _ ((g2.trans g3).gr.dom p hp) ((g2.trans g3).trans (.new hp)) ⟨((c.go g2).go g3).free hp, _, upd_same, ?_⟩ rfl
      rw [e]
      generalize List.replicate n'.toNat k = l
      induction l with
      | nil => exact .nil
      | cons a l ih => exact .cons rfl ih
/-- int(b) -/
theorem ev_int1b {b : Bool} (h : EvV D m ta σ H b) : EvV D m (tCB (fun xs H Q => (∃ i, xs = [.int i] ∧ Q (.int i) H) ∨ ∃ k, xs = [.bl k] ∧ Q (.int (if k then 1 else 0)) H) (tCons ta tNil)) σ H (if b then 1 else 0 : Int) := fun H1 g c Q w => h H1 g c _ fun b' v H2 g2 r e => by
  subst e
  cases rp_bool r
  exact .inr ⟨b', rfl, w _ _ H2 g2 rfl rfl⟩
/-- [e for i, x in enumerate(xs) if t] -/
theorem el_lcEnum [Nl β] {xs : List α} {p : List β → Prop} (I : Nat → List β → Prop) (h : EvV D m tl σ H xs) (hz : xs.length ≤ 90000) (h0 : I 0 [])
    (hs : ∀ (j : Nat) x v H1 acc, xs[j]? = some x → Gd D H H1 → Cc D m H1 → Rp.rp m H1 ((j : Int), x) v → I j acc → ∃ pt py, LcT D m g tt te ws σ v H1 pt py ∧ (∀ y, pt true → py y → I (j + 1) (acc ++ [y])) ∧ (pt false → I (j + 1) acc))
    (hd : ∀ acc, I xs.length acc → p acc) : EvL D m (tLc (iEnum K (tCons tl tNil)) g tt te ws) σ H p := fun H1 e c Q w => h H1 e c _ fun xs' v H2 e2 r z => by
  subst z
  obtain ⟨a, vs, rfl, n, ha, ps⟩ := rp_lst r
  have c2 := c.go e2
  refine ⟨a, vs, rfl, .of ha, fun Dl hD => ?_⟩
  have nD : Dl ∉ m := c2.free hD
  have keepA : ∀ {H'}, Gd D H2 H' → H' a = some (.lst vs) := fun g' => g'.gr.keep a _ ha fun q => n (c2.sub a q)
  have goal := lc_gen (J := Ite K a) (n := vs.length) (g := g) (tt := tt) (te := te) (vs := ws) (σ := σ) (H1 := H2) (D := Dl) (Qd := fun H' => Q (.ref Dl) H')
    (fun j H' => ∃ acc, Gd D H2 H' ∧ Own m H' Dl acc ∧ acc.length ≤ j ∧ I j acc) ⟨[], .new hD, .nil nD upd_same, Nat.zero_le _, h0⟩
    (fun H' ⟨acc, g', _⟩ => ⟨vs, .of (keepA g'), Nat.le_refl _⟩) (fun j H' hj ⟨acc, g', _⟩ => ⟨vs, vs[j], .of (keepA g'), List.getElem?_eq_getElem hj⟩)
    (fun j x H' H'' hj ⟨acc, g', o, hl, hI⟩ y => ?_) (fun H' ⟨acc, g', o, hl, hI⟩ => w acc Dl H' (e2.gr.dom Dl hD) (e2.trans g') o (hd acc (by rw [ps.length]; exact hI)))
  · exact goal
  · obtain ⟨t, x', rfl, ht, rfl, hx⟩ := y
    have hx' := hx vs (.of (keepA g'))
    have hlt : j < xs'.length := by rw [ps.length]; exact hj
    obtain ⟨y, hy, ry⟩ := paired_at ps (List.getElem?_eq_getElem hlt)
    rw [hx'] at hy
    cases hy
    have gt : Gd D H' (upd H' t (.tup [.int (j : Nat), x'])) := .new ht
    have ct := (c2.go g').go gt
    obtain ⟨pt, py, hT, k1, k2⟩ := hs j _ (.ref t) _ acc (List.getElem?_eq_getElem hlt) (((e.trans e2).trans g').trans gt) ct ⟨t, _, _, rfl, upd_same, rfl, rp_gd (rp_gd ry c2 g') (c2.go g') gt⟩ hI
    exact lc_turn hT ct .refl (o.gd (c2.go g') gt) (by omega) (fun y ws H4 g4 z py o4 => ⟨acc ++ [y], mut_gd ((g'.trans gt).trans g4) c2 hD, o4, by simp; omega, k1 y z py⟩) (fun H4 g4 z => ⟨acc, (g'.trans gt).trans g4, (o.gd (c2.go g') gt).gd ct g4, by omega, k2 z⟩)
/-- [e for x in xs if t], xs any list of some kind -/
theorem el_lcLP [Nl β] {p0 : List α → Prop} {p : List β → Prop} (I : List α → Nat → List β → Prop) (h : Ev D m tl σ H p0) (hz : ∀ xs, p0 xs → xs.length ≤ 90000) (h0 : ∀ xs, p0 xs → I xs 0 [])
    (hs : ∀ xs (j : Nat) x v H1 acc, p0 xs → xs[j]? = some x → Gd D H H1 → Cc D m H1 → Rp.rp m H1 x v → I xs j acc → ∃ pt py, LcT D m g tt te ws σ v H1 pt py ∧ (∀ y, pt true → py y → I xs (j + 1) (acc ++ [y])) ∧ (pt false → I xs (j + 1) acc))
    (hd : ∀ xs acc, p0 xs → I xs xs.length acc → p acc) : EvL D m (tLc (iList K tl) g tt te ws) σ H p := fun H1 e c Q w => h H1 e c _ fun xs v H2 e2 r z => by
  have hv : EvV D m (fun _ H Q => Q v H) σ H2 xs := fun H3 g3 c3 Q w => w xs v H3 .refl (rp_gr r g3.gr c3.sub) rfl
  exact el_lcL (K := K) (tl := fun _ H Q => Q v H) (I xs) hv (hz xs z) (h0 xs z) (fun j x v H1 acc hx g' c' r hI => hs xs j x v H1 acc z hx ((e.trans e2).trans g') c' r hI) (fun acc hI => hd xs acc z hI) H2 .refl (c.go e2) Q fun ys a H3 n g3 o py => w ys a H3 (e2.gr.dom a n) (e2.trans g3) o py
/-- xs.count(k) -/
theorem ev_count {ns : List Int} {k : Int} (ha : EvV D m ta σ H ns) (hb : EvV D m tb σ H k) : EvV D m (tBM K "list" (rCntI K) ta (tCons tb tNil)) σ H ((ns.count k : Nat) : Int) := fun H1 g1 c Q w => ha H1 g1 c _ fun ns' v H2 g2 r e => by
  subst e
  obtain ⟨a, vs, rfl, nm, ha, ps⟩ := rp_lst r
  have := paired_ints ps
  subst this
  refine ⟨.inl ⟨rfl, _, .of ha⟩, hb H2 (g1.trans g2) (c.go g2) _ fun k' v' H3 g3 r' e' => ?_⟩
  subst e'
  cases rp_int r'
  exact ⟨a, ns', k', rfl, rfl, .of (g3.gr.keep a _ ha fun q => nm (c.sub a q)), w _ _ H3 (g2.trans g3) rfl rfl⟩
theorem Own.kept [Nl α] {xs : List α} {a : Addr} (o : Own m H a xs) (g : Gr [c] H H') (n : a ≠ c) : Own m H' a xs := by
  obtain ⟨h, vs, e, q⟩ := o
  exact ⟨h, vs, g.keep a _ e (by simpa using n), paired_go q fun _ _ r => rp_nl r g.tup⟩
theorem DAt.kept {a : Addr} {l : List (Int × Int)} (o : DAt m H a l) (g : Gr [c] H H') (n : a ≠ c) : DAt m H' a l := ⟨o.nm, g.keep a _ o.at_ (by simpa using n)⟩
/-- for i in ps: l[i] = e -/
theorem q_forSet {ia il ic : Nat} {tv : TE} {ac cl : Addr} {ps l : List Int} (f : List Int → Int → List Int) (gg : List Int → Int → Int) (hf : ∀ l p, f l p = l.set p.toNat (gg l p)) (k0 : Cc none m H) (hac : σ[ia]? = some (some (.ref ac))) (hcl : σ[il]? = some (some (.ref cl))) (hil : il ≠ ic) (hic : ic < σ.length)
    (oa : Own m H ac ps) (ol : Own m H cl l) (n : ac ≠ cl) (hr : InR l.length ps) (h0 : ∃ o, σ = σ.set ic o)
    (hv : ∀ p l' H', l'.length = l.length → p ∈ ps → Gr [cl] H H' → Own m H' cl l' → Cc none m H' → EvV none m tv (σ.set ic (some (.int p))) H' (gg l' p))
    (k : ∀ o H', Gr [cl] H H' → Own m H' cl (ps.foldl f l) → z En (σ.set ic o) H') : tSeq (tFor (iList K (tVar ia)) (gName ic) (tAsg tv (gSub (tVar il) (tVar ic) rSetL))) z En σ H := by
  obtain ⟨_, vs, ha, pa⟩ := id oa
  have hfl : ∀ l p, (f l p).length = l.length := fun l p => by rw [hf]; simp
  refine q_forV (xs := ps) (m := m) (vs := vs) hac ha pa (fun j s2 H' => ∃ o, s2 = σ.set ic o ∧ Gr [cl] H H' ∧ Own m H' cl ((ps.take j).foldl f l)) ?_ (fun j s2 H' ⟨_, _, g', _⟩ => g'.keep ac _ ha (by simpa using n)) ?_ ?_
  · obtain ⟨o, e⟩ := h0
    exact ⟨o, e, Gr.refl, ol⟩
  · rintro j p w s2 H' hj rp ⟨o, rfl, g', o'⟩
    cases rp_int rp
    refine g_name ?_
    rw [List.set_set]
    have hm := List.mem_of_getElem? hj
    have hb := hr p hm
    have hl' : ((ps.take j).foldl f l).length = l.length := foldl_len hfl _ _
    have c' : Cc none m H' := ⟨fun _ h => absurd h (by simp [Dst.m]), fun b hb z => k0.dm b hb (g'.dom b z), trivial⟩
    refine s_item c' (by rw [List.getElem?_set_ne (Ne.symm hil)]; exact hcl) (by rw [List.getElem?_set_self hic]) o' hb.1 (by rw [hl']; exact hb.2) (hv p _ H' hl' hm g' o' c') fun H1 H2 g1 e2 o2 => ?_
    obtain ⟨ob, rfl⟩ := e2
    obtain ⟨_, vs1, h1, _⟩ := o'.gd c' g1
    refine ⟨_, rfl, (g'.trans g1.gr0.any).put (by simp) h1 (fun _ z => by cases z), ?_⟩
    rw [take_snoc hj, List.foldl_append]
    show Own m _ cl (f _ p)
    rw [hf]
    exact o2
  · rintro s2 H' ⟨o, rfl, g', o'⟩
    rw [List.take_length] at o'
    exact k o H' g' o'
/-- [e] * n -/
theorem el_repG {p : α → Prop} {q : Int → Prop} (h : Ev D m ta σ H p) (hb : Ev D m tb σ H q) (hq : ∀ n, q n → 0 ≤ n ∧ n ≤ 1000) {r : List α → Prop} (k : ∀ x n, p x → q n → r (List.replicate n.toNat x)) : EvL D m (tOp rRep (tLst (tCons ta tNil)) tb) σ H r := fun H1 g c Q w =>
  (el_lst (p := fun xs => ∃ x, xs = [x] ∧ p x) (ei_cons (q := fun xs => xs = []) h ei_nil fun x xs hx e => ⟨x, by rw [e], hx⟩) (fun xs ⟨x, e, _⟩ => by rw [e]; show 1 ≤ 100000; decide)).ev H1 g c _ fun xs v H2 g2 r1 ⟨x, e, hx⟩ => hb H2 (g.trans g2) (c.go g2) _ fun n' v' H3 g3 r' e' => by
    subst e
    cases rp_int r'
    obtain ⟨a, vs, rfl, nm, ha, ps⟩ := rp_lst (rp_gd r1 (c.go g2) g3)
    obtain ⟨b1, b2⟩ := hq n' e'
    cases ps with
    | @cons _ u _ us hu t =>
      cases t
      refine ⟨a, n', _, rfl, rfl, ha, by omega, by omega, ?_, fun p hp => ?_⟩
      · rw [List.length_singleton, Nat.one_mul]; exact Evl.sz_of (by omega)
      · have e : (List.replicate n'.toNat [u]).flatten = List.replicate n'.toNat u := by
          generalize n'.toNat = j
          induction j with
          | zero => rfl
          | succ j ih => rw [List.replicate_succ, List.flatten_cons, ih, List.replicate_succ]; rfl
        refine w _ p _ ((g2.trans g3).gr.dom p hp) ((g2.trans g3).trans (.new hp)) ⟨((c.go g2).go g3).free hp, _, upd_same, ?_⟩ (k x n' hx e')
        rw [e]
        have hu' := rp_g0 hu (.new (o := .lst (List.replicate n'.toNat u)) hp)
        generalize n'.toNat = j at *
        have go : ∀ i, Paired (Rp.rp m (upd H3 p (.lst (List.replicate j u)))) (List.replicate i x) (List.replicate i u) := fun i => by
          induction i with
          | zero => exact .nil
          | succ i ih => rw [List.replicate_succ, List.replicate_succ]; exact .cons hu' ih
        exact go j
theorem paired_drop {F : α → V → Prop} : ∀ {l : List α} {r : List V} (n : Nat), Paired F l r → Paired F (l.drop n) (r.drop n)
  | _, _, 0, h => by rw [List.drop_zero, List.drop_zero]; exact h
  | _, _, n + 1, .nil => by rw [List.drop_nil, List.drop_nil]; exact .nil
  | _, _, n + 1, .cons h t => by rw [List.drop_succ_cons, List.drop_succ_cons]; exact paired_drop n t
theorem cut_lo (vs : List V) {n : Int} (h : 0 ≤ n) : cutV vs (some n) none = vs.drop n.toNat := by
  have e : HT.sIx vs.length 0 (some n) = min n.toNat vs.length := by
    show (if n < 0 then _ else _) = _
    rw [if_neg (by omega)]
  have e0 : HT.sIx vs.length vs.length none = vs.length := rfl
  unfold cutV
  rw [e, e0]
  by_cases q : n.toNat ≤ vs.length
  · rw [Nat.min_eq_left q, List.take_of_length_le (by rw [List.length_drop]; exact Nat.le_refl _)]
  · rw [Nat.min_eq_right (by omega), List.drop_length, List.drop_of_length_le (by omega), List.take_nil]
/-- xs[n:] -/
theorem el_cutLo {p : Int → Prop} {xs : List α} {r : List α → Prop} (ha : EvV D m ta σ H xs) (hb : Ev D m tb σ H p) (h : ∀ n, p n → 0 ≤ n ∧ r (xs.drop n.toNat)) : EvL D m (tSl (rSlL K) ta (tPart tb) tNoPart) σ H r := fun H1 g1 c Q w => ha H1 g1 c _ fun xs' v H2 g2 r1 e => hb H2 (g1.trans g2) (c.go g2) _ fun n' v' H3 g3 r' e' => by
  subst e
  cases rp_int r'
  obtain ⟨a, vs, rfl, nm, ha, ps⟩ := rp_lst (rp_gd r1 (c.go g2) g3)
  obtain ⟨h0, hr⟩ := h n' e'
  refine ⟨n', rfl, a, vs, rfl, .of ha, fun p hp => ?_⟩
  rw [cut_lo vs h0]
  exact w _ p _ ((g2.trans g3).gr.dom p hp) ((g2.trans g3).trans (.new hp)) ⟨((c.go g2).go g3).free hp, _, upd_same, paired_go (paired_drop _ ps) fun _ _ r => rp_g0 r (.new hp)⟩ hr
/-- a, b = e, f -/
theorem q_par2 {j : Nat} {p : α × β × Unit → Prop} (c : Cc D m H) (h : EvAr D m t σ H p) (k : ∀ x y u w H1, Gd D H H1 → Rp.rp m H1 x u → Rp.rp m H1 y w → p (x, y, ()) → z En ((σ.set i (some u)).set j (some w)) H1) : tSeq (tPar i j t) z En σ H := h H .refl c _ fun x vs H1 g r e => by
  obtain ⟨x, y, w0⟩ := x
  obtain ⟨u, _, rfl, r1, w, _, rfl, r2, rfl⟩ := r
  exact ⟨u, w, rfl, k x y u w H1 g r1 r2 e⟩
theorem s_par2 {j : Nat} {p : α × β × Unit → Prop} (c : Cc D m H) (h : EvAr D m t σ H p) (k : ∀ x y u w H1, Gd D H H1 → Rp.rp m H1 x u → Rp.rp m H1 y w → p (x, y, ()) → En.nx ((σ.set i (some u)).set j (some w)) H1) : tPar i j t En σ H := h H .refl c _ fun x vs H1 g r e => by
  obtain ⟨x, y, w0⟩ := x
  obtain ⟨u, _, rfl, r1, w, _, rfl, r2, rfl⟩ := r
  exact ⟨u, w, rfl, k x y u w H1 g r1 r2 e⟩
theorem ea_any {p : A → Prop} (h : EvAr D m t σ H p) : EvAr D m t σ H fun _ : A => True := fun H1 e c Q w => h H1 e c Q fun x vs H2 g r _ => w x vs H2 g r trivial
/-- found = played(..) -/
theorem q_play1 {size cap : Int} {hands : List (Int × Int)} {ds : List (Str × Int)} {r : List Str × Sv C} (c : Cc D m H) (h : EvAr D m t σ H fun y => y = (size, hands, cap, ds, ())) (hl : hands.length ≤ 90000 ∧ ds.length ≤ 90000) (hr : play C size hands cap ds = .ok r)
    (k : ∀ tt wl s cc H1, H tt = none → H wl = none → H s = none → H cc = none → Gd D H H1 → H1 tt = some (.tup [.ref wl, .ref s]) → (∀ m', (∀ b, b ∈ m' → H b ≠ none) → Own m' H1 wl r.1 ∧ SvAt (wl :: m') H1 s cc r.2) → z En (σ.set i (some (.ref tt))) H1) : tSeq (tAsg (tCall (SpPlay C T) [] E t) (gName i)) z En σ H := h H .refl c _ fun y vs H1 g1 ra e => by
  subst e
  obtain ⟨v1, _, rfl, r1, v2, _, rfl, r2, v3, _, rfl, r3, v4, _, rfl, r4, rfl⟩ := ra
  cases (show v1 = V.int size from r1)
  cases (show v3 = V.int cap from r3)
  refine ⟨m, size, hands, cap, ds, v2, v4, rfl, (c.go g1).none, r2, r4, hl.1, hl.2, fun r' hr' t wl s cc H2 nt nwl ns nc g2 ht hI => ?_, fun e he => by rw [hr] at he; cases he⟩
  rw [hr] at hr'
  cases hr'
  exact k t wl s cc H2 (g1.gr.dom t nt) (g1.gr.dom wl nwl) (g1.gr.dom s ns) (g1.gr.dom cc nc) (g1.trans (.pure g2)) ht fun m' hm' => hI m' fun b hb q => hm' b hb (g1.gr.dom b q)
/-- isinstance(sieve, Sieve) -/
theorem ev_isSv {x : Sv C} (h : EvV D m ta σ H x) (cl : Cls K C) (ic : C8.InsC K C) (ki : PySem.W.kitOne K (.ref C) (.ref C) = some true) : EvV D m (tCB (rIsi K) (tCons ta (tCons (tC (.ref C)) tNil))) σ H true := fun H1 g c Q w => h H1 g c _ fun x' v H2 g2 r e => by
  subst e
  obtain ⟨s, cc, rfl, a⟩ := r
  obtain ⟨dx, b, ho, _, _⟩ := id a.ob
  exact ⟨_, _, _, _, true, rfl, .own C, .base (.ins ho cl ic.ha ic.hn ic.htk ic.hm), ki, w true _ H2 g2 rfl rfl⟩
theorem ev_isP {p : α × β} (h : EvV D m ta σ H p) : EvV D m (tCB (rIsi K) (tCons ta (tCons (tC (.ty "tuple")) tNil))) σ H true := ev_isT h (fun _ _ _ r _ => ty_pair r) (by decide +kernel)
/-- words, sieve = played(..) -/
theorem q_play {j : Nat} {size cap : Int} {hands : List (Int × Int)} {ds : List (Str × Int)} {r : List Str × Sv C} (c : Cc D m H) (h : EvAr D m t σ H fun y => y = (size, hands, cap, ds, ())) (hl : hands.length ≤ 90000 ∧ ds.length ≤ 90000) (hr : play C size hands cap ds = .ok r)
    (k : ∀ wl s cc H1, H wl = none → H s = none → H cc = none → Gd D H H1 → Own m H1 wl r.1 → SvAt (wl :: m) H1 s cc r.2 → z En ((σ.set i (some (.ref wl))).set j (some (.ref s))) H1) : tSeq (tAsg (tCall (SpPlay C T) [] E t) (gTup K 2 (gCons (gName i) (gCons (gName j) gNil)))) z En σ H := h H .refl c _ fun y vs H1 g1 ra e => by
  subst e
  obtain ⟨v1, _, rfl, r1, v2, _, rfl, r2, v3, _, rfl, r3, v4, _, rfl, r4, rfl⟩ := ra
  cases (show v1 = V.int size from r1)
  cases (show v3 = V.int cap from r3)
  refine ⟨m, size, hands, cap, ds, v2, v4, rfl, (c.go g1).none, r2, r4, hl.1, hl.2, fun r' hr' t wl s cc H2 nt nwl ns nc g2 ht hI => ?_, fun e he => by rw [hr] at he; cases he⟩
  rw [hr] at hr'
  cases hr'
  obtain ⟨ow, sv⟩ := hI m (c.go g1).dm
  exact ⟨t, _, rfl, .of ht, rfl, _, _, rfl, _, _, rfl, rfl, k wl s cc H2 (g1.gr.dom wl nwl) (g1.gr.dom s ns) (g1.gr.dom cc nc) (g1.trans (.pure g2)) ow sv⟩
end
/-! ### what is lost: plain laws -/
section
variable {C : Addr} {keys ts : List Int} {size cap k : Int} {hands : List (Int × Int)}
def putsOf (ks : List Int) : List (Str × Int) := ks.map fun k => (("put" : Str), k)
def takesOf (ks : List Int) : List (Str × Int) := ks.map fun k => (("take" : Str), k)
theorem run_append (x : Sv C) (a b : List (Str × Int)) : run x (a ++ b) = ((run x a).1 ++ (run (run x a).2 b).1, (run (run x a).2 b).2) := by
  induction b using snoc_ind with
  | nil => simp [run]
  | snoc b d ih => rw [← List.append_assoc, run_snoc, ih, run_snoc]; simp
theorem run_puts (h0 : 0 < size) (ks : List Int) : run (svOf C [] size hands cap) (putsOf ks) = (List.replicate ks.length ("done" : Str), svOf C ks size hands cap) := by
  induction ks using snoc_ind with
  | nil => rfl
  | snoc ks k ih =>
    unfold putsOf at ih ⊢
    rw [List.map_append]
    show run _ (_ ++ [(("put" : Str), k)]) = _
    rw [run_snoc, ih]
    have hd : deed (svOf C ks size hands cap) "put" k = (("done" : Str), (svOf C ks size hands cap).put1 k) := by unfold deed; rw [if_pos rfl]
    rw [hd, svOf_put h0, List.length_append, List.length_singleton, List.replicate_succ']
theorem play_ok {ds : List (Str × Int)} (h0 : 1 ≤ size) (h1 : size ≤ 96) (hh : HandsOk 6 hands) (c0 : 1 ≤ cap) (c1 : cap ≤ 9) (hk : ∀ d, d ∈ ds → KeyOk d.2) : play C size hands cap ds = .ok (run (svOf C [] size hands cap) ds) := by
  unfold play
  rw [mkS_ok h0 h1 hh c0 c1, svOf_new (by omega) (by omega)]
  dsimp only
  rw [needKeys_ok (fun k hm => by obtain ⟨d, hd, rfl⟩ := List.mem_map.mp hm; exact hk d hd)]
def val (l : List (Int × Int)) (k : Int) : Int := (look l k).getD 0
theorem val_put (l : List (Int × Int)) (a v k : Int) : val (KS.put l a v) k = if k = a then v else val l k := by
  unfold val
  rw [look_put]
  split <;> rfl
theorem often_puts (ks : List Int) : ∀ k, val (often (putsOf ks) (List.replicate ks.length ("done" : Str))) k = (ks.count k : Int) := by
  induction ks using snoc_ind with
  | nil => intro k; rfl
  | snoc ks a ih =>
    intro k
    unfold putsOf at ih ⊢
    rw [List.map_append, List.length_append, List.length_singleton, List.replicate_succ']
    show val (often (_ ++ [(("put" : Str), a)]) _) k = _
    rw [often_snoc (by simp), if_pos rfl, val_put, List.count_append]
    have e : val (often (ks.map fun k => (("put" : Str), k)) (List.replicate ks.length ("done" : Str))) a = (ks.count a : Int) := ih a
    unfold val at e
    by_cases h : k = a
    · subst h
      rw [if_pos rfl, e]
      simp
    · have h' : ¬ a = k := fun z => h z.symm
      rw [if_neg h, ih k]
      simp [h']
theorem often_takes (A : List (Str × Int)) (W : List Str) (hl : A.length = W.length) (ts : List Int) : ∀ (ws : List Str), ws.length = ts.length → ∀ k, val (often (A ++ takesOf ts) (W ++ ws)) k ≤ val (often A W) k ∧ (k ∉ ts → val (often (A ++ takesOf ts) (W ++ ws)) k = val (often A W) k) := by
  induction ts using snoc_ind with
  | nil =>
    intro ws h k
    have : ws = [] := List.length_eq_zero_iff.mp h
    subst this
    simp [takesOf]
  | snoc ts a ih =>
    intro ws h k
    rw [List.length_append, List.length_singleton] at h
    have hne : ws ≠ [] := fun z => by rw [z] at h; simp at h
    obtain ⟨ws', w, rfl⟩ : ∃ ws' w, ws = ws' ++ [w] := ⟨ws.dropLast, ws.getLast hne, (List.dropLast_concat_getLast hne).symm⟩
    rw [List.length_append, List.length_singleton] at h
    obtain ⟨h1, h2⟩ := ih ws' (by omega) k
    have e : takesOf (ts ++ [a]) = takesOf ts ++ [(("take" : Str), a)] := by unfold takesOf; rw [List.map_append]; rfl
    have hlen : (A ++ takesOf ts).length = (W ++ ws').length := by unfold takesOf; simp; omega
    rw [e, ← List.append_assoc, ← List.append_assoc, often_snoc hlen]
    by_cases hw : w = ("done" : Str)
    · rw [if_pos hw, val_put]
      have hne' : ¬ (("take" : Str) = ("put" : Str)) := by decide
      by_cases hk : k = a
      · subst hk
        rw [if_pos rfl, if_neg hne']
        dsimp only
        unfold val at h1
        unfold val
        refine ⟨by omega, fun hn => absurd (by simp) hn⟩
      · rw [if_neg hk]
        exact ⟨h1, fun hn => h2 fun z => hn (by simp [z])⟩
    · rw [if_neg hw]
      exact ⟨h1, fun hn => h2 fun z => hn (by simp [z])⟩
theorem uniq_more {P : Int → Bool} (hp : ∀ k, k ∈ keys → P k = true) (hn : ∀ t, t ∈ ts → P t = false) : (uniq (keys ++ ts)).filter P = uniq keys := by
  induction ts using snoc_ind with
  | nil =>
    rw [List.append_nil, List.filter_eq_self]
    exact fun a ha => hp a (uniq_mem.mp ha)
  | snoc ts a ih =>
    rw [← List.append_assoc, uniq_snoc]
    have := ih fun t ht => hn t (by simp [ht])
    split
    · exact this
    · rw [List.filter_append, this]
      simp [hn a (by simp)]
theorem stillIn_take {ws : List Str} (hw : ws.length = ts.length) (hts : ∀ t, t ∈ ts → t ∉ keys) : stillIn (putsOf keys ++ takesOf ts) (List.replicate keys.length ("done" : Str) ++ ws) = uniq keys := by
  unfold stillIn
  have e : (putsOf keys ++ takesOf ts).map (·.2) = keys ++ ts := by
    unfold putsOf takesOf
    rw [List.map_append, List.map_map, List.map_map]
    show keys.map (fun k => k) ++ ts.map (fun k => k) = _
    rw [List.map_id', List.map_id']
  rw [e]
  have ho := often_takes (putsOf keys) (List.replicate keys.length ("done" : Str)) (by unfold putsOf; simp) ts ws hw
  refine uniq_more (fun k hk => ?_) fun t ht => ?_
  · have h1 := (ho k).2 fun z => hts k z hk
    rw [often_puts] at h1
    have h2 : 0 < keys.count k := List.count_pos_iff.mpr hk
    unfold val at h1
    exact decide_eq_true (by omega)
  · have h1 := (ho t).1
    rw [often_puts, List.count_eq_zero.mpr (hts t ht)] at h1
    unfold val at h1
    exact decide_eq_false (by simp at h1; omega)
theorem lost_take (h0 : 1 ≤ size) (h1 : size ≤ 96) (hh : HandsOk 6 hands) (c0 : 1 ≤ cap) (c1 : cap ≤ 9) (hk : ∀ k, k ∈ keys → KeyOk k) (ht : ∀ t, t ∈ ts → KeyOk t ∧ t ∉ keys) :
    lostF C size hands cap (putsOf keys ++ takesOf ts) = .ok ((uniq keys).filter fun k => !(run (svOf C keys size hands cap) (takesOf ts)).2.yes k) := by
  unfold lostF
  rw [play_ok h0 h1 hh c0 c1 fun d hd => ?_]
  · dsimp only
    rw [run_append, run_puts (by omega)]
    dsimp only
    rw [stillIn_take (by rw [run_len]; unfold takesOf; simp) fun t h => (ht t h).2]
  · rcases List.mem_append.mp hd with z | z
    · obtain ⟨k, hk', rfl⟩ := List.mem_map.mp z
      exact hk k hk'
    · obtain ⟨k, hk', rfl⟩ := List.mem_map.mp z
      exact (ht k hk').1
/-- what is told of taking out -/
def toldT (x : Sv C) (k : Int) (ks : List Int) : Str × List Int := if x.yes k = true then if x.stuck k = [] then (("done" : Str), (uniq ks).filter fun o => !(x.take1 k).yes o) else (("stuck" : Str), []) else (("no" : Str), [])
theorem deed_take (x : Sv C) (k : Int) : deed x "take" k = if x.yes k = true then if x.stuck k = [] then (("done" : Str), x.take1 k) else (("stuck" : Str), x) else (("no" : Str), x) := if_neg (by decide)
theorem toldT_word (x : Sv C) (k : Int) (ks : List Int) : (deed x "take" k).1 = (toldT x k ks).1 := by
  rw [deed_take]
  unfold toldT
  by_cases hy : x.yes k = true
  · rw [if_pos hy, if_pos hy]
    by_cases hs : x.stuck k = []
    · rw [if_pos hs, if_pos hs]
    · rw [if_neg hs, if_neg hs]
  · rw [if_neg hy, if_neg hy]
theorem toldT_done {x : Sv C} {k : Int} {ks : List Int} (h : (toldT x k ks).1 = ("done" : Str)) : (toldT x k ks).2 = (uniq ks).filter fun o => !(deed x "take" k).2.yes o := by
  unfold toldT at h ⊢
  rw [deed_take]
  by_cases hy : x.yes k = true
  · rw [if_pos hy] at h
    rw [if_pos hy, if_pos hy]
    by_cases hs : x.stuck k = []
    · rw [if_pos hs, if_pos hs]
    · rw [if_neg hs] at h
      exact absurd h (by show ¬ ("stuck" : Str) = "done"; decide)
  · rw [if_neg hy] at h
    exact absurd h (by show ¬ ("no" : Str) = "done"; decide)
theorem toldT_not {x : Sv C} {k : Int} {ks : List Int} (h : ¬ (toldT x k ks).1 = ("done" : Str)) : (toldT x k ks).2 = [] ∧ (deed x "take" k).2 = x := by
  unfold toldT at h ⊢
  rw [deed_take]
  by_cases hy : x.yes k = true
  · rw [if_pos hy] at h
    rw [if_pos hy, if_pos hy]
    by_cases hs : x.stuck k = []
    · rw [if_pos hs] at h
      exact absurd rfl h
    · rw [if_neg hs, if_neg hs]
      exact ⟨rfl, rfl⟩
  · rw [if_neg hy, if_neg hy]
    exact ⟨rfl, rfl⟩
theorem toldT_w (x : Sv C) (k : Int) (ks : List Int) : (toldT x k ks).1 = ("done" : Str) ∨ (toldT x k ks).1 = ("stuck" : Str) ∨ (toldT x k ks).1 = ("no" : Str) := by
  unfold toldT
  by_cases hy : x.yes k = true
  · rw [if_pos hy]
    by_cases hs : x.stuck k = []
    · rw [if_pos hs]; exact .inl rfl
    · rw [if_neg hs]; exact .inr (.inl rfl)
  · rw [if_neg hy]; exact .inr (.inr rfl)
theorem toldT_ok (x : Sv C) (k : Int) (ks : List Int) : PyData.strOk (toldT x k ks).1 = true := by
  rcases toldT_w x k ks with h | h | h <;> rw [h] <;> decide +kernel
/-- deeds of good keys -/
def DsOk (n : Nat) (ds : List (Str × Int)) : Prop := ds.length ≤ n ∧ ∀ d, d ∈ ds → KeyOk d.2 ∧ PyData.strOk d.1 = true
theorem dsOk_app {a b n : Nat} {x y : List (Str × Int)} (h1 : DsOk a x) (h2 : DsOk b y) (h : a + b ≤ n) : DsOk n (x ++ y) := ⟨by rw [List.length_append]; have := h1.1; have := h2.1; omega, fun d hd => by
  rcases List.mem_append.mp hd with z | z
  · exact h1.2 d z
  · exact h2.2 d z⟩
/-! ### what the laws reckon anew -/
def saysL (cs : List Int) (hands : List (Int × Int)) (cap key : Int) : Bool := decide ((pointed hands (cs.length : Int) key).filter (fun c => decide (cat cs c < min cap (((pointed hands (cs.length : Int) key).count c : Nat) : Int))) = [])
theorem saysL_eq (x : Sv C) (hn : (x.cells.length : Int) = x.size) (key : Int) : saysL x.cells x.hands x.cap key = x.yes key := by
  rw [Bool.eq_iff_iff, yes_iff]
  unfold saysL
  rw [decide_eq_true_eq, List.filter_eq_nil_iff, hn]
  constructor
  · intro h c hc
    have := h c hc
    simp at this
    omega
  · intro h c hc
    have := h c hc
    simp
    omega
theorem deed_wok (x : Sv C) (w : Str) (k : Int) : PyData.strOk (deed x w k).1 = true := by
  have : (deed x w k).1 = ("done" : Str) ∨ (deed x w k).1 = ("stuck" : Str) ∨ (deed x w k).1 = ("no" : Str) := by
    unfold deed
    by_cases h : w = ("put" : Str)
    · rw [if_pos h]; exact .inl rfl
    · rw [if_neg h]
      by_cases hy : x.yes k = true
      · rw [if_pos hy]
        by_cases hs : x.stuck k = []
        · rw [if_pos hs]; exact .inl rfl
        · rw [if_neg hs]; exact .inr (.inl rfl)
      · rw [if_neg hy]; exact .inr (.inr rfl)
  rcases this with h | h | h <;> rw [h] <;> decide +kernel
def oddStep (r : List Str × Sv C) (pre : List (Str × Int)) (d : Str × Int) : Bool := !decide (d.1 = ("put" : Str)) && (decide ((deed r.2 d.1 d.2).1 = ("done" : Str)) && decide (val (often pre r.1) d.2 < 1))
def odds (x : Sv C) (ds : List (Str × Int)) : Bool := (ds.foldl (fun (a : List (Str × Int) × Bool) d => (a.1 ++ [d], a.2 || oddStep (run x a.1) a.1 d)) ([], false)).2
theorem odds_fst (x : Sv C) (ds : List (Str × Int)) : (ds.foldl (fun (a : List (Str × Int) × Bool) d => (a.1 ++ [d], a.2 || oddStep (run x a.1) a.1 d)) ([], false)).1 = ds := by
  induction ds using snoc_ind with
  | nil => rfl
  | snoc ds d ih => rw [List.foldl_append]; show _ ++ [d] = _; rw [ih]
theorem odds_snoc (x : Sv C) (ds : List (Str × Int)) (d : Str × Int) : odds x (ds ++ [d]) = (odds x ds || oddStep (run x ds) ds d) := by
  have h := odds_fst x ds
  unfold odds
  rw [List.foldl_append]
  show (_ || oddStep (run x _) _ d) = _
  rw [h]
theorem count_erase {l : List Int} {n : Nat} {k : Int} (h : l[n]? = some k) (j : Int) : (l.count j : Int) = ((l.eraseIdx n).count j : Int) + (if j = k then 1 else 0) := by
  induction l generalizing n with
  | nil => simp at h
  | cons a r ih =>
    cases n with
    | zero =>
      simp at h
      subst h
      rw [List.eraseIdx_cons_zero, List.count_cons]
      by_cases e : j = a
      · subst e; simp
      · have e' : ¬ a = j := fun z => e z.symm
        simp [e, e']
    | succ n =>
      have := ih (n := n) (by simpa using h)
      rw [List.eraseIdx_cons_succ, List.count_cons, List.count_cons]
      omega
/-- where no key was taken that wasn't in, the counts are those of the keys that are in -/
theorem run_even (h0 : 0 < size) (ds : List (Str × Int)) : odds (svOf C [] size hands cap) ds = false → ∃ ins, (run (svOf C [] size hands cap) ds).2 = svOf C ins size hands cap ∧ ∀ k, (ins.count k : Int) = val (often ds (run (svOf C [] size hands cap) ds).1) k := by
  induction ds using snoc_ind with
  | nil => exact fun _ => ⟨[], rfl, fun k => rfl⟩
  | snoc ds d ih =>
    rw [odds_snoc, Bool.or_eq_false_iff]
    rintro ⟨h1, h2⟩
    obtain ⟨ins, e, hc⟩ := ih h1
    rw [run_snoc]
    have hlen : ds.length = (run (svOf C [] size hands cap) ds).1.length := (run_len _ _).symm
    obtain ⟨w, key⟩ := d
    dsimp only at *
    unfold oddStep at h2
    dsimp only at h2
    rw [often_snoc hlen, e] at *
    dsimp only
    by_cases hp : w = ("put" : Str)
    · have hd : deed (svOf C ins size hands cap) w key = (("done" : Str), (svOf C ins size hands cap).put1 key) := by unfold deed; rw [if_pos hp]
      rw [hd]
      refine ⟨ins ++ [key], svOf_put h0 key, fun k => ?_⟩
      dsimp only
      rw [if_pos rfl, val_put, if_pos hp, List.count_append]
      have := hc k
      have hk := hc key
      unfold val at this hk ⊢
      by_cases ek : k = key
      · subst ek
        rw [if_pos rfl]
        simp
        omega
      · have ek' : ¬ key = k := fun z => ek z.symm
        rw [if_neg ek]
        simp [ek']
        omega
    · have hd : deed (svOf C ins size hands cap) w key = if (svOf C ins size hands cap).yes key = true then if (svOf C ins size hands cap).stuck key = [] then (("done" : Str), (svOf C ins size hands cap).take1 key) else (("stuck" : Str), svOf C ins size hands cap) else (("no" : Str), svOf C ins size hands cap) := by unfold deed; rw [if_neg hp]
      rw [hd] at h2 ⊢
      by_cases hy : (svOf C ins size hands cap).yes key = true
      · rw [if_pos hy] at h2 ⊢
        by_cases hs : (svOf C ins size hands cap).stuck key = []
        · rw [if_pos hs] at h2 ⊢
          dsimp only at h2 ⊢
          have hv : ¬ val (often ds (run (svOf C [] size hands cap) ds).1) key < 1 := by
            intro z
            rw [decide_eq_false hp, decide_eq_true z] at h2
            simp at h2
          have hin : key ∈ ins := by
            have := hc key
            exact List.count_pos_iff.mp (by omega)
          obtain ⟨n, hn⟩ := List.mem_iff_getElem?.mp hin
          refine ⟨ins.eraseIdx n, svOf_take h0 hn hs, fun k => ?_⟩
          rw [if_pos rfl, val_put, if_neg hp]
          have hk := count_erase hn k
          have h3 := hc k
          have h4 := hc key
          unfold val at h3 h4 ⊢
          by_cases ek : k = key
          · subst ek
            rw [if_pos rfl] at hk ⊢
            omega
          · rw [if_neg ek] at hk ⊢
            omega
        · rw [if_neg hs]
          dsimp only
          rw [if_neg (by decide)]
          exact ⟨ins, rfl, hc⟩
      · rw [if_neg hy]
        dsimp only
        rw [if_neg (by decide)]
        exact ⟨ins, rfl, hc⟩
theorem lost_even (h0 : 0 < size) {ds : List (Str × Int)} (h : odds (svOf C [] size hands cap) ds = false) : (stillIn ds (run (svOf C [] size hands cap) ds).1).filter (fun k => !(run (svOf C [] size hands cap) ds).2.yes k) = [] := by
  obtain ⟨ins, e, hc⟩ := run_even h0 ds h
  rw [List.filter_eq_nil_iff]
  intro k hk
  unfold stillIn at hk
  have h1 := of_decide_eq_true (List.mem_filter.mp hk).2
  have h2 := hc k
  unfold val at h2
  have hin : k ∈ ins := List.count_pos_iff.mp (by omega)
  rw [e, svOf_yes h0 hin]
  decide
/-- keys of some kind, each once: found one by one -/
theorem uniq_filter_snoc (P : Int → Bool) (ks : List Int) (k : Int) : (uniq (ks ++ [k])).filter P = if (P k && !decide (k ∈ (uniq ks).filter P)) = true then (uniq ks).filter P ++ [k] else (uniq ks).filter P := by
  rw [uniq_snoc]
  by_cases hm : k ∈ uniq ks
  · rw [if_pos hm]
    cases hp : P k with
    | true =>
      have : k ∈ (uniq ks).filter P := List.mem_filter.mpr ⟨hm, hp⟩
      rw [if_neg]
      simp [hm, hp]
    | false => rw [if_neg (by simp)]
  · rw [if_neg hm, List.filter_append]
    have hn : k ∉ (uniq ks).filter P := fun z => hm (List.mem_filter.mp z).1
    cases hp : P k with
    | true => rw [if_pos (by simp [hm])]; simp [hp]
    | false => rw [if_neg (by simp)]; simp [hp]
end
/-! ### what comes of taking a key out, as a law tells it -/
inductive Out where
  | no
  | full (l : List Int)
  | list (l : List Int)
  deriving DecidableEq
instance : Rp Out := ⟨fun m H x v => match x with
  | .no => v = .str "no"
  | .full l => ∃ a u, v = .ref a ∧ H a = some (.tup [u]) ∧ Rp.rp m H l u
  | .list l => Rp.rp m H l v, fun {m m' H H' x v} k t h => by
    cases x with
    | no => exact h
    | full l =>
      obtain ⟨a, u, e, h1, h2⟩ := h
      exact ⟨a, u, e, t a _ h1, Rp.go k t h2⟩
    | list l => exact Rp.go (α := List Int) k t h⟩
instance : Dat Out := ⟨fun x => match x with
  | .no => .str "no"
  | .full l => .tuple [Dat.dat l]
  | .list l => Dat.dat l, fun _ => True, 3, fun {K m H x v} r => by
    cases x with
    | no => cases (show v = V.str "no" from r); exact .str "no"
    | full l =>
      obtain ⟨a, u, e, h1, h2⟩ := r
      rw [e]
      exact .tup (.of h1) (.cons (Dat.dp h2) .nil)
    | list l => exact Dat.dp (α := List Int) (x := l) r, fun x _ => by
    cases x with
    | no => simp only [PyData.canLay0]; decide +kernel
    | full l => show PyData.canLay0 (.tuple [Dat.dat l]) = true; rw [PyData.canLay0, PyData.canLayAll0, PyData.canLayAll0, Dat.can l (ok_ints l)]; rfl
    | list l => exact Dat.can l (ok_ints l), fun x => by
    cases x with
    | no => simp [PyData.depth]
    | full l => show PyData.depth (.tuple [Dat.dat l]) ≤ 3; rw [PyData.depth, PyData.depthAll, PyData.depthAll]; have := Dat.depth l; have h : Dat.dep (List Int) = 1 := rfl; omega
    | list l => show PyData.depth (Dat.dat l) ≤ 3; have := Dat.depth l; have h : Dat.dep (List Int) = 1 := rfl; omega, fun x y => by
    cases x with
    | no =>
      cases y with
      | no => show PyData.eqv (.str "no") (.str "no") = true ↔ _; simp [PyData.eqv]
      | full l => show PyData.eqv (.str "no") (.tuple [Dat.dat l]) = true ↔ _; simp [PyData.eqv]
      | list l => show PyData.eqv (.str "no") (.list (l.map Dat.dat)) = true ↔ _; simp [PyData.eqv]
    | full l =>
      cases y with
      | no => show PyData.eqv (.tuple [Dat.dat l]) (.str "no") = true ↔ _; simp [PyData.eqv]
      | full l2 => show PyData.eqv (.tuple [Dat.dat l]) (.tuple [Dat.dat l2]) = true ↔ _; rw [PyData.eqv, PyData.eqvAll, PyData.eqvAll, Bool.and_true, Dat.eq]; simp
      | list l2 => show PyData.eqv (.tuple [Dat.dat l]) (.list (l2.map Dat.dat)) = true ↔ _; simp [PyData.eqv]
    | list l =>
      cases y with
      | no => show PyData.eqv (.list (l.map Dat.dat)) (.str "no") = true ↔ _; simp [PyData.eqv]
      | full l2 => show PyData.eqv (.list (l.map Dat.dat)) (.tuple [Dat.dat l2]) = true ↔ _; simp [PyData.eqv]
      | list l2 => show PyData.eqv (Dat.dat l) (Dat.dat l2) = true ↔ _; rw [Dat.eq]; simp⟩
section
variable {C : Addr} {A : Type} [RpA A] {D : Dst} {m : List Addr} {σ : St} {H : Hp} {te : TE} {En : Ends} {z : TS} {i : Nat} {t : TA} {E : XK}
def outOf (x : Sv C) (k : Int) (ks : List Int) : Out := if x.yes k = true then if x.stuck k = [] then .list ((uniq ks).filter fun o => !(x.take1 k).yes o) else .full (x.stuck k) else .no
/-- the list that is told is new -/
def SpOut (pre : A → Prop) (f : A → Out) : Sp := fun vs H Q _ => ∃ m x, Cc none m H ∧ RpA.rpa m H x vs ∧ pre x ∧ ∀ v H', Gr [] H H' → Rp.rp m H' (f x) v → (∀ l, f x = .list l → ∃ a, v = .ref a ∧ H a = none ∧ Own m H' a l) → Q v H'
theorem q_setOut {pre : A → Prop} {f : A → Out} {y : A} (c : Cc D m H) (h : EvAr D m t σ H fun x => x = y) (hp : pre y) (k : ∀ v H1, Gd D H H1 → Rp.rp m H1 (f y) v → (∀ l, f y = .list l → ∃ a, v = .ref a ∧ H a = none ∧ Own m H1 a l) → z En (σ.set i (some v)) H1) : tSeq (tAsg (tCall (SpOut pre f) [] E t) (gName i)) z En σ H := h H .refl c _ fun x vs H1 g r e => by
  subst e
  refine ⟨m, x, (c.go g).none, (by rw [List.append_nil]; exact r), hp, fun v H2 g2 rv hl => k v H2 (g.trans (.pure g2)) rv fun l hl' => ?_⟩
  obtain ⟨a, e, n, o⟩ := hl l hl'
  exact ⟨a, e, g.gr.dom a n, o⟩
theorem s_retO {α : Type} [Rp α] {p : α → Prop} (c : Cc D m H) (h : Ev D m te σ H p) (k : ∀ x v H1, Gd D H H1 → Rp.rp m H1 x v → p x → En.rt v H1) : tRet te En σ H := s_ret c h k
def Out.isList : Out → Bool
  | .list _ => true
  | _ => false
theorem Out.list_of {x : Out} (h : x.isList = true) : ∃ l, x = .list l := by
  cases x with
  | no => cases h
  | full l => cases h
  | list l => exact ⟨l, rfl⟩
theorem outOf_len {x : Sv C} {k : Int} {ks l : List Int} (h : outOf x k ks = .list l) : l.length ≤ ks.length := by
  unfold outOf at h
  by_cases hy : x.yes k = true
  · rw [if_pos hy] at h
    by_cases hs : x.stuck k = []
    · rw [if_pos hs] at h
      cases h
      exact Nat.le_trans (List.length_filter_le _ _) (uniq_len ks)
    · rw [if_neg hs] at h
      cases h
  · rw [if_neg hy] at h
    cases h
theorem ev_isOut {K : PySem.W.Frag} {ta : TE} {x : Out} (h : EvV D m ta σ H x) : EvV D m (tCB (rIsi K) (tCons ta (tCons (tC (.ty "list")) tNil))) σ H x.isList := fun H1 g c Q w => h H1 g c _ fun x' v H2 g2 r e => by
  subst e
  cases x' with
  | no =>
    cases (show v = V.str "no" from r)
    exact ⟨_, _, _, _, false, rfl, .ty "list", .base (.str _), kit_ty (by decide +kernel : kitB "str" "list" = some false), w false _ H2 g2 rfl rfl⟩
  | full l =>
    obtain ⟨a, u, rfl, h1, _⟩ := r
    exact ⟨_, _, _, _, false, rfl, .ty "list", .base (.tup h1), kit_ty (by decide +kernel : kitB "tuple" "list" = some false), w false _ H2 g2 rfl rfl⟩
  | list l =>
    have r' : Rp.rp m H2 l v := r
    exact ⟨_, _, _, _, true, rfl, .ty "list", ty_list r', kit_ty (by decide +kernel : kitB "list" "list" = some true), w true _ H2 g2 rfl rfl⟩
end
/-! ### none, "no", or the stuck cells -/
inductive Out3 where
  | non
  | no
  | list (l : List Int)
  deriving DecidableEq
instance : Rp Out3 := ⟨fun m H x v => match x with
  | .non => v = .non
  | .no => v = .str "no"
  | .list l => Rp.rp m H l v, fun {m m' H H' x v} k t h => by
    cases x with
    | non => exact h
    | no => exact h
    | list l => exact Rp.go (α := List Int) k t h⟩
instance : Dat Out3 := ⟨fun x => match x with
  | .non => .none
  | .no => .str "no"
  | .list l => Dat.dat l, fun _ => True, 3, fun {K m H x v} r => by
    cases x with
    | non => cases (show v = V.non from r); exact .non
    | no => cases (show v = V.str "no" from r); exact .str "no"
    | list l => exact Dat.dp (α := List Int) (x := l) r, fun x _ => by
    cases x with
    | non => simp only [PyData.canLay0]
    | no => simp only [PyData.canLay0]; decide +kernel
    | list l => exact Dat.can l (ok_ints l), fun x => by
    cases x with
    | non => simp [PyData.depth]
    | no => simp [PyData.depth]
    | list l => show PyData.depth (Dat.dat l) ≤ 3; have := Dat.depth l; have h : Dat.dep (List Int) = 1 := rfl; omega, fun x y => by
    cases x with
    | non =>
      cases y with
      | non => show PyData.eqv .none .none = true ↔ _; simp [PyData.eqv]
      | no => show PyData.eqv .none (.str "no") = true ↔ _; simp [PyData.eqv]
      | list l => show PyData.eqv .none (.list (l.map Dat.dat)) = true ↔ _; simp [PyData.eqv]
    | no =>
      cases y with
      | non => show PyData.eqv (.str "no") .none = true ↔ _; simp [PyData.eqv]
      | no => show PyData.eqv (.str "no") (.str "no") = true ↔ _; simp [PyData.eqv]
      | list l => show PyData.eqv (.str "no") (.list (l.map Dat.dat)) = true ↔ _; simp [PyData.eqv]
    | list l =>
      cases y with
      | non => show PyData.eqv (.list (l.map Dat.dat)) .none = true ↔ _; simp [PyData.eqv]
      | no => show PyData.eqv (.list (l.map Dat.dat)) (.str "no") = true ↔ _; simp [PyData.eqv]
      | list l2 => show PyData.eqv (Dat.dat l) (Dat.dat l2) = true ↔ _; rw [Dat.eq]; simp⟩
def Out3.isList : Out3 → Bool
  | .list _ => true
  | _ => false
theorem Out3.list_of {x : Out3} (h : x.isList = true) : ∃ l, x = .list l := by
  cases x with
  | non => cases h
  | no => cases h
  | list l => exact ⟨l, rfl⟩
section
variable {C : Addr} {D : Dst} {m : List Addr} {σ : St} {H : Hp}
theorem ev_isOut3 {K : PySem.W.Frag} {ta : TE} {x : Out3} (h : EvV D m ta σ H x) : EvV D m (tCB (rIsi K) (tCons ta (tCons (tC (.ty "list")) tNil))) σ H x.isList := fun H1 g c Q w => h H1 g c _ fun x' v H2 g2 r e => by
  subst e
  cases x' with
  | non =>
    cases (show v = V.non from r)
    exact ⟨_, _, _, _, false, rfl, .ty "list", .base .non, kit_ty (by decide +kernel : kitB "NoneType" "list" = some false), w false _ H2 g2 rfl rfl⟩
  | no =>
    cases (show v = V.str "no" from r)
    exact ⟨_, _, _, _, false, rfl, .ty "list", .base (.str _), kit_ty (by decide +kernel : kitB "str" "list" = some false), w false _ H2 g2 rfl rfl⟩
  | list l =>
    have r' : Rp.rp m H2 l v := r
    exact ⟨_, _, _, _, true, rfl, .ty "list", ty_list r', kit_ty (by decide +kernel : kitB "list" "list" = some true), w true _ H2 g2 rfl rfl⟩
end
/-! ### more rules -/
section
variable {α β : Type} [Rp α] [Rp β] {K : PySem.W.Frag} {D : Dst} {m : List Addr} {σ : St} {H H' : Hp} {ta tb : TE} {En : Ends} {i : Nat} {t z : TS} {tt : TT}
theorem ev_neB {x y : Bool} (ha : EvV D m ta σ H x) (hb : EvV D m tb σ H y) : EvV D m (tOp rNe ta tb) σ H (!decide (x = y)) := fun H1 e c Q w =>
  ha H1 e c _ fun x' v H2 e2 ri pi => hb H2 (e.trans e2) (c.go e2) _ fun y' u H3 e3 rj qj => by
    subst pi qj
    cases rp_bool ri
    cases rp_bool rj
    exact ⟨rfl, w _ _ H3 (e2.trans e3) (by cases x' <;> cases y' <;> rfl) rfl⟩
theorem ev_eqB {x y : Bool} (ha : EvV D m ta σ H x) (hb : EvV D m tb σ H y) : EvV D m (tOp rEq ta tb) σ H (decide (x = y)) := fun H1 e c Q w =>
  ha H1 e c _ fun x' v H2 e2 ri pi => hb H2 (e.trans e2) (c.go e2) _ fun y' u H3 e3 rj qj => by
    subst pi qj
    cases rp_bool ri
    cases rp_bool rj
    exact ⟨rfl, w _ _ H3 (e2.trans e3) (by cases x' <;> cases y' <;> rfl) rfl⟩
/-- an if without else, what follows told by J -/
theorem q_whenJ (J : St → Hp → Prop) (hz : ∀ σ1 H1, J σ1 H1 → z En σ1 H1) (h : (∀ σ1 H1, J σ1 H1 → z En σ1 H1) → tt σ H fun b H1 => if b = true then t { En with nx := z En } σ H1 else z En σ H1) : tSeq (tIfS tt t tNext) z En σ H := h hz
/-- for told in [e1, e2]: told.append(0) -/
theorem q_told2 {xs : List α} {ys : List β} (c : Cc D m H) (h1 : EvLV D m ta σ H xs) (h2 : EvLV D m tb σ H ys) (l1 : xs.length ≤ 1000) (l2 : ys.length ≤ 1000) (hi : i < σ.length) (k : ∀ o H', Gd D H H' → z En (σ.set i o) H') :
    tSeq (tFor (iList K (tLst (tCons ta (tCons tb tNil)))) (gName i) (tDrop (tBM K "list" rAppend (tVar i) (tCons (tC (.int 0)) tNil)))) z En σ H := by
  refine h1 H .refl c _ fun xs' a1 H1 n1 g1 o1 e1 => h2 H1 g1 (c.go g1) _ fun ys' a2 H2 n2 g2 o2 e2 => ⟨(by show 2 ≤ sizeLine; decide), fun l hl => ?_⟩
  subst e1 e2
  obtain ⟨_, v1, ha1, p1⟩ := o1.gd (c.go g1) g2
  obtain ⟨_, v2, ha2, p2⟩ := o2
  have e1 := p1.length
  have e2 := p2.length
  have na1l : a1 ≠ l := ne_of_none ha1 hl
  have na2l : a2 ≠ l := ne_of_none ha2 hl
  have na12 : a1 ≠ a2 := by
    obtain ⟨w1, hw1, _⟩ := o1.ex
    exact ne_of_none hw1 n2
  have nH2 : H a2 = none := g1.gr.dom a2 n2
  have nHl : H l = none := (g1.trans g2).gr.dom l hl
  refine ⟨l, rfl, ⟨_, .of upd_same⟩, for_list (K := K) (a := l) (xs := [.ref a1, .ref a2]) (fun j s' H' => ∃ o, s' = σ.set i o ∧ Gd D H H' ∧ H' l = some (.lst [.ref a1, .ref a2]) ∧ (∃ u1, H' a1 = some (.lst u1) ∧ u1.length ≤ 1000 + j) ∧ ∃ u2, H' a2 = some (.lst u2) ∧ u2.length ≤ 1000 + j) ?_ ?_ ?_ ?_⟩
  · exact ⟨σ[i], by simp, (g1.trans g2).trans (.new hl), upd_same, ⟨v1, by rw [upd_ne na1l]; exact ha1, by omega⟩, ⟨v2, by rw [upd_ne na2l]; exact ha2, by omega⟩⟩
  · rintro j s' H' _ ⟨o, _, _, h, _⟩
    exact .of h
  · rintro j w s' H' hj ⟨o, rfl, g', hl', ⟨u1, h1', b1⟩, u2, h2', b2⟩
    have hj2 : j < 2 := (List.getElem?_eq_some_iff.mp hj).1
    refine g_name ?_
    rw [List.set_set]
    match j, hj2, hj, b1, b2 with
    | 0, _, hj, b1, b2 =>
      cases hj
      refine ⟨_, List.getElem?_set_self hi, .inl ⟨rfl, _, .inl (.inl h1')⟩, a1, u1, _, rfl, rfl, h1', Evl.sz_lt (by omega), ?_⟩
      refine ⟨_, rfl, mut_gd g' c n1, ?_, ⟨_, upd_same, by rw [List.length_append]; show u1.length + 1 ≤ _; omega⟩, ⟨u2, ?_, by omega⟩⟩
      · rw [upd_ne na1l.symm]; exact hl'
      · rw [upd_ne na12.symm]; exact h2'
    | 1, _, hj, b1, b2 =>
      cases hj
      refine ⟨_, List.getElem?_set_self hi, .inl ⟨rfl, _, .inl (.inl h2')⟩, a2, u2, _, rfl, rfl, h2', Evl.sz_lt (by omega), ?_⟩
      refine ⟨_, rfl, mut_gd g' c nH2, ?_, ⟨u1, ?_, by omega⟩, ⟨_, upd_same, by rw [List.length_append]; show u2.length + 1 ≤ _; omega⟩⟩
      · rw [upd_ne na2l.symm]; exact hl'
      · rw [upd_ne na12]; exact h1'
  · rintro s' H' ⟨o, rfl, g', _⟩
    exact k o H' g'
end
section
variable {C : Addr}
def o3 (x : Sv C) (k : Int) : Out3 := if x.yes k = true then if x.stuck k = [] then .non else .list (x.stuck k) else .no
theorem stuck_len (x : Sv C) (k : Int) : (x.stuck k).length ≤ x.hands.length := by
  unfold Sv.stuck
  rw [(isort_perm _).length_eq, List.length_map]
  have h1 := List.length_filter_le (fun kv : Int × Int => decide (cat x.cells kv.1 = x.cap)) (wanted x k)
  have h2 : (wanted x k).length ≤ (pointed x.hands x.size k).length := tally_len _
  have h3 : (pointed x.hands x.size k).length = x.hands.length := by unfold pointed; simp
  omega
theorem Sv.Good.take1 {x : Sv C} (h : x.Good) (k : Int) : (x.take1 k).Good := h.to ⟨rfl, rfl, rfl⟩ (by
  have := h.n
  unfold Sv.take1
  dsimp only
  rw [foldl_len dec1_len]
  exact this)
theorem Sv.Good.put1 {x : Sv C} (h : x.Good) (k : Int) : (x.put1 k).Good := h.to ⟨rfl, rfl, rfl⟩ (by
  have := h.n
  unfold Sv.put1
  dsimp only
  rw [foldl_len (inc_len _)]
  exact this)
/-- the counts of a sieve out of which a key was taken, one by one -/
theorem take1_at {x : Sv C} (h : x.Good) (k : Int) {j : Nat} {n : Int} (hj : x.cells[j]? = some n) : (x.take1 k).cells[j]? = some (n - ((pointed x.hands x.size k).count (j : Int) : Int)) := by
  have hn := h.n
  have h0 := h.s0
  have hin : InR x.cells.length (pointed x.hands x.size k) := inR_pointed (by omega) hn
  have hjl : j < x.cells.length := (List.getElem?_eq_some_iff.mp hj).1
  have hlen : (x.take1 k).cells.length = x.cells.length := by unfold Sv.take1; dsimp only; rw [foldl_len dec1_len]
  have hn' : n = cat x.cells (j : Int) := by
    unfold cat
    rw [show ((j : Int)).toNat = j by omega, hj]
    rfl
  have hc : cat (x.take1 k).cells (j : Int) = cat x.cells (j : Int) - ((pointed x.hands x.size k).count (j : Int) : Int) := by
    unfold Sv.take1
    dsimp only
    rw [cat_dec hin (by omega)]
  rw [hn', ← hc]
  unfold cat
  rw [show ((j : Int)).toNat = j by omega, List.getElem?_eq_getElem (by omega)]
  rfl
end
end KS
set_option Elab.async false
set_option linter.all false
set_option maxRecDepth 100000
set_option maxHeartbeats 4000000
/-! ### set(xs) of a list of whole numbers -/
namespace L2
open PySem PySem.Spec PyProof.Rows
/-- the empty set as the model lays it -/
abbrev set0 (w : World) : Obj := { cls := .type "set", dict := none, data := .set #[] 0 (.fresh 0 0 (!w.params.followText "set-order")) }
section
variable {P : Program} {w : World} {A : Around} {E : Value → Shared → Prop} {s : Shared}
set_option maxHeartbeats 3200000 in
theorem call_set_listI {l : Addr} {items : Array Value} (ns : List Int) {Q : Value → Shared → Prop} (hh : A.handled = none) (hl : s.heap.IsList l items) (hit : IntsAre items.toList ns) (hb : ns.length + 1 < scanBound)
    (h : ∀ (h' : Heap) (tk c : Nat), SetR w h' s.heap.objs.size (fun j => decide (j ∈ ns)) c → c ≤ ns.length → (∀ b o, s.heap.get? b = some o → h'.get? b = some o) → Q (.ref s.heap.objs.size) { s with heap := h', toks := tk }) :
    wpAny (model P w) A (call (.type "set") [.ref l]) Q E s := by
  have hisz : items.size = ns.length := by have q := IntsAre.length hit; rw [Array.length_toList] at q; exact q
  obtain ⟨c, tl, hmro⟩ := F.called_set.mro
  have hmade := F.called_set.made
  have hsub := F.called_set.sub
  refine wpAny_call (codeAny_of_tree ?_)
  show wpAny _ _ (callAny (.type "set") _) _ _ _
  refine wpAny_pure ⟨Code.quiet_builtin _ (by decide +kernel), codeAny_builtin F.entry_type_call ?_⟩
  rw [Around.under_plain (weight_type_call_type "set" [.ref l] []) rfl]
  have h1 := F.called_set.notType
  have h2 := F.called_set.canCreate
  have hct := F.typeCall_set_1 (.ref l)
  repeat (any_goals (first | assumption | wp_step))
  refine codeAny_mono (code_set_led1 (.ref l) (E := E) (Q₁ := fun obj s₁ => obj = .ref s.heap.objs.size ∧ s₁ = { s with heap := s.heap.push (set0 w) }) ⟨rfl, rfl⟩) fun r s₁ hr => ?_
  cases r with
  | error e => exact hr
  | ok fl =>
    cases fl with
    | next => exact hr
    | brk => exact hr
    | cont => exact hr
    | ret obj =>
      obtain ⟨rfl, rfl⟩ := hr
      have hS : (s.heap.push (set0 w)).get? s.heap.objs.size = some (set0 w) := Heap.get?_push_size _ rfl
      have hT : Shared.TypeIs { s with heap := s.heap.push (set0 w) } (.ref s.heap.objs.size) "set" := ⟨_, hS, rfl⟩
      have hli := F.called_set.init.lookup
      have hbi := F.called_set.init.bind (.ref s.heap.objs.size)
      repeat (any_goals (first | assumption | wp_step))
      refine codeAny_mono (codeAny_call_builtin (R := wants (fun r s₂ => r = .none ∧ ∃ h' tk c, s₂ = { s with heap := h', toks := tk } ∧ SetR w h' s.heap.objs.size (fun j => decide (j ∈ ns)) c ∧ c ≤ ns.length ∧ (∀ b o, s.heap.get? b = some o → h'.get? b = some o)) E)
        F.called_set.init.plain F.entry_set_init (check_set_init_1 hT ?_)) fun r₂ s₂ hr₂ => ?_
      · obtain ⟨⟨ocls, odict, odata, oslots⟩, hol, hcl, nl, hdl⟩ := hl
        simp only at hcl hdl
        subst hcl hdl
        have hol' : (s.heap.push (set0 w)).get? l = some { cls := .type "list", dict := odict, data := .seq items nl, slots := oslots } := Heap.get?_push_of_some _ hol
        have hsls := F.sub_list_set
        have hslf := F.sub_list_frozenset
        have hne : (Value.type "list" == Value.type "dict") = false := by decide
        have hl1 : (s.heap.push (set0 w)).IsList l items := ⟨_, hol', rfl, nl, rfl⟩
        unfold Builtin.«set.__init__» noKeywords Builtin.Frozenset.updateFrom
        generalize hPI : pyIter = PI
        wp_walk
        subst hPI
        refine wpAny_pyIter_list hl1 (wpAny_bind (wpAny_runValue ?_))
        have hlS : l < s.heap.objs.size := Heap.lt_size hol
        have hz : (s.heap.push (set0 w)).objs.size = s.heap.objs.size + 1 := Heap.size_push ..
        have hh3 : A.in1.in1.in1.handled = none := by simp [hh]
        have hneI : l ≠ (s.heap.push (set0 w)).objs.size := by rw [hz]; exact Nat.ne_of_lt (Nat.lt_succ_of_lt hlS)
        have hSf : s.heap.objs.size ∉ [(s.heap.push (set0 w)).objs.size, l] := by
          rw [hz]
          simp only [List.mem_cons, List.not_mem_nil, or_false, not_or]
          exact ⟨Nat.ne_of_lt (Nat.lt_succ_self _), Nat.ne_of_gt hlS⟩
        have hval : ∀ (i : Nat) (v : Value), items[i]? = some v → ∃ k t, ns[i]? = some k ∧ v = .int k t := fun i v hv => by
          have hi : i < ns.length := by rw [← hisz]; exact (Array.getElem?_eq_some_iff.mp hv).1
          obtain ⟨t, e⟩ := IntsAre.int_at hit i v (by rw [Array.getElem?_toList]; exact hv)
          refine ⟨ns[i], t, List.getElem?_eq_getElem hi, ?_⟩
          rw [e, List.getD_eq_getElem?_getD, List.getElem?_eq_getElem hi]
          rfl
        refine set_update_ints ((Walks.list hh3 _ l hneI items).toS) s.heap.objs.size hSf ns hisz hb hval (items.size - 0) 0 _ (by omega) (Nat.zero_le _) ⟨⟨_, Heap.get?_push_size _ rfl, rfl, rfl⟩, (hl1.push _)⟩ ?z0 ?zR
        case z0 => exact ⟨0, Nat.le_refl 0, setR_new_at (Heap.get?_push_of_some _ hS)⟩
        case zR =>
          rintro ⟨h', g2, d', tk', os'⟩ c' hm hc' hS'
          have eg : g2 = s.gens := hm.gens
          have ed : d' = s.drawn := hm.drawn
          have eo : os' = s.os := hm.os
          subst eg ed eo
          refine wpAny_pure ?_
          show wpAny _ _ (ret Value.none) _ _ _
          rw [hisz] at hc'
          refine wpAny_pure ⟨rfl, h', tk', c', rfl, hS', hc', fun b o e => ?_⟩
          have hb0 : b < s.heap.objs.size := Heap.lt_size e
          refine hm.heap b o ?_ (Heap.get?_push_of_some _ (Heap.get?_push_of_some _ e))
          simp only [List.mem_cons, List.not_mem_nil, or_false, not_or]
          exact ⟨Nat.ne_of_lt hb0, by rw [hz]; exact Nat.ne_of_lt (Nat.lt_succ_of_lt hb0)⟩
      · cases r₂ with
        | error e => exact hr₂
        | ok fl₂ =>
          cases fl₂ with
          | next => exact hr₂
          | brk => exact hr₂
          | cont => exact hr₂
          | ret r =>
            obtain ⟨rfl, h', tk', c', rfl, hS', hc', hk⟩ := hr₂
            repeat (any_goals (first | assumption | wp_step))
            exact h h' tk' c' hS' hc' hk
end
/-- set(xs) -/
def rSetOfI (K : PySem.W.Frag) (w : World) : List V → Hp → VK → Prop := fun xs H Q => ∃ (a : Addr) (ns : List Int), xs = [.ref a] ∧ SqL K H a (ns.map V.int) ∧ ns.length ≤ 1000 ∧
  ∀ (p : Addr) (c : Nat), H p = none → c ≤ ns.length → Q (.ref p) (upd H p (SetO w p (fun j => decide (j ∈ ns)) c))
theorem call_set_of {X : Cx} (hc : X.calm = true) : CallR X (.type "set") (rSetOfI X.K X.w) := by
  intro pins s σ H xs us Q I r h
  obtain ⟨a, ns, rfl, hq, hl, q⟩ := h
  obtain ⟨u, rfl, ru⟩ := vals1 r
  cases ru
  obtain ⟨its, rv, pl, hz⟩ := I.list hq
  refine call_set_listI ns (I.ok.hd hc) pl.isList (by simpa using ints_of_vals rv) (by unfold scanBound; omega) fun h' tk c R1 hcn k => ?_
  exact ⟨.ref _, upd H s.heap.objs.size (SetO X.w s.heap.objs.size (fun j => decide (j ∈ ns)) c), I.laid (t' := tk) k (Nat.le_refl _) (setO_new R1), rfl, q _ c (I.hok.fresh (Nat.le_refl _)) hcn⟩
end L2

namespace KS
open PySem L2
/-- sorted(set(xs)) -/
theorem el_sortedSet {D : Dst} {m : List Addr} {σ : St} {H : Hp} {te : TE} {K : PySem.W.Frag} {w : World} {xs : List Int} (h : EvV D m te σ H xs) (hl : xs.length < 64) : EvLV D m (tCB (rSortedSet w) (tCons (tCB (rSetOfI K w) (tCons te tNil)) tNil)) σ H (sset xs) := fun H1 g c Q k => h H1 g c _ fun xs' v H2 g2 r e => by
  subst e
  obtain ⟨a, vs, rfl, n, ha, ps⟩ := rp_lst r
  have := paired_ints ps
  subst this
  refine ⟨a, xs', rfl, .of ha, by omega, fun p cn hp hc => ⟨p, _, cn, rfl, upd_same, by omega, fun ns q hs hm hn hq => ?_⟩⟩
  have e : ns = sset xs' := lt_unique hs (sset_lt xs') fun x => by rw [hm, sset_mem]; simp
  subst e
  have gp : Gd D H2 (upd H2 p (SetO w p (fun j => decide (j ∈ xs')) cn)) := .new hp
  exact k _ q _ (g2.gr.dom q (gp.gr.dom q hq)) ((g2.trans gp).trans (.new hq)) (.of_ints (((c.go g2).go gp).free hq) upd_same) rfl
end KS
set_option Elab.async false
set_option linter.all false
set_option maxRecDepth 100000
set_option maxHeartbeats 4000000
/-! ### xs[::e]: some of the items -/
namespace L2
open PySem PySem.Spec PyProof.Rows
theorem vals_pick {xs : List V} {us : List Value} (r : Vals xs us) (is : List Nat) : Vals (is.filterMap fun i => xs[i]?) (is.filterMap fun i => us[i]?) := by
  induction is with
  | nil => exact .nil
  | cons i is ih =>
    cases h : xs[i]? with
    | none =>
      have h2 : us[i]? = none := by
        rw [List.getElem?_eq_none_iff] at h ⊢
        rw [← r.length]; exact h
      rw [List.filterMap_cons_none (by rw [h]), List.filterMap_cons_none (by rw [h2])]
      exact ih
    | some x =>
      obtain ⟨u, hu, ru⟩ := r.get h
      rw [List.filterMap_cons_some (by rw [h]), List.filterMap_cons_some (by rw [hu])]
      exact .cons ru ih
def tSlS (K : PySem.W.Frag) (te ts : TE) : TE := fun σ H Q => te σ H fun x H1 => tPart ts σ H1 fun o H2 => ∃ a xs k, x = .ref a ∧ o = some k ∧ k ≠ 0 ∧ SqL K H2 a xs ∧
  ∀ (p : Addr) (is : List Nat), H2 p = none → (is.filterMap fun i => xs[i]?).length ≤ xs.length → (k = 1 ∨ k = -1 → is.Nodup) → (k = 1 ∨ k = -1 → xs ≠ [] → (is.filterMap fun i => xs[i]?) ≠ []) → Q (.ref p) (upd H2 p (.lst (is.filterMap fun i => xs[i]?)))
theorem pick_nodup {n : Nat} {k : Int} (h : k = 1 ∨ k = -1) : (sliceRange (sliceBounds none none (some k) n).1 (sliceBounds none none (some k) n).2.1 (sliceBounds none none (some k) n).2.2).Nodup := by
  unfold sliceRange sliceBounds List.Nodup
  rw [List.pairwise_map]
  rcases h with rfl | rfl
  · refine List.Pairwise.imp_of_mem (fun ha hb hlt => ?_) List.pairwise_lt_range
    simp only [Option.getD_some] at *
    simp
    omega
  · refine List.Pairwise.imp_of_mem (fun ha hb hlt => ?_) List.pairwise_lt_range
    have ha' := List.mem_range.mp ha
    have hb' := List.mem_range.mp hb
    simp at ha' hb'
    simp
    split at ha'
    · split at hb'
      · omega
      · omega
    · omega
theorem pick_some {n : Nat} {k : Int} (hk : k = 1 ∨ k = -1) (hn : 0 < n) : ∃ i, i < n ∧ i ∈ sliceRange (sliceBounds none none (some k) n).1 (sliceBounds none none (some k) n).2.1 (sliceBounds none none (some k) n).2.2 := by
  unfold sliceRange sliceBounds
  rcases hk with rfl | rfl
  · refine ⟨0, hn, List.mem_map.mpr ⟨0, List.mem_range.mpr ?_, ?_⟩⟩
    · simp
      omega
    · simp
  · refine ⟨n - 1, by omega, List.mem_map.mpr ⟨0, List.mem_range.mpr ?_, ?_⟩⟩
    · simp
      omega
    · simp
theorem pe_slStep {X : Cx} {e st : Expr} {te ts : TE} {p3 pos : Pos} (he : PE X e te) (hs : PE X st ts) : PE X (.Subscript e (.Slice none none (some st) p3) pos) (tSlS X.K te ts) := by
  refine ⟨fun pins s σ H Q I h => ?_⟩
  refine Subscript_ (thn (he.run pins s σ H _ I h) fun v s1 ⟨x, H1, I1, r1, q1⟩ => ?_)
  refine wpAny_Slice (thn (po_none.run pins s1 σ H1 (fun o H2 => o = none ∧ H2 = H1) I1 ⟨rfl, rfl⟩) fun vl s2 ⟨l, H2, I2, pl, el, e2⟩ => ?_)
  subst el e2
  refine thn (po_none.run pins s2 σ H2 (fun o H3 => o = none ∧ H3 = H2) I2 ⟨rfl, rfl⟩) fun vu s3 ⟨u, H3, I3, pu, eu, e3⟩ => ?_
  subst eu e3
  refine thn ((po_some hs).run pins s3 σ H3 _ I3 q1) fun vs s4 ⟨o, H4, I4, ps, a, xs, k, ex, eo, hk, hx, q⟩ => ?_
  subst eo ex
  cases r1
  have I5 : Inv X pins σ H4 { s4 with heap := s4.heap.push { cls := .type "slice", data := .fields #[vl, vu, vs] } } := I4.kept (t' := s4.toks) fun b ob q => Heap.get?_push_of_some _ q
  obtain ⟨its, r, ht, hz⟩ := I5.list hx
  have hlen := r.length
  show wpAny (model X.prog X.w) X.A (subscriptTail e (.Slice none none (some st) p3) (.ref a) (.ref s4.heap.objs.size)) (EP X pins σ Q) X.xe { s4 with heap := s4.heap.push { cls := .type "slice", data := .fields #[vl, vu, vs] } }
  refine tail_any (ops := [.ref a, .ref s4.heap.objs.size]) ht.isList.typeIs (PySem.slot_list_getitem.lookup) ?_ (by with_unfolding_all rfl)
  refine wpAny_getItem_list_slice ht.isList (Heap.IsSliceOf.new _ vl vu vs) pl pu ps (fun z => hk (Option.some.inj z)) ?_ (by rw [List.size_toArray]; omega)
  have hsz := slicePick_size_le its.toArray none none (some k)
  obtain ⟨is, eis, hnd, hne⟩ : ∃ is : List Nat, slicePick its.toArray none none (some k) = (is.filterMap fun i => its[i]?).toArray ∧ (k = 1 ∨ k = -1 → is.Nodup) ∧ (k = 1 ∨ k = -1 → 0 < its.toArray.size → ∃ i, i < its.toArray.size ∧ i ∈ is) := ⟨sliceRange (sliceBounds none none (some k) its.toArray.size).1 (sliceBounds none none (some k) its.toArray.size).2.1 (sliceBounds none none (some k) its.toArray.size).2.2, by
    unfold slicePick
    simp only [List.getElem?_toArray], pick_nodup, pick_some⟩
  rw [eis] at hsz ⊢
  have rv := vals_pick r is
  rw [List.size_toArray, List.size_toArray, ← rv.length] at hsz
  refine ⟨.ref _, _, I5.laid (t' := s4.toks) (o := .lst (is.filterMap fun i => xs[i]?)) (fun b ob q => Heap.get?_push_of_some _ q) (Nat.le_refl _) ?_, rfl, q _ is (I5.hok.fresh (Nat.le_refl _)) (by omega) hnd fun hk1 hx z => ?_⟩
  · exact ⟨by omega, _, 0, rv, Heap.get?_push_size _ rfl⟩
  · have hl := List.length_pos_iff.mpr hx
    obtain ⟨i, hi, him⟩ := hne hk1 (by rw [List.size_toArray]; omega)
    rw [List.size_toArray] at hi
    have := List.filterMap_eq_nil_iff.mp z i him
    rw [List.getElem?_eq_none_iff] at this
    omega
end L2
namespace KS
open PySem L2
/-- xs[::k]: items of xs -/
theorem el_step {α : Type} [Rp α] {D : Dst} {m : List Addr} {σ : St} {H : Hp} {ta tb : TE} {K : PySem.W.Frag} {p : List α → Prop} {q : Int → Prop} {r : List α → Prop} (ha : Ev D m ta σ H p) (hb : Ev D m tb σ H q) (hq : ∀ k, q k → k ≠ 0) (h : ∀ xs ys : List α, p xs → (∀ y, y ∈ ys → y ∈ xs) → ys.length ≤ xs.length → ((∀ k, q k → k = 1 ∨ k = -1) → xs.Nodup → ys.Nodup) → r ys) : EvL D m (tSlS K ta tb) σ H r := fun H1 g1 c Q w => ha H1 g1 c _ fun xs v H2 g2 r1 px => hb H2 (g1.trans g2) (c.go g2) _ fun k v' H3 g3 r' qk => by
  cases rp_int r'
  obtain ⟨a, vs, rfl, nm, ha, ps⟩ := rp_lst (rp_gd r1 (c.go g2) g3)
  refine ⟨k, rfl, a, vs, k, rfl, rfl, hq k qk, .of ha, fun pp is hp hl hnd hne => ?_⟩
  have pick : ∀ is : List Nat, Paired (Rp.rp m H3) (is.filterMap fun i => xs[i]?) (is.filterMap fun i => vs[i]?) := fun is => by
    induction is with
    | nil => exact .nil
    | cons i is ih =>
      cases h : xs[i]? with
      | none =>
        have h2 : vs[i]? = none := by
          rw [List.getElem?_eq_none_iff] at h ⊢
          rw [← ps.length]; exact h
        rw [List.filterMap_cons_none (by rw [h]), List.filterMap_cons_none (by rw [h2])]
        exact ih
      | some x =>
        obtain ⟨u, hu, ru⟩ := paired_at ps h
        rw [List.filterMap_cons_some (by rw [h]), List.filterMap_cons_some (by rw [hu])]
        exact .cons ru ih
  have pp1 := pick is
  refine w _ pp _ ((g2.trans g3).gr.dom pp hp) ((g2.trans g3).trans (.new hp)) ⟨((c.go g2).go g3).free hp, _, upd_same, paired_go pp1 fun _ _ r => rp_g0 r (.new hp)⟩ (h xs _ px (fun y hy => ?_) ?_ fun hk hx => ?_)
  · obtain ⟨i, _, hi⟩ := List.mem_filterMap.mp hy
    exact List.mem_of_getElem? hi
  · rw [pp1.length, ps.length]; exact hl
  · unfold List.Nodup
    rw [List.pairwise_filterMap]
    refine List.Pairwise.imp_of_mem (fun {i j} hi hj hne => ?_) (hnd (hk k qk))
    intro b hb b' hb' e
    subst e
    have hlt := (List.getElem?_eq_some_iff.mp hb).1
    exact hne (List.getElem?_inj hlt hx |>.mp (hb.trans hb'.symm))
/-- xs[::k]: items of xs, some where xs has some -/
theorem el_stepN {α : Type} [Rp α] {D : Dst} {m : List Addr} {σ : St} {H : Hp} {ta tb : TE} {K : PySem.W.Frag} {p : List α → Prop} {q : Int → Prop} {r : List α → Prop} (ha : Ev D m ta σ H p) (hb : Ev D m tb σ H q) (hq : ∀ k, q k → k ≠ 0) (h : ∀ xs ys : List α, p xs → (∀ y, y ∈ ys → y ∈ xs) → ys.length ≤ xs.length → ((∀ k, q k → k = 1 ∨ k = -1) → xs.Nodup → ys.Nodup) → ((∀ k, q k → k = 1 ∨ k = -1) → xs ≠ [] → ys ≠ []) → r ys) : EvL D m (tSlS K ta tb) σ H r := fun H1 g1 c Q w => ha H1 g1 c _ fun xs v H2 g2 r1 px => hb H2 (g1.trans g2) (c.go g2) _ fun k v' H3 g3 r' qk => by
  cases rp_int r'
  obtain ⟨a, vs, rfl, nm, ha, ps⟩ := rp_lst (rp_gd r1 (c.go g2) g3)
  refine ⟨k, rfl, a, vs, k, rfl, rfl, hq k qk, .of ha, fun pp is hp hl hnd hne => ?_⟩
  have pick : ∀ is : List Nat, Paired (Rp.rp m H3) (is.filterMap fun i => xs[i]?) (is.filterMap fun i => vs[i]?) := fun is => by
    induction is with
    | nil => exact .nil
    | cons i is ih =>
      cases h : xs[i]? with
      | none =>
        have h2 : vs[i]? = none := by
          rw [List.getElem?_eq_none_iff] at h ⊢
          rw [← ps.length]; exact h
        rw [List.filterMap_cons_none (by rw [h]), List.filterMap_cons_none (by rw [h2])]
        exact ih
      | some x =>
        obtain ⟨u, hu, ru⟩ := paired_at ps h
        rw [List.filterMap_cons_some (by rw [h]), List.filterMap_cons_some (by rw [hu])]
        exact .cons ru ih
  have pp1 := pick is
  refine w _ pp _ ((g2.trans g3).gr.dom pp hp) ((g2.trans g3).trans (.new hp)) ⟨((c.go g2).go g3).free hp, _, upd_same, paired_go pp1 fun _ _ r => rp_g0 r (.new hp)⟩ (h xs _ px (fun y hy => ?_) ?_ (fun hk hx => ?_) fun hk hx => ?_)
  · obtain ⟨i, _, hi⟩ := List.mem_filterMap.mp hy
    exact List.mem_of_getElem? hi
  · rw [pp1.length, ps.length]; exact hl
  · unfold List.Nodup
    rw [List.pairwise_filterMap]
    refine List.Pairwise.imp_of_mem (fun {i j} hi hj hne => ?_) (hnd (hk k qk))
    intro b hb b' hb' e
    subst e
    have hlt := (List.getElem?_eq_some_iff.mp hb).1
    exact hne (List.getElem?_inj hlt hx |>.mp (hb.trans hb'.symm))
  · intro z
    have e : vs ≠ [] := fun e => hx (List.eq_nil_of_length_eq_zero (by rw [ps.length, e]; rfl))
    have l := pp1.length
    rw [z] at l
    exact hne (hk k qk) e (List.eq_nil_of_length_eq_zero l.symm)
end KS
set_option Elab.async false
set_option linter.all false
set_option maxRecDepth 100000
set_option maxHeartbeats 4000000
namespace KW
open PySem L2 KS
def topS (i : Nat) : Stmt := PySem.Challenge.pw_keysieve_k03_yes_and_taken_out.main.body.getD i (.Pass ⟨0, 0, 0, 0⟩)
abbrev s_need_key : Stmt := topS 14
abbrev N_need_key : List Str := ["key"]
theorem sc_need_key : FnScope N_need_key ["key"] (defScope s_need_key) := ⟨rfl, rfl, rfl, by decide +kernel, rfl, by decide +kernel, by decide +kernel⟩
abbrev s_pointed : Stmt := topS 19
abbrev N_pointed : List Str := ["hands", "size", "key", "times", "more"]
theorem sc_pointed : FnScope N_pointed ["hands", "size", "key"] (defScope s_pointed) := ⟨rfl, rfl, rfl, by decide +kernel, rfl, by decide +kernel, by decide +kernel⟩
abbrev s__law_mix : Stmt := topS 25
abbrev N__law_mix : List Str := ["_law_script", "_law_seed", "_law_mixed", "_law_cell"]
theorem sc__law_mix : FnScope N__law_mix ["_law_script", "_law_seed"] (defScope s__law_mix) := ⟨rfl, rfl, rfl, by decide +kernel, rfl, by decide +kernel, by decide +kernel⟩
abbrev s__law_next : Stmt := topS 26
abbrev N__law_next : List Str := ["_law_h", "_law_many", "_law_at", "_law_cell"]
theorem sc__law_next : FnScope N__law_next ["_law_h", "_law_many"] (defScope s__law_next) := ⟨rfl, rfl, rfl, by decide +kernel, rfl, by decide +kernel, by decide +kernel⟩
abbrev s__law_hands : Stmt := topS 27
abbrev N__law_hands : List Str := ["_law_h", "_law_most", "_law_found", "_law_way", "_law_k", "_law_hand"]
theorem sc__law_hands : FnScope N__law_hands ["_law_h", "_law_most"] (defScope s__law_hands) := ⟨rfl, rfl, rfl, by decide +kernel, rfl, by decide +kernel, by decide +kernel⟩
abbrev s__law_keys : Stmt := topS 28
abbrev N__law_keys : List Str := ["_law_h", "_law_many", "_law_few", "_law_k", "_law_way", "_law_found"]
theorem sc__law_keys : FnScope N__law_keys ["_law_h", "_law_many"] (defScope s__law_keys) := ⟨rfl, rfl, rfl, by decide +kernel, rfl, by decide +kernel, by decide +kernel⟩
abbrev s__law_cells : Stmt := topS 29
abbrev N__law_cells : List Str := ["_law_hands_here", "_law_size", "_law_key", "_law_hand"]
theorem sc__law_cells : FnScope N__law_cells ["_law_hands_here", "_law_size", "_law_key"] (defScope s__law_cells) := ⟨rfl, rfl, rfl, by decide +kernel, rfl, by decide +kernel, by decide +kernel⟩
abbrev s__law_are : Stmt := topS 32
abbrev N__law_are : List Str := ["_law_found", "_law_due", "_law_k"]
theorem sc__law_are : FnScope N__law_are ["_law_found", "_law_due"] (defScope s__law_are) := ⟨rfl, rfl, rfl, by decide +kernel, rfl, by decide +kernel, by decide +kernel⟩
abbrev s_BadSieve_init : Stmt := inClass (topS 2) 0
abbrev N_BadSieve_init : List Str := ["self", "why"]
theorem sc_BadSieve_init : FnScope N_BadSieve_init ["self", "why"] (defScope s_BadSieve_init) := ⟨rfl, rfl, rfl, by decide +kernel, rfl, by decide +kernel, by decide +kernel⟩
abbrev s_Stuck_init : Stmt := inClass (topS 5) 0
abbrev N_Stuck_init : List Str := ["self", "cells"]
theorem sc_Stuck_init : FnScope N_Stuck_init ["self", "cells"] (defScope s_Stuck_init) := ⟨rfl, rfl, rfl, by decide +kernel, rfl, by decide +kernel, by decide +kernel⟩
abbrev s_need : Stmt := topS 15
abbrev N_need : List Str := ["good", "why"]
theorem sc_need : FnScope N_need ["good", "why"] (defScope s_need) := ⟨rfl, rfl, rfl, by decide +kernel, rfl, by decide +kernel, by decide +kernel⟩
abbrev s_need_size : Stmt := topS 16
abbrev N_need_size : List Str := ["size"]
theorem sc_need_size : FnScope N_need_size ["size"] (defScope s_need_size) := ⟨rfl, rfl, rfl, by decide +kernel, rfl, by decide +kernel, by decide +kernel⟩
abbrev s_need_cap : Stmt := topS 18
abbrev N_need_cap : List Str := ["cap"]
theorem sc_need_cap : FnScope N_need_cap ["cap"] (defScope s_need_cap) := ⟨rfl, rfl, rfl, by decide +kernel, rfl, by decide +kernel, by decide +kernel⟩
abbrev s_need_hands : Stmt := topS 17
abbrev N_need_hands : List Str := ["hands", "times", "more"]
theorem sc_need_hands : FnScope N_need_hands ["hands"] (defScope s_need_hands) := ⟨rfl, rfl, rfl, by decide +kernel, rfl, by decide +kernel, by decide +kernel⟩
abbrev s_hands_by_cell : Stmt := topS 20
abbrev N_hands_by_cell : List Str := ["hands", "size", "key", "found", "cell"]
theorem sc_hands_by_cell : FnScope N_hands_by_cell ["hands", "size", "key"] (defScope s_hands_by_cell) := ⟨rfl, rfl, rfl, by decide +kernel, rfl, by decide +kernel, by decide +kernel⟩
abbrev s_Sieve_size : Stmt := inClass (topS 22) 1
abbrev N_Sieve_size : List Str := ["self"]
theorem sc_Sieve_size : FnScope N_Sieve_size ["self"] (defScope s_Sieve_size) := ⟨rfl, rfl, rfl, by decide +kernel, rfl, by decide +kernel, by decide +kernel⟩
abbrev s_Sieve_cap : Stmt := inClass (topS 22) 2
abbrev N_Sieve_cap : List Str := ["self"]
theorem sc_Sieve_cap : FnScope N_Sieve_cap ["self"] (defScope s_Sieve_cap) := ⟨rfl, rfl, rfl, by decide +kernel, rfl, by decide +kernel, by decide +kernel⟩
abbrev s_Sieve_hands : Stmt := inClass (topS 22) 3
abbrev N_Sieve_hands : List Str := ["self"]
theorem sc_Sieve_hands : FnScope N_Sieve_hands ["self"] (defScope s_Sieve_hands) := ⟨rfl, rfl, rfl, by decide +kernel, rfl, by decide +kernel, by decide +kernel⟩
abbrev s_Sieve_counts : Stmt := inClass (topS 22) 4
abbrev N_Sieve_counts : List Str := ["self"]
theorem sc_Sieve_counts : FnScope N_Sieve_counts ["self"] (defScope s_Sieve_counts) := ⟨rfl, rfl, rfl, by decide +kernel, rfl, by decide +kernel, by decide +kernel⟩
abbrev s_Sieve_init : Stmt := inClass (topS 22) 0
abbrev N_Sieve_init : List Str := ["self", "size", "hands", "cap", "hand"]
theorem sc_Sieve_init : FnScope N_Sieve_init ["self", "size", "hands", "cap"] (defScope s_Sieve_init) := ⟨rfl, rfl, rfl, by decide +kernel, rfl, by decide +kernel, by decide +kernel⟩
abbrev s_Sieve_put : Stmt := inClass (topS 22) 5
abbrev N_Sieve_put : List Str := ["self", "key", "cell"]
theorem sc_Sieve_put : FnScope N_Sieve_put ["self", "key"] (defScope s_Sieve_put) := ⟨rfl, rfl, rfl, by decide +kernel, rfl, by decide +kernel, by decide +kernel⟩
abbrev s_Sieve_says : Stmt := inClass (topS 22) 6
abbrev N_Sieve_says : List Str := ["self", "key", "wanted", "cell"]
theorem sc_Sieve_says : FnScope N_Sieve_says ["self", "key"] (defScope s_Sieve_says) := ⟨rfl, rfl, rfl, by decide +kernel, rfl, by decide +kernel, by decide +kernel⟩
abbrev s_Sieve_stuck_cells : Stmt := inClass (topS 22) 7
abbrev N_Sieve_stuck_cells : List Str := ["self", "key", "wanted", "cell"]
theorem sc_Sieve_stuck_cells : FnScope N_Sieve_stuck_cells ["self", "key"] (defScope s_Sieve_stuck_cells) := ⟨rfl, rfl, rfl, by decide +kernel, rfl, by decide +kernel, by decide +kernel⟩
abbrev s_Sieve_need_takeable : Stmt := inClass (topS 22) 8
abbrev N_Sieve_need_takeable : List Str := ["self", "key", "cells"]
theorem sc_Sieve_need_takeable : FnScope N_Sieve_need_takeable ["self", "key"] (defScope s_Sieve_need_takeable) := ⟨rfl, rfl, rfl, by decide +kernel, rfl, by decide +kernel, by decide +kernel⟩
abbrev s_Sieve_take : Stmt := inClass (topS 22) 9
abbrev N_Sieve_take : List Str := ["self", "key", "cell"]
theorem sc_Sieve_take : FnScope N_Sieve_take ["self", "key"] (defScope s_Sieve_take) := ⟨rfl, rfl, rfl, by decide +kernel, rfl, by decide +kernel, by decide +kernel⟩
abbrev s__law_counts : Stmt := topS 30
abbrev N__law_counts : List Str := ["_law_keys_here", "_law_size", "_law_hands_here", "_law_cap", "_law_found", "_law_key", "_law_cell", "_law_count"]
theorem sc__law_counts : FnScope N__law_counts ["_law_keys_here", "_law_size", "_law_hands_here", "_law_cap"] (defScope s__law_counts) := ⟨rfl, rfl, rfl, by decide +kernel, rfl, by decide +kernel, by decide +kernel⟩
abbrev s_built : Stmt := topS 23
abbrev N_built : List Str := ["keys", "size", "hands", "cap", "found", "key"]
theorem sc_built : FnScope N_built ["keys", "size", "hands", "cap"] (defScope s_built) := ⟨rfl, rfl, rfl, by decide +kernel, rfl, by decide +kernel, by decide +kernel⟩
abbrev s__law_says : Stmt := topS 31
abbrev N__law_says : List Str := ["_law_counts_here", "_law_hands_here", "_law_cap", "_law_key", "_law_cells_here", "_law_cell"]
theorem sc__law_says : FnScope N__law_says ["_law_counts_here", "_law_hands_here", "_law_cap", "_law_key"] (defScope s__law_says) := ⟨rfl, rfl, rfl, by decide +kernel, rfl, by decide +kernel, by decide +kernel⟩
abbrev s_NoSieve_init : Stmt := inClass (topS 7) 0
abbrev N_NoSieve_init : List Str := ["self", "paper"]
theorem sc_NoSieve_init : FnScope N_NoSieve_init ["self", "paper"] (defScope s_NoSieve_init) := ⟨rfl, rfl, rfl, by decide +kernel, rfl, by decide +kernel, by decide +kernel⟩
abbrev s_BadText_init : Stmt := inClass (topS 8) 0
abbrev N_BadText_init : List Str := ["self", "row"]
theorem sc_BadText_init : FnScope N_BadText_init ["self", "row"] (defScope s_BadText_init) := ⟨rfl, rfl, rfl, by decide +kernel, rfl, by decide +kernel, by decide +kernel⟩
abbrev s__law_took : Stmt := topS 33
abbrev N__law_took : List Str := ["_law_sieve", "_law_key", "_law_found", "e"]
theorem sc__law_took : FnScope N__law_took ["_law_sieve", "_law_key"] (defScope s__law_took) := ⟨rfl, rfl, rfl, by decide +kernel, rfl, by decide +kernel, by decide +kernel⟩
abbrev s__law_is_refused : Stmt := topS 34
abbrev N__law_is_refused : List Str := ["_law_found", "_law_due"]
theorem sc__law_is_refused : FnScope N__law_is_refused ["_law_found", "_law_due"] (defScope s__law_is_refused) := ⟨rfl, rfl, rfl, by decide +kernel, rfl, by decide +kernel, by decide +kernel⟩
abbrev s_law : Stmt := topS 35
abbrev N_law : List Str := ["_law_script", "_law_h", "_law_hands_here", "_law_size", "_law_cap", "_law_keys_here", "_law_handed", "_law_sieve", "_law_counts_here", "_law_key", "_law_cells_here", "_law_says_here", "_law_full", "_law_cell", "_law_due", "_law_count", "_law_told"]
theorem sc_law : FnScope N_law ["_law_script"] (defScope s_law) := ⟨rfl, rfl, rfl, by decide +kernel, rfl, by decide +kernel, by decide +kernel⟩
structure Txt (K : PySem.W.Frag) (mg : Str → Option Value) where
  c_SieveError : Addr
  m_SieveError : mg "SieveError" = some (.ref c_SieveError)
  c_BadSieve : Addr
  m_BadSieve : mg "BadSieve" = some (.ref c_BadSieve)
  c_BadKey : Addr
  m_BadKey : mg "BadKey" = some (.ref c_BadKey)
  c_NotIn : Addr
  m_NotIn : mg "NotIn" = some (.ref c_NotIn)
  c_Stuck : Addr
  m_Stuck : mg "Stuck" = some (.ref c_Stuck)
  c_Unlike : Addr
  m_Unlike : mg "Unlike" = some (.ref c_Unlike)
  c_NoSieve : Addr
  m_NoSieve : mg "NoSieve" = some (.ref c_NoSieve)
  c_BadText : Addr
  m_BadText : mg "BadText" = some (.ref c_BadText)
  c_Sieve : Addr
  m_Sieve : mg "Sieve" = some (.ref c_Sieve)
  cl_Sieve : Cls K c_Sieve
  na_Sieve_many : NoAttr K c_Sieve "many"
  na_Sieve_pointers : NoAttr K c_Sieve "pointers"
  na_Sieve_most : NoAttr K c_Sieve "most"
  na_Sieve_cells : NoAttr K c_Sieve "cells"
  f_need_key : Addr
  d_need_key : FuncData
  m_need_key : mg "need_key" = some (.ref f_need_key)
  F_need_key : Fun K "need_key" "need_key" s_need_key f_need_key d_need_key
  f_pointed : Addr
  d_pointed : FuncData
  m_pointed : mg "pointed" = some (.ref f_pointed)
  F_pointed : Fun K "pointed" "pointed" s_pointed f_pointed d_pointed
  f__law_mix : Addr
  d__law_mix : FuncData
  m__law_mix : mg "_law_mix" = some (.ref f__law_mix)
  F__law_mix : Fun K "_law_mix" "_law_mix" s__law_mix f__law_mix d__law_mix
  f__law_next : Addr
  d__law_next : FuncData
  m__law_next : mg "_law_next" = some (.ref f__law_next)
  F__law_next : Fun K "_law_next" "_law_next" s__law_next f__law_next d__law_next
  f__law_hands : Addr
  d__law_hands : FuncData
  m__law_hands : mg "_law_hands" = some (.ref f__law_hands)
  F__law_hands : Fun K "_law_hands" "_law_hands" s__law_hands f__law_hands d__law_hands
  f__law_keys : Addr
  d__law_keys : FuncData
  m__law_keys : mg "_law_keys" = some (.ref f__law_keys)
  F__law_keys : Fun K "_law_keys" "_law_keys" s__law_keys f__law_keys d__law_keys
  f__law_cells : Addr
  d__law_cells : FuncData
  m__law_cells : mg "_law_cells" = some (.ref f__law_cells)
  F__law_cells : Fun K "_law_cells" "_law_cells" s__law_cells f__law_cells d__law_cells
  f__law_are : Addr
  d__law_are : FuncData
  m__law_are : mg "_law_are" = some (.ref f__law_are)
  F__law_are : Fun K "_law_are" "_law_are" s__law_are f__law_are d__law_are
  f_BadSieve_init : Addr
  d_BadSieve_init : FuncData
  me_BadSieve_init : Meth K c_BadSieve "__init__" f_BadSieve_init
  F_BadSieve_init : Fun K "__init__" "BadSieve.__init__" s_BadSieve_init f_BadSieve_init d_BadSieve_init
  f_Stuck_init : Addr
  d_Stuck_init : FuncData
  me_Stuck_init : Meth K c_Stuck "__init__" f_Stuck_init
  F_Stuck_init : Fun K "__init__" "Stuck.__init__" s_Stuck_init f_Stuck_init d_Stuck_init
  f_need : Addr
  d_need : FuncData
  m_need : mg "need" = some (.ref f_need)
  F_need : Fun K "need" "need" s_need f_need d_need
  f_need_size : Addr
  d_need_size : FuncData
  m_need_size : mg "need_size" = some (.ref f_need_size)
  F_need_size : Fun K "need_size" "need_size" s_need_size f_need_size d_need_size
  f_need_cap : Addr
  d_need_cap : FuncData
  m_need_cap : mg "need_cap" = some (.ref f_need_cap)
  F_need_cap : Fun K "need_cap" "need_cap" s_need_cap f_need_cap d_need_cap
  f_need_hands : Addr
  d_need_hands : FuncData
  m_need_hands : mg "need_hands" = some (.ref f_need_hands)
  F_need_hands : Fun K "need_hands" "need_hands" s_need_hands f_need_hands d_need_hands
  f_hands_by_cell : Addr
  d_hands_by_cell : FuncData
  m_hands_by_cell : mg "hands_by_cell" = some (.ref f_hands_by_cell)
  F_hands_by_cell : Fun K "hands_by_cell" "hands_by_cell" s_hands_by_cell f_hands_by_cell d_hands_by_cell
  f_Sieve_size : Addr
  d_Sieve_size : FuncData
  me_Sieve_size : Meth K c_Sieve "size" f_Sieve_size
  F_Sieve_size : Fun K "size" "Sieve.size" s_Sieve_size f_Sieve_size d_Sieve_size
  f_Sieve_cap : Addr
  d_Sieve_cap : FuncData
  me_Sieve_cap : Meth K c_Sieve "cap" f_Sieve_cap
  F_Sieve_cap : Fun K "cap" "Sieve.cap" s_Sieve_cap f_Sieve_cap d_Sieve_cap
  f_Sieve_hands : Addr
  d_Sieve_hands : FuncData
  me_Sieve_hands : Meth K c_Sieve "hands" f_Sieve_hands
  F_Sieve_hands : Fun K "hands" "Sieve.hands" s_Sieve_hands f_Sieve_hands d_Sieve_hands
  f_Sieve_counts : Addr
  d_Sieve_counts : FuncData
  me_Sieve_counts : Meth K c_Sieve "counts" f_Sieve_counts
  F_Sieve_counts : Fun K "counts" "Sieve.counts" s_Sieve_counts f_Sieve_counts d_Sieve_counts
  f_Sieve_init : Addr
  d_Sieve_init : FuncData
  me_Sieve_init : Meth K c_Sieve "__init__" f_Sieve_init
  F_Sieve_init : Fun K "__init__" "Sieve.__init__" s_Sieve_init f_Sieve_init d_Sieve_init
  f_Sieve_put : Addr
  d_Sieve_put : FuncData
  me_Sieve_put : Meth K c_Sieve "put" f_Sieve_put
  F_Sieve_put : Fun K "put" "Sieve.put" s_Sieve_put f_Sieve_put d_Sieve_put
  f_Sieve_says : Addr
  d_Sieve_says : FuncData
  me_Sieve_says : Meth K c_Sieve "says" f_Sieve_says
  F_Sieve_says : Fun K "says" "Sieve.says" s_Sieve_says f_Sieve_says d_Sieve_says
  f_Sieve_stuck_cells : Addr
  d_Sieve_stuck_cells : FuncData
  me_Sieve_stuck_cells : Meth K c_Sieve "stuck_cells" f_Sieve_stuck_cells
  F_Sieve_stuck_cells : Fun K "stuck_cells" "Sieve.stuck_cells" s_Sieve_stuck_cells f_Sieve_stuck_cells d_Sieve_stuck_cells
  f_Sieve_need_takeable : Addr
  d_Sieve_need_takeable : FuncData
  me_Sieve_need_takeable : Meth K c_Sieve "need_takeable" f_Sieve_need_takeable
  F_Sieve_need_takeable : Fun K "need_takeable" "Sieve.need_takeable" s_Sieve_need_takeable f_Sieve_need_takeable d_Sieve_need_takeable
  f_Sieve_take : Addr
  d_Sieve_take : FuncData
  me_Sieve_take : Meth K c_Sieve "take" f_Sieve_take
  F_Sieve_take : Fun K "take" "Sieve.take" s_Sieve_take f_Sieve_take d_Sieve_take
  f__law_counts : Addr
  d__law_counts : FuncData
  m__law_counts : mg "_law_counts" = some (.ref f__law_counts)
  F__law_counts : Fun K "_law_counts" "_law_counts" s__law_counts f__law_counts d__law_counts
  f_built : Addr
  d_built : FuncData
  m_built : mg "built" = some (.ref f_built)
  F_built : Fun K "built" "built" s_built f_built d_built
  f__law_says : Addr
  d__law_says : FuncData
  m__law_says : mg "_law_says" = some (.ref f__law_says)
  F__law_says : Fun K "_law_says" "_law_says" s__law_says f__law_says d__law_says
  f_NoSieve_init : Addr
  d_NoSieve_init : FuncData
  me_NoSieve_init : Meth K c_NoSieve "__init__" f_NoSieve_init
  F_NoSieve_init : Fun K "__init__" "NoSieve.__init__" s_NoSieve_init f_NoSieve_init d_NoSieve_init
  f_BadText_init : Addr
  d_BadText_init : FuncData
  me_BadText_init : Meth K c_BadText "__init__" f_BadText_init
  F_BadText_init : Fun K "__init__" "BadText.__init__" s_BadText_init f_BadText_init d_BadText_init
  f__law_took : Addr
  d__law_took : FuncData
  m__law_took : mg "_law_took" = some (.ref f__law_took)
  F__law_took : Fun K "_law_took" "_law_took" s__law_took f__law_took d__law_took
  f__law_is_refused : Addr
  d__law_is_refused : FuncData
  m__law_is_refused : mg "_law_is_refused" = some (.ref f__law_is_refused)
  F__law_is_refused : Fun K "_law_is_refused" "_law_is_refused" s__law_is_refused f__law_is_refused d__law_is_refused
  mk_Sieve : Mk K c_Sieve f_Sieve_init
  em_NotIn_SieveError : PySem.W.exmOne K (.ref c_NotIn) (.ref c_SieveError) = some true
  em_Stuck_SieveError : PySem.W.exmOne K (.ref c_Stuck) (.ref c_SieveError) = some true
  tg_MOST_CAP : Tok
  g_MOST_CAP : mg "MOST_CAP" = some (.int 9 tg_MOST_CAP)
  tg_MOST_HANDS : Tok
  g_MOST_HANDS : mg "MOST_HANDS" = some (.int 6 tg_MOST_HANDS)
  tg_MOST_SIZE : Tok
  g_MOST_SIZE : mg "MOST_SIZE" = some (.int 96 tg_MOST_SIZE)
  tg_RING : Tok
  g_RING : mg "RING" = some (.int 10007 tg_RING)
  ic_Sieve : C8.InsC K c_Sieve
  is_NotIn : ExcC K c_NotIn
  is_Stuck : ExcC K c_Stuck
  kc_BadKey : PySem.W.keepIn K (.ref c_BadKey) = true
  kc_NotIn : PySem.W.keepIn K (.ref c_NotIn) = true
  ki_NotIn_BadKey : PySem.W.kitOne K (.ref c_NotIn) (.ref c_BadKey) = some false
  ki_NotIn_BadSieve : PySem.W.kitOne K (.ref c_NotIn) (.ref c_BadSieve) = some false
  ki_NotIn_BadText : PySem.W.kitOne K (.ref c_NotIn) (.ref c_BadText) = some false
  ki_NotIn_NoSieve : PySem.W.kitOne K (.ref c_NotIn) (.ref c_NoSieve) = some false
  ki_NotIn_NotIn : PySem.W.kitOne K (.ref c_NotIn) (.ref c_NotIn) = some true
  ki_NotIn_Stuck : PySem.W.kitOne K (.ref c_NotIn) (.ref c_Stuck) = some false
  ki_NotIn_Unlike : PySem.W.kitOne K (.ref c_NotIn) (.ref c_Unlike) = some false
  ki_NotIn_ValueError : PySem.W.kitOne K (.ref c_NotIn) (.type "ValueError") = some true
  ki_Sieve_Sieve : PySem.W.kitOne K (.ref c_Sieve) (.ref c_Sieve) = some true
  ki_Stuck_BadKey : PySem.W.kitOne K (.ref c_Stuck) (.ref c_BadKey) = some false
  ki_Stuck_BadSieve : PySem.W.kitOne K (.ref c_Stuck) (.ref c_BadSieve) = some false
  ki_Stuck_BadText : PySem.W.kitOne K (.ref c_Stuck) (.ref c_BadText) = some false
  ki_Stuck_NoSieve : PySem.W.kitOne K (.ref c_Stuck) (.ref c_NoSieve) = some false
  ki_Stuck_NotIn : PySem.W.kitOne K (.ref c_Stuck) (.ref c_NotIn) = some false
  ki_Stuck_Unlike : PySem.W.kitOne K (.ref c_Stuck) (.ref c_Unlike) = some false
  ki_Stuck_ValueError : PySem.W.kitOne K (.ref c_Stuck) (.type "ValueError") = some true
  n_ValueError : mg "ValueError" = none
  n_bool : mg "bool" = none
  n_enumerate : mg "enumerate" = none
  n_int : mg "int" = none
  n_isinstance : mg "isinstance" = none
  n_len : mg "len" = none
  n_list : mg "list" = none
  n_max : mg "max" = none
  n_min : mg "min" = none
  n_range : mg "range" = none
  n_set : mg "set" = none
  n_sorted : mg "sorted" = none
  n_tuple : mg "tuple" = none
  ox_BadSieve : OexC K c_BadSieve
  ox_BadText : OexC K c_BadText
  ox_NoSieve : OexC K c_NoSieve
  ox_Stuck : OexC K c_Stuck
  tf_BadSieve_init : PySem.W.typeIn K (.ref f_BadSieve_init) = some (.type "function")
  tf_Stuck_init : PySem.W.typeIn K (.ref f_Stuck_init) = some (.type "function")
  x_BadKey : PySem.W.excIn K c_BadKey [.type "ValueError", .type "Exception", .type "BaseException", .type "object"] "ValueError.__new__" = true
  x_NotIn : PySem.W.excIn K c_NotIn [.type "ValueError", .type "Exception", .type "BaseException", .type "object"] "ValueError.__new__" = true
  xb_BadKey : PySem.W.subIn K (.ref c_BadKey) (.type "BaseException") = some true
  xb_NotIn : PySem.W.subIn K (.ref c_NotIn) (.type "BaseException") = some true
  xf_Stuck : XfC K c_Stuck
  xn_BadSieve_why : PySem.W.findIn K (.ref c_BadSieve) "why" = some none
  xn_BadText_row : PySem.W.findIn K (.ref c_BadText) "row" = some none
  xn_NoSieve_paper : PySem.W.findIn K (.ref c_NoSieve) "paper" = some none
  xn_Stuck_cells : PySem.W.findIn K (.ref c_Stuck) "cells" = some none
  xt_BadKey : PySem.W.typeIn K (.ref c_BadKey) = some (.type "type")
  xt_NotIn : PySem.W.typeIn K (.ref c_NotIn) = some (.type "type")
def Txt.er {K : PySem.W.Frag} {mg : Str → Option Value} (T : Txt K mg) : KS.Er := ⟨T.c_SieveError, T.c_BadSieve, T.c_BadKey, T.c_NotIn, T.c_Stuck, T.c_Unlike, T.c_NoSieve, T.c_BadText⟩
theorem Txt.b_need_key {K : PySem.W.Frag} {mg : Str → Option Value} (T : Txt K mg) : Binds K T.d_need_key ["key"] [] := T.F_need_key.binds fun _ _ _ _ _ _ us hl => match us, hl with | [_], _ => rfl
theorem Txt.k_need_key {K : PySem.W.Frag} {mg : Str → Option Value} (T : Txt K mg) : PySem.W.keepIn K (.ref T.f_need_key) = true := T.F_need_key.kp
theorem Txt.b_pointed {K : PySem.W.Frag} {mg : Str → Option Value} (T : Txt K mg) : Binds K T.d_pointed ["hands", "size", "key"] [] := T.F_pointed.binds fun _ _ _ _ _ _ us hl => match us, hl with | [_, _, _], _ => rfl
theorem Txt.k_pointed {K : PySem.W.Frag} {mg : Str → Option Value} (T : Txt K mg) : PySem.W.keepIn K (.ref T.f_pointed) = true := T.F_pointed.kp
theorem Txt.b__law_mix {K : PySem.W.Frag} {mg : Str → Option Value} (T : Txt K mg) : Binds K T.d__law_mix ["_law_script", "_law_seed"] [] := T.F__law_mix.binds fun _ _ _ _ _ _ us hl => match us, hl with | [_, _], _ => rfl
theorem Txt.k__law_mix {K : PySem.W.Frag} {mg : Str → Option Value} (T : Txt K mg) : PySem.W.keepIn K (.ref T.f__law_mix) = true := T.F__law_mix.kp
theorem Txt.b__law_next {K : PySem.W.Frag} {mg : Str → Option Value} (T : Txt K mg) : Binds K T.d__law_next ["_law_h", "_law_many"] [] := T.F__law_next.binds fun _ _ _ _ _ _ us hl => match us, hl with | [_, _], _ => rfl
theorem Txt.k__law_next {K : PySem.W.Frag} {mg : Str → Option Value} (T : Txt K mg) : PySem.W.keepIn K (.ref T.f__law_next) = true := T.F__law_next.kp
theorem Txt.b__law_hands {K : PySem.W.Frag} {mg : Str → Option Value} (T : Txt K mg) : Binds K T.d__law_hands ["_law_h", "_law_most"] [] := T.F__law_hands.binds fun _ _ _ _ _ _ us hl => match us, hl with | [_, _], _ => rfl
theorem Txt.k__law_hands {K : PySem.W.Frag} {mg : Str → Option Value} (T : Txt K mg) : PySem.W.keepIn K (.ref T.f__law_hands) = true := T.F__law_hands.kp
theorem Txt.b__law_keys {K : PySem.W.Frag} {mg : Str → Option Value} (T : Txt K mg) : Binds K T.d__law_keys ["_law_h", "_law_many"] [] := T.F__law_keys.binds fun _ _ _ _ _ _ us hl => match us, hl with | [_, _], _ => rfl
theorem Txt.k__law_keys {K : PySem.W.Frag} {mg : Str → Option Value} (T : Txt K mg) : PySem.W.keepIn K (.ref T.f__law_keys) = true := T.F__law_keys.kp
theorem Txt.b__law_cells {K : PySem.W.Frag} {mg : Str → Option Value} (T : Txt K mg) : Binds K T.d__law_cells ["_law_hands_here", "_law_size", "_law_key"] [] := T.F__law_cells.binds fun _ _ _ _ _ _ us hl => match us, hl with | [_, _, _], _ => rfl
theorem Txt.k__law_cells {K : PySem.W.Frag} {mg : Str → Option Value} (T : Txt K mg) : PySem.W.keepIn K (.ref T.f__law_cells) = true := T.F__law_cells.kp
theorem Txt.b__law_are {K : PySem.W.Frag} {mg : Str → Option Value} (T : Txt K mg) : Binds K T.d__law_are ["_law_found", "_law_due"] [] := T.F__law_are.binds fun _ _ _ _ _ _ us hl => match us, hl with | [_, _], _ => rfl
theorem Txt.k__law_are {K : PySem.W.Frag} {mg : Str → Option Value} (T : Txt K mg) : PySem.W.keepIn K (.ref T.f__law_are) = true := T.F__law_are.kp
theorem Txt.b_BadSieve_init {K : PySem.W.Frag} {mg : Str → Option Value} (T : Txt K mg) : Binds K T.d_BadSieve_init ["self", "why"] [] := T.F_BadSieve_init.binds fun _ _ _ _ _ _ us hl => match us, hl with | [_, _], _ => rfl
theorem Txt.k_BadSieve_init {K : PySem.W.Frag} {mg : Str → Option Value} (T : Txt K mg) : PySem.W.keepIn K (.ref T.f_BadSieve_init) = true := T.F_BadSieve_init.kp
theorem Txt.b_Stuck_init {K : PySem.W.Frag} {mg : Str → Option Value} (T : Txt K mg) : Binds K T.d_Stuck_init ["self", "cells"] [] := T.F_Stuck_init.binds fun _ _ _ _ _ _ us hl => match us, hl with | [_, _], _ => rfl
theorem Txt.k_Stuck_init {K : PySem.W.Frag} {mg : Str → Option Value} (T : Txt K mg) : PySem.W.keepIn K (.ref T.f_Stuck_init) = true := T.F_Stuck_init.kp
theorem Txt.b_need {K : PySem.W.Frag} {mg : Str → Option Value} (T : Txt K mg) : Binds K T.d_need ["good", "why"] [] := T.F_need.binds fun _ _ _ _ _ _ us hl => match us, hl with | [_, _], _ => rfl
theorem Txt.k_need {K : PySem.W.Frag} {mg : Str → Option Value} (T : Txt K mg) : PySem.W.keepIn K (.ref T.f_need) = true := T.F_need.kp
theorem Txt.b_need_size {K : PySem.W.Frag} {mg : Str → Option Value} (T : Txt K mg) : Binds K T.d_need_size ["size"] [] := T.F_need_size.binds fun _ _ _ _ _ _ us hl => match us, hl with | [_], _ => rfl
theorem Txt.k_need_size {K : PySem.W.Frag} {mg : Str → Option Value} (T : Txt K mg) : PySem.W.keepIn K (.ref T.f_need_size) = true := T.F_need_size.kp
theorem Txt.b_need_cap {K : PySem.W.Frag} {mg : Str → Option Value} (T : Txt K mg) : Binds K T.d_need_cap ["cap"] [] := T.F_need_cap.binds fun _ _ _ _ _ _ us hl => match us, hl with | [_], _ => rfl
theorem Txt.k_need_cap {K : PySem.W.Frag} {mg : Str → Option Value} (T : Txt K mg) : PySem.W.keepIn K (.ref T.f_need_cap) = true := T.F_need_cap.kp
theorem Txt.b_need_hands {K : PySem.W.Frag} {mg : Str → Option Value} (T : Txt K mg) : Binds K T.d_need_hands ["hands"] [] := T.F_need_hands.binds fun _ _ _ _ _ _ us hl => match us, hl with | [_], _ => rfl
theorem Txt.k_need_hands {K : PySem.W.Frag} {mg : Str → Option Value} (T : Txt K mg) : PySem.W.keepIn K (.ref T.f_need_hands) = true := T.F_need_hands.kp
theorem Txt.b_hands_by_cell {K : PySem.W.Frag} {mg : Str → Option Value} (T : Txt K mg) : Binds K T.d_hands_by_cell ["hands", "size", "key"] [] := T.F_hands_by_cell.binds fun _ _ _ _ _ _ us hl => match us, hl with | [_, _, _], _ => rfl
theorem Txt.k_hands_by_cell {K : PySem.W.Frag} {mg : Str → Option Value} (T : Txt K mg) : PySem.W.keepIn K (.ref T.f_hands_by_cell) = true := T.F_hands_by_cell.kp
theorem Txt.b_Sieve_size {K : PySem.W.Frag} {mg : Str → Option Value} (T : Txt K mg) : Binds K T.d_Sieve_size ["self"] [] := T.F_Sieve_size.binds fun _ _ _ _ _ _ us hl => match us, hl with | [_], _ => rfl
theorem Txt.k_Sieve_size {K : PySem.W.Frag} {mg : Str → Option Value} (T : Txt K mg) : PySem.W.keepIn K (.ref T.f_Sieve_size) = true := T.F_Sieve_size.kp
theorem Txt.b_Sieve_cap {K : PySem.W.Frag} {mg : Str → Option Value} (T : Txt K mg) : Binds K T.d_Sieve_cap ["self"] [] := T.F_Sieve_cap.binds fun _ _ _ _ _ _ us hl => match us, hl with | [_], _ => rfl
theorem Txt.k_Sieve_cap {K : PySem.W.Frag} {mg : Str → Option Value} (T : Txt K mg) : PySem.W.keepIn K (.ref T.f_Sieve_cap) = true := T.F_Sieve_cap.kp
theorem Txt.b_Sieve_hands {K : PySem.W.Frag} {mg : Str → Option Value} (T : Txt K mg) : Binds K T.d_Sieve_hands ["self"] [] := T.F_Sieve_hands.binds fun _ _ _ _ _ _ us hl => match us, hl with | [_], _ => rfl
theorem Txt.k_Sieve_hands {K : PySem.W.Frag} {mg : Str → Option Value} (T : Txt K mg) : PySem.W.keepIn K (.ref T.f_Sieve_hands) = true := T.F_Sieve_hands.kp
theorem Txt.b_Sieve_counts {K : PySem.W.Frag} {mg : Str → Option Value} (T : Txt K mg) : Binds K T.d_Sieve_counts ["self"] [] := T.F_Sieve_counts.binds fun _ _ _ _ _ _ us hl => match us, hl with | [_], _ => rfl
theorem Txt.k_Sieve_counts {K : PySem.W.Frag} {mg : Str → Option Value} (T : Txt K mg) : PySem.W.keepIn K (.ref T.f_Sieve_counts) = true := T.F_Sieve_counts.kp
theorem Txt.b_Sieve_init {K : PySem.W.Frag} {mg : Str → Option Value} (T : Txt K mg) : Binds K T.d_Sieve_init ["self", "size", "hands", "cap"] [] := T.F_Sieve_init.binds fun _ _ _ _ _ _ us hl => match us, hl with | [_, _, _, _], _ => rfl
theorem Txt.k_Sieve_init {K : PySem.W.Frag} {mg : Str → Option Value} (T : Txt K mg) : PySem.W.keepIn K (.ref T.f_Sieve_init) = true := T.F_Sieve_init.kp
theorem Txt.b_Sieve_put {K : PySem.W.Frag} {mg : Str → Option Value} (T : Txt K mg) : Binds K T.d_Sieve_put ["self", "key"] [] := T.F_Sieve_put.binds fun _ _ _ _ _ _ us hl => match us, hl with | [_, _], _ => rfl
theorem Txt.k_Sieve_put {K : PySem.W.Frag} {mg : Str → Option Value} (T : Txt K mg) : PySem.W.keepIn K (.ref T.f_Sieve_put) = true := T.F_Sieve_put.kp
theorem Txt.b_Sieve_says {K : PySem.W.Frag} {mg : Str → Option Value} (T : Txt K mg) : Binds K T.d_Sieve_says ["self", "key"] [] := T.F_Sieve_says.binds fun _ _ _ _ _ _ us hl => match us, hl with | [_, _], _ => rfl
theorem Txt.k_Sieve_says {K : PySem.W.Frag} {mg : Str → Option Value} (T : Txt K mg) : PySem.W.keepIn K (.ref T.f_Sieve_says) = true := T.F_Sieve_says.kp
theorem Txt.b_Sieve_stuck_cells {K : PySem.W.Frag} {mg : Str → Option Value} (T : Txt K mg) : Binds K T.d_Sieve_stuck_cells ["self", "key"] [] := T.F_Sieve_stuck_cells.binds fun _ _ _ _ _ _ us hl => match us, hl with | [_, _], _ => rfl
theorem Txt.k_Sieve_stuck_cells {K : PySem.W.Frag} {mg : Str → Option Value} (T : Txt K mg) : PySem.W.keepIn K (.ref T.f_Sieve_stuck_cells) = true := T.F_Sieve_stuck_cells.kp
theorem Txt.b_Sieve_need_takeable {K : PySem.W.Frag} {mg : Str → Option Value} (T : Txt K mg) : Binds K T.d_Sieve_need_takeable ["self", "key"] [] := T.F_Sieve_need_takeable.binds fun _ _ _ _ _ _ us hl => match us, hl with | [_, _], _ => rfl
theorem Txt.k_Sieve_need_takeable {K : PySem.W.Frag} {mg : Str → Option Value} (T : Txt K mg) : PySem.W.keepIn K (.ref T.f_Sieve_need_takeable) = true := T.F_Sieve_need_takeable.kp
theorem Txt.b_Sieve_take {K : PySem.W.Frag} {mg : Str → Option Value} (T : Txt K mg) : Binds K T.d_Sieve_take ["self", "key"] [] := T.F_Sieve_take.binds fun _ _ _ _ _ _ us hl => match us, hl with | [_, _], _ => rfl
theorem Txt.k_Sieve_take {K : PySem.W.Frag} {mg : Str → Option Value} (T : Txt K mg) : PySem.W.keepIn K (.ref T.f_Sieve_take) = true := T.F_Sieve_take.kp
theorem Txt.b__law_counts {K : PySem.W.Frag} {mg : Str → Option Value} (T : Txt K mg) : Binds K T.d__law_counts ["_law_keys_here", "_law_size", "_law_hands_here", "_law_cap"] [] := T.F__law_counts.binds fun _ _ _ _ _ _ us hl => match us, hl with | [_, _, _, _], _ => rfl
theorem Txt.k__law_counts {K : PySem.W.Frag} {mg : Str → Option Value} (T : Txt K mg) : PySem.W.keepIn K (.ref T.f__law_counts) = true := T.F__law_counts.kp
theorem Txt.b_built {K : PySem.W.Frag} {mg : Str → Option Value} (T : Txt K mg) : Binds K T.d_built ["keys", "size", "hands", "cap"] [] := T.F_built.binds fun _ _ _ _ _ _ us hl => match us, hl with | [_, _, _, _], _ => rfl
theorem Txt.k_built {K : PySem.W.Frag} {mg : Str → Option Value} (T : Txt K mg) : PySem.W.keepIn K (.ref T.f_built) = true := T.F_built.kp
theorem Txt.b__law_says {K : PySem.W.Frag} {mg : Str → Option Value} (T : Txt K mg) : Binds K T.d__law_says ["_law_counts_here", "_law_hands_here", "_law_cap", "_law_key"] [] := T.F__law_says.binds fun _ _ _ _ _ _ us hl => match us, hl with | [_, _, _, _], _ => rfl
theorem Txt.k__law_says {K : PySem.W.Frag} {mg : Str → Option Value} (T : Txt K mg) : PySem.W.keepIn K (.ref T.f__law_says) = true := T.F__law_says.kp
theorem Txt.b_NoSieve_init {K : PySem.W.Frag} {mg : Str → Option Value} (T : Txt K mg) : Binds K T.d_NoSieve_init ["self", "paper"] [] := T.F_NoSieve_init.binds fun _ _ _ _ _ _ us hl => match us, hl with | [_, _], _ => rfl
theorem Txt.k_NoSieve_init {K : PySem.W.Frag} {mg : Str → Option Value} (T : Txt K mg) : PySem.W.keepIn K (.ref T.f_NoSieve_init) = true := T.F_NoSieve_init.kp
theorem Txt.b_BadText_init {K : PySem.W.Frag} {mg : Str → Option Value} (T : Txt K mg) : Binds K T.d_BadText_init ["self", "row"] [] := T.F_BadText_init.binds fun _ _ _ _ _ _ us hl => match us, hl with | [_, _], _ => rfl
theorem Txt.k_BadText_init {K : PySem.W.Frag} {mg : Str → Option Value} (T : Txt K mg) : PySem.W.keepIn K (.ref T.f_BadText_init) = true := T.F_BadText_init.kp
theorem Txt.b__law_took {K : PySem.W.Frag} {mg : Str → Option Value} (T : Txt K mg) : Binds K T.d__law_took ["_law_sieve", "_law_key"] [] := T.F__law_took.binds fun _ _ _ _ _ _ us hl => match us, hl with | [_, _], _ => rfl
theorem Txt.k__law_took {K : PySem.W.Frag} {mg : Str → Option Value} (T : Txt K mg) : PySem.W.keepIn K (.ref T.f__law_took) = true := T.F__law_took.kp
theorem Txt.b__law_is_refused {K : PySem.W.Frag} {mg : Str → Option Value} (T : Txt K mg) : Binds K T.d__law_is_refused ["_law_found", "_law_due"] [] := T.F__law_is_refused.binds fun _ _ _ _ _ _ us hl => match us, hl with | [_, _], _ => rfl
theorem Txt.k__law_is_refused {K : PySem.W.Frag} {mg : Str → Option Value} (T : Txt K mg) : PySem.W.keepIn K (.ref T.f__law_is_refused) = true := T.F__law_is_refused.kp
section
variable {P : Program} {w : World} {K : PySem.W.Frag} {mg : Str → Option Value} {base : Heap}
theorem ok_need_key (T : Txt K mg) : FnOk P w K mg base (L2.CX P w) 1 T.f_need_key T.d_need_key ["key"] (SpX T.er (fun _ => True) fun x : Int × Unit => needKey x.1) := by
  refine T.F_need_key.okX sc_need_key (fun vs H Q E h => ?_) (fun cdv A outer s H vs Q E hr h => ?_)
  · obtain ⟨m, x, c, ⟨v, r, rfl, rk, rfl⟩, _⟩ := h
    rfl
  · obtain ⟨m, ⟨key, u⟩, c, ⟨v, r, rfl, rk, rfl⟩, -, k1, k2⟩ := h
    cases rp_int rk
    refine ⟨_, (pss_one (ps_if (pt_not (pt_chain op_le op_lt pe_int (pv 0) (pe_glob (v := .int 10007) rfl T.g_RING ⟨_, rfl⟩)))
  (pss_one (ps_raise rfl (takes_of rfl rfl rfl rfl) (pmk_own PySem.F.excBase_ValueError T.x_BadKey T.m_BadKey T.kc_BadKey (raises_own T.xb_BadKey T.xt_BadKey) rfl)))
  pss_nil)), ?_⟩
    refine s_ifV c (et_notV (et_e (ev_chain ev_c ev_vi ev_c))) (fun e H1 g => ?_) (fun e H1 g => ?_)
    · refine k2 .badKey ?_ _ _ H1 g.gr0 ⟨rfl, rfl⟩
      show needKey key = _
      unfold needKey
      rw [if_neg]
      intro z
      simp [z.1, z.2] at e
    · refine k1 () ?_ _ H1 g.gr0 rfl
      show needKey key = _
      unfold needKey
      rw [if_pos]
      simpa using e
theorem ok_pointed (T : Txt K mg) : FnOk P w K mg base CX0 1 T.f_pointed T.d_pointed ["hands", "size", "key"]
    (SpL (fun x : List (Int × Int) × Int × Int × Unit => x.1.length ≤ 90000 ∧ 0 < x.2.1 ∧ -(2 ^ 64) < x.2.2.1 ∧ x.2.2.1 < 2 ^ 64) fun x => pointed x.1 x.2.1 x.2.2.1) := by
  refine T.F_pointed.ok sc_pointed (fun vs H Q E h => ?_) (fun cdv A outer s H vs Q E hr h => ?_)
  · obtain ⟨m, x, c, ⟨v, r, rfl, rk, ⟨v2, r2, rfl, rk2, ⟨v3, r3, rfl, rk3, rfl⟩⟩⟩, _⟩ := h
    rfl
  · obtain ⟨m, ⟨hands, size, key, u⟩, c, ⟨v, r, rfl, rk, ⟨v2, r2, rfl, rk2, ⟨v3, r3, rfl, rk3, rfl⟩⟩⟩, ⟨hl, h1, h2⟩, k⟩ := h
    cases (show v2 = V.int size from rk2)
    cases (show v3 = V.int key from rk3)
    refine ⟨_, (pss_one (ps_ret (pe_lc (own := [("times", 3), ("more", 4)]) (g := gTup K 2 (gCons (gName 3) (gCons (gName 4) gNil))) (tt := tYes) (by rfl) sc_pointed.nd (pi_list (pv 0)) (blkOk_by (own := [("times", 3), ("more", 4)]) (N := N_pointed) (sc := defScope s_pointed) (by decide +kernel)) (fun _ _ _ _ _ => (pg_tup rfl (pgs_cons (pg_name (i := 3) sc_pointed.nd rfl (Or.inl rfl) (.inr rfl)) (pgs_cons (pg_name (i := 4) sc_pointed.nd rfl (Or.inl rfl) (.inr rfl)) pgs_nil)))) (fun _ _ _ _ _ => pts_nil) (fun _ _ _ _ _ => (pe_op op_mod (pe_op op_mod (pe_op op_add (pe_op op_mul (pv 2) (pv 3)) (pv 4)) (pe_glob (v := .int 10007) rfl T.g_RING ⟨_, rfl⟩)) (pv 1)))))), ?_⟩
    refine s_retLV c (el_map (fun h : Int × Int => (key * h.1 + h.2) % 10007 % size) (ev_v rfl rk) hl fun x v H1 _ g c1 r => lcT_pair r fun u w ru rw => ?_) fun a H1 n g o => k a H1 n g.gr0 o
    cases rp_int ru
    cases rp_int rw
    exact ⟨rfl, tYes_ok, fun _ => ev_oC (ev_oC (ev_o (ev_oC ev_vi ev_vi (.inl h2)) ev_vi) ev_c (by decide)) ev_vi h1⟩
theorem ok__law_mix (T : Txt K mg) : FnOk P w K mg base CX0 1 T.f__law_mix T.d__law_mix ["_law_script", "_law_seed"] (spMix K) := by
  refine T.F__law_mix.ok sc__law_mix (fun vs H Q E h => ?_) (fun cdv A outer s H vs Q E hr h => ?_)
  · obtain ⟨a, ns, seed, rfl, _⟩ := h
    rfl
  · obtain ⟨a, ns, seed, rfl, hS, hl, k⟩ := h
    refine ⟨_, (pss_cons (ps_set (i := 2) sc__law_mix.nd rfl (Or.inl rfl) (pv 1))
  (pss_cons (ps_for PassesOwn.never rfl (pi_list (pv 0)) (pg_name (i := 3) sc__law_mix.nd rfl (Or.inl rfl))
  (pss_one (ps_set (i := 2) sc__law_mix.nd rfl (Or.inl rfl) (pe_op op_mod (pe_op op_add (pe_op op_add (pe_op op_mul (pv 2) pe_int) (pe_op op_mod (pv 3) pe_int)) pe_int) pe_int))))
  (pss_one (ps_ret (pe_lst (pa_cons (pv 2) (pa_cons (pe_callTy call_list_of (by rfl) T.n_list (by decide +kernel) (pa_cons (pv 0) pa_nil)) (pa_cons pe_int pa_nil)))))))), ?_⟩
    refine ⟨_, rfl, ?_⟩
    refine ⟨_, rfl, a, rfl, ⟨_, hS⟩, for_list (K := K) (a := a) (xs := ns.map V.int) (fun i s2 H2 => ∃ (n : Int) (v : Option V), s2 = [some (.ref a), some (.int seed), some (.int n), v] ∧ H2 = H) ⟨seed, none, rfl, rfl⟩ (fun i s2 H2 _ ⟨_, _, _, e⟩ => by rw [e]; exact hS) ?_ ?_⟩
    · rintro i y s2 H2 hi ⟨n, v, rfl, rfl⟩
      obtain ⟨z, rfl⟩ : ∃ z, y = V.int z := by
        rw [List.getElem?_map] at hi
        cases e : ns[i]? with
        | none => rw [e] at hi; cases hi
        | some z => rw [e] at hi; exact ⟨z, (Option.some.inj hi).symm⟩
      refine ⟨_, rfl, _, _, rfl, rfl, .inr (by decide), _, rfl, _, _, rfl, rfl, (by show (0 : Int) < 2147483629; decide), _, _, rfl, rfl, _, _, rfl, rfl, _, _, rfl, rfl, (by show (0 : Int) < 2147483647; decide), ?_⟩
      exact ⟨_, _, rfl, rfl⟩
    · rintro s2 H2 ⟨n, v, rfl, rfl⟩
      refine ⟨_, rfl, _, rfl, a, _, rfl, .inl hS, fun l hl' => ⟨(by show 3 ≤ sizeLine; decide), fun p hp => ?_⟩⟩
      have hlp : l ≠ p := ne_of_none upd_same hp
      have hp' : H2 p = none := by rw [upd_ne hlp.symm] at hp; exact hp
      refine k p l _ hp' hl' hlp.symm ((Gr.new hl').trans (Gr.new hp)) ⟨n, ns, 0, upd_same, ?_, hl⟩
      rw [upd_ne hlp]
      exact upd_same
theorem ok__law_next (T : Txt K mg) : FnOk P w K mg base CX0 1 T.f__law_next T.d__law_next ["_law_h", "_law_many"] spNext := by
  refine T.F__law_next.ok sc__law_next (fun vs H Q E h => ?_) (fun cdv A outer s H vs Q E hr h => ?_)
  · obtain ⟨p, q, many, rfl, _⟩ := h
    rfl
  · obtain ⟨p, q, many, rfl, ⟨m, cs, i, hp, hq, hl⟩, h0, h1, k⟩ := h
    have npq : p ≠ q := ne_of hp hq (by
      intro z
      have z2 := HO.lst.inj z
      cases cs with
      | nil => cases z2
      | cons a r =>
        cases r with
        | nil => cases z2
        | cons b r => cases z2)
    have hlen : ((cs.map V.int).length : Int) = (cs.length : Int) := by rw [List.length_map]
    refine ⟨_, (pss_cons (ps_set (i := 2) sc__law_next.nd rfl (Or.inl rfl) (pe_op op_mod (pe_ix ix_list (pv 0) pe_int (fun _ _ => rfl)) (pe_callB (call_max2 rfl) (by rfl) T.n_max (by decide +kernel) (pa_cons pe_int (pa_cons (pe_callB call_len_seq (by rfl) T.n_len (by decide +kernel) (pa_cons (pe_ix ix_list (pv 0) pe_int (fun _ _ => rfl)) pa_nil)) pa_nil)))))
  (pss_cons (ps_set (i := 3) sc__law_next.nd rfl (Or.inl rfl) (pe_ifExp (pt_cmpR (op_neD hr.units) (pe_ix ix_list (pv 0) pe_int (fun _ _ => rfl)) (pe_lst pa_nil) (nomark _)) (pe_ix ix_list (pe_ix ix_list (pv 0) pe_int (fun _ _ => rfl)) (pv 2) (fun _ _ => rfl)) pe_int))
  (pss_cons (ps_if (pt_cmpR op_ge (pv 3) (pe_op op_pow pe_int pe_int) (nomark _))
  (pss_cons (ps_asg (pe_op op_fdiv (pv 3) (pv 1)) (pg_sub (pe_ix ix_list (pv 0) pe_int (fun _ _ => rfl)) (pv 2) set_list))
  (pss_one (ps_ret (pe_op op_mod (pv 3) (pv 1)))))
  pss_nil)
  (pss_cons (ps_asg (pe_op op_mod (pe_op op_add (pe_op op_add (pe_op op_mul (pe_ix ix_list (pv 0) pe_int (fun _ _ => rfl)) pe_int) (pe_op op_mul (pv 3) pe_int)) pe_int) pe_int) (pg_sub (pv 0) pe_int set_list))
  (pss_cons (ps_asg (pe_op op_add (pe_ix ix_list (pv 0) pe_int (fun _ _ => rfl)) pe_int) (pg_sub (pv 0) pe_int set_list))
  (pss_one (ps_ret (pe_op op_mod (pe_op op_fdiv (pe_ix ix_list (pv 0) pe_int (fun _ _ => rfl)) pe_int) (pv 1))))))))), ?_⟩
    -- at = h[2] % max(1, len(h[1]))
    obtain ⟨w1, ew1, hw1⟩ : ∃ w1 : Int, w1 = (if ((cs.map V.int).length : Int) > 1 then ((cs.map V.int).length : Int) else 1) ∧ 0 < w1 := ⟨_, rfl, by split <;> omega⟩
    refine q_rawA ?_
    refine ⟨_, rfl, p, _, 2, _, rfl, rfl, .of hp, rfl, _, rfl, p, _, 1, _, rfl, rfl, .of hp, rfl, q, _, rfl, .inl (.of hq), 1, _, rfl, i, _, rfl, rfl, by rw [← ew1]; exact hw1, ?_⟩
    rw [← ew1]
    obtain ⟨at', eat, hat0, hat1⟩ : ∃ at' : Int, at' = i % w1 ∧ 0 ≤ at' ∧ at' < w1 := ⟨_, rfl, Int.emod_nonneg _ (by omega), Int.emod_lt_of_pos _ hw1⟩
    -- cell = h[1][at] if h[1] != [] else 0
    refine g_name ?_
    refine q_setI (D := none) (m := []) (p := fun cell : Int => (cs[at'.toNat]? = some cell ∧ at' < cs.length) ∨ cell = 0) .nil (fun H0 g0 c0 Q' w' => ?_) (fun cell H1 g1 hcell => ?_)
    · have hp0 := g0.gr0.at0 hp
      have hq0 := g0.gr0.at0 hq
      refine ⟨_, rfl, p, _, 1, _, rfl, rfl, .of hp0, rfl, (by show 0 ≤ sizeLine; decide), fun l hl' => ?_⟩
      have g1 : Gr [] H0 (upd H0 l (.lst [])) := Gr.new hl'
      have hp1 := g1.at0 hp0
      have hq1 := g1.at0 hq0
      refine ⟨_, _, Dat.dp (α := List Int) (m := []) ⟨q, _, rfl, by simp, hq1, ints_paired cs⟩, Dat.dp (α := List Int) (x := []) (m := []) ⟨l, _, rfl, by simp, upd_same, .nil⟩, shaped_of (ok_ints _) (by decide), shaped_of (ok_ints _) (by decide), _, rfl, ?_⟩
      rw [eqv_dec]
      by_cases hc : cs = []
      · rw [decide_eq_true hc]
        exact iteF (w' 0 _ _ (.pure g1) rfl (.inr rfl))
      · rw [decide_eq_false hc]
        refine iteT ?_
        have hpos : 0 < cs.length := List.length_pos_iff.mpr hc
        have hw : w1 = (cs.length : Int) := by
          rw [ew1, List.length_map]; split <;> omega
        have hlt : at'.toNat < cs.length := by omega
        refine ⟨_, rfl, p, _, 1, _, rfl, rfl, .of hp1, rfl, _, rfl, q, _, at', .int cs[at'.toNat], rfl, by rw [eat], .of hq1, at_of (j := at'.toNat) (by omega) (by rw [List.getElem?_map, List.getElem?_eq_getElem hlt]; rfl), ?_⟩
        exact w' _ _ _ (.pure g1) rfl (.inl ⟨List.getElem?_eq_getElem hlt, by omega⟩)
    · have hp1 := g1.gr0.at0 hp
      have hq1 := g1.gr0.at0 hq
      -- if cell >= 10 ** 18
      refine q_rawWhen ?_
      refine ⟨_, rfl, _, _, rfl, rfl, ⟨by decide, by decide, by decide⟩, _, _, rfl, rfl, _, rfl, ite2 (fun hge => ?_) (fun hge => ?_)⟩
      · have hge' : (1000000000000000000 : Int) ≤ cell := by simpa using hge
        obtain ⟨hc1, hc2⟩ : cs[at'.toNat]? = some cell ∧ at' < cs.length := hcell.elim (fun z => z) fun z => by omega
        -- h[1][at] = cell // many; return cell % many
        have hix : ixN (cs.map V.int).length at' = some at'.toNat := by
          unfold ixN
          rw [if_pos hat0, if_pos (by rw [List.length_map]; exact hc2)]
        refine q_rawA ?_
        refine ⟨_, rfl, _, rfl, _, _, rfl, rfl, ⟨h0, h1⟩, _, rfl, p, _, 1, _, rfl, rfl, .of hp1, rfl, _, rfl, q, _, at', at'.toNat, rfl, by rw [eat], hq1, hix, ?_⟩
        refine ⟨_, rfl, _, rfl, _, _, rfl, rfl, h0, ?_⟩
        refine k _ _ (Int.emod_nonneg _ (by omega)) (Int.emod_lt_of_pos _ h0) ((g1.gr0.any).put (by simp) hq1 (fun _ z => by cases z)) ⟨m, cs.set at'.toNat (cell / many), i, by rw [upd_ne npq]; exact hp1, ?_, by rw [List.length_set]; exact hl⟩
        rw [upd_same, List.map_set]
      · -- h[0] = ..; h[2] = h[2] + 1; return h[0] // 7 % many
        refine q_rawA ?_
        refine ⟨_, rfl, p, _, 0, _, rfl, rfl, .of hp1, rfl, _, _, rfl, rfl, .inr (by decide), _, rfl, _, _, rfl, rfl, .inr (by decide), _, _, rfl, rfl, _, _, rfl, rfl, _, _, rfl, rfl, (by show (0 : Int) < 2147483647; decide), _, rfl, p, _, 0, 0, rfl, rfl, hp1, rfl, ?_⟩
        refine q_rawA ?_
        refine ⟨_, rfl, p, _, 2, _, rfl, rfl, .of upd_same, rfl, _, _, rfl, rfl, _, rfl, p, _, 2, 2, rfl, rfl, upd_same, rfl, ?_⟩
        rw [upd_upd]
        refine ⟨_, rfl, p, _, 0, _, rfl, rfl, .of upd_same, rfl, _, _, rfl, rfl, ⟨by decide, by decide⟩, _, rfl, _, _, rfl, rfl, h0, ?_⟩
        refine k _ _ (Int.emod_nonneg _ (by omega)) (Int.emod_lt_of_pos _ h0) ((g1.gr0.any).put (by simp) hp1 (fun _ z => by cases z)) ⟨_, cs, _, upd_same, ?_, hl⟩
        rw [upd_ne npq.symm]
        exact hq1
/-! ### what is drawn -/
abbrev spHands : Sp := SpDL (fun x : Int × Unit => 0 < x.1 ∧ x.1 ≤ 100) fun x ys => HandsOk x.1 ys
abbrev spKeys : Sp := SpDL (fun x : Int × Unit => 0 ≤ x.1 ∧ x.1 ≤ 1000) fun x ys => KeysOk x.1 ys
theorem at_ofA {α : Type} {xs : List α} {z : Int} {j : Nat} {v : α} (e : z = (j : Int)) (h : xs[j]? = some v) : atI xs z = some v := by
  rw [e]
  exact atI_nat h
theorem atI_of {α : Type} {xs : List α} {i : Int} (h0 : 0 ≤ i) (h1 : i < xs.length) : ∃ x, atI xs i = some x ∧ x ∈ xs := by
  have hl : i.toNat < xs.length := by omega
  exact ⟨xs[i.toNat], at_ofA (j := i.toNat) (by omega) (List.getElem?_eq_getElem hl), List.getElem_mem hl⟩
theorem ok__law_hands (T : Txt K mg) : FnOk P w K mg base CX0 2 T.f__law_hands T.d__law_hands ["_law_h", "_law_most"] spHands := by
  refine T.F__law_hands.ok sc__law_hands (fun vs H Q E h => ?_) (fun cdv A outer s H vs Q E hr h => ?_)
  · obtain ⟨p, q, m, x, ws, rfl, _, ⟨v, r, rfl, rk, rfl⟩, _⟩ := h
    rfl
  · obtain ⟨p, q, m, ⟨most, u⟩, ws, rfl, c, ⟨v, r, rfl, rk, rfl⟩, ⟨h0, h1⟩, k⟩ := h
    cases (show v = V.int most from rk)
    replace h0 : 0 < most := h0
    replace h1 : most ≤ 100 := h1
    refine ⟨_, (pss_cons (ps_set (i := 2) sc__law_hands.nd rfl (Or.inl rfl) (pe_lst pa_nil))
  (pss_cons (ps_set (i := 3) sc__law_hands.nd rfl (Or.inl rfl) (pe_call (ok__law_next T) (hr.mono (by decide)) rfl T.m__law_next T.k__law_next T.b__law_next .nil pass0 (pa_cons (pv 0) (pa_cons pe_int pa_nil))))
  (pss_cons (ps_for PassesOwn.never rfl (pi_range1 rfl T.n_range (pa_cons (pe_op op_add pe_int (pe_call (ok__law_next T) (hr.mono (by decide)) rfl T.m__law_next T.k__law_next T.b__law_next .nil pass0 (pa_cons (pv 0) (pa_cons (pv 1) pa_nil)))) pa_nil)) (pg_name (i := 4) sc__law_hands.nd rfl (Or.inl rfl))
  (pss_cons (ps_set (i := 5) sc__law_hands.nd rfl (Or.inl rfl) (pe_tup (pa_cons (pe_op op_add pe_int (pe_call (ok__law_next T) (hr.mono (by decide)) rfl T.m__law_next T.k__law_next T.b__law_next .nil pass0 (pa_cons (pv 0) (pa_cons pe_int pa_nil)))) (pa_cons (pe_call (ok__law_next T) (hr.mono (by decide)) rfl T.m__law_next T.k__law_next T.b__law_next .nil pass0 (pa_cons (pv 0) (pa_cons pe_int pa_nil))) pa_nil))))
  (pss_cons (ps_if (pt_cmpR op_eq (pv 3) pe_int (nomark _))
  (pss_one (ps_set (i := 5) sc__law_hands.nd rfl (Or.inl rfl) (pe_tup (pa_cons (pe_ix ix_list (pe_lst (pa_cons pe_int (pa_cons pe_int (pa_cons pe_int pa_nil)))) (pe_call (ok__law_next T) (hr.mono (by decide)) rfl T.m__law_next T.k__law_next T.b__law_next .nil pass0 (pa_cons (pv 0) (pa_cons pe_int pa_nil))) (fun _ _ => rfl)) (pa_cons (pe_ix ix_list (pe_lst (pa_cons pe_int (pa_cons pe_int (pa_cons pe_int pa_nil)))) (pe_call (ok__law_next T) (hr.mono (by decide)) rfl T.m__law_next T.k__law_next T.b__law_next .nil pass0 (pa_cons (pv 0) (pa_cons pe_int pa_nil))) (fun _ _ => rfl)) pa_nil)))))
  pss_nil)
  (pss_cons (ps_if (PW.pt (pw_and (pt_cmpR op_eq (pv 3) pe_int (nomark _)) (pw_and (pt_cmpR (op_neD hr.units) (pv 2) (pe_lst pa_nil) (nomark _)) (pw_and1 (pt_cmpR op_eq (pe_call (ok__law_next T) (hr.mono (by decide)) rfl T.m__law_next T.k__law_next T.b__law_next .nil pass0 (pa_cons (pv 0) (pa_cons pe_int pa_nil))) pe_int (nomark _))))))
  (pss_one (ps_set (i := 5) sc__law_hands.nd rfl (Or.inl rfl) (pe_ix ix_list (pv 2) pe_int (fun _ _ => rfl))))
  pss_nil)
  (pss_one (ps_expr (pe_bm PySem.F.plainAttrs_list PySem.F.slot_list_append PySem.F.type_list_append mt_append (pv 2) (pa_cons (pv 5) pa_nil))))))))
  (pss_one (ps_ret (pv 2)))))), ?_⟩
    refine q_setLV (α := Int × Int) c el_nil fun a H1 na g1 o1 => ?_
    have c1 := c.go g1
    refine q_setI c1 (ev_nextC rfl (by decide)) fun way H2 g2 hway => ?_
    have c2 := c1.go g2
    have o2 := o1.gd c1 g2
    refine q_forR1 c2 (ev_i0 (r := fun n => 1 ≤ n ∧ n ≤ most) ev_c (ev_next (r := fun j => 0 ≤ j ∧ j < most) rfl ev_vi (fun n e => by rw [e]; omega) fun n j e a b => ⟨a, by rw [← e]; exact b⟩) (fun i j e b => by subst e; omega)) fun n H3 g3 hn => ⟨by omega, ?_⟩
    refine ⟨fun j s2 H' => ∃ (ys : List (Int × Int)) (x y : Option V), s2 = [some (.ref p), some (.int most), some (.ref a), some (.int way), x, y] ∧ Gd (some (p, q)) H H' ∧ Own m H' a ys ∧ ys.length = j ∧ ∀ h, h ∈ ys → HandOk h,
      ⟨[], none, none, rfl, (g1.trans g2).trans g3, o2.gd c2 g3, rfl, by simp⟩, ?_, ?_⟩
    · rintro j s2 H' hj ⟨ys, x, y, rfl, g', o', hl, hy⟩
      have c' := c.go g'
      refine g_name ?_
      refine q_set (p := HandOk) c' (ev_pair (p := fun i : Int => 1 ≤ i ∧ i ≤ 10006) (q := fun i : Int => 0 ≤ i ∧ i ≤ 10006) (ev_i0 ev_c (ev_nextC rfl (by decide)) fun i j e b => by subst e; omega) ((ev_nextC rfl (by decide)).imp fun i e => by omega) fun i j a b => ⟨a.1, a.2, b.1, b.2⟩) fun hd v H4 g4 r4 hd4 => ?_
      have c4 := c'.go g4
      refine q_ifset (α := Int × Int) (p := HandOk) c4 (et_e (ev_eqV ev_vi ev_c)) (fun _ => ev_pair (p := fun i : Int => 1 ≤ i ∧ i ≤ 10006) (q := fun i : Int => 0 ≤ i ∧ i ≤ 10006)
        (ev_ixL (xs := [1, 2, 10006]) (el_lst (ei_consV ev_c (ei_consV ev_c (ei_consV ev_c ei_nil))) (fun xs e => by rw [e]; decide)).ev (ev_nextC rfl (by decide)) fun i b => ?_)
        (ev_ixL (xs := [0, 1, 10006]) (el_lst (ei_consV ev_c (ei_consV ev_c (ei_consV ev_c ei_nil))) (fun xs e => by rw [e]; decide)).ev (ev_nextC rfl (by decide)) fun i b => ?_) (fun i j a b => ⟨a.1, a.2, b.1, b.2⟩)) (fun _ => ⟨hd, v, rfl, r4, hd4⟩) fun hd v H5 g5 r5 hd5 => ?_
      · obtain ⟨x, hx, hm⟩ := atI_of (xs := ([1, 2, 10006] : List Int)) b.1 b.2
        refine ⟨x, hx, ?_⟩
        simp at hm
        omega
      · obtain ⟨x, hx, hm⟩ := atI_of (xs := ([0, 1, 10006] : List Int)) b.1 b.2
        refine ⟨x, hx, ?_⟩
        simp at hm
        omega
      have c5 := c4.go g5
      have o5 := (o'.gd c' g4).gd c4 g5
      refine q_ifset (α := Int × Int) (p := HandOk) (q := fun b => b = true → ys ≠ []) c5 (et_and (p := fun _ => True) (q := fun b => b = true → ys ≠ []) (et_e (ev_eqI (p := fun _ => True) (q := fun _ => True) (Ev.any ev_vi) (Ev.any ev_c) fun _ _ _ _ => trivial)) (fun _ => et_and (p := fun b => b = true → ys ≠ []) (q := fun _ => True)
        (et_e ((ev_neDV (ev_v rfl o5.rp) el_nil.ev (ok_hands _) (ok_hands _)).imp fun b e z => by rw [z] at e; simpa using e.symm)) (fun _ => et_e (ev_eqI (p := fun _ => True) (q := fun _ => True) (Ev.any (ev_nextC rfl (by decide))) (Ev.any ev_c) fun _ _ _ _ => trivial)) (fun _ z => by cases z) (fun b e _ _ => e rfl)) (fun _ z => by cases z) (fun b _ e => e))
        (fun e => ?_) (fun _ => ⟨hd, v, rfl, r5, hd5⟩) fun hd v H6 g6 r6 hd6 => ?_
      · have hne := e rfl
        have hpos : 0 < ys.length := List.length_pos_iff.mpr hne
        refine ev_ixL (xs := ys) (ev_v rfl o5.rp) ev_c fun i e => ?_
        subst e
        obtain ⟨x, hx, hm⟩ := atI_of (xs := ys) (i := 0) (by omega) (by omega)
        exact ⟨x, hx, hy x hm⟩
      have c6 := c5.go g6
      have o6 := o5.gd c5 g6
      refine s_app (α := Int × Int) (p := HandOk) c6 o6 rfl ((ev_v rfl r6).to hd6) (by omega) fun x H7 H8 g7 hx o8 e8 => ?_
      obtain ⟨vs, rfl⟩ := e8
      refine ⟨ys ++ [x], _, _, rfl, ?_, o8, by simp [hl], ?_⟩
      · exact mut_gd ((((g'.trans g4).trans g5).trans g6).trans g7) c na
      · intro h hh
        rcases List.mem_append.mp hh with z | z
        · exact hy h z
        · rw [List.mem_singleton.mp z]; exact hx
    · rintro s2 H' ⟨ys, x, y, rfl, g', o', hl, hy⟩
      refine ⟨_, rfl, k ys a H' na g' o' ⟨by omega, by show (ys.length : Int) ≤ most; omega, hy⟩⟩
theorem ok__law_keys (T : Txt K mg) : FnOk P w K mg base CX0 2 T.f__law_keys T.d__law_keys ["_law_h", "_law_many"] spKeys := by
  refine T.F__law_keys.ok sc__law_keys (fun vs H Q E h => ?_) (fun cdv A outer s H vs Q E hr h => ?_)
  · obtain ⟨p, q, m, x, ws, rfl, _, ⟨v, r, rfl, rk, rfl⟩, _⟩ := h
    rfl
  · obtain ⟨p, q, m, ⟨many, u⟩, ws, rfl, c, ⟨v, r, rfl, rk, rfl⟩, ⟨h0, h1⟩, k⟩ := h
    cases (show v = V.int many from rk)
    replace h0 : 0 ≤ many := h0
    replace h1 : many ≤ 1000 := h1
    refine ⟨_, (pss_cons (ps_setLc (i := 2) (own := [("_law_k", 3)]) (g := gName 3) (tt := tYes) rfl sc__law_keys.nd rfl rfl (sw_true rfl rfl rfl (by decide +kernel)) (pi_range1 rfl T.n_range (pa_cons pe_int pa_nil)) (blkOk_by (own := [("_law_k", 3)]) (N := N__law_keys) (sc := defScope s__law_keys) (by decide +kernel)) (fun _ _ _ _ _ => (pg_name (i := 3) sc__law_keys.nd rfl (Or.inl rfl) (.inr rfl))) (fun _ _ _ _ _ => pts_nil) (fun _ _ _ _ _ => (pe_call (ok__law_next T) (hr.mono (by decide)) rfl T.m__law_next T.k__law_next T.b__law_next .nil pass0 (pa_cons (pv 0) (pa_cons pe_int pa_nil)))))
  (pss_cons (ps_set (i := 4) sc__law_keys.nd rfl (Or.inl rfl) (pe_call (ok__law_next T) (hr.mono (by decide)) rfl T.m__law_next T.k__law_next T.b__law_next .nil pass0 (pa_cons (pv 0) (pa_cons pe_int pa_nil))))
  (pss_cons (ps_set (i := 5) sc__law_keys.nd rfl (Or.inl rfl) (pe_lst pa_nil))
  (pss_cons (ps_for PassesOwn.never rfl (pi_range1 rfl T.n_range (pa_cons (pv 1) pa_nil)) (pg_name (i := 3) sc__law_keys.nd rfl (Or.inl rfl))
  (pss_one (ps_expr (pe_bm PySem.F.plainAttrs_list PySem.F.slot_list_append PySem.F.type_list_append mt_append (pv 5) (pa_cons (pe_ix ix_list (pe_lst (pa_cons (pe_ix ix_list (pv 2) (pe_call (ok__law_next T) (hr.mono (by decide)) rfl T.m__law_next T.k__law_next T.b__law_next .nil pass0 (pa_cons (pv 0) (pa_cons pe_int pa_nil))) (fun _ _ => rfl)) (pa_cons (pe_call (ok__law_next T) (hr.mono (by decide)) rfl T.m__law_next T.k__law_next T.b__law_next .nil pass0 (pa_cons (pv 0) (pa_cons pe_int pa_nil))) (pa_cons (pe_call (ok__law_next T) (hr.mono (by decide)) rfl T.m__law_next T.k__law_next T.b__law_next .nil pass0 (pa_cons (pv 0) (pa_cons pe_int pa_nil))) pa_nil)))) (pv 4) (fun _ _ => rfl)) pa_nil)))))
  (pss_one (ps_ret (pv 5))))))), ?_⟩
    refine q_setL (p := KeysOk 4) c (el_lcR1 (β := Int) (q := fun n => n = 4) (fun n j acc => acc.length = j ∧ ∀ y, y ∈ acc → KeyOk y) ev_c (fun n e => by subst e; decide) (fun n e => ⟨rfl, by simp⟩) (fun n j H1 acc e hj g c1 hI => ⟨fun b => b = true, KeyOk, lcT_name rfl tYes_ok fun _ => (ev_nextC rfl (by decide)), fun y _ hy => ⟨by simp [hI.1], fun z hz => ?_⟩, fun z => by cases z⟩) fun n acc e hI => ⟨by rw [hI.1, e]; rfl, hI.2⟩) fun few af H1 nf g1 of hfew => ?_
    · rcases List.mem_append.mp hz with z1 | z1
      · exact hI.2 z z1
      · rw [List.mem_singleton.mp z1]; exact hy
    have c1 := c.go g1
    refine q_setI c1 (ev_nextC rfl (by decide)) fun way H2 g2 hway => ?_
    have c2 := c1.go g2
    have of2 := of.gd c1 g2
    refine q_setLV (α := Int) c2 el_nil fun a H3 na g3 o3 => ?_
    have c3 := c2.go g3
    have of3 := of2.gd c2 g3
    have na0 : H a = none := g1.gr.dom a (g2.gr.dom a na)
    refine q_forR1 c3 ev_vi fun n H4 g4 hn => ⟨by subst hn; omega, ?_⟩
    subst hn
    have g04 : Gd (some (p, q)) H H4 := ((g1.trans g2).trans g3).trans g4
    have c4 := c3.go g4
    have of4 := of3.gd c3 g4
    have hlf : (few.length : Int) = 4 := hfew.1
    refine ⟨fun j s2 H' => ∃ (ys : List Int) (x : Option V), s2 = [some (.ref p), some (.int n), some (.ref af), x, some (.int way), some (.ref a)] ∧ Gd (some (p, q)) H H' ∧ Own m H' af few ∧ Own m H' a ys ∧ ys.length = j ∧ ∀ h, h ∈ ys → KeyOk h,
      ⟨[], none, rfl, g04, of4, o3.gd c3 g4, rfl, by simp⟩, ?_, ?_⟩
    · rintro j s2 H' hj ⟨ys, x, rfl, g', off, o', hl, hy⟩
      have c' := c.go g'
      refine g_name ?_
      refine s_app (α := Int) (p := KeyOk) c' o' rfl (ev_ixL' (el_lst (p := fun xs : List Int => xs.length = 3 ∧ ∀ y, y ∈ xs → KeyOk y) (ei_cons (p := KeyOk) (q := fun xs : List Int => xs.length = 2 ∧ ∀ y, y ∈ xs → KeyOk y) (ev_ixL (xs := few) (ev_v rfl off.rp) (ev_nextC rfl (by decide)) fun i b => ?_)
        (ei_cons (p := KeyOk) (q := fun xs : List Int => xs.length = 1 ∧ ∀ y, y ∈ xs → KeyOk y) ((ev_nextC rfl (by decide)).imp fun i b => ⟨b.1, by omega⟩) (ei_cons (p := KeyOk) (q := fun xs : List Int => xs = []) (ev_nextC rfl (by decide)) ei_nil fun x xs hx e => by subst e; simp [hx]) fun x xs hx e => ⟨by simp [e.1], by simpa [hx] using e.2⟩)
        fun x xs hx e => ⟨by simp [e.1], by simpa [hx] using e.2⟩) fun xs e => by omega).ev ev_vi fun xs i hxs e => ?_) (by omega) fun x H7 H8 g7 hx o8 e8 => ?_
      · obtain ⟨x, hx, hm⟩ := atI_of (xs := few) b.1 (by omega)
        exact ⟨x, hx, hfew.2 x hm⟩
      · obtain ⟨x, hx, hm⟩ := atI_of (xs := xs) (i := way) hway.1 (by omega)
        exact ⟨x, by rw [e]; exact hx, hxs.2 x hm⟩
      · obtain ⟨vs, rfl⟩ := e8
        have off7 := off.gd c' g7
        have nfa : af ≠ a := fun e => by
          obtain ⟨vf, hvf, _⟩ := of2.ex
          rw [e, na] at hvf
          cases hvf
        obtain ⟨va, ha7, _⟩ := (o'.gd c' g7).ex
        refine ⟨ys ++ [x], _, rfl, mut_gd (g'.trans g7) c na0, off7.upd_ne nfa ha7 (fun _ z => by cases z), o8, by simp [hl], ?_⟩
        · intro h hh
          rcases List.mem_append.mp hh with z | z
          · exact hy h z
          · rw [List.mem_singleton.mp z]; exact hx
    · rintro s2 H' ⟨ys, x, rfl, g', off, o', hl, hy⟩
      refine ⟨_, rfl, k ys a H' na0 g' o' ⟨by show (ys.length : Int) = n; omega, hy⟩⟩
theorem ok__law_cells (T : Txt K mg) : FnOk P w K mg base CX0 1 T.f__law_cells T.d__law_cells ["_law_hands_here", "_law_size", "_law_key"]
    (SpL (fun x : List (Int × Int) × Int × Int × Unit => x.1.length ≤ 90000 ∧ 0 < x.2.1 ∧ -(2 ^ 64) < x.2.2.1 ∧ x.2.2.1 < 2 ^ 64) fun x => pointed x.1 x.2.1 x.2.2.1) := by
  refine T.F__law_cells.ok sc__law_cells (fun vs H Q E h => ?_) (fun cdv A outer s H vs Q E hr h => ?_)
  · obtain ⟨m, x, c, ⟨v, r, rfl, rk, ⟨v2, r2, rfl, rk2, ⟨v3, r3, rfl, rk3, rfl⟩⟩⟩, _⟩ := h
    rfl
  · obtain ⟨m, ⟨hands, size, key, u⟩, c, ⟨v, r, rfl, rk, ⟨v2, r2, rfl, rk2, ⟨v3, r3, rfl, rk3, rfl⟩⟩⟩, ⟨hl, h1, h2⟩, k⟩ := h
    cases (show v2 = V.int size from rk2)
    cases (show v3 = V.int key from rk3)
    refine ⟨_, (pss_one (ps_ret (pe_lc (own := [("_law_hand", 3)]) (g := gName 3) (tt := tYes) (by rfl) sc__law_cells.nd (pi_list (pv 0)) (blkOk_by (own := [("_law_hand", 3)]) (N := N__law_cells) (sc := defScope s__law_cells) (by decide +kernel)) (fun _ _ _ _ _ => (pg_name (i := 3) sc__law_cells.nd rfl (Or.inl rfl) (.inr rfl))) (fun _ _ _ _ _ => pts_nil) (fun _ _ _ _ _ => (pe_op op_mod (pe_op op_mod (pe_op op_add (pe_op op_mul (pv 2) (pe_ix (show IxR _ (rIxT K) from ix_tup) (pv 3) pe_int (fun _ _ => rfl))) (pe_ix (show IxR _ (rIxT K) from ix_tup) (pv 3) pe_int (fun _ _ => rfl))) pe_int) (pv 1)))))), ?_⟩
    refine s_retLV c (el_map (fun h : Int × Int => (key * h.1 + h.2) % 10007 % size) (ev_v rfl rk) hl fun x v H1 _ g c1 r => lcT_name rfl tYes_ok fun _ => ?_) fun a H1 n g o => k a H1 n g.gr0 o
    exact ev_oC (ev_oC (ev_o (ev_oC ev_vi (ev_ix0 (ev_v rfl r)) (.inl h2)) (ev_ix1 (ev_v rfl r))) ev_c (by decide)) ev_vi h1
theorem ok__law_are (T : Txt K mg) : FnOk P w K mg base CX0 1 T.f__law_are T.d__law_are ["_law_found", "_law_due"]
    (SpF (fun x : List Int × List Int × Unit => x.2.1.length ≤ 90000) fun x => decide (x.1 = x.2.1)) := by
  refine T.F__law_are.ok sc__law_are (fun vs H Q E h => ?_) (fun cdv A outer s H vs Q E hr h => ?_)
  · obtain ⟨m, x, c, ⟨v, r, rfl, rk, ⟨v2, r2, rfl, rk2, rfl⟩⟩, _⟩ := h
    rfl
  · obtain ⟨m, ⟨found, due, u⟩, c, ⟨v, r, rfl, rk, ⟨v2, r2, rfl, rk2, rfl⟩⟩, hl, k⟩ := h
    dsimp only at rk rk2 hl k
    refine ⟨_, (pss_cons (ps_if (PW.pt (pw_or (pt_not (pt_val (pe_callB call_isi (by rfl) T.n_isinstance (by decide +kernel) (pa_cons (pv 0) (pa_cons (pe_bltn (v := .ty "list") rfl T.n_list (by decide +kernel) rfl) pa_nil))))) (pw_or1 (pt_cmpR op_ne (pe_callB call_len_seq (by rfl) T.n_len (by decide +kernel) (pa_cons (pv 0) pa_nil)) (pe_callB call_len_seq (by rfl) T.n_len (by decide +kernel) (pa_cons (pv 1) pa_nil)) (nomark _)))))
  (pss_one (ps_ret pe_bl))
  pss_nil)
  (pss_cons (ps_for PassesOwn.never rfl (pi_range1 rfl T.n_range (pa_cons (pe_callB call_len_seq (by rfl) T.n_len (by decide +kernel) (pa_cons (pv 1) pa_nil)) pa_nil)) (pg_name (i := 2) sc__law_are.nd rfl (Or.inl rfl))
  (pss_one (ps_if (PW.pt (pw_or (pt_val (pe_callB call_isi (by rfl) T.n_isinstance (by decide +kernel) (pa_cons (pe_ix ix_list (pv 0) (pv 2) (fun _ _ => rfl)) (pa_cons (pe_bltn (v := .ty "bool") rfl T.n_bool (by decide +kernel) rfl) pa_nil)))) (pw_or (pt_not (pt_val (pe_callB call_isi (by rfl) T.n_isinstance (by decide +kernel) (pa_cons (pe_ix ix_list (pv 0) (pv 2) (fun _ _ => rfl)) (pa_cons (pe_bltn (v := .ty "int") rfl T.n_int (by decide +kernel) rfl) pa_nil))))) (pw_or1 (pt_cmpR op_ne (pe_ix ix_list (pv 0) (pv 2) (fun _ _ => rfl)) (pe_ix ix_list (pv 1) (pv 2) (fun _ _ => rfl)) (nomark _))))))
  (pss_one (ps_ret pe_bl))
  pss_nil)))
  (pss_one (ps_ret pe_bl)))), ?_⟩
    refine q_whenV c (et_orV (et_notV (et_B (ev_isL (b := true) (ev_v rfl rk)))) fun _ => et_e (ev_neV (ev_len (ev_v rfl rk)) (ev_len (ev_v rfl rk2)))) (fun e H1 g => ?_) (fun e H1 g => ?_)
    · refine s_retV (c.go g) ev_b fun v H2 g2 rb => k v H2 (g.trans g2).gr0 ?_
      have : found ≠ due := fun z => by simp [z] at e
      show Rp.rp m H2 (decide (found = due)) v
      rw [decide_eq_false this]; exact rb
    · have hlen : found.length = due.length := by
        simp at e
        omega
      have c1 := c.go g
      refine q_forR1 c1 (ev_len (ev_v rfl (rp_gd rk2 c g))) fun n H2 g2 hn => ⟨by subst hn; omega, ?_⟩
      subst hn
      refine ⟨fun j s2 H' => ∃ x : Option V, s2 = [some v, some v2, x] ∧ Gd none H H' ∧ found.take j = due.take j, ⟨none, rfl, g.trans g2, rfl⟩, ?_, ?_⟩
      · rintro j s2 H' hj ⟨x, rfl, g', he⟩
        have hj1 : j < found.length := by omega
        have hj2 : j < due.length := by omega
        have c' := c.go g'
        have r1 := rp_gd rk c g'
        have r2 := rp_gd rk2 c g'
        refine g_name ?_
        have i1 : EvV none m (tOp (rIxL K) (tVar 0) (tVar 2)) [some v, some v2, some (V.int (j : Int))] H' found[j] := ev_ixLV (ev_v rfl r1) ev_vi (atI_nat (List.getElem?_eq_getElem hj1))
        have i2 : EvV none m (tOp (rIxL K) (tVar 1) (tVar 2)) [some v, some v2, some (V.int (j : Int))] H' due[j] := ev_ixLV (ev_v rfl r2) ev_vi (atI_nat (List.getElem?_eq_getElem hj2))
        refine s_whenV c' (et_orV (et_B (ev_isI (b := false) i1)) fun _ => et_orV (et_notV (et_B (ev_isI (b := true) i1))) fun _ => et_e (ev_neV i1 i2)) (fun e H3 g3 => ?_) (fun e H3 g3 => ?_)
        · refine s_retV (c'.go g3) ev_b fun v H4 g4 rb => k v H4 ((g'.trans g3).trans g4).gr0 ?_
          have : found ≠ due := fun z => by simp [z] at e
          show Rp.rp m H4 (decide (found = due)) v
          rw [decide_eq_false this]; exact rb
        · refine ⟨_, rfl, g'.trans g3, ?_⟩
          have e' : found[j] = due[j] := by simpa using e
          rw [List.take_add_one, List.take_add_one, he, List.getElem?_eq_getElem hj1, List.getElem?_eq_getElem hj2, e']
      · rintro s2 H' ⟨x, rfl, g', he⟩
        refine s_retV (c.go g') ev_b fun v H4 g4 rb => k v H4 (g'.trans g4).gr0 ?_
        have hz : ((due.length : Int)).toNat = due.length := by omega
        rw [hz, List.take_length, ← hlen, List.take_length] at he
        show Rp.rp m H4 (decide (found = due)) v
        rw [decide_eq_true he]; exact rb

theorem ok_BadSieve_init (T : Txt K mg) : FnOk P w K mg base CX0 1 T.f_BadSieve_init T.d_BadSieve_init ["self", "why"] (spErrI T.c_BadSieve "why") := by
  refine T.F_BadSieve_init.ok sc_BadSieve_init (fun vs H Q E h => ?_) (fun cdv A outer s H vs Q E hr h => ?_)
  · obtain ⟨a, v, rfl, _⟩ := h
    rfl
  · obtain ⟨a, v, rfl, ha, k⟩ := h
    refine ⟨_, (pss_one (ps_ost (pv 0) (pv 1))), ?_⟩
    exact ⟨_, rfl, _, rfl, a, T.c_BadSieve, rfl, T.ox_BadSieve, T.xn_BadSieve_why, .inl ⟨ha, fun dx hd ne => k dx hd ne⟩⟩
theorem ok_Stuck_init (T : Txt K mg) : FnOk P w K mg base CX0 1 T.f_Stuck_init T.d_Stuck_init ["self", "cells"] (spErrI T.c_Stuck "cells") := by
  refine T.F_Stuck_init.ok sc_Stuck_init (fun vs H Q E h => ?_) (fun cdv A outer s H vs Q E hr h => ?_)
  · obtain ⟨a, v, rfl, _⟩ := h
    rfl
  · obtain ⟨a, v, rfl, ha, k⟩ := h
    refine ⟨_, (pss_one (ps_ost (pv 0) (pv 1))), ?_⟩
    exact ⟨_, rfl, _, rfl, a, T.c_Stuck, rfl, T.ox_Stuck, T.xn_Stuck_cells, .inl ⟨ha, fun dx hd ne => k dx hd ne⟩⟩
theorem ok_need (T : Txt K mg) : FnOk P w K mg base (L2.CX P w) 3 T.f_need T.d_need ["good", "why"] (SpX T.er (fun _ => True) fun x : Bool × Str × Unit => if x.1 = true then .ok () else .error (.badSieve x.2.1)) := by
  refine T.F_need.okX sc_need (fun vs H Q E h => ?_) (fun cdv A outer s H vs Q E hr h => ?_)
  · obtain ⟨m, x, c, ⟨v, r, rfl, rk, ⟨v2, r2, rfl, rk2, rfl⟩⟩, _⟩ := h
    rfl
  · obtain ⟨m, ⟨good, why, u⟩, c, ⟨v, r, rfl, rk, ⟨v2, r2, rfl, rk2, rfl⟩⟩, -, k1, k2⟩ := h
    cases (show v = V.bl good from rk)
    cases (show v2 = V.str why from rk2)
    refine ⟨_, (pss_one (ps_if (pt_not (pt_val (pv 0)))
  (pss_one (ps_raise rfl (takes_of rfl rfl rfl rfl) (pmk_oex T.ox_BadSieve T.me_BadSieve_init.at_ T.tf_BadSieve_init (ok_BadSieve_init T) (hr.mono (by decide)) T.b_BadSieve_init .nil pass0 rfl T.m_BadSieve (pa_cons (pv 1) pa_nil))))
  pss_nil)), ?_⟩
    refine s_whenV c (et_notV (et_B ev_vb)) (fun e H1 g => ?_) (fun e H1 g => ?_)
    · refine mk_err (α := Str) (p := fun y => y = why) (c.go g) ev_vs fun y v H2 g2 r e2 d hd => ?_
      subst e2
      cases rp_str r
      refine k2 (.badSieve y) ?_ _ _ _ ((g.trans g2).gr0.trans (.new hd)) ⟨rfl, d, rfl, upd_same⟩
      dsimp only
      rw [if_neg]
      intro z
      rw [z] at e
      cases e
    · refine k1 () ?_ _ H1 g.gr0 rfl
      dsimp only
      rw [if_pos]
      simpa using e
theorem ok_need_size (T : Txt K mg) : FnOk P w K mg base (L2.CX P w) 4 T.f_need_size T.d_need_size ["size"] (SpX T.er (fun _ => True) fun x : Int × Unit => chkSize x.1) := by
  refine T.F_need_size.okX sc_need_size (fun vs H Q E h => ?_) (fun cdv A outer s H vs Q E hr h => ?_)
  · obtain ⟨m, x, c, ⟨v, r, rfl, rk, rfl⟩, _⟩ := h
    rfl
  · obtain ⟨m, ⟨size, u⟩, c, ⟨v, r, rfl, rk, rfl⟩, -, k1, k2⟩ := h
    cases (show v = V.int size from rk)
    refine ⟨_, (pss_one (ps_expr (pe_call (ok_need T) (hr.mono (by decide)) rfl T.m_need T.k_need T.b_need .nil (passX rfl rfl rfl rfl) (pa_cons (pe_chain op_le op_le pe_int (pv 0) (pe_glob (v := .int 96) rfl T.g_MOST_SIZE ⟨_, rfl⟩)) (pa_cons pe_str pa_nil))))), ?_⟩
    have e : (if (decide ((1 : Int) ≤ size) && decide (size ≤ 96)) = true then .ok () else .error (.badSieve "size") : Except Err Unit) = chkSize size := by
      unfold chkSize
      simp only [Bool.and_eq_true, decide_eq_true_eq]
    exact s_dropX c (ex_call (ea_c (ev_chain ev_c ev_vi ev_c) (ea_c ev_s ea_nil)) trivial) (fun y hy H1 g => k1 () (e.symm.trans hy) _ H1 g.gr0 rfl) (fun e' he cl d H1 g z => k2 e' (e.symm.trans he) cl d H1 g.gr0 z)
theorem ok_need_cap (T : Txt K mg) : FnOk P w K mg base (L2.CX P w) 4 T.f_need_cap T.d_need_cap ["cap"] (SpX T.er (fun _ => True) fun x : Int × Unit => chkCap x.1) := by
  refine T.F_need_cap.okX sc_need_cap (fun vs H Q E h => ?_) (fun cdv A outer s H vs Q E hr h => ?_)
  · obtain ⟨m, x, c, ⟨v, r, rfl, rk, rfl⟩, _⟩ := h
    rfl
  · obtain ⟨m, ⟨cap, u⟩, c, ⟨v, r, rfl, rk, rfl⟩, -, k1, k2⟩ := h
    cases (show v = V.int cap from rk)
    refine ⟨_, (pss_one (ps_expr (pe_call (ok_need T) (hr.mono (by decide)) rfl T.m_need T.k_need T.b_need .nil (passX rfl rfl rfl rfl) (pa_cons (pe_chain op_le op_le pe_int (pv 0) (pe_glob (v := .int 9) rfl T.g_MOST_CAP ⟨_, rfl⟩)) (pa_cons pe_str pa_nil))))), ?_⟩
    have e : (if (decide ((1 : Int) ≤ cap) && decide (cap ≤ 9)) = true then .ok () else .error (.badSieve "cap") : Except Err Unit) = chkCap cap := by
      unfold chkCap
      simp only [Bool.and_eq_true, decide_eq_true_eq]
    exact s_dropX c (ex_call (ea_c (ev_chain ev_c ev_vi ev_c) (ea_c ev_s ea_nil)) trivial) (fun y hy H1 g => k1 () (e.symm.trans hy) _ H1 g.gr0 rfl) (fun e' he cl d H1 g z => k2 e' (e.symm.trans he) cl d H1 g.gr0 z)
theorem ok_need_hands (T : Txt K mg) : FnOk P w K mg base (L2.CX P w) 4 T.f_need_hands T.d_need_hands ["hands"] (SpX T.er (fun x => x.1.length ≤ 90000) fun x : List (Int × Int) × Unit => chkHands x.1) := by
  refine T.F_need_hands.okX sc_need_hands (fun vs H Q E h => ?_) (fun cdv A outer s H vs Q E hr h => ?_)
  · obtain ⟨m, x, c, ⟨v, r, rfl, rk, rfl⟩, _⟩ := h
    rfl
  · obtain ⟨m, ⟨hands, u⟩, c, ⟨v, r, rfl, rk, rfl⟩, hl, k1, k2⟩ := h
    dsimp only at rk hl k1 k2
    refine ⟨_, (pss_cons (ps_expr (pe_call (ok_need T) (hr.mono (by decide)) rfl T.m_need T.k_need T.b_need .nil (passX rfl rfl rfl rfl) (pa_cons (pe_chain op_le op_le pe_int (pe_callB call_len_seq (by rfl) T.n_len (by decide +kernel) (pa_cons (pv 0) pa_nil)) (pe_glob (v := .int 6) rfl T.g_MOST_HANDS ⟨_, rfl⟩)) (pa_cons pe_str pa_nil))))
  (pss_one (ps_for (passes_of rfl) rfl (pi_list (pv 0)) (pg_tup rfl (pgs_cons (pg_name (i := 1) sc_need_hands.nd rfl (Or.inl rfl)) (pgs_cons (pg_name (i := 2) sc_need_hands.nd rfl (Or.inl rfl)) pgs_nil)))
  (pss_one (ps_expr (pe_call (ok_need T) (hr.mono (by decide)) rfl T.m_need T.k_need T.b_need .nil (passX rfl rfl rfl rfl) (pa_cons (pe_and (pe_chain op_le op_lt pe_int (pv 1) (pe_glob (v := .int 10007) rfl T.g_RING ⟨_, rfl⟩)) (pe_one (pe_chain op_le op_lt pe_int (pv 2) (pe_glob (v := .int 10007) rfl T.g_RING ⟨_, rfl⟩)))) (pa_cons pe_str pa_nil)))))))), ?_⟩
    have bad : handsB hands = false → chkHands hands = .error (.badSieve "hands") := fun e => by unfold chkHands; rw [e]; rfl
    refine q_dropX c (ex_call (ea_c (ev_chain ev_c (ev_len (ev_v rfl rk)) ev_c) (ea_c ev_s ea_nil)) trivial) (fun y hy H1 g => ?_) (fun e' he cl d H1 g z => ?_)
    · dsimp only at hy
      have c1 := c.go g
      have hn : 1 ≤ hands.length ∧ hands.length ≤ 6 := by
        split at hy
        · rename_i h
          simp at h
          omega
        · cases hy
      refine s_forL c1 (ev_v rfl (rp_gd rk c g)) fun a vs H2 g2 na ha ps => ⟨fun j s2 H' => ∃ x y : Option V, s2 = [some v, x, y] ∧ Gd none H2 H' ∧ ∀ h, h ∈ hands.take j → (decide (1 ≤ h.1 ∧ h.1 < 10007) && decide (0 ≤ h.2 ∧ h.2 < 10007)) = true,
        ⟨none, none, rfl, .refl, by simp⟩, fun j s2 H' ⟨_, _, _, g', _⟩ => g'.gr0.at0 ha, ?_, ?_⟩
      · rintro j h w s2 H' hj rh ⟨x, y, rfl, g', hI⟩
        have c' := (c1.go g2).go g'
        refine g_pair (x := h) (m := m) (H := H') (rp_nl rh g'.gr.tup) fun u w ru rw => ?_
        cases rp_int ru
        cases rp_int rw
        refine s_dropX c' (ex_call (ea_c (ev_andV (ev_chain ev_c ev_vi ev_c) fun _ => ev_chain ev_c ev_vi ev_c) (ea_c ev_s ea_nil)) trivial) (fun y hy H3 g3 => ?_) (fun e' he cl d H3 g3 z => ?_)
        · refine ⟨_, _, rfl, g'.trans g3, fun h' hh => ?_⟩
          rw [take_snoc hj] at hh
          rcases List.mem_append.mp hh with q | q
          · exact hI h' q
          · rw [List.mem_singleton.mp q]
            dsimp only at hy
            split at hy
            · rename_i hh2
              simpa using hh2
            · cases hy
        · refine k2 e' ?_ cl d H3 (((g.trans g2).trans g').trans g3).gr0 (z.from ((g.trans g2).trans g').gr)
          dsimp only at he
          split at he
          · cases he
          · rename_i hh2
            cases he
            refine bad ?_
            unfold handsB
            rw [Bool.and_eq_false_iff]
            right
            rw [List.all_eq_false]
            exact ⟨h, List.mem_of_getElem? hj, by simpa using hh2⟩
      · rintro s2 H' ⟨x, y, rfl, g', hI⟩
        refine k1 () ?_ _ H' ((g.trans g2).trans g').gr0 rfl
        rw [List.take_length] at hI
        unfold chkHands
        rw [if_pos]
        unfold handsB
        rw [decide_eq_true hn, Bool.true_and, List.all_eq_true]
        exact hI
    · refine k2 e' ?_ cl d H1 g.gr0 z
      dsimp only at he
      split at he
      · cases he
      · rename_i h
        cases he
        refine bad ?_
        unfold handsB
        have hn : ¬ (1 ≤ hands.length ∧ hands.length ≤ 6) := fun q => h (by simp; omega)
        rw [decide_eq_false hn, Bool.false_and]
theorem ok_hands_by_cell (T : Txt K mg) : FnOk P w K mg base CX0 2 T.f_hands_by_cell T.d_hands_by_cell ["hands", "size", "key"]
    (SpDc (fun x : List (Int × Int) × Int × Int × Unit => x.1.length ≤ 90000 ∧ 0 < x.2.1 ∧ -(2 ^ 64) < x.2.2.1 ∧ x.2.2.1 < 2 ^ 64) fun x => tally (pointed x.1 x.2.1 x.2.2.1)) := by
  refine T.F_hands_by_cell.ok sc_hands_by_cell (fun vs H Q E h => ?_) (fun cdv A outer s H vs Q E hr h => ?_)
  · obtain ⟨m, x, c, ⟨v, r, rfl, rk, ⟨v2, r2, rfl, rk2, ⟨v3, r3, rfl, rk3, rfl⟩⟩⟩, _⟩ := h
    rfl
  · obtain ⟨m, ⟨hands, size, key, u⟩, c, ⟨v, r, rfl, rk, ⟨v2, r2, rfl, rk2, ⟨v3, r3, rfl, rk3, rfl⟩⟩⟩, ⟨hl, h1, h2⟩, k⟩ := h
    cases (show v2 = V.int size from rk2)
    cases (show v3 = V.int key from rk3)
    dsimp only at rk hl h1 h2 k
    refine ⟨_, (pss_cons (ps_set (i := 3) sc_hands_by_cell.nd rfl (Or.inl rfl) pe_dnewK)
  (pss_cons (ps_for PassesOwn.never rfl (pi_list (pe_call (ok_pointed T) (hr.mono (by decide)) rfl T.m_pointed T.k_pointed T.b_pointed .nil pass0 (pa_cons (pv 0) (pa_cons (pv 1) (pa_cons (pv 2) pa_nil))))) (pg_name (i := 4) sc_hands_by_cell.nd rfl (Or.inl rfl))
  (pss_one (ps_dput (hu_of hr) (pv 3) (pv 4) (pe_op op_add (pe_dget2 (hu_of hr) (pv 3) (pv 4) pe_int ⟨rfl, rfl, rfl, rfl⟩) pe_int) rfl)))
  (pss_one (ps_ret (pv 3))))), ?_⟩
    refine q_dnew c fun d H1 nd g1 d1 => ?_
    have c1 := c.go g1
    refine q_forLL c1 (el_callV (x := (hands, size, key, ())) (ea_c (ev_v rfl (rp_gd rk c g1)) (ea_c ev_vi (ea_c ev_vi ea_nil))) ⟨hl, h1, h2⟩) fun a vs H2 n2 g2 na ha ps => ⟨fun j s2 H' => ∃ x : Option V, s2 = [some v, some (.int size), some (.int key), some (.ref d), x] ∧ Gd none H H' ∧ H' a = some (.lst vs) ∧ DAt m H' d (tally ((pointed hands size key).take j)),
      ⟨none, rfl, g1.trans g2, ha, d1.gd c1 g2⟩, fun j s2 H' ⟨_, _, _, h, _⟩ => h, ?_, ?_⟩
    · rintro j y w s2 H' hj rh ⟨x, rfl, g', ha', d'⟩
      cases rp_int rh
      have c' := c.go g'
      refine g_name ?_
      refine s_dput c' rfl d'.at_ (by simp [Dst.m]) (ev_o (ev_dget2 rfl d'.at_ (by simp [Dst.m]) ev_vi ev_c) ev_c) ev_vi (Nat.lt_of_le_of_lt (tally_len _) ?_) fun H3 g3 => ?_
      · rw [List.length_take]
        have : (pointed hands size key).length = hands.length := by unfold pointed; simp
        omega
      · have nad : a ≠ d := ne_of_none d1.at_ n2 |>.symm
        refine ⟨_, rfl, mut_gd (g'.trans g3) c nd, ?_, d'.nm, ?_⟩
        · rw [upd_ne nad]; exact g3.gr0.at0 ha'
        · rw [upd_same, take_snoc hj, tally_snoc]
    · rintro s2 H' ⟨x, rfl, g', ha', d'⟩
      rw [List.take_length] at d'
      exact ⟨_, rfl, k d H' nd g'.gr0 d'⟩
theorem ok_Sieve_size (T : Txt K mg) : FnOk P w K mg base CX0 1 T.f_Sieve_size T.d_Sieve_size ["self"] (SpF (fun _ => True) fun x : Sv T.c_Sieve × Unit => x.1.size) := by
  refine T.F_Sieve_size.ok sc_Sieve_size (fun vs H Q E h => ?_) (fun cdv A outer s H vs Q E hr h => ?_)
  · obtain ⟨m, x, c, ⟨v, r, rfl, rk, rfl⟩, _⟩ := h
    rfl
  · obtain ⟨m, ⟨x, u⟩, c, ⟨v, r, rfl, rk, rfl⟩, -, k⟩ := h
    refine ⟨_, (pss_one (ps_ret (pe_fld (pv 0) rfl))), ?_⟩
    exact s_retV c (ev_many (ev_v rfl rk) T.cl_Sieve T.na_Sieve_many) fun v H1 g r => k v H1 g.gr0 r
theorem ok_Sieve_cap (T : Txt K mg) : FnOk P w K mg base CX0 1 T.f_Sieve_cap T.d_Sieve_cap ["self"] (SpF (fun _ => True) fun x : Sv T.c_Sieve × Unit => x.1.cap) := by
  refine T.F_Sieve_cap.ok sc_Sieve_cap (fun vs H Q E h => ?_) (fun cdv A outer s H vs Q E hr h => ?_)
  · obtain ⟨m, x, c, ⟨v, r, rfl, rk, rfl⟩, _⟩ := h
    rfl
  · obtain ⟨m, ⟨x, u⟩, c, ⟨v, r, rfl, rk, rfl⟩, -, k⟩ := h
    refine ⟨_, (pss_one (ps_ret (pe_fld (pv 0) rfl))), ?_⟩
    exact s_retV c (ev_most (ev_v rfl rk) T.cl_Sieve T.na_Sieve_most) fun v H1 g r => k v H1 g.gr0 r
theorem ok_Sieve_hands (T : Txt K mg) : FnOk P w K mg base CX0 1 T.f_Sieve_hands T.d_Sieve_hands ["self"] (SpL (fun _ => True) fun x : Sv T.c_Sieve × Unit => x.1.hands) := by
  refine T.F_Sieve_hands.ok sc_Sieve_hands (fun vs H Q E h => ?_) (fun cdv A outer s H vs Q E hr h => ?_)
  · obtain ⟨m, x, c, ⟨v, r, rfl, rk, rfl⟩, _⟩ := h
    rfl
  · obtain ⟨m, ⟨x, u⟩, c, ⟨v, r, rfl, rk, rfl⟩, -, k⟩ := h
    refine ⟨_, (pss_one (ps_ret (pe_callTy call_list_of (by rfl) T.n_list (by decide +kernel) (pa_cons (pe_fld (pv 0) rfl) pa_nil)))), ?_⟩
    exact s_retLV c (el_list (ev_hands (ev_v rfl rk) T.cl_Sieve T.na_Sieve_pointers)) fun a H1 n g o => k a H1 n g.gr0 o
theorem ok_Sieve_counts (T : Txt K mg) : FnOk P w K mg base CX0 1 T.f_Sieve_counts T.d_Sieve_counts ["self"] (SpL (fun _ => True) fun x : Sv T.c_Sieve × Unit => x.1.cells) := by
  refine T.F_Sieve_counts.ok sc_Sieve_counts (fun vs H Q E h => ?_) (fun cdv A outer s H vs Q E hr h => ?_)
  · obtain ⟨m, x, c, ⟨v, r, rfl, rk, rfl⟩, _⟩ := h
    rfl
  · obtain ⟨m, ⟨x, u⟩, c, ⟨v, r, rfl, rk, rfl⟩, -, k⟩ := h
    refine ⟨_, (pss_one (ps_ret (pe_callTy call_list_of (by rfl) T.n_list (by decide +kernel) (pa_cons (pe_fld (pv 0) rfl) pa_nil)))), ?_⟩
    exact s_retLV c (el_list (ev_cells (ev_v rfl rk) T.cl_Sieve T.na_Sieve_cells)) fun a H1 n g o => k a H1 n g.gr0 o
theorem ok_Sieve_init (T : Txt K mg) : FnOk P w K mg base (L2.CX P w) 5 T.f_Sieve_init T.d_Sieve_init ["self", "size", "hands", "cap"] (SpMk T.c_Sieve T.er) := by
  refine T.F_Sieve_init.okX sc_Sieve_init (fun vs H Q E h => ?_) (fun cdv A outer s H vs Q E hr h => ?_)
  · obtain ⟨m, s, dx, size, hands, cap, hv, rfl, _⟩ := h
    rfl
  · obtain ⟨m, s, dx, size, hands, cap, hv, rfl, c, ns, hs, rh, hl, k1, k2⟩ := h
    have rh1 := rp_insL rh hs
    have c1 : Cc none (s :: m) H := c.cons hs
    refine ⟨_, (pss_cons (ps_expr (pe_call (ok_need_size T) (hr.mono (by decide)) rfl T.m_need_size T.k_need_size T.b_need_size .nil (passX rfl rfl rfl rfl) (pa_cons (pv 1) pa_nil)))
  (pss_cons (ps_expr (pe_call (ok_need_hands T) (hr.mono (by decide)) rfl T.m_need_hands T.k_need_hands T.b_need_hands .nil (passX rfl rfl rfl rfl) (pa_cons (pv 2) pa_nil)))
  (pss_cons (ps_expr (pe_call (ok_need_cap T) (hr.mono (by decide)) rfl T.m_need_cap T.k_need_cap T.b_need_cap .nil (passX rfl rfl rfl rfl) (pa_cons (pv 3) pa_nil)))
  (pss_cons (ps_fld (pv 0) (pv 1) rfl)
  (pss_cons (ps_fld (pv 0) (pe_lc (own := [("hand", 4)]) (g := gName 4) (tt := tYes) (by rfl) sc_Sieve_init.nd (pi_list (pv 2)) (blkOk_by (own := [("hand", 4)]) (N := N_Sieve_init) (sc := defScope s_Sieve_init) (by decide +kernel)) (fun _ _ _ _ _ => (pg_name (i := 4) sc_Sieve_init.nd rfl (Or.inl rfl) (.inr rfl))) (fun _ _ _ _ _ => pts_nil) (fun _ _ _ _ _ => (pe_callTy (show CallR _ (.type "tuple") (KS.rTuple K) from call_tuple_of) (by rfl) T.n_tuple (by decide +kernel) (pa_cons (pv 4) pa_nil)))) rfl)
  (pss_cons (ps_fld (pv 0) (pv 3) rfl)
  (pss_one (ps_fld (pv 0) (pe_op op_rep (pe_lst (pa_cons pe_int pa_nil)) (pv 1)) rfl)))))))), ?_⟩
    have bad : ∀ {e : Err} {cl : Value} {d : Option Addr} {H' : Hp}, mkS T.c_Sieve size hands cap = .error e → Gr [] H H' → ErrAt T.er H H' e cl d → E cl d H' := fun {e cl d H'} h g z => k2 e h cl d H' g.any (by
      have e1 : ∀ {x : Except Err Unit} {w : Str}, (x = .ok () ∨ x = .error (.badSieve w)) → ∀ e, x = .error e → e = .badSieve w := fun h e q => by
        rcases h with h | h
        · rw [h] at q; cases q
        · rw [h] at q; cases q; rfl
      have : ∃ w, e = .badSieve w := by
        unfold mkS at h
        cases q1 : chkSize size with
        | error e1 =>
          rw [q1] at h
          cases h
          unfold chkSize at q1
          split at q1 <;> cases q1
          exact ⟨_, rfl⟩
        | ok _ =>
          rw [q1] at h
          cases q2 : chkHands hands with
          | error e1 =>
            rw [q2] at h
            cases h
            unfold chkHands at q2
            split at q2 <;> cases q2
            exact ⟨_, rfl⟩
          | ok _ =>
            rw [q2] at h
            cases q3 : chkCap cap with
            | error e1 =>
              rw [q3] at h
              cases h
              unfold chkCap at q3
              split at q3 <;> cases q3
              exact ⟨_, rfl⟩
            | ok _ =>
              rw [q3] at h
              cases h
      obtain ⟨w, rfl⟩ := this
      exact z)
    refine q_dropX c1 (ex_call (ea_c ev_vi ea_nil) trivial) (fun _ h1 H1 g1 => ?_) (fun e he cl d H1 g z => bad (by unfold mkS; dsimp only at he; rw [he]; rfl) g.gr0 z)
    have c2 := c1.go g1
    have rh2 := rp_gd rh1 c1 g1
    refine q_dropX c2 (ex_call (ea_c (ev_v rfl rh2) ea_nil) hl) (fun _ h2 H2 g2 => ?_) (fun e he cl d H2 g z => bad (by unfold mkS; dsimp only at he h1; rw [h1]; show (do chkHands hands; chkCap cap; return Sv.new T.c_Sieve size hands cap : Except Err _) = _; rw [he]; rfl) (g1.trans g).gr0 (z.from g1.gr))
    have c3 := c2.go g2
    have rh3 := rp_gd rh2 c2 g2
    refine q_dropX c3 (ex_call (ea_c ev_vi ea_nil) trivial) (fun _ h3 H3 g3 => ?_) (fun e he cl d H3 g z => bad (by unfold mkS; dsimp only at he h1 h2; rw [h1]; show (do chkHands hands; chkCap cap; return Sv.new T.c_Sieve size hands cap : Except Err _) = _; rw [h2]; show (do chkCap cap; return Sv.new T.c_Sieve size hands cap : Except Err _) = _; rw [he]; rfl) ((g1.trans g2).trans g).gr0 (z.from (g1.trans g2).gr))
    have c4 := c3.go g3
    have rh4 := rp_gd rh3 c3 g3
    dsimp only at h1 h2 h3
    have good : mkS T.c_Sieve size hands cap = .ok (Sv.new T.c_Sieve size hands cap) := by
      unfold mkS
      rw [h1]
      show (do chkHands hands; chkCap cap; return Sv.new T.c_Sieve size hands cap : Except Err _) = _
      rw [h2]
      show (do chkCap cap; return Sv.new T.c_Sieve size hands cap : Except Err _) = _
      rw [h3]
      rfl
    have hsz : 1 ≤ size ∧ size ≤ 96 := by
      unfold chkSize at h1
      split at h1
      · assumption
      · cases h1
    have g13 : Gr [] H H3 := ((g1.trans g2).trans g3).gr0
    have hs3 := g13.at0 hs
    -- self.many = size
    refine sq ?_
    refine ⟨_, rfl, _, rfl, s, T.c_Sieve, dx, [], rfl, hs3, T.cl_Sieve, T.na_Sieve_many, by decide, ?_⟩
    have g4 : Gr [s] H3 (upd H3 s (.ins T.c_Sieve dx (putF "many" (.int size) []))) := Gr.refl.put (by simp) hs3 fun _ z => by cases z
    have c5 : Cc none (s :: m) (upd H3 s (.ins T.c_Sieve dx (putF "many" (.int size) []))) := ⟨fun _ h => absurd h (by simp [Dst.m]), fun a ha z => c4.dm a ha (g4.dom a z), trivial⟩
    have rh5 := rp_gr rh4 g4 (by simp)
    -- self.pointers
    refine q_fldLV (α := Int × Int) (xs := hands.map fun h => h) c5 rfl upd_same T.cl_Sieve T.na_Sieve_pointers (by show 1 < 1000; decide) (el_map (α := Int × Int) (β := Int × Int) (fun h => h) (ev_v (i := 2) rfl rh5) hl
      fun x v H1 _ g c1 r => lcT_name rfl tYes_ok fun _ => ev_tupleP (ev_v rfl r)) fun a H4 na g5 o => ?_
    have hs4 := g5.gr0.at0 (upd_same (H := H3) (a := s) (o := HO.ins T.c_Sieve dx (putF "many" (.int size) [])))
    rw [show hands.map (fun h => h) = hands from List.map_id' hands] at o
    have nas : a ≠ s := fun z => o.1 (by rw [z]; simp)
    -- self.most = cap
    refine sq ?_
    refine ⟨_, rfl, _, rfl, s, T.c_Sieve, dx, _, rfl, upd_same, T.cl_Sieve, T.na_Sieve_most, by show 2 < 1000; decide, ?_⟩
    rw [upd_upd]
    have g6 : Gr [s] H4 (upd H4 s (.ins T.c_Sieve dx (putF "most" (.int cap) (putF "pointers" (.ref a) (putF "many" (.int size) []))))) := Gr.refl.put (by simp) hs4 fun _ z => by cases z
    have c6 : Cc none (s :: m) (upd H4 s (.ins T.c_Sieve dx (putF "most" (.int cap) (putF "pointers" (.ref a) (putF "many" (.int size) []))))) := ⟨fun _ h => absurd h (by simp [Dst.m]), fun a ha z => (c5.go g5).dm a ha (g6.dom a z), trivial⟩
    have o6 := o.go g6 (by simp)
    -- self.cells = [0] * size
    refine s_fldLV (α := Int) c6 rfl upd_same T.cl_Sieve T.na_Sieve_cells (by show 3 < 1000; decide) (el_rep0 (k := 0) (n := size) ev_c ev_vi (by omega) (by omega)) fun b H5 nb g7 o7 => ?_
    have hs5 := g7.gr0.at0 (upd_same (H := H4) (a := s) (o := HO.ins T.c_Sieve dx (putF "most" (.int cap) (putF "pointers" (.ref a) (putF "many" (.int size) [])))))
    have g8 : Gr [s] H5 (upd H5 s (.ins T.c_Sieve dx (svf size a cap b))) := Gr.refl.put (by simp) hs5 fun _ z => by cases z
    have gH5 : Gr [s] H (upd H5 s (.ins T.c_Sieve dx (svf size a cap b))) := ((((g13.any.trans g4).trans g5.gr0.any).trans g6).trans g7.gr0.any).trans g8
    have nbs : b ≠ s := fun z => o7.1 (by rw [z]; simp)
    have nab : a ≠ b := fun z => by
      obtain ⟨vs, h, _⟩ := o6.ex
      have nb' := nb
      rw [← z] at nb'
      rw [nb'] at h
      cases h
    have nbH : H b = none := ((((g13.any.trans g4).trans g5.gr0.any).trans g6)).dom b nb
    have naH : H a = none := (g13.any.trans g4).dom a na
    refine k1 _ good b _ nbH gH5 fun m' hm' ns' => ⟨ns', fun z => hm' b z nbH, ?_, dx, a, upd_same, nab, ?_⟩
    · show upd H5 s (.ins T.c_Sieve dx (svf size a cap b)) b = _
      rw [upd_ne nbs]
      exact o7.ints
    · obtain ⟨_, vs, e, ps⟩ := (o6.gd c6 g7).go g8 (by simp)
      exact ⟨a, vs, rfl, fun z => hm' a z naH, e, paired_go ps fun _ _ r => rp_nl r fun _ _ e => e⟩
theorem ok_Sieve_put (T : Txt K mg) : FnOk P w K mg base (L2.CX P w) 2 T.f_Sieve_put T.d_Sieve_put ["self", "key"] (SpMut T.c_Sieve T.er Sv.put) := by
  refine T.F_Sieve_put.okX sc_Sieve_put (fun vs H Q E h => ?_) (fun cdv A outer s H vs Q E hr h => ?_)
  · obtain ⟨m, s, cc, x, key, rfl, _⟩ := h
    rfl
  · obtain ⟨m, s, cc, x, key, rfl, c, a, ok, k1, k2⟩ := h
    refine ⟨_, (pss_cons (ps_expr (pe_call (ok_need_key T) (hr.mono (by decide)) rfl T.m_need_key T.k_need_key T.b_need_key .nil (passX rfl rfl rfl rfl) (pa_cons (pv 1) pa_nil)))
  (pss_one (ps_for (passes_of rfl) rfl (pi_list (pe_call (ok_pointed T) (hr.mono (by decide)) rfl T.m_pointed T.k_pointed T.b_pointed .nil pass0 (pa_cons (pe_fld (pv 0) rfl) (pa_cons (pe_fld (pv 0) rfl) (pa_cons (pv 1) pa_nil))))) (pg_name (i := 2) sc_Sieve_put.nd rfl (Or.inl rfl))
  (pss_one (ps_asg (pe_callB (call_min2 rfl) (by rfl) T.n_min (by decide +kernel) (pa_cons (pe_fld (pv 0) rfl) (pa_cons (pe_op op_add (pe_ix ix_list (pe_fld (pv 0) rfl) (pv 2) (fun _ _ => rfl)) pe_int) pa_nil))) (pg_sub (pe_fld (pv 0) rfl) (pv 2) set_list)))))), ?_⟩
    refine q_dropX c (ex_call (ea_c ev_vi ea_nil) trivial) (fun y hy H1 g1 => ?_) (fun e he cl d H1 g z => ?_)
    · have hk : 0 ≤ key ∧ key < 10007 := by
        dsimp only at hy
        unfold needKey at hy
        split at hy
        · assumption
        · cases hy
      have c1 := c.go g1
      have a1 := a.gd c g1
      have hpl : (pointed x.hands x.size key).length = x.hands.length := by unfold pointed; simp
      refine s_forLL c1 (el_callV (x := (x.hands, x.size, key, ())) (ea_c (ev_hands (ev_v rfl a1.rp) T.cl_Sieve T.na_Sieve_pointers) (ea_c (ev_many (ev_v rfl a1.rp) T.cl_Sieve T.na_Sieve_many) (ea_c ev_vi ea_nil))) ⟨by have := ok.h; show x.hands.length ≤ 90000; omega, ok.s0, by show -(2 ^ 64) < key; omega, by show key < 2 ^ 64; omega⟩) fun al vs H2 n2 g2 na ha ps =>
        ⟨fun j s2 H' => ∃ z : Option V, s2 = [some (.ref s), some (.int key), z] ∧ Gr [cc] H2 H' ∧ SvAt m H' s cc ({ x with cells := ((pointed x.hands x.size key).take j).foldl (inc x.cap) x.cells } : Sv T.c_Sieve),
        ⟨none, rfl, Gr.refl, a1.gd c1 g2⟩, fun j s2 H' ⟨_, _, g, _⟩ => g.keep al _ ha (by simpa using (ne_of_none a1.cl n2).symm), ?_, ?_⟩
      · rintro j y w s2 H' hj ry ⟨z, rfl, g', a'⟩
        cases rp_int ry
        refine g_name ?_
        have hy := pointed_mem ok.s0 (List.mem_of_getElem? hj)
        have cH' : Cc none m H' := ⟨fun _ h => absurd h (by simp [Dst.m]), fun b hb z => (c1.go g2).dm b hb (g'.dom b z), trivial⟩
        have hlen : ((((pointed x.hands x.size key).take j).foldl (inc x.cap) x.cells).length : Int) = x.size := by rw [foldl_len (inc_len _)]; exact ok.n
        refine s_cell cH' rfl rfl a' T.cl_Sieve T.na_Sieve_cells hy.1 (by show y < ((((pointed x.hands x.size key).take j).foldl (inc x.cap) x.cells).length : Int); omega) (ev_min (ev_most (ev_v rfl a'.rp) T.cl_Sieve T.na_Sieve_most) (ev_o (ev_cell (ev_v rfl a'.rp) T.cl_Sieve T.na_Sieve_cells ev_vi hy.1 (by show y < ((((pointed x.hands x.size key).take j).foldl (inc x.cap) x.cells).length : Int); omega)) ev_c)) fun H3 g3 a3 => ?_
        refine ⟨_, rfl, g'.trans g3, ?_⟩
        rw [take_snoc hj, List.foldl_append]
        exact a3
      · rintro s2 H' ⟨z, rfl, g', a'⟩
        rw [List.take_length] at a'
        exact k1 (x.put1 key) (by unfold Sv.put; rw [if_pos hk]) H' (((g1.trans g2).gr0.any).trans g') a'
    · refine k2 e ?_ cl d H1 g.gr0 z
      dsimp only at he
      unfold needKey at he
      unfold Sv.put
      split at he
      · cases he
      · rename_i hk
        cases he
        rw [if_neg hk]
theorem ok_Sieve_says (T : Txt K mg) : FnOk P w K mg base (L2.CX P w) 3 T.f_Sieve_says T.d_Sieve_says ["self", "key"] (SpX T.er (fun x => x.1.Ok) fun x : Sv T.c_Sieve × Int × Unit => x.1.says x.2.1) := by
  refine T.F_Sieve_says.okX sc_Sieve_says (fun vs H Q E h => ?_) (fun cdv A outer s H vs Q E hr h => ?_)
  · obtain ⟨m, x, c, ⟨v, r, rfl, rk, ⟨v2, r2, rfl, rk2, rfl⟩⟩, _⟩ := h
    rfl
  · obtain ⟨m, ⟨x, key, u⟩, c, ⟨v, r, rfl, rk, ⟨v2, r2, rfl, rk2, rfl⟩⟩, ok, k1, k2⟩ := h
    cases (show v2 = V.int key from rk2)
    dsimp only at rk ok k1 k2
    refine ⟨_, (pss_cons (ps_expr (pe_call (ok_need_key T) (hr.mono (by decide)) rfl T.m_need_key T.k_need_key T.b_need_key .nil (passX rfl rfl rfl rfl) (pa_cons (pv 1) pa_nil)))
  (pss_cons (ps_set (i := 2) sc_Sieve_says.nd rfl (Or.inr rfl) (pe_call (ok_hands_by_cell T) (hr.mono (by decide)) rfl T.m_hands_by_cell T.k_hands_by_cell T.b_hands_by_cell .nil pass0 (pa_cons (pe_fld (pv 0) rfl) (pa_cons (pe_fld (pv 0) rfl) (pa_cons (pv 1) pa_nil)))))
  (pss_one (ps_ret (pe_cmpR (op_eqD hr.units) (pe_lock (pe_lc (own := [("cell", 3)]) (g := gName 3) (by rfl) sc_Sieve_says.nd (pi_keys (pv 2)) (blkOk_by (own := [("cell", 3)]) (N := N_Sieve_says) (sc := defScope s_Sieve_says) (by decide +kernel)) (fun _ _ _ _ _ => (pg_name (i := 3) sc_Sieve_says.nd rfl (Or.inl rfl) (.inr rfl))) (fun _ _ _ _ _ => (pts_one (pt_cmpR op_lt (pe_ix (show IxR _ (rIxL K) from ix_list) (pe_fldK (pv 0) rfl) (pv 3) (fun _ _ => rfl)) (pe_callB (call_min2 rfl) (by rfl) T.n_min (by decide +kernel) (pa_cons (pe_fldK (pv 0) rfl) (pa_cons (pe_dget (hu_of hr) (pv 2) (pv 3) (fun _ _ => rfl)) pa_nil))) (nomark _)))) (fun _ _ _ _ _ => (pv 3)))) (pe_lst pa_nil) (nomark _)))))), ?_⟩
    refine q_dropX c (ex_call (ea_c ev_vi ea_nil) trivial) (fun y hy H1 g1 => ?_) (fun e he cl d H1 g z => ?_)
    · have hk : 0 ≤ key ∧ key < 10007 := by
        dsimp only at hy
        unfold needKey at hy
        split at hy
        · assumption
        · cases hy
      have c1 := c.go g1
      have r1 := rp_gd rk c g1
      have hpl : (pointed x.hands x.size key).length = x.hands.length := by unfold pointed; simp
      refine q_setD c1 (ea_c (ev_hands (ev_v rfl r1) T.cl_Sieve T.na_Sieve_pointers) (ea_c (ev_many (ev_v rfl r1) T.cl_Sieve T.na_Sieve_many) (ea_c ev_vi ea_nil))) ⟨by have := ok.h; show x.hands.length ≤ 90000; omega, ok.s0, by show -(2 ^ 64) < key; omega, by show key < 2 ^ 64; omega⟩ fun d H2 nd g2 d2 => ?_
      have r2 := rp_g0 (rp_more r1 nd) g2.gr0
      have c2 : Cc none (d :: m) H2 := (c1.go g2).cons d2.at_
      have tl := tally_len (pointed x.hands x.size key)
      have hh := ok.h
      have hin : ∀ kv, kv ∈ wanted x key → 0 ≤ kv.1 ∧ kv.1 < (x.cells.length : Int) := fun kv h => by
        obtain ⟨q, _⟩ := (tally_mem _ kv.1 kv.2).mp h
        have := pointed_mem ok.s0 q
        have := ok.n
        omega
      refine s_retV c2 (ev_eqDV (x := ((wanted x key).filter (poorB x.cap x.cells)).map (·.1)) (y := []) (EvL.ev (el_lcKeys (β := Int) (l := wanted x key) (p := fun acc => acc = ((wanted x key).filter (poorB x.cap x.cells)).map (·.1)) (fun j acc => acc = (((wanted x key).take j).filter (poorB x.cap x.cells)).map (·.1)) rfl d2.at_ (by simp) (by show (tally _).length ≤ _; omega) rfl (fun j kv od H3 acc hj g3 hf c3 hI => ?_) (fun acc hI => by rw [hI, List.take_length]))) el_nil.ev (ok_ints _) (ok_ints _)) fun v H3 g3 r => ?_
      · have hm := List.mem_of_getElem? hj
        have r3 := rp_gr r2 g3 (by simp)
        refine ⟨fun b => b = poorB x.cap x.cells kv, fun y => y = kv.1, lcT_name rfl (et_B (ev_ob (ev_cell (ev_v rfl r3) T.cl_Sieve T.na_Sieve_cells ev_vi (hin kv hm).1 (hin kv hm).2) (ev_min (ev_most (ev_v rfl r3) T.cl_Sieve T.na_Sieve_most) (ev_dget rfl (.inr ⟨od, hf⟩) (by simp [Dst.m]) ev_vi (look_of_mem hm))))) fun _ => ev_vi, fun y z e => ?_, fun z => ?_⟩
        · rw [hI, e, take_snoc hj, List.filter_append, List.map_append]
          simp [← z]
        · rw [hI, take_snoc hj, List.filter_append, List.map_append]
          simp [← z]
      · refine k1 (x.yes key) (by unfold Sv.says; rw [if_pos hk]) v H3 ((g1.trans g2).trans g3).gr0 r
    · refine k2 e ?_ cl d H1 g.gr0 z
      dsimp only at he
      unfold needKey at he
      unfold Sv.says
      split at he
      · cases he
      · rename_i hk
        cases he
        rw [if_neg hk]
theorem ok_Sieve_stuck_cells (T : Txt K mg) : FnOk P w K mg base CX0 3 T.f_Sieve_stuck_cells T.d_Sieve_stuck_cells ["self", "key"] (SpL (fun x => x.1.Ok ∧ 0 ≤ x.2.1 ∧ x.2.1 < 10007) fun x : Sv T.c_Sieve × Int × Unit => x.1.stuck x.2.1) := by
  refine T.F_Sieve_stuck_cells.ok sc_Sieve_stuck_cells (fun vs H Q E h => ?_) (fun cdv A outer s H vs Q E hr h => ?_)
  · obtain ⟨m, x, c, ⟨v, r, rfl, rk, ⟨v2, r2, rfl, rk2, rfl⟩⟩, _⟩ := h
    rfl
  · obtain ⟨m, ⟨x, key, u⟩, c, ⟨v, r, rfl, rk, ⟨v2, r2, rfl, rk2, rfl⟩⟩, ⟨ok, hk⟩, k⟩ := h
    cases (show v2 = V.int key from rk2)
    dsimp only at rk ok hk k
    refine ⟨_, (pss_cons (ps_set (i := 2) sc_Sieve_stuck_cells.nd rfl (Or.inl rfl) (pe_call (ok_hands_by_cell T) (hr.mono (by decide)) rfl T.m_hands_by_cell T.k_hands_by_cell T.b_hands_by_cell .nil pass0 (pa_cons (pe_fld (pv 0) rfl) (pa_cons (pe_fld (pv 0) rfl) (pa_cons (pv 1) pa_nil)))))
  (pss_one (ps_ret (pe_callB cr_sortedI (by rfl) T.n_sorted (by decide +kernel) (pa_cons (pe_lock (pe_lc (own := [("cell", 3)]) (g := gName 3) (by rfl) sc_Sieve_stuck_cells.nd (pi_keys (pv 2)) (blkOk_by (own := [("cell", 3)]) (N := N_Sieve_stuck_cells) (sc := defScope s_Sieve_stuck_cells) (by decide +kernel)) (fun _ _ _ _ _ => (pg_name (i := 3) sc_Sieve_stuck_cells.nd rfl (Or.inl rfl) (.inr rfl))) (fun _ _ _ _ _ => (pts_one (pt_cmpR op_eq (pe_ix (show IxR _ (rIxL K) from ix_list) (pe_fldK (pv 0) rfl) (pv 3) (fun _ _ => rfl)) (pe_fldK (pv 0) rfl) (nomark _)))) (fun _ _ _ _ _ => (pv 3)))) pa_nil))))), ?_⟩
    · have c1 := c
      have r1 := rk
      have g1 : Gd none H H := .refl
      have hpl : (pointed x.hands x.size key).length = x.hands.length := by unfold pointed; simp
      refine q_setD c1 (ea_c (ev_hands (ev_v rfl r1) T.cl_Sieve T.na_Sieve_pointers) (ea_c (ev_many (ev_v rfl r1) T.cl_Sieve T.na_Sieve_many) (ea_c ev_vi ea_nil))) ⟨by have := ok.h; show x.hands.length ≤ 90000; omega, ok.s0, by show -(2 ^ 64) < key; omega, by show key < 2 ^ 64; omega⟩ fun d H2 nd g2 d2 => ?_
      have r2 := rp_g0 (rp_more r1 nd) g2.gr0
      have c2 : Cc none (d :: m) H2 := (c1.go g2).cons d2.at_
      have tl := tally_len (pointed x.hands x.size key)
      have hh := ok.h
      have hin : ∀ kv, kv ∈ wanted x key → 0 ≤ kv.1 ∧ kv.1 < (x.cells.length : Int) := fun kv h => by
        obtain ⟨q, _⟩ := (tally_mem _ kv.1 kv.2).mp h
        have := pointed_mem ok.s0 q
        have := ok.n
        omega
      refine s_retLV c2 (el_sorted (xs := ((wanted x key).filter fun kv => decide (cat x.cells kv.1 = x.cap)).map (·.1)) (EvL.ev (el_lcKeys (β := Int) (l := wanted x key) (p := fun acc => acc = ((wanted x key).filter fun kv => decide (cat x.cells kv.1 = x.cap)).map (·.1)) (fun j acc => acc = (((wanted x key).take j).filter fun kv => decide (cat x.cells kv.1 = x.cap)).map (·.1)) rfl d2.at_ (by simp) (by show (tally _).length ≤ _; omega) rfl (fun j kv od H3 acc hj g3 hf c3 hI => ?_) (fun acc hI => by rw [hI, List.take_length])))) fun a H3 n3 g3 o => ?_
      · have hm := List.mem_of_getElem? hj
        have r3 := rp_gr r2 g3 (by simp)
        refine ⟨fun b => b = decide (cat x.cells kv.1 = x.cap), fun y => y = kv.1, lcT_name rfl (et_B (ev_eqV (ev_cell (ev_v rfl r3) T.cl_Sieve T.na_Sieve_cells ev_vi (hin kv hm).1 (hin kv hm).2) (ev_most (ev_v rfl r3) T.cl_Sieve T.na_Sieve_most))) fun _ => ev_vi, fun y z e => ?_, fun z => ?_⟩
        · rw [hI, e, take_snoc hj, List.filter_append, List.map_append]
          have z' : cat x.cells kv.1 = x.cap := by simpa using z.symm
          simp [z']
        · rw [hI, take_snoc hj, List.filter_append, List.map_append]
          have z' : ¬ cat x.cells kv.1 = x.cap := by simpa using z.symm
          simp [z']
      · refine k a H3 (g2.gr.dom a n3) (g2.trans g3).gr0 ⟨fun z => o.1 (List.mem_cons_of_mem _ z), ?_⟩
        obtain ⟨_, vs, e, ps⟩ := o
        exact ⟨vs, e, paired_go ps fun _ _ r => r⟩
theorem ok_Sieve_need_takeable (T : Txt K mg) : FnOk P w K mg base (L2.CX P w) 4 T.f_Sieve_need_takeable T.d_Sieve_need_takeable ["self", "key"] (SpX T.er (fun x => x.1.Ok) fun x : Sv T.c_Sieve × Int × Unit => x.1.may x.2.1) := by
  refine T.F_Sieve_need_takeable.okX sc_Sieve_need_takeable (fun vs H Q E h => ?_) (fun cdv A outer s H vs Q E hr h => ?_)
  · obtain ⟨m, x, c, ⟨v, r, rfl, rk, ⟨v2, r2, rfl, rk2, rfl⟩⟩, _⟩ := h
    rfl
  · obtain ⟨m, ⟨x, key, u⟩, c, ⟨v, r, rfl, rk, ⟨v2, r2, rfl, rk2, rfl⟩⟩, ok, k1, k2⟩ := h
    cases (show v2 = V.int key from rk2)
    dsimp only at rk ok k1 k2
    refine ⟨_, (pss_cons (ps_if (pt_not (pt_val (pe_meth (pv 0) T.cl_Sieve T.me_Sieve_says (ok_Sieve_says T) (hr.mono (by decide)) T.b_Sieve_says .nil (passX rfl rfl rfl rfl) (pa_cons (pv 1) pa_nil))))
  (pss_one (ps_raise rfl (takes_of rfl rfl rfl rfl) (pmk_own PySem.F.excBase_ValueError T.x_NotIn T.m_NotIn T.kc_NotIn (raises_own T.xb_NotIn T.xt_NotIn) rfl)))
  pss_nil)
  (pss_cons (ps_set (i := 2) sc_Sieve_need_takeable.nd rfl (Or.inl rfl) (pe_meth (pv 0) T.cl_Sieve T.me_Sieve_stuck_cells (ok_Sieve_stuck_cells T) (hr.mono (by decide)) T.b_Sieve_stuck_cells .nil pass0 (pa_cons (pv 1) pa_nil)))
  (pss_one (ps_if (pt_cmpR (op_neD hr.units) (pv 2) (pe_lst pa_nil) (nomark _))
  (pss_one (ps_raise rfl (takes_of rfl rfl rfl rfl) (pmk_oex T.ox_Stuck T.me_Stuck_init.at_ T.tf_Stuck_init (ok_Stuck_init T) (hr.mono (by decide)) T.b_Stuck_init .nil pass0 rfl T.m_Stuck (pa_cons (pv 2) pa_nil))))
  pss_nil)))), ?_⟩
    refine q_whenNX c (ex_meth (x := x) (y := (key, ())) (ev_v rfl rk) (ea_c ev_vi ea_nil) ok) (fun hy H1 g1 => ?_) (fun hy H1 g1 => ?_) (fun e he cl d H1 g z => ?_)
    · obtain ⟨hk, hyes⟩ : (0 ≤ key ∧ key < 10007) ∧ x.yes key = true := by
        dsimp only at hy
        unfold Sv.says at hy
        split at hy
        · exact ⟨by assumption, by simpa using hy⟩
        · cases hy
      have c1 := c.go g1
      have r1 := rp_gd rk c g1
      refine q_setLV c1 (el_meth (x := x) (y := (key, ())) (ev_v rfl r1) (ea_c ev_vi ea_nil) ⟨ok, hk⟩) fun a H2 n2 g2 o => ?_
      have c2 := c1.go g2
      refine s_whenV c2 (et_B (ev_neDV (ev_v rfl o.rp) el_nil.ev (ok_ints _) (ok_ints _))) (fun e H3 g3 => ?_) (fun e H3 g3 => ?_)
      · have o3 := o.gd c2 g3
        refine mk_errV rfl fun d hd => ?_
        obtain ⟨nb, vs, hb, ps⟩ := o3
        have nd : Gr (m := []) H3 (upd H3 d (.xd [("cells", .ref a)])) := .new hd
        refine k2 (.stuck (x.stuck key)) ?_ _ _ _ (((g1.trans g2).trans g3).gr0.trans nd) ⟨rfl, d, a, rfl, upd_same, fun m' hm' => ⟨fun z => hm' a z (g1.gr.dom a n2), vs, nd.at0 hb, paired_go ps fun _ _ r => r⟩⟩
        unfold Sv.may
        rw [if_pos hk, if_pos hyes, if_neg]
        simpa using e
      · refine k1 () ?_ _ H3 ((g1.trans g2).trans g3).gr0 rfl
        unfold Sv.may
        rw [if_pos hk, if_pos hyes, if_pos]
        simpa using e
    · refine k2 .notIn ?_ _ _ H1 g1.gr0 ⟨rfl, rfl⟩
      dsimp only at hy
      unfold Sv.says at hy
      unfold Sv.may
      split at hy
      · rename_i hk
        have : x.yes key = false := by simpa using hy
        rw [if_pos hk, if_neg (by rw [this]; decide)]
      · cases hy
    · refine k2 e ?_ cl d H1 g.gr0 z
      dsimp only at he
      unfold Sv.says at he
      unfold Sv.may
      split at he
      · cases he
      · rename_i hk
        cases he
        rw [if_neg hk]
theorem ok_Sieve_take (T : Txt K mg) : FnOk P w K mg base (L2.CX P w) 5 T.f_Sieve_take T.d_Sieve_take ["self", "key"] (SpMut T.c_Sieve T.er Sv.take) := by
  refine T.F_Sieve_take.okX sc_Sieve_take (fun vs H Q E h => ?_) (fun cdv A outer s H vs Q E hr h => ?_)
  · obtain ⟨m, s, cc, x, key, rfl, _⟩ := h
    rfl
  · obtain ⟨m, s, cc, x, key, rfl, c, a, ok, k1, k2⟩ := h
    refine ⟨_, (pss_cons (ps_expr (pe_meth (pv 0) T.cl_Sieve T.me_Sieve_need_takeable (ok_Sieve_need_takeable T) (hr.mono (by decide)) T.b_Sieve_need_takeable .nil (passX rfl rfl rfl rfl) (pa_cons (pv 1) pa_nil)))
  (pss_one (ps_for (passes_of rfl) rfl (pi_list (pe_call (ok_pointed T) (hr.mono (by decide)) rfl T.m_pointed T.k_pointed T.b_pointed .nil pass0 (pa_cons (pe_fld (pv 0) rfl) (pa_cons (pe_fld (pv 0) rfl) (pa_cons (pv 1) pa_nil))))) (pg_name (i := 2) sc_Sieve_take.nd rfl (Or.inl rfl))
  (pss_one (ps_asg (pe_op op_sub (pe_ix ix_list (pe_fld (pv 0) rfl) (pv 2) (fun _ _ => rfl)) pe_int) (pg_sub (pe_fld (pv 0) rfl) (pv 2) set_list)))))), ?_⟩
    refine q_dropX c (ex_meth (x := x) (y := (key, ())) (ev_v rfl a.rp) (ea_c ev_vi ea_nil) ok) (fun y hy H1 g1 => ?_) (fun e he cl d H1 g z => ?_)
    · dsimp only at hy
      have hk : 0 ≤ key ∧ key < 10007 := by
        unfold Sv.may at hy
        split at hy
        · assumption
        · cases hy
      have c1 := c.go g1
      have a1 := a.gd c g1
      refine s_forLL c1 (el_callV (x := (x.hands, x.size, key, ())) (ea_c (ev_hands (ev_v rfl a1.rp) T.cl_Sieve T.na_Sieve_pointers) (ea_c (ev_many (ev_v rfl a1.rp) T.cl_Sieve T.na_Sieve_many) (ea_c ev_vi ea_nil))) ⟨by have := ok.h; show x.hands.length ≤ 90000; omega, ok.s0, by show -(2 ^ 64) < key; omega, by show key < 2 ^ 64; omega⟩) fun al vs H2 n2 g2 na ha ps =>
        ⟨fun j s2 H' => ∃ z : Option V, s2 = [some (.ref s), some (.int key), z] ∧ Gr [cc] H2 H' ∧ SvAt m H' s cc ({ x with cells := ((pointed x.hands x.size key).take j).foldl dec1 x.cells } : Sv T.c_Sieve),
        ⟨none, rfl, Gr.refl, a1.gd c1 g2⟩, fun j s2 H' ⟨_, _, g, _⟩ => g.keep al _ ha (by simpa using (ne_of_none a1.cl n2).symm), ?_, ?_⟩
      · rintro j y w s2 H' hj ry ⟨z, rfl, g', a'⟩
        cases rp_int ry
        refine g_name ?_
        have hy := pointed_mem ok.s0 (List.mem_of_getElem? hj)
        have cH' : Cc none m H' := ⟨fun _ h => absurd h (by simp [Dst.m]), fun b hb z => (c1.go g2).dm b hb (g'.dom b z), trivial⟩
        have hlen : ((((pointed x.hands x.size key).take j).foldl dec1 x.cells).length : Int) = x.size := by rw [foldl_len dec1_len]; exact ok.n
        refine s_cell cH' rfl rfl a' T.cl_Sieve T.na_Sieve_cells hy.1 (by show y < ((((pointed x.hands x.size key).take j).foldl dec1 x.cells).length : Int); omega) (ev_o (ev_cell (ev_v rfl a'.rp) T.cl_Sieve T.na_Sieve_cells ev_vi hy.1 (by show y < ((((pointed x.hands x.size key).take j).foldl dec1 x.cells).length : Int); omega)) ev_c) fun H3 g3 a3 => ?_
        refine ⟨_, rfl, g'.trans g3, ?_⟩
        rw [take_snoc hj, List.foldl_append]
        exact a3
      · rintro s2 H' ⟨z, rfl, g', a'⟩
        rw [List.take_length] at a'
        exact k1 (x.take1 key) (by unfold Sv.take; rw [hy]) H' (((g1.trans g2).gr0.any).trans g') a'
    · refine k2 e ?_ cl d H1 g.gr0 z
      dsimp only at he
      unfold Sv.take
      rw [he]
theorem ok__law_counts (T : Txt K mg) : FnOk P w K mg base CX0 2 T.f__law_counts T.d__law_counts ["_law_keys_here", "_law_size", "_law_hands_here", "_law_cap"]
    (SpL (fun x : List Int × Int × List (Int × Int) × Int × Unit => x.1.length ≤ 90000 ∧ 0 < x.2.1 ∧ x.2.1 ≤ 1000 ∧ x.2.2.1.length ≤ 1000 ∧ ∀ k, k ∈ x.1 → KeyOk k) fun x => counts x.1 x.2.1 x.2.2.1 x.2.2.2.1) := by
  refine T.F__law_counts.ok sc__law_counts (fun vs H Q E h => ?_) (fun cdv A outer s H vs Q E hr h => ?_)
  · obtain ⟨m, x, c, ⟨v, r, rfl, rk, ⟨v2, r2, rfl, rk2, ⟨v3, r3, rfl, rk3, ⟨v4, r4, rfl, rk4, rfl⟩⟩⟩⟩, _⟩ := h
    rfl
  · obtain ⟨m, ⟨keys, size, hands, cap, u⟩, c, ⟨v, r, rfl, rk, ⟨v2, r2, rfl, rk2, ⟨v3, r3, rfl, rk3, ⟨v4, r4, rfl, rk4, rfl⟩⟩⟩⟩, ⟨hl, h0, h1, hh, hk⟩, k⟩ := h
    cases (show v2 = V.int size from rk2)
    cases (show v4 = V.int cap from rk4)
    dsimp only at rk rk3 hl h0 h1 hh hk k
    refine ⟨_, (pss_cons (ps_set (i := 4) sc__law_counts.nd rfl (Or.inl rfl) (pe_op op_rep (pe_lst (pa_cons pe_int pa_nil)) (pv 1)))
  (pss_cons (ps_for PassesOwn.never rfl (pi_list (pv 0)) (pg_name (i := 5) sc__law_counts.nd rfl (Or.inl rfl))
  (pss_one (ps_for PassesOwn.never rfl (pi_list (pe_call (ok__law_cells T) (hr.mono (by decide)) rfl T.m__law_cells T.k__law_cells T.b__law_cells .nil pass0 (pa_cons (pv 2) (pa_cons (pv 1) (pa_cons (pv 5) pa_nil))))) (pg_name (i := 6) sc__law_counts.nd rfl (Or.inl rfl))
  (pss_one (ps_asg (pe_op op_add (pe_ix ix_list (pv 4) (pv 6) (fun _ _ => rfl)) pe_int) (pg_sub (pv 4) (pv 6) set_list))))))
  (pss_one (ps_ret (pe_lc (own := [("_law_count", 7)]) (g := gName 7) (tt := tYes) (by rfl) sc__law_counts.nd (pi_list (pv 4)) (blkOk_by (own := [("_law_count", 7)]) (N := N__law_counts) (sc := defScope s__law_counts) (by decide +kernel)) (fun _ _ _ _ _ => (pg_name (i := 7) sc__law_counts.nd rfl (Or.inl rfl) (.inr rfl))) (fun _ _ _ _ _ => pts_nil) (fun _ _ _ _ _ => (pe_callB (call_min2 rfl) (by rfl) T.n_min (by decide +kernel) (pa_cons (pv 3) (pa_cons (pv 7) pa_nil))))))))), ?_⟩
    refine q_setLV (α := Int) c (el_rep0 (k := 0) (n := size) ev_c ev_vi (by omega) (by omega)) fun af H1 nf g1 o1 => ?_
    have c1 := c.go g1
    obtain ⟨a, vs, rfl, na, ha, ps⟩ := rp_lst rk
    have naf : a ≠ af := ne_of_none ha nf
    have ha1 := g1.gr0.at0 ha
    refine q_forV (xs := keys) (m := m) (vs := vs) rfl ha1 (paired_go ps fun _ _ r => rp_nl r g1.gr.tup) (fun j s2 H' => ∃ x5 x6 x7 : Option V, s2 = [some (.ref a), some (.int size), some v3, some (.int cap), some (.ref af), x5, x6, x7] ∧ Gd none H H' ∧ H' a = some (.lst vs) ∧ Own m H' af (raw (keys.take j) size hands))
      ⟨none, none, none, rfl, g1, ha1, o1⟩ (fun j s2 H' ⟨_, _, _, _, _, h, _⟩ => h) ?_ ?_
    · rintro j key w s2 H' hj ry ⟨x5, x6, x7, rfl, g', ha', o'⟩
      cases rp_int ry
      have c' := c.go g'
      have hkey := hk key (List.mem_of_getElem? hj)
      refine g_name ?_
      refine s_forLL c' (el_callV (x := (hands, size, key, ())) (ea_c (ev_v rfl (rp_gd rk3 c g')) (ea_c ev_vi (ea_c ev_vi ea_nil))) ⟨by show hands.length ≤ 90000; omega, h0, by have := hkey.1; show -(2 ^ 64) < key; omega, by have := hkey.2; show key < 2 ^ 64; omega⟩) fun b ws H3 nb g3 nbm hb pb =>
        ⟨fun i s2 H4 => ∃ x6 x7 : Option V, s2 = [some (.ref a), some (.int size), some v3, some (.int cap), some (.ref af), some (.int key), x6, x7] ∧ Gd none H H4 ∧ H4 a = some (.lst vs) ∧ H4 b = some (.lst ws) ∧ Own m H4 af (((pointed hands size key).take i).foldl plus (raw (keys.take j) size hands)),
        ⟨x6, x7, rfl, g'.trans g3, g3.gr0.at0 ha', hb, o'.gd c' g3⟩, fun i s2 H4 ⟨_, _, _, _, _, h, _⟩ => h, ?_, ?_⟩
      · rintro i y w s2 H4 hi ry ⟨x6, x7, rfl, g4, ha4, hb4, o4⟩
        cases rp_int ry
        refine g_name ?_
        have c4 := c.go g4
        have hy := pointed_mem h0 (List.mem_of_getElem? hi)
        have hlen : ((((pointed hands size key).take i).foldl plus (raw (keys.take j) size hands)).length : Int) = size := by
          rw [foldl_len plus_len, raw_len]
          omega
        have nbf : b ≠ af := fun z => by
          obtain ⟨vf, hvf, _⟩ := o'.ex
          rw [z, hvf] at nb
          cases nb
        refine s_item c4 rfl rfl o4 hy.1 (by omega) (ev_o (ev_ixLV (x := cat (((pointed hands size key).take i).foldl plus (raw (keys.take j) size hands)) y) (ev_v rfl o4.rp) ev_vi (atI_cat hy.1 (by omega))) ev_c) fun H5 H6 g5 e6 o6 => ?_
        obtain ⟨o, rfl⟩ := e6
        refine ⟨_, _, rfl, mut_gd (g4.trans g5) c nf, ?_, ?_, ?_⟩
        · rw [upd_ne naf]; exact g5.gr0.at0 ha4
        · rw [upd_ne nbf]; exact g5.gr0.at0 hb4
        · rw [take_snoc hi, List.foldl_append]; exact o6
      · rintro s2 H4 ⟨x6, x7, rfl, g4, ha4, hb4, o4⟩
        refine ⟨_, _, _, rfl, g4, ha4, ?_⟩
        rw [List.take_length] at o4
        rw [take_snoc hj, raw_snoc]
        exact o4
    · rintro s2 H' ⟨x5, x6, x7, rfl, g', ha', o'⟩
      have c' := c.go g'
      rw [List.take_length] at o'
      refine s_retLV c' (el_map (fun n => min cap n) (ev_v rfl o'.rp) (by rw [raw_len]; omega) fun x v H4 _ g4 c4 r => ?_) fun b H5 nb g5 o5 => k b H5 (g'.gr.dom b nb) (g'.trans g5).gr0 o5
      cases rp_int r
      exact lcT_name rfl tYes_ok fun _ => ev_min ev_vi ev_vi
theorem ok_built (T : Txt K mg) : FnOk P w K mg base (L2.CX P w) 7 T.f_built T.d_built ["keys", "size", "hands", "cap"] (SpNewX T.er (fun x : List Int × Int × List (Int × Int) × Int × Unit => x.2.2.1.length ≤ 90000) fun x => bld T.c_Sieve x.1 x.2.1 x.2.2.1 x.2.2.2.1) := by
  refine T.F_built.okX sc_built (fun vs H Q E h => ?_) (fun cdv A outer s H vs Q E hr h => ?_)
  · obtain ⟨m, x, c, ⟨v, r, rfl, rk, ⟨v2, r2, rfl, rk2, ⟨v3, r3, rfl, rk3, ⟨v4, r4, rfl, rk4, rfl⟩⟩⟩⟩, _⟩ := h
    rfl
  · obtain ⟨m, ⟨keys, size, hands, cap, u⟩, c, ⟨v, r, rfl, rk, ⟨v2, r2, rfl, rk2, ⟨v3, r3, rfl, rk3, ⟨v4, r4, rfl, rk4, rfl⟩⟩⟩⟩, hl, k1, k2⟩ := h
    cases (show v2 = V.int size from rk2)
    cases (show v4 = V.int cap from rk4)
    dsimp only at rk rk3 hl k1 k2
    refine ⟨_, (pss_cons (ps_set (i := 4) sc_built.nd rfl (Or.inl rfl) (pe_make T.mk_Sieve (ok_Sieve_init T) (hr.mono (by decide)) rfl T.m_Sieve T.b_Sieve_init .nil (passX rfl rfl rfl rfl) (pa_cons (pv 1) (pa_cons (pv 2) (pa_cons (pv 3) pa_nil)))))
  (pss_cons (ps_for (passes_of rfl) rfl (pi_list (pv 0)) (pg_name (i := 5) sc_built.nd rfl (Or.inl rfl))
  (pss_one (ps_expr (pe_meth (pv 4) T.cl_Sieve T.me_Sieve_put (ok_Sieve_put T) (hr.mono (by decide)) T.b_Sieve_put .nil (passX rfl rfl rfl rfl) (pa_cons (pv 5) pa_nil)))))
  (pss_one (ps_ret (pv 4))))), ?_⟩
    refine q_setS c (es_make (ea_c ev_vi (ea_c (ev_v rfl rk3) (ea_c ev_vi ea_nil))) hl) (fun x0 hx0 s cc H1 ns nc g1 sn => ?_) (fun e he cl d H1 g z => k2 e (by unfold bld; rw [he]) cl d H1 g.gr0 z)
    obtain ⟨a, vs, rfl, na, ha, ps⟩ := rp_lst rk
    have ha1 := g1.gr0.at0 ha
    have nac : a ≠ cc := ne_of_none ha nc
    have ok0 := (mkS_good hx0).2.ok
    refine q_forV (xs := keys) (m := m) (vs := vs) rfl ha1 (paired_go ps fun _ _ r => rp_nl r g1.gr.tup) (fun j s2 H' => ∃ (z : Option V) (x : Sv T.c_Sieve), s2 = [some (.ref a), some (.int size), some v3, some (.int cap), some (.ref s), z] ∧ Gd none H H' ∧ H' a = some (.lst vs) ∧ SvNew H H' s cc x ∧ x.Ok ∧ puts (keys.take j) x0 = .ok x)
      ⟨none, x0, rfl, g1, ha1, sn, ok0, rfl⟩ (fun j s2 H' ⟨_, _, _, _, h, _⟩ => h) ?_ ?_
    · rintro j key w s2 H' hj ry ⟨z, x, rfl, g', ha', sn', ok', hp⟩
      cases rp_int ry
      refine g_name ?_
      refine s_mut (c.go g') rfl (sn'.at_ c) ok' ev_vi (by decide) (fun y ey H2 H3 g2 g3 a3 => ?_) (fun e he cl d H2 g2 z => k2 e ?_ cl d H2 (g'.trans g2).gr0 (z.from g'.gr))
      · refine ⟨_, y, rfl, gd_absorb (g'.trans g2) g3 nc c, g3.keep a _ (g2.gr0.at0 ha') (by simpa using nac), ?_, ok'.put ey, ?_⟩
        · exact (sn'.go (m' := []) g2.gr0 (by simp)).upd g3 a3 (put_same ey)
        · rw [take_snoc hj, puts_snoc, hp]
          exact ey
      · unfold bld
        rw [hx0]
        exact puts_err hj hp he
    · rintro s2 H' ⟨z, x, rfl, g', ha', sn', ok', hp⟩
      rw [List.take_length] at hp
      exact ⟨_, rfl, k1 x (by unfold bld; rw [hx0]; exact hp) s cc H' ns nc g'.gr0 sn'⟩
theorem ok__law_says (T : Txt K mg) : FnOk P w K mg base CX0 2 T.f__law_says T.d__law_says ["_law_counts_here", "_law_hands_here", "_law_cap", "_law_key"] (SpF (fun x : List Int × List (Int × Int) × Int × Int × Unit => 0 < x.1.length ∧ x.1.length ≤ 1000 ∧ x.2.1.length ≤ 1000 ∧ KeyOk x.2.2.2.1) fun x => saysL x.1 x.2.1 x.2.2.1 x.2.2.2.1) := by
  refine T.F__law_says.ok sc__law_says (fun vs H Q E h => ?_) (fun cdv A outer s H vs Q E hr h => ?_)
  · obtain ⟨m, x, c, ⟨v, r, rfl, rk, ⟨v2, r2, rfl, rk2, ⟨v3, r3, rfl, rk3, ⟨v4, r4, rfl, rk4, rfl⟩⟩⟩⟩, _⟩ := h
    rfl
  · obtain ⟨m, ⟨cs, hands, cap, key, u⟩, c, ⟨v, r, rfl, rk, ⟨v2, r2, rfl, rk2, ⟨v3, r3, rfl, rk3, ⟨v4, r4, rfl, rk4, rfl⟩⟩⟩⟩, ⟨h0, h1, hh, hk⟩, k⟩ := h
    cases (show v3 = V.int cap from rk3)
    cases (show v4 = V.int key from rk4)
    dsimp only at rk rk2 h0 h1 hh hk k
    refine ⟨_, (pss_cons (ps_set (i := 4) sc__law_says.nd rfl (Or.inr rfl) (pe_call (ok__law_cells T) (hr.mono (by decide)) rfl T.m__law_cells T.k__law_cells T.b__law_cells .nil pass0 (pa_cons (pv 1) (pa_cons (pe_callB call_len_seq (by rfl) T.n_len (by decide +kernel) (pa_cons (pv 0) pa_nil)) (pa_cons (pv 3) pa_nil)))))
  (pss_one (ps_ret (pe_cmpR (op_eqD hr.units) (pe_lc (own := [("_law_cell", 5)]) (g := gName 5) (by rfl) sc__law_says.nd (pi_list (pv 4)) (blkOk_by (own := [("_law_cell", 5)]) (N := N__law_says) (sc := defScope s__law_says) (by decide +kernel)) (fun _ _ _ _ _ => (pg_name (i := 5) sc__law_says.nd rfl (Or.inl rfl) (.inr rfl))) (fun _ _ _ _ _ => (pts_one (pt_cmpR op_lt (pe_ix (show IxR _ (rIxL K) from ix_list) (pv 0) (pv 5) (fun _ _ => rfl)) (pe_callB (call_min2 rfl) (by rfl) T.n_min (by decide +kernel) (pa_cons (pv 2) (pa_cons (pe_bmK PySem.F.plainAttrs_list PySem.F.slot_list_count PySem.F.type_list_count (show MtR _ "list.count" (rCntI K) from mt_lcount) (pv 4) (pa_cons (pv 5) pa_nil)) pa_nil))) (nomark _)))) (fun _ _ _ _ _ => (pv 5))) (pe_lst pa_nil) (nomark _))))), ?_⟩
    have hk1 := hk.1
    have hk2 := hk.2
    refine q_setLV c (el_callV (x := (hands, (cs.length : Int), key, ())) (ea_c (ev_v rfl rk2) (ea_c (ev_len (ev_v rfl rk)) (ea_c ev_vi ea_nil))) ⟨by show hands.length ≤ 90000; omega, by show (0 : Int) < cs.length; omega, by show -(2 ^ 64) < key; omega, by show key < 2 ^ 64; omega⟩) fun a H1 na g1 oa => ?_
    have c1 := c.go g1
    have r1 := rp_gd rk c g1
    have hpl : (pointed hands (cs.length : Int) key).length = hands.length := by unfold pointed; simp
    refine s_retV c1 (ev_eqDV (x := (pointed hands (cs.length : Int) key).filter fun c => decide (cat cs c < min cap (((pointed hands (cs.length : Int) key).count c : Nat) : Int))) (y := []) (EvL.ev (EvL.imp (el_filterMap (fun c => decide (cat cs c < min cap (((pointed hands (cs.length : Int) key).count c : Nat) : Int))) (fun c : Int => c) (ev_v rfl oa.rp) (by show (pointed hands (cs.length : Int) key).length ≤ 90000; omega) ?_) fun l e => e.trans (List.map_id' _))) el_nil.ev (ok_ints _) (ok_ints _)) fun v H2 g2 r => k v H2 (g1.trans g2).gr0 r
    rintro i v H2 hi g2 c2 r
    cases rp_int r
    have hb := pointed_mem (show (0 : Int) < cs.length by omega) hi
    exact lcT_name rfl (et_B (ev_ob (ev_ixLV (x := cat cs i) (ev_v rfl (rp_gd r1 c1 g2)) ev_vi (atI_cat hb.1 hb.2)) (ev_min ev_vi (ev_count (ev_v rfl (oa.gd c1 g2).rp) ev_vi)))) fun _ => ev_vi
theorem ok_NoSieve_init (T : Txt K mg) : FnOk P w K mg base CX0 1 T.f_NoSieve_init T.d_NoSieve_init ["self", "paper"] (spErrI T.c_NoSieve "paper") := by
  refine T.F_NoSieve_init.ok sc_NoSieve_init (fun vs H Q E h => ?_) (fun cdv A outer s H vs Q E hr h => ?_)
  · obtain ⟨a, v, rfl, _⟩ := h
    rfl
  · obtain ⟨a, v, rfl, ha, k⟩ := h
    refine ⟨_, (pss_one (ps_ost (pv 0) (pv 1))), ?_⟩
    exact ⟨_, rfl, _, rfl, a, T.c_NoSieve, rfl, T.ox_NoSieve, T.xn_NoSieve_paper, .inl ⟨ha, fun dx hd ne => k dx hd ne⟩⟩
theorem ok_BadText_init (T : Txt K mg) : FnOk P w K mg base CX0 1 T.f_BadText_init T.d_BadText_init ["self", "row"] (spErrI T.c_BadText "row") := by
  refine T.F_BadText_init.ok sc_BadText_init (fun vs H Q E h => ?_) (fun cdv A outer s H vs Q E hr h => ?_)
  · obtain ⟨a, v, rfl, _⟩ := h
    rfl
  · obtain ⟨a, v, rfl, ha, k⟩ := h
    refine ⟨_, (pss_one (ps_ost (pv 0) (pv 1))), ?_⟩
    exact ⟨_, rfl, _, rfl, a, T.c_BadText, rfl, T.ox_BadText, T.xn_BadText_row, .inl ⟨ha, fun dx hd ne => k dx hd ne⟩⟩
theorem ok__law_took (T : Txt K mg) : FnOk P w K mg base CX0 6 T.f__law_took T.d__law_took ["_law_sieve", "_law_key"] (fun vs H Q _ => ∃ (m : List Addr) (s c : Addr) (x : Sv T.c_Sieve) (key : Int), vs = [.ref s, .int key] ∧ Cc none m H ∧ SvAt m H s c x ∧ x.Ok ∧ KeyOk key ∧
    (x.yes key = true → x.stuck key = [] → ∀ H', Gr [c] H H' → SvAt m H' s c (x.take1 key) → Q .non H') ∧ (x.yes key = true → x.stuck key ≠ [] → ∀ a H', Gr [] H H' → H a = none → Own m H' a (x.stuck key) → Q (.ref a) H') ∧ (x.yes key = false → ∀ H', Gr [] H H' → Q (.str "no") H')) := by
  refine T.F__law_took.ok sc__law_took (fun vs H Q E h => ?_) (fun cdv A outer s H vs Q E hr h => ?_)
  · obtain ⟨m, s, cc, x, key, rfl, _⟩ := h
    rfl
  · obtain ⟨m, s, cc, x, key, rfl, c, a, ok, hk, k1, k2, k3⟩ := h
    refine ⟨_, (pss_cons (ps_try_as (i := 3) rfl rfl sc__law_took.nd rfl rfl ⟨rfl, by decide, .inl T.m_SieveError⟩ takes0 (fun W pn xe tk po => (pss_one (ps_set (i := 2) sc__law_took.nd rfl (Or.inl rfl) (pe_methE (pv 0) T.cl_Sieve T.me_Sieve_take (ok_Sieve_take T) (hr.mono (by decide)) T.b_Sieve_take (fun s => passAt tk s) (pa_cons (pv 1) pa_nil)))))
  (fun a oe cls d pn hz hf => (pss_cons (ps_if (PW.pt (pw_or (pt_val (pe_callB (call_isXT hz hf) (by rfl) T.n_isinstance (by decide +kernel) (pa_cons (pv 3) (pa_cons (pe_tup (pa_cons (pe_glob (v := .ref T.c_BadKey) rfl T.m_BadKey rfl) (pa_cons (pe_glob (v := .ref T.c_BadSieve) rfl T.m_BadSieve rfl) (pa_cons (pe_glob (v := .ref T.c_BadText) rfl T.m_BadText rfl) (pa_cons (pe_glob (v := .ref T.c_NoSieve) rfl T.m_NoSieve rfl) (pa_cons (pe_glob (v := .ref T.c_Unlike) rfl T.m_Unlike rfl) pa_nil)))))) pa_nil)))) (pw_or1 (pt_not (pt_val (pe_callB (call_isX hz hf) (by rfl) T.n_isinstance (by decide +kernel) (pa_cons (pv 3) (pa_cons (pe_bltn (v := .ty "ValueError") rfl T.n_ValueError (by decide +kernel) rfl) pa_nil))))))))
  (pss_one (ps_ret pe_str))
  pss_nil)
  (pss_cons (ps_if (pt_val (pe_callB (call_isX hz hf) (by rfl) T.n_isinstance (by decide +kernel) (pa_cons (pv 3) (pa_cons (pe_glob (v := .ref T.c_NotIn) rfl T.m_NotIn rfl) pa_nil))))
  (pss_one (ps_ret (pe_ifExp (pt_val (pe_callB (call_isX hz hf) (by rfl) T.n_isinstance (by decide +kernel) (pa_cons (pv 3) (pa_cons (pe_glob (v := .ref T.c_Stuck) rfl T.m_Stuck rfl) pa_nil)))) pe_str pe_str)))
  pss_nil)
  (pss_one (ps_ret (pe_xf T.xf_Stuck T.xn_Stuck_cells hz hf (pv 3))))))))
  (pss_one (ps_ret (pv 2)))), ?_⟩
    refine sq ?_
    obtain ⟨dx, b, ho, _, _⟩ := id a.ob
    refine ⟨_, rfl, s, dx, _, rfl, ho, svf_none (by decide) _ _ _ _, _, rfl, m, s, cc, x, key, rfl, c, a, ok, fun y ey H1 g1 a1 => ?_, fun e he cl d H1 g1 z => ?_⟩
    · have ey' : x.take key = .ok y := ey
      rw [take_eq hk] at ey'
      by_cases hy : x.yes key = true
      · rw [if_pos hy] at ey'
        by_cases hs : x.stuck key = []
        · rw [if_pos hs] at ey'
          cases ey'
          exact ⟨_, rfl, k1 hy hs H1 g1 a1⟩
        · rw [if_neg hs] at ey'
          cases ey'
      · rw [if_neg hy] at ey'
        cases ey'
    · have he' : x.take key = .error e := he
      rw [take_eq hk] at he'
      have c1 := c.go (H' := H1) (.pure g1)
      by_cases hy : x.yes key = true
      · rw [if_pos hy] at he'
        by_cases hs : x.stuck key = []
        · rw [if_pos hs] at he'
          cases he'
        · rw [if_neg hs] at he'
          cases he'
          obtain ⟨rfl, d, b, rfl, hd, ob⟩ := z
          refine ⟨true, T.em_Stuck_SieveError, (fun _ e he => ?_), fun z => by cases z⟩
          refine q_skip c1 (et_orV (a := false) (b := false) (et_B (ev_isXT (C := T.c_Stuck) (fun _ _ h => h) rfl rfl T.is_Stuck ⟨_, hd⟩ (fun _ _ => by simp [Dst.m]) (by show 5 ≤ 100; decide) (.cons (.own _) (.cons (.own _) (.cons (.own _) (.cons (.own _) (.cons (.own _) .nil)))))
            (kany_f T.ki_Stuck_BadKey (kany_f T.ki_Stuck_BadSieve (kany_f T.ki_Stuck_BadText (kany_f T.ki_Stuck_NoSieve (kany_f T.ki_Stuck_Unlike kitAny_nil))))))) fun _ => et_notV (a := true) (et_B (ev_isX (C := T.c_Stuck) rfl rfl T.is_Stuck ⟨_, hd⟩ (fun _ _ => by simp [Dst.m]) (.ty _) T.ki_Stuck_ValueError))) (fun b e => by rw [e]; rfl) fun H2 g2 => ?_
          have c2 := c1.go g2
          refine q_skip c2 (et_B (ev_isX (C := T.c_Stuck) rfl rfl T.is_Stuck ⟨_, g2.gr0.at0 hd⟩ (fun _ _ => by simp [Dst.m]) (.own _) T.ki_Stuck_NotIn)) (fun b e => e) fun H3 g3 => ?_
          have g23 := g2.trans g3
          refine ⟨_, rfl, rfl, rfl, d, _, .ref b, rfl, g23.gr0.at0 hd, rfl, ?_⟩
          have hb0 : H b = none := by
            cases h : H b with
            | none => rfl
            | some o =>
              have := (ob [b] (fun x hx q => by rw [List.mem_singleton.mp hx, h] at q; cases q)).1
              exact absurd (by simp) this
          exact k2 hy hs b H3 (g1.trans g23.gr0) hb0 ((ob m c.dm).gd c1 g23)
      · rw [if_neg hy] at he'
        cases he'
        obtain ⟨rfl, rfl⟩ := z
        have hyf : x.yes key = false := by simpa using hy
        refine ⟨true, T.em_NotIn_SieveError, (fun _ e he => ?_), fun z => by cases z⟩
        refine q_skip c1 (et_orV (a := false) (b := false) (et_B (ev_isXT (C := T.c_NotIn) (fun _ _ h => h) rfl rfl T.is_NotIn trivial (fun _ z => by cases z) (by show 5 ≤ 100; decide) (.cons (.own _) (.cons (.own _) (.cons (.own _) (.cons (.own _) (.cons (.own _) .nil)))))
          (kany_f T.ki_NotIn_BadKey (kany_f T.ki_NotIn_BadSieve (kany_f T.ki_NotIn_BadText (kany_f T.ki_NotIn_NoSieve (kany_f T.ki_NotIn_Unlike kitAny_nil))))))) fun _ => et_notV (a := true) (et_B (ev_isX (C := T.c_NotIn) rfl rfl T.is_NotIn trivial (fun _ z => by cases z) (.ty _) T.ki_NotIn_ValueError))) (fun b e => by rw [e]; rfl) fun H2 g2 => ?_
        have c2 := c1.go g2
        refine q_whenV (b := true) c2 (et_B (ev_isX (C := T.c_NotIn) rfl rfl T.is_NotIn trivial (fun _ z => by cases z) (.own _) T.ki_NotIn_NotIn)) (fun _ H3 g3 => ?_) (fun z => by cases z)
        have c3 := c2.go g3
        refine s_retV (x := ("no" : Str)) c3 (ev_if (b := false) (et_B (ev_isX (C := T.c_NotIn) rfl rfl T.is_NotIn trivial (fun _ z => by cases z) (.own _) T.ki_NotIn_Stuck)) (fun z => by cases z) fun _ => ev_s) fun v H4 g4 r => ?_
        cases rp_str r
        exact k3 hyf H4 (g1.trans ((g2.trans g3).trans g4).gr0)
theorem ok__law_is_refused (T : Txt K mg) : FnOk P w K mg base CX0 2 T.f__law_is_refused T.d__law_is_refused ["_law_found", "_law_due"] (fun vs H Q _ => ∃ (m : List Addr) (o : Out3) (u v : V), vs = [u, v] ∧ Cc none m H ∧ Rp.rp m H o v ∧ Rp.rp m H o u ∧ (∀ l, o = .list l → l.length ≤ 90000 ∧ ∃ a, u = .ref a ∧ Own m H a l) ∧
    ((∀ l, o ≠ .list l) → ∀ H', Gr [] H H' → Q (.bl true) H') ∧ ∀ l, o = .list l → ∀ a ws H', u = .ref a → Gr [] H H' → Q (.bl true) (upd H' a (.lst ws))) := by
  refine T.F__law_is_refused.ok sc__law_is_refused (fun vs H Q E h => ?_) (fun cdv A outer s H vs Q E hr h => ?_)
  · obtain ⟨m, o, u, v, rfl, _⟩ := h
    rfl
  · obtain ⟨m, o, u, v, rfl, c, rv, ru, hl, k1, k2⟩ := h
    refine ⟨_, (pss_cons (ps_if (pt_not (pt_val (pe_callB call_isi (by rfl) T.n_isinstance (by decide +kernel) (pa_cons (pv 1) (pa_cons (pe_bltn (v := .ty "list") rfl T.n_list (by decide +kernel) rfl) pa_nil)))))
  (pss_one (ps_ret (pe_cmpR (op_eqD hr.units) (pv 0) (pv 1) (nomark _))))
  pss_nil)
  (pss_cons (ps_if (pt_not (pt_val (pe_call (ok__law_are T) (hr.mono (by decide)) rfl T.m__law_are T.k__law_are T.b__law_are .nil pass0 (pa_cons (pv 0) (pa_cons (pv 1) pa_nil)))))
  (pss_one (ps_ret pe_bl))
  pss_nil)
  (pss_cons (ps_expr (pe_bm PySem.F.plainAttrs_list PySem.F.slot_list_append PySem.F.type_list_append mt_append (pv 0) (pa_cons pe_int pa_nil)))
  (pss_one (ps_ret pe_bl))))), ?_⟩
    have okO : Dat.okd o := trivial
    refine q_whenV c (et_notV (et_B (ev_isOut3 (ev_v rfl rv)))) (fun e H1 g => ?_) (fun e H1 g => ?_)
    · have hn : ∀ l, o ≠ .list l := fun l z => by rw [z] at e; cases e
      refine s_retV (c.go g) (ev_eqDV (x := o) (y := o) (ev_v rfl (rp_gd ru c g)) (ev_v rfl (rp_gd rv c g)) okO okO) fun vv H2 g2 r => ?_
      rw [decide_eq_true (rfl : o = o)] at r
      cases r
      exact k1 hn H2 (g.trans g2).gr0
    · obtain ⟨l, el⟩ := Out3.list_of (x := o) (by simpa using e)
      obtain ⟨hll, a, rfl, oa⟩ := hl l el
      have c1 := c.go g
      have rv1 : Rp.rp m H1 l v := by
        have := rp_gd rv c g
        rw [el] at this
        exact this
      have oa1 := oa.gd c g
      refine q_skip c1 (et_notV (et_B (ev_callV (x := (l, l, ())) (ea_c (ev_v rfl oa1.rp) (ea_c (ev_v rfl rv1) ea_nil)) (by show l.length ≤ 90000; omega)))) (fun b e => by simpa using e) fun H2 g2 => ?_
      have c2 := c1.go g2
      refine q_app (α := Int) (p := fun x => x = 0) c2 (oa1.gd c1 g2) rfl ev_c (by omega) fun x H3 H4 g3 hx o4 e4 => ?_
      obtain ⟨ws, rfl⟩ := e4
      exact k2 l el a ws H3 rfl (((g.trans g2).trans g3).gr0)
theorem ok_law (T : Txt K mg) {f : Addr} {fd : FuncData} (F : Fun K "law" "law" s_law f fd) : FnOk P w K mg base CX0 8 f fd ["_law_script"] (spLaw K) := by
  refine F.ok sc_law (fun vs H Q E h => ?_) (fun cdv A outer s H vs Q E hr h => ?_)
  · obtain ⟨a, ns, rfl, _⟩ := h
    rfl
  · obtain ⟨a, ns, rfl, hS, hl, k⟩ := h
    refine ⟨_, (pss_cons (ps_set (i := 1) sc_law.nd rfl (Or.inl rfl) (pe_call (ok__law_mix T) (hr.mono (by decide)) rfl T.m__law_mix T.k__law_mix T.b__law_mix .nil pass0 (pa_cons (pv 0) (pa_cons pe_int pa_nil))))
  (pss_cons (ps_set (i := 2) sc_law.nd rfl (Or.inl rfl) (pe_call (ok__law_hands T) (hr.mono (by decide)) rfl T.m__law_hands T.k__law_hands T.b__law_hands .nil pass0 (pa_cons (pv 1) (pa_cons pe_int pa_nil))))
  (pss_cons (ps_set (i := 3) sc_law.nd rfl (Or.inl rfl) (pe_op op_add pe_int (pe_call (ok__law_next T) (hr.mono (by decide)) rfl T.m__law_next T.k__law_next T.b__law_next .nil pass0 (pa_cons (pv 1) (pa_cons (pe_ix ix_list (pe_lst (pa_cons pe_int (pa_cons pe_int (pa_cons pe_int pa_nil)))) (pe_call (ok__law_next T) (hr.mono (by decide)) rfl T.m__law_next T.k__law_next T.b__law_next .nil pass0 (pa_cons (pv 1) (pa_cons pe_int pa_nil))) (fun _ _ => rfl)) pa_nil)))))
  (pss_cons (ps_set (i := 4) sc_law.nd rfl (Or.inr rfl) (pe_op op_add pe_int (pe_call (ok__law_next T) (hr.mono (by decide)) rfl T.m__law_next T.k__law_next T.b__law_next .nil pass0 (pa_cons (pv 1) (pa_cons pe_int pa_nil)))))
  (pss_cons (ps_set (i := 5) sc_law.nd rfl (Or.inl rfl) (pe_call (ok__law_keys T) (hr.mono (by decide)) rfl T.m__law_keys T.k__law_keys T.b__law_keys .nil pass0 (pa_cons (pv 1) (pa_cons (pe_call (ok__law_next T) (hr.mono (by decide)) rfl T.m__law_next T.k__law_next T.b__law_next .nil pass0 (pa_cons (pv 1) (pa_cons pe_int pa_nil))) pa_nil))))
  (pss_cons (ps_set (i := 6) sc_law.nd rfl (Or.inl rfl) (pe_callTy call_list_of (by rfl) T.n_list (by decide +kernel) (pa_cons (pv 2) pa_nil)))
  (pss_cons (ps_set (i := 7) sc_law.nd rfl (Or.inl rfl) (pe_call (ok_built T) (hr.mono (by decide)) rfl T.m_built T.k_built T.b_built .nil passL (pa_cons (pe_callTy call_list_of (by rfl) T.n_list (by decide +kernel) (pa_cons (pv 5) pa_nil)) (pa_cons (pv 3) (pa_cons (pv 6) (pa_cons (pv 4) pa_nil))))))
  (pss_cons (ps_expr (pe_bm0 PySem.F.plainAttrs_list PySem.F.slot_list_clear PySem.F.type_list_clear mt_clear (pv 6)))
  (pss_cons (ps_set (i := 8) sc_law.nd rfl (Or.inr rfl) (pe_call (ok__law_counts T) (hr.mono (by decide)) rfl T.m__law_counts T.k__law_counts T.b__law_counts .nil pass0 (pa_cons (pv 5) (pa_cons (pv 3) (pa_cons (pv 2) (pa_cons (pv 4) pa_nil))))))
  (pss_cons (ps_if (PW.pt (pw_or (pt_not (pt_val (pe_callB call_isi (by rfl) T.n_isinstance (by decide +kernel) (pa_cons (pv 7) (pa_cons (pe_glob (v := .ref T.c_Sieve) rfl T.m_Sieve rfl) pa_nil))))) (pw_or1 (pt_not (pt_val (pe_call (ok__law_are T) (hr.mono (by decide)) rfl T.m__law_are T.k__law_are T.b__law_are .nil pass0 (pa_cons (pe_meth0 (pv 7) T.cl_Sieve T.me_Sieve_counts (ok_Sieve_counts T) (hr.mono (by decide)) T.b_Sieve_counts .nil pass0) (pa_cons (pv 8) pa_nil))))))))
  (pss_one (ps_ret pe_bl))
  pss_nil)
  (pss_cons (ps_for PassesOwn.never rfl (pi_list (pe_op op_cat (pe_slStep (pv 5) pe_int) (pe_call (ok__law_keys T) (hr.mono (by decide)) rfl T.m__law_keys T.k__law_keys T.b__law_keys .nil pass0 (pa_cons (pv 1) (pa_cons pe_int pa_nil))))) (pg_name (i := 9) sc_law.nd rfl (Or.inl rfl))
  (pss_cons (ps_set (i := 10) sc_law.nd rfl (Or.inr rfl) (pe_call (ok__law_cells T) (hr.mono (by decide)) rfl T.m__law_cells T.k__law_cells T.b__law_cells .nil pass0 (pa_cons (pv 2) (pa_cons (pv 3) (pa_cons (pv 9) pa_nil)))))
  (pss_cons (ps_set (i := 11) sc_law.nd rfl (Or.inl rfl) (pe_meth (pv 7) T.cl_Sieve T.me_Sieve_says (ok_Sieve_says T) (hr.mono (by decide)) T.b_Sieve_says .nil passL (pa_cons (pv 9) pa_nil)))
  (pss_cons (ps_if (PW.pt (pw_or (pt_not (pt_val (pe_callB call_isi (by rfl) T.n_isinstance (by decide +kernel) (pa_cons (pv 11) (pa_cons (pe_bltn (v := .ty "bool") rfl T.n_bool (by decide +kernel) rfl) pa_nil))))) (pw_or1 (pt_cmpR op_ne (pv 11) (pe_call (ok__law_says T) (hr.mono (by decide)) rfl T.m__law_says T.k__law_says T.b__law_says .nil pass0 (pa_cons (pv 8) (pa_cons (pv 2) (pa_cons (pv 4) (pa_cons (pv 9) pa_nil))))) (nomark _)))))
  (pss_one (ps_ret pe_bl))
  pss_nil)
  (pss_cons (ps_set (i := 12) sc_law.nd rfl (Or.inl rfl) (pe_callB (cr_sortedSet rfl) (by rfl) T.n_sorted (by decide +kernel) (pa_cons (pe_callTy (call_set_of rfl) (by rfl) T.n_set (by decide +kernel) (pa_cons (pe_lc (own := [("_law_cell", 13)]) (g := gName 13) (by rfl) sc_law.nd (pi_list (pv 10)) (blkOk_by (own := [("_law_cell", 13)]) (N := N_law) (sc := defScope s_law) (by decide +kernel)) (fun _ _ _ _ _ => (pg_name (i := 13) sc_law.nd rfl (Or.inl rfl) (.inr rfl))) (fun _ _ _ _ _ => (pts_one (pt_cmpR op_eq (pe_ix (show IxR _ (rIxL K) from ix_list) (pv 8) (pv 13) (fun _ _ => rfl)) (pv 4) (nomark _)))) (fun _ _ _ _ _ => (pv 13))) pa_nil)) pa_nil)))
  (pss_cons (ps_set (i := 14) sc_law.nd rfl (Or.inl rfl) (pe_ifExp (pt_not (pt_val (pv 11))) pe_str (pe_ifExp (pt_cmpR (op_neD hr.units) (pv 12) (pe_lst pa_nil) (nomark _)) (pv 12) pe_non)))
  (pss_cons (ps_if (PW.pt (pw_or (pt_not (pt_val (pe_call (ok__law_is_refused T) (hr.mono (by decide)) rfl T.m__law_is_refused T.k__law_is_refused T.b__law_is_refused .nil pass0 (pa_cons (pe_call (ok__law_took T) (hr.mono (by decide)) rfl T.m__law_took T.k__law_took T.b__law_took .nil pass0 (pa_cons (pv 7) (pa_cons (pv 9) pa_nil))) (pa_cons (pv 14) pa_nil))))) (pw_or1 (PW.pt (pw_and (pt_cmpR op_notN (pv 14) pe_non (nomark _)) (pw_and1 (pt_cmpR (op_neD hr.units) (pe_call (ok__law_took T) (hr.mono (by decide)) rfl T.m__law_took T.k__law_took T.b__law_took .nil pass0 (pa_cons (pv 7) (pa_cons (pv 9) pa_nil))) (pv 14) (nomark _))))))))
  (pss_one (ps_ret pe_bl))
  pss_nil)
  (pss_cons (ps_if (pt_cmpR op_isN (pv 14) pe_non (nomark _))
  (pss_one (ps_set (i := 8) sc_law.nd rfl (Or.inr rfl) (pe_lc (own := [("_law_cell", 13), ("_law_count", 15)]) (g := gTup K 2 (gCons (gName 13) (gCons (gName 15) gNil))) (tt := tYes) (by rfl) sc_law.nd (pi_enum (by rfl) T.n_enumerate (pa_cons (pv 8) pa_nil)) (blkOk_by (own := [("_law_cell", 13), ("_law_count", 15)]) (N := N_law) (sc := defScope s_law) (by decide +kernel)) (fun _ _ _ _ _ => (pg_tup rfl (pgs_cons (pg_name (i := 13) sc_law.nd rfl (Or.inl rfl) (.inr rfl)) (pgs_cons (pg_name (i := 15) sc_law.nd rfl (Or.inl rfl) (.inr rfl)) pgs_nil)))) (fun _ _ _ _ _ => pts_nil) (fun _ _ _ _ _ => (pe_op op_sub (pv 15) (pe_bmK PySem.F.plainAttrs_list PySem.F.slot_list_count PySem.F.type_list_count (show MtR _ "list.count" (rCntI K) from mt_lcount) (pv 10) (pa_cons (pv 13) pa_nil)))))))
  pss_nil)
  (pss_cons (ps_for PassesOwn.never rfl (pi_list (pe_lst (pa_cons (pe_meth0 (pv 7) T.cl_Sieve T.me_Sieve_hands (ok_Sieve_hands T) (hr.mono (by decide)) T.b_Sieve_hands .nil pass0) (pa_cons (pe_meth0 (pv 7) T.cl_Sieve T.me_Sieve_counts (ok_Sieve_counts T) (hr.mono (by decide)) T.b_Sieve_counts .nil pass0) pa_nil)))) (pg_name (i := 16) sc_law.nd rfl (Or.inl rfl))
  (pss_one (ps_expr (pe_bm PySem.F.plainAttrs_list PySem.F.slot_list_append PySem.F.type_list_append mt_append (pv 16) (pa_cons pe_int pa_nil)))))
  (pss_one (ps_if (PW.pt (pw_or (pt_not (pt_val (pe_call (ok__law_are T) (hr.mono (by decide)) rfl T.m__law_are T.k__law_are T.b__law_are .nil pass0 (pa_cons (pe_meth0 (pv 7) T.cl_Sieve T.me_Sieve_counts (ok_Sieve_counts T) (hr.mono (by decide)) T.b_Sieve_counts .nil pass0) (pa_cons (pv 8) pa_nil))))) (pw_or1 (pt_cmpR (op_neD hr.units) (pe_meth0 (pv 7) T.cl_Sieve T.me_Sieve_hands (ok_Sieve_hands T) (hr.mono (by decide)) T.b_Sieve_hands .nil pass0) (pv 2) (nomark _)))))
  (pss_one (ps_ret pe_bl))
  pss_nil)))))))))))
  (pss_one (ps_ret (pe_and (pe_call (ok__law_are T) (hr.mono (by decide)) rfl T.m__law_are T.k__law_are T.b__law_are .nil pass0 (pa_cons (pe_lst (pa_cons (pe_meth0 (pv 7) T.cl_Sieve T.me_Sieve_size (ok_Sieve_size T) (hr.mono (by decide)) T.b_Sieve_size .nil pass0) (pa_cons (pe_meth0 (pv 7) T.cl_Sieve T.me_Sieve_cap (ok_Sieve_cap T) (hr.mono (by decide)) T.b_Sieve_cap .nil pass0) pa_nil))) (pa_cons (pe_lst (pa_cons (pv 3) (pa_cons (pv 4) pa_nil))) pa_nil))) (pe_one (pe_callB call_isi (by rfl) T.n_isinstance (by decide +kernel) (pa_cons (pe_meth0 (pv 7) T.cl_Sieve T.me_Sieve_hands (ok_Sieve_hands T) (hr.mono (by decide)) T.b_Sieve_hands .nil pass0) (pa_cons (pe_bltn (v := .ty "list") rfl T.n_list (by decide +kernel) rfl) pa_nil)))))))))))))))))), ?_⟩
    refine q_rawA ⟨_, rfl, a, ns, 17, rfl, hS, hl, fun p q H1 np nq npq g1 d1 => g_name ?_⟩
    have c1 := cc_draw d1
    refine q_setL (p := HandsOk 6) c1 (el_drawn rfl (ea_c ev_c ea_nil) fun x e => by subst e; exact ⟨⟨by decide, by decide⟩, fun y z => z⟩) fun hands ah H2 nh g2 oh hh => ?_
    have c2 := c1.go g2
    refine q_setI (p := fun n => 1 ≤ n ∧ n ≤ 96) c2 (ev_i0 (q := fun n => 0 ≤ n ∧ n < 96) ev_c (ev_next (s := fun n => 30 ≤ n ∧ n ≤ 96) rfl (ev_ixL (xs := [30, 30, 96]) (q := fun i => 0 ≤ i ∧ i < 3) (el_lst (ei_consV ev_c (ei_consV ev_c (ei_consV ev_c ei_nil))) (fun xs e => by rw [e]; decide)).ev (ev_nextC rfl (by decide)) fun i b => ?_) (fun n b => by omega) fun n j b h0 h1 => ⟨h0, by omega⟩) fun i j e b => by subst e; omega) fun size H3 g3 hs => ?_
    · obtain ⟨x, hx, hm⟩ := atI_of (xs := ([30, 30, 96] : List Int)) b.1 b.2
      refine ⟨x, hx, ?_⟩
      simp at hm
      omega
    have c3 := c2.go g3
    refine q_setI (p := fun n => 1 ≤ n ∧ n ≤ 9) c3 (ev_i0 ev_c (ev_nextC rfl (by decide)) fun i j e b => by subst e; omega) fun cap H4 g4 hc => ?_
    have c4 := c3.go g4
    refine q_setL (p := fun ks : List Int => ks.length ≤ 20 ∧ ∀ k, k ∈ ks → KeyOk k) c4 (el_drawn (s := fun x : Int × Unit => 0 ≤ x.1 ∧ x.1 < 21) rfl (ea_cons (q := fun _ => True) (ev_nextC rfl (by decide)) (ea_any ea_nil) fun x y b _ => b) fun x b => ⟨⟨by omega, by omega⟩, fun y z => ⟨by have := z.1; omega, z.2⟩⟩) fun keys ak H5 nk g5 ok hks => ?_
    have c5 := c4.go g5
    have oh5 := ((oh.gd c2 g3).gd c3 g4).gd c4 g5
    obtain ⟨hk20, hkk⟩ := hks
    refine q_setLV c5 (el_list (ev_v rfl oh5.rp)) fun ad H6 nd g6 od => ?_
    have c6 := c5.go g6
    have ok6 := ok.gd c5 g6
    have oh6 := oh5.gd c5 g6
    have nhd : ah ≠ ad := oh5.ne_new nd
    have nkd : ak ≠ ad := ok.ne_new nd
    have hlen : hands.length ≤ 90000 := by have := hh.2.1; omega
    have hbl : bld T.c_Sieve keys size hands cap = .ok (svOf T.c_Sieve keys size hands cap) := bld_ok (by omega) (by omega) hh (by omega) (by omega) hkk
    refine q_mkS c6 (es_callX (T := T.er) (a := (keys, size, hands, cap, ())) (ea_c (el_list (ev_v rfl ok6.rp)).ev (ea_c ev_vi (ea_c (ev_v rfl od.rp) (ea_c ev_vi ea_nil)))) hlen) hbl fun sv cc H7 nsv ncc g7 sn => ?_
    have od7 := od.gd c6 g7
    have oh7 := (oh6.more ncc).go g7.gr (by simp [Dst.m])
    have ok7 := (ok6.more ncc).go g7.gr (by simp [Dst.m])
    refine q_clear od7 rfl ?_
    obtain ⟨vd, hd7, _⟩ := od7.ex
    have gc : Gr [ad] H7 (upd H7 ad (.lst [])) := Gr.refl.put (by simp) hd7 fun _ z => by cases z
    have gd8 : Gd (some (p, q)) H5 (upd H7 ad (.lst [])) := mut_gd (g6.trans g7) c5 nd
    have oh8 := oh7.upd_ne (o' := .lst []) nhd hd7 fun _ z => by cases z
    have ok8 := ok7.upd_ne (o' := .lst []) nkd hd7 fun _ z => by cases z
    have nd6 : H6 ad ≠ none := by
      obtain ⟨v6, h6, _⟩ := od.ex
      rw [h6]; simp
    have sn8 := sn.go (H2 := upd H7 ad (.lst [])) gc (by intro a ha; rw [List.mem_singleton.mp ha]; exact nd6)
    have s8 : SvAt [p, q] (upd H7 ad (.lst [])) sv cc (svOf T.c_Sieve keys size hands cap) := sn8.at_ c6
    have c8 := c5.go gd8
    generalize upd H7 ad (.lst []) = H8 at *
    have cm8 : Cc (some (p, q)) [cc, p, q] H8 := ⟨by simp [Dst.m], fun b hb => by
      rcases List.mem_cons.mp hb with z | z
      · rw [z]; exact s8.here
      · exact c8.dm b z, c8.ok⟩
    have hh6 := hh.2.1
    refine q_setLV cm8 (el_callV (x := (keys, size, hands, cap, ())) (ea_c (ev_v rfl ok8.rp) (ea_c ev_vi (ea_c (ev_v rfl oh8.rp) (ea_c ev_vi ea_nil)))) ⟨by show keys.length ≤ 90000; omega, by show 0 < size; omega, by show size ≤ 1000; omega, by show hands.length ≤ 1000; omega, hkk⟩) fun ac H9 nac g9 oc => ?_
    have cm9 := cm8.go g9
    have c9 := c8.go g9
    have s9 := s8.gd c8 g9
    have hcl : (counts keys size hands cap).length ≤ 90000 := by rw [counts_len]; omega
    refine q_skip c9 (et_orV (a := false) (b := false) (et_notV (a := true) (et_B (ev_isSv (ev_v rfl s9.rp) T.cl_Sieve T.ic_Sieve T.ki_Sieve_Sieve))) fun _ => et_notV (a := true) (et_B ((ev_callV (x := ((svOf T.c_Sieve keys size hands cap).cells, counts keys size hands cap, ())) (ea_c (el_meth (x := svOf T.c_Sieve keys size hands cap) (y := ()) (ev_v rfl s9.rp) ea_nil trivial).ev (ea_c (ev_v rfl (oc.less (m' := [p, q]) (by simp)).rp) ea_nil)) hcl).imp fun b e => by simpa [svOf] using e))) (fun b e => by rw [e]; rfl) fun H10 g10 => ?_
    have cm10 := cm9.go g10
    have oh10 := (oh8.gd cm8 g9).gd cm9 g10
    have ok10 := (ok8.gd cm8 g9).gd cm9 g10
    have oc10 := oc.gd cm9 g10
    have s10 := s9.gd c9 g10
    refine q_forLP (p := fun l : List Int => ∀ k, k ∈ l → KeyOk k) cm10 (EvL.ev (el_catP (p := fun l : List Int => l.length ≤ 20 ∧ ∀ k, k ∈ l → KeyOk k) (q := KeysOk 12) (EvL.ev (el_step (p := fun l => l = keys) (q := fun k => k = 2) (ev_v rfl ok10.rp) ev_c (fun k e => by omega) fun xs ys e hm hl _ => by subst e; exact ⟨by omega, fun k hk => hkk k (hm k hk)⟩)) (EvL.ev (el_drawn rfl (ea_c ev_c ea_nil) fun x e => by subst e; exact ⟨⟨by decide, by decide⟩, fun y z => z⟩)) (fun xs ys a b => by have := b.1; omega) fun xs ys a b x hx => ?_)) fun ks aks vks H11 hkP g11 nks haks pk => ?_
    · rcases List.mem_append.mp hx with z | z
      · exact a.2 x z
      · exact b.2 x z
    have cm11 := cm10.go g11
    have oh11 := oh10.gd cm10 g11
    refine ⟨fun j s2 H' => ∃ (x : Sv T.c_Sieve) (ac : Addr) (x9 x10 x11 x12 x13 x14 x15 x16 : Option V), s2 = [some (.ref a), some (.ref p), some (.ref ah), some (.int size), some (.int cap), some (.ref ak), some (.ref ad), some (.ref sv), some (.ref ac), x9, x10, x11, x12, x13, x14, x15, x16] ∧ Gr [cc, p, q] H11 H' ∧ DrawAt p q H' ∧ SvAt [p, q] H' sv cc x ∧ x.Good ∧ (x.size = size ∧ x.hands = hands ∧ x.cap = cap) ∧ Own [cc, p, q] H' ac x.cells,
      ⟨svOf T.c_Sieve keys size hands cap, ac, none, none, none, none, none, none, none, none, rfl, Gr.refl, cm11.ok, s10.gr g11.gr (by simp [Dst.m]), svOf_good (by omega) (by omega) hh (by omega) (by omega), ⟨rfl, rfl, rfl⟩, oc10.gd cm10 g11⟩, fun j s2 H' ⟨_, _, _, _, _, _, _, _, _, _, _, g', _⟩ => g'.keep aks _ haks nks, ?_, ?_⟩
    · rintro j key w0 s2 H' hj ry ⟨x, ac', x9, x10, x11, x12, x13, x14, x15, x16, rfl, g', d', s', good, ⟨e1, e2, e3⟩, oc'⟩
      cases rp_int ry
      have hkey := hkP key (List.mem_of_getElem? hj)
      have hk1 := hkey.1
      have hk2 := hkey.2
      have cm' : Cc (some (p, q)) [cc, p, q] H' := cm11.goM g' d'
      have c' : Cc (some (p, q)) [p, q] H' := cc_draw d'
      have oh' : Own [cc, p, q] H' ah hands := oh11.go g' (by simp)
      have hn := good.n
      have h0 := good.s0
      have h1 := good.s1
      have hpl : (pointed x.hands x.size key).length ≤ 6 := by unfold pointed; rw [List.length_map, e2]; omega
      have hin : InR x.cells.length (pointed x.hands x.size key) := inR_pointed (by omega) hn
      refine g_name ?_
      -- the cells
      refine q_setLV (xs := pointed x.hands x.size key) cm' (EvL.imp (el_callV (x := (hands, size, key, ())) (ea_c (ev_v rfl oh'.rp) (ea_c ev_vi (ea_c ev_vi ea_nil))) ⟨by show hands.length ≤ 90000; omega, by show 0 < size; omega, by show -(2 ^ 64) < key; omega, by show key < 2 ^ 64; omega⟩) fun l e => by rw [e]; show pointed hands size key = _; rw [e1, e2]) fun acl H2' ncl gg2 ocl => ?_
      have cc2 := c'.go gg2
      have cq2 := cm'.go gg2
      have ss2 := s'.gd c' gg2
      have oh2 := oh'.gd cm' gg2
      have oc2 := oc'.gd cm' gg2
      -- says
      refine q_setBV (b := x.yes key) cc2 ((ex_meth (x := x) (y := (key, ())) (ev_v rfl ss2.rp) (ea_c ev_vi ea_nil) good.ok).ok (says_ok hkey)) fun H3' gg3 => ?_
      have cc3 := cc2.go gg3
      have cq3 := cq2.go gg3
      have ss3 := ss2.gd cc2 gg3
      have oh3 := oh2.gd cq2 gg3
      have oc3 := oc2.gd cq2 gg3
      have ocl3 := ocl.gd cq2 gg3
      refine q_skip (p := fun b => b = false) cq3 (et_orV (a := false) (b := false) (et_notV (a := true) (et_B (ev_isB (b := true) ev_vb))) fun _ => et_B ((ev_neB (x := x.yes key) (y := saysL x.cells hands cap key) ev_vb (ev_callV (x := (x.cells, hands, cap, key, ())) (ea_c (ev_v rfl oc3.rp) (ea_c (ev_v rfl oh3.rp) (ea_c ev_vi (ea_c ev_vi ea_nil)))) ⟨by show 0 < x.cells.length; omega, by show x.cells.length ≤ 1000; omega, by show hands.length ≤ 1000; omega, hkey⟩)).imp fun b e => by rw [e, ← e2, ← e3, saysL_eq x hn]; simp)) (fun b e => e) fun H4' gg4 => ?_
      have cc4 := cc3.go gg4
      have cq4 := cq3.go gg4
      have ss4 := ss3.gd cc3 gg4
      have oh4' := oh3.gd cq3 gg4
      have oc4 := oc3.gd cq3 gg4
      have ocl4 := ocl3.gd cq3 gg4
      -- full
      refine q_setLV (xs := x.stuck key) cq4 (EvL.imp (el_sortedSet (xs := ((pointed x.hands x.size key).filter fun c => decide (cat x.cells c = x.cap)).map fun c => c) (EvL.ev (el_filterMap (β := Int) (fun c => decide (cat x.cells c = x.cap)) (fun c => c) (ev_v rfl ocl4.rp) (by omega) fun i v H5 hi g5' c5' r => ?_)) (by
          rw [List.length_map]
          have := List.length_filter_le (fun c => decide (cat x.cells c = x.cap)) (pointed x.hands x.size key)
          omega)) fun l e => by rw [e, List.map_id', stuck_eq]) fun afu H5' nafu gg5 ofu => ?_
      · cases rp_int r
        have hb := hin i hi
        exact lcT_name rfl (et_B ((ev_eqV (ev_ixLV (x := cat x.cells i) (ev_v rfl (oc4.gd cq4 g5').rp) ev_vi (atI_cat hb.1 hb.2)) ev_vi).imp fun b e => by rw [e, e3])) fun _ => ev_vi
      have cc5 := cc4.go gg5
      have cq5 := cq4.go gg5
      have ss5 := ss4.gd cc4 gg5
      have oh5' := oh4'.gd cq4 gg5
      have oc5 := oc4.gd cq4 gg5
      have ocl5 := ocl4.gd cq4 gg5
      -- due
      obtain ⟨O, hO⟩ : ∃ O, O = o3 x key := ⟨_, rfl⟩
      refine q_set (α := Out3) (p := fun o => o = O) cq5 (ev_if (b := !x.yes key) (et_notV (et_B ev_vb)) (fun e H6 g6 c6 Q w => w .no (.str "no") H6 .refl rfl (by
          have hy : ¬ x.yes key = true := by simpa using e
          rw [hO]; unfold o3; rw [if_neg hy])) fun e => ev_if (b := !decide (x.stuck key = [])) (et_B (ev_neDV (x := x.stuck key) (y := []) (ev_v rfl ofu.rp) el_nil.ev (ok_ints _) (ok_ints _))) (fun e' H6 g6 c6 Q w => ⟨_, rfl, w (.list (x.stuck key)) (.ref afu) H6 .refl (ofu.gd cq5 g6).rp (by
          have hy : x.yes key = true := by simpa using e
          have hs : ¬ x.stuck key = [] := by simpa using e'
          rw [hO]; unfold o3; rw [if_pos hy, if_neg hs])⟩) fun e' H6 g6 c6 Q w => w .non .non H6 .refl rfl (by
          have hy : x.yes key = true := by simpa using e
          have hs : x.stuck key = [] := by simpa using e'
          rw [hO]; unfold o3; rw [if_pos hy, if_pos hs])) fun O' vd H6' gg6 rd eO => ?_
      subst eO
      have cc6 := cc5.go gg6
      have cq6 := cq5.go gg6
      have ss6 := ss5.gd cc5 gg6
      have oh6' := oh5'.gd cq5 gg6
      have oc6 := oc5.gd cq5 gg6
      have ocl6 := ocl5.gd cq5 gg6
      have gI6 : Gr [cc, p, q] H11 H6' := g'.trans (((((gg2.trans gg3).trans gg4).trans gg5).trans gg6).gr.mono (by simp [Dst.m]))
      have okO : Dat.okd O' := trivial
      have hst6 := stuck_len x key
      rw [e2] at hst6
      -- refused, or taken out
      refine q_whenJ (fun s3 H3 => ∃ x' : Sv T.c_Sieve, s3 = [some (.ref a), some (.ref p), some (.ref ah), some (.int size), some (.int cap), some (.ref ak), some (.ref ad), some (.ref sv), some (.ref ac'), some (.int key), some (.ref acl), some (.bl (x.yes key)), some (.ref afu), x13, some vd, x15, x16] ∧ ((x' = x.take1 key ∧ vd = .non) ∨ (x' = x ∧ vd ≠ .non)) ∧ Gr [cc, p, q] H11 H3 ∧ DrawAt p q H3 ∧ SvAt [p, q] H3 sv cc x' ∧ Own [cc, p, q] H3 acl (pointed x.hands x.size key) ∧ Own [cc, p, q] H3 ac' x.cells) ?_ fun hz => ?_
      · rintro s3 H3 ⟨x', rfl, hx', gI, dI, sI, ocl', oc''⟩
        have cI := cm11.goM gI dI
        have cJ : Cc (some (p, q)) [p, q] H3 := cc_draw dI
        have good' : x'.Good := by
          rcases hx' with ⟨rfl, _⟩ | ⟨rfl, _⟩
          · exact good.take1 key
          · exact good
        have same' : x'.size = size ∧ x'.hands = hands ∧ x'.cap = cap := by
          rcases hx' with ⟨rfl, _⟩ | ⟨rfl, _⟩
          · exact ⟨e1, e2, e3⟩
          · exact ⟨e1, e2, e3⟩
        have hn' := good'.n
        have h1' := good'.s1
        refine q_whenJ (fun s4 H4 => ∃ ac4 : Addr, s4 = [some (.ref a), some (.ref p), some (.ref ah), some (.int size), some (.int cap), some (.ref ak), some (.ref ad), some (.ref sv), some (.ref ac4), some (.int key), some (.ref acl), some (.bl (x.yes key)), some (.ref afu), x13, some vd, x15, x16] ∧ Gd (some (p, q)) H3 H4 ∧ Own [cc, p, q] H4 ac4 x'.cells) ?_ fun hz => ?_
        · rintro s4 H4 ⟨ac4, rfl, gg, o4⟩
          have c4' := cJ.go gg
          have cq4' := cI.go gg
          have s4' := sI.gd cJ gg
          have ohI : Own [cc, p, q] H4 ah hands := (oh11.go gI (by simp)).gd cI gg
          refine q_told2 (α := Int × Int) (β := Int) (xs := x'.hands) (ys := x'.cells) c4' (el_meth (x := x') (y := ()) (ev_v rfl s4'.rp) ea_nil trivial) (el_meth (x := x') (y := ()) (ev_v rfl s4'.rp) ea_nil trivial) (by rw [same'.2.1]; omega) (by omega) (by show 16 < 17; decide) fun o H5 gg5 => ?_
          have c5' := c4'.go gg5
          have s5' := s4'.gd c4' gg5
          refine s_skip (p := fun b => b = false) c5' (et_orV (a := false) (b := false) (et_notV (a := true) (et_B ((ev_callV (x := (x'.cells, x'.cells, ())) (ea_c (el_meth (x := x') (y := ()) (ev_v rfl s5'.rp) ea_nil trivial).ev (ea_c (ev_v rfl (((o4.gd cq4' gg5).less (m' := [p, q]) (by simp)).rp)) ea_nil)) (by show x'.cells.length ≤ 90000; omega)).imp fun b e => by rw [e]; simp))) fun _ => et_B ((ev_neDV (x := x'.hands) (y := hands) (el_meth (x := x') (y := ()) (ev_v rfl s5'.rp) ea_nil trivial).ev (ev_v rfl (((ohI.gd cq4' gg5).less (m' := [p, q]) (by simp)).rp)) (ok_hands _) (ok_hands _)).imp fun b e => by rw [e, same'.2.1]; simp)) (fun b e => e) fun H6 gg6 => ?_
          have gall := (gg.trans gg5).trans gg6
          exact ⟨x', ac4, _, _, _, _, _, _, _, _, rfl, gI.trans (gall.gr.mono (by simp [Dst.m])), gall.ok dI, sI.gd cJ gall, good', same', o4.gd cq4' (gg5.trans gg6)⟩
        · rcases hx' with ⟨rfl, hv⟩ | ⟨rfl, hv⟩
          · subst hv
            refine et_B (ev_isN0 rfl) H3 .refl cI _ fun b H4 g4 e => ?_
            subst e
            refine iteT ?_
            have cI4 := cI.go g4
            have oc4' := oc''.gd cI g4
            have ocl4' := ocl'.gd cI g4
            refine s_setLV (α := Int) (xs := (x.take1 key).cells) cI4 (el_lcEnum (α := Int) (β := Int) (p := fun acc => acc = (x.take1 key).cells) (fun j acc => acc = (x.take1 key).cells.take j) (ev_v rfl oc4'.rp) (by omega) rfl (fun j n v H5 acc hj g5 c5 r hI => ⟨fun b => b = true, fun y => y = n - ((pointed x.hands x.size key).count (j : Int) : Int), lcT_pair r fun u w ru rw => ⟨rfl, tYes_ok, fun _ => ?_⟩, fun y _ e => ?_, fun z => by cases z⟩) fun acc hI => by rw [hI, List.take_of_length_le (by omega)]) fun ale H5 nale g5 ole => ?_
            · cases rp_int ru
              cases rp_int rw
              exact ev_o ev_vi (ev_count (ev_v rfl (ocl4'.gd cI4 g5).rp) ev_vi)
            · rw [hI, take_snoc (take1_at good key hj), e]
            · exact hz _ _ ⟨ale, rfl, g4.trans g5, ole⟩
          · refine et_B (ev_isN rfl) H3 .refl cI _ fun b H4 g4 e => ?_
            rw [decide_eq_false hv] at e
            subst e
            exact iteF (hz _ _ ⟨ac', rfl, g4, oc''.gd cI g4⟩)
      · have rdp : Rp.rp [p, q] H6' O' vd := by
          have := rp_less (m' := [p, q]) rd (by simp)
          exact this
        by_cases hy : x.yes key = true
        · by_cases hs : x.stuck key = []
          · have e : O' = .non := by rw [hO]; unfold o3; rw [if_pos hy, if_pos hs]
            rw [e] at rdp
            have hvd : vd = .non := rdp
            refine ⟨_, rfl, _, rfl, [p, q], sv, cc, x, key, rfl, cc6.none, ss6, good.ok, hkey, (fun _ _ H7 g7 s7 => ?_), (fun _ h => absurd hs h), fun h => by rw [hy] at h; cases h⟩
            have d7 : DrawAt p q H7 := DrawAt.go (gg6.ok cc5.ok) (fun o e => g7.keep p o e fun z => ss6.nc (by rw [← List.mem_singleton.mp z]; simp)) (fun o e => g7.keep q o e fun z => ss6.nc (by rw [← List.mem_singleton.mp z]; simp))
            have c7 : Cc (some (p, q)) [p, q] H7 := cc_draw d7
            refine ⟨_, rfl, [p, q], .non, .non, vd, rfl, c7.none, hvd, rfl, (fun l z => by cases z), (fun _ H8 g8 => ?_), fun l z => by cases z⟩
            refine ⟨true, rfl, iteF ?_⟩
            subst hvd
            have c8 := c7.go (.pure g8)
            refine et_andV (a := false) (b := false) (et_B (ev_notN0 rfl)) (fun z => by cases z) H8 .refl c8 _ fun b H9 g9 e => ?_
            subst e
            refine iteF (hz _ _ ⟨x.take1 key, rfl, .inl ⟨rfl, rfl⟩, ?_, ?_, ?_, ?_, ?_⟩)
            · exact gI6.trans (((g7.mono (by simp)).trans g8.any).trans (g9.gr.mono (by simp [Dst.m])))
            · exact g9.ok ((Gd.pure g8).ok d7)
            · exact (s7.gd c7 (.pure g8)).gd c8 g9
            · exact ((ocl6.go g7 (by simp)).go g8 (by simp)).go g9.gr (by simp [Dst.m])
            · exact ((oc6.go g7 (by simp)).go g8 (by simp)).go g9.gr (by simp [Dst.m])
          · have e : O' = .list (x.stuck key) := by rw [hO]; unfold o3; rw [if_pos hy, if_neg hs]
            have hvd : vd ≠ .non := by
              rw [e] at rdp
              obtain ⟨b, _, rfl, _⟩ := rp_lst (α := Int) rdp
              exact fun z => by cases z
            refine ⟨_, rfl, _, rfl, [p, q], sv, cc, x, key, rfl, cc6.none, ss6, good.ok, hkey, (fun _ h => absurd h hs), (fun _ _ af H7 g7 naf o7 => ?_), fun h => by rw [hy] at h; cases h⟩
            have g67 : Gd (some (p, q)) H6' H7 := .pure g7
            have c7 := cc6.go g67
            refine ⟨_, rfl, [p, q], .list (x.stuck key), .ref af, vd, rfl, c7.none, (by rw [← e]; exact rp_gd rdp cc6 g67), o7.rp, (fun l z => by cases z; exact ⟨by omega, af, rfl, o7⟩), (fun h => absurd rfl (h _)), fun l z a' ws H8 ea g8 => ?_⟩
            cases z
            cases ea
            refine ⟨true, rfl, iteF ?_⟩
            have g68 : Gd (some (p, q)) H6' (upd H8 af (.lst ws)) := mut_gd (g67.trans (.pure g8)) cc6 naf
            generalize upd H8 af (.lst ws) = H9 at *
            have c9 := cc6.go g68
            have s9 := ss6.gd cc6 g68
            refine et_andV (a := true) (b := false) (et_B ((ev_notN rfl).imp fun b e => by rw [e, decide_eq_false hvd]; rfl)) (fun _ => et_B ((ev_neDV (x := O') (y := O') (fun H10 g10 c10 Q w => ⟨_, rfl, _, rfl, [p, q], sv, cc, x, key, rfl, c10.none, s9.gd c9 g10, good.ok, hkey, (fun _ h => absurd h hs), (fun _ _ af2 H11' g11' _ o11 => w O' (.ref af2) H11' (.pure g11') (by rw [e]; exact o11.rp) rfl), fun h => by rw [hy] at h; cases h⟩) (ev_v rfl (rp_gd rdp cc6 g68)) okO okO).imp fun b e => by rw [e]; simp)) H9 .refl c9 _ fun b H10 g10 e => ?_
            subst e
            have g610 := g68.trans g10
            exact iteF (hz _ _ ⟨x, rfl, .inr ⟨rfl, hvd⟩, gI6.trans (g610.gr.mono (by simp [Dst.m])), g610.ok cc6.ok, ss6.gd cc6 g610, ocl6.gd cq6 g610, oc6.gd cq6 g610⟩)
        · have hyf : x.yes key = false := by simpa using hy
          have e : O' = .no := by rw [hO]; unfold o3; rw [if_neg hy]
          have hvd : vd = .str "no" := by
            rw [e] at rdp
            exact rdp
          refine ⟨_, rfl, _, rfl, [p, q], sv, cc, x, key, rfl, cc6.none, ss6, good.ok, hkey, (fun h => absurd h hy), (fun h => absurd h hy), fun _ H7 g7 => ?_⟩
          have g67 : Gd (some (p, q)) H6' H7 := .pure g7
          have c7 := cc6.go g67
          refine ⟨_, rfl, [p, q], .no, .str "no", vd, rfl, c7.none, hvd, rfl, (fun l z => by cases z), (fun _ H8 g8 => ?_), fun l z => by cases z⟩
          refine ⟨true, rfl, iteF ?_⟩
          have g68 : Gd (some (p, q)) H6' H8 := g67.trans (.pure g8)
          have c9 := cc6.go g68
          have s9 := ss6.gd cc6 g68
          refine et_andV (a := true) (b := false) (et_B ((ev_notN rfl).imp fun b e => by rw [e, hvd]; rfl)) (fun _ => et_B ((ev_neDV (x := O') (y := O') (fun H10 g10 c10 Q w => ⟨_, rfl, _, rfl, [p, q], sv, cc, x, key, rfl, c10.none, s9.gd c9 g10, good.ok, hkey, (fun h => absurd h hy), (fun h => absurd h hy), fun _ H11' g11' => w O' (.str "no") H11' (.pure g11') (by rw [e]; exact rfl) rfl⟩) (ev_v rfl (rp_gd rdp cc6 g68)) okO okO).imp fun b e => by rw [e]; simp)) H8 .refl c9 _ fun b H10 g10 e => ?_
          subst e
          have g610 := g68.trans g10
          exact iteF (hz _ _ ⟨x, rfl, .inr ⟨rfl, by rw [hvd]; exact fun z => by cases z⟩, gI6.trans (g610.gr.mono (by simp [Dst.m])), g610.ok cc6.ok, ss6.gd cc6 g610, ocl6.gd cq6 g610, oc6.gd cq6 g610⟩)
    · rintro s2 H' ⟨x, ac', x9, x10, x11, x12, x13, x14, x15, x16, rfl, g', d', s', good', ⟨e1, e2, e3⟩, oc'⟩
      have c' : Cc (some (p, q)) [p, q] H' := cc_draw d'
      refine s_retV (x := true) c' ((ev_andV (a := true) (b := true) ((ev_callV (x := ([x.size, x.cap], [size, cap], ())) (ea_c (EvL.ev (el_lst (ei_consV (ev_meth (x := x) (y := ()) (ev_v rfl s'.rp) ea_nil trivial) (ei_consV (ev_meth (x := x) (y := ()) (ev_v rfl s'.rp) ea_nil trivial) ei_nil)) fun xs e => by rw [e]; show 2 ≤ 100000; decide)) (ea_c (EvL.ev (el_lst (ei_consV ev_vi (ei_consV ev_vi ei_nil)) fun xs e => by rw [e]; show 2 ≤ 100000; decide)) ea_nil)) (by show 2 ≤ 90000; decide)).imp fun b e => by rw [e, e1, e3]; simp) fun _ => ev_isL (b := true) (el_meth (x := x) (y := ()) (ev_v rfl s'.rp) ea_nil trivial).ev)) fun v H3 g3 r => ?_
      cases rp_bool r
      exact k _

end
end KW

namespace KW
open PySem L2 KS
theorem all_mk {P : Program} {w : World} {K : PySem.W.Frag} {h : Heap} {mg : Str → Option Value} {fa : Addr} (X : K.In h) (G : h.Ns mainGlobals mg) (hfa : mg "law" = some (.ref fa))
    {c_SieveError : Addr} {c_BadSieve : Addr} {c_BadKey : Addr} {c_NotIn : Addr} {c_Stuck : Addr} {c_Unlike : Addr} {c_NoSieve : Addr} {c_BadText : Addr} {c_Sieve : Addr} {f_need_key : Addr} {od_need_key an_need_key : Option Addr} {sl_need_key : Array (Option Value)} {oc_need_key kV_need_key dc_need_key pm_need_key cd_need_key ct_need_key : Value} {f_pointed : Addr} {od_pointed an_pointed : Option Addr} {sl_pointed : Array (Option Value)} {oc_pointed kV_pointed dc_pointed pm_pointed cd_pointed ct_pointed : Value} {f__law_mix : Addr} {od__law_mix an__law_mix : Option Addr} {sl__law_mix : Array (Option Value)} {oc__law_mix kV__law_mix dc__law_mix pm__law_mix cd__law_mix ct__law_mix : Value} {f__law_next : Addr} {od__law_next an__law_next : Option Addr} {sl__law_next : Array (Option Value)} {oc__law_next kV__law_next dc__law_next pm__law_next cd__law_next ct__law_next : Value} {f__law_hands : Addr} {od__law_hands an__law_hands : Option Addr} {sl__law_hands : Array (Option Value)} {oc__law_hands kV__law_hands dc__law_hands pm__law_hands cd__law_hands ct__law_hands : Value} {f__law_keys : Addr} {od__law_keys an__law_keys : Option Addr} {sl__law_keys : Array (Option Value)} {oc__law_keys kV__law_keys dc__law_keys pm__law_keys cd__law_keys ct__law_keys : Value} {f__law_cells : Addr} {od__law_cells an__law_cells : Option Addr} {sl__law_cells : Array (Option Value)} {oc__law_cells kV__law_cells dc__law_cells pm__law_cells cd__law_cells ct__law_cells : Value} {f__law_are : Addr} {od__law_are an__law_are : Option Addr} {sl__law_are : Array (Option Value)} {oc__law_are kV__law_are dc__law_are pm__law_are cd__law_are ct__law_are : Value} {f_BadSieve_init : Addr} {od_BadSieve_init an_BadSieve_init : Option Addr} {sl_BadSieve_init : Array (Option Value)} {oc_BadSieve_init kV_BadSieve_init dc_BadSieve_init pm_BadSieve_init cd_BadSieve_init ct_BadSieve_init : Value} {f_Stuck_init : Addr} {od_Stuck_init an_Stuck_init : Option Addr} {sl_Stuck_init : Array (Option Value)} {oc_Stuck_init kV_Stuck_init dc_Stuck_init pm_Stuck_init cd_Stuck_init ct_Stuck_init : Value} {f_need : Addr} {od_need an_need : Option Addr} {sl_need : Array (Option Value)} {oc_need kV_need dc_need pm_need cd_need ct_need : Value} {f_need_size : Addr} {od_need_size an_need_size : Option Addr} {sl_need_size : Array (Option Value)} {oc_need_size kV_need_size dc_need_size pm_need_size cd_need_size ct_need_size : Value} {f_need_cap : Addr} {od_need_cap an_need_cap : Option Addr} {sl_need_cap : Array (Option Value)} {oc_need_cap kV_need_cap dc_need_cap pm_need_cap cd_need_cap ct_need_cap : Value} {f_need_hands : Addr} {od_need_hands an_need_hands : Option Addr} {sl_need_hands : Array (Option Value)} {oc_need_hands kV_need_hands dc_need_hands pm_need_hands cd_need_hands ct_need_hands : Value} {f_hands_by_cell : Addr} {od_hands_by_cell an_hands_by_cell : Option Addr} {sl_hands_by_cell : Array (Option Value)} {oc_hands_by_cell kV_hands_by_cell dc_hands_by_cell pm_hands_by_cell cd_hands_by_cell ct_hands_by_cell : Value} {f_Sieve_size : Addr} {od_Sieve_size an_Sieve_size : Option Addr} {sl_Sieve_size : Array (Option Value)} {oc_Sieve_size kV_Sieve_size dc_Sieve_size pm_Sieve_size cd_Sieve_size ct_Sieve_size : Value} {f_Sieve_cap : Addr} {od_Sieve_cap an_Sieve_cap : Option Addr} {sl_Sieve_cap : Array (Option Value)} {oc_Sieve_cap kV_Sieve_cap dc_Sieve_cap pm_Sieve_cap cd_Sieve_cap ct_Sieve_cap : Value} {f_Sieve_hands : Addr} {od_Sieve_hands an_Sieve_hands : Option Addr} {sl_Sieve_hands : Array (Option Value)} {oc_Sieve_hands kV_Sieve_hands dc_Sieve_hands pm_Sieve_hands cd_Sieve_hands ct_Sieve_hands : Value} {f_Sieve_counts : Addr} {od_Sieve_counts an_Sieve_counts : Option Addr} {sl_Sieve_counts : Array (Option Value)} {oc_Sieve_counts kV_Sieve_counts dc_Sieve_counts pm_Sieve_counts cd_Sieve_counts ct_Sieve_counts : Value} {f_Sieve_init : Addr} {od_Sieve_init an_Sieve_init : Option Addr} {sl_Sieve_init : Array (Option Value)} {oc_Sieve_init kV_Sieve_init dc_Sieve_init pm_Sieve_init cd_Sieve_init ct_Sieve_init : Value} {f_Sieve_put : Addr} {od_Sieve_put an_Sieve_put : Option Addr} {sl_Sieve_put : Array (Option Value)} {oc_Sieve_put kV_Sieve_put dc_Sieve_put pm_Sieve_put cd_Sieve_put ct_Sieve_put : Value} {f_Sieve_says : Addr} {od_Sieve_says an_Sieve_says : Option Addr} {sl_Sieve_says : Array (Option Value)} {oc_Sieve_says kV_Sieve_says dc_Sieve_says pm_Sieve_says cd_Sieve_says ct_Sieve_says : Value} {f_Sieve_stuck_cells : Addr} {od_Sieve_stuck_cells an_Sieve_stuck_cells : Option Addr} {sl_Sieve_stuck_cells : Array (Option Value)} {oc_Sieve_stuck_cells kV_Sieve_stuck_cells dc_Sieve_stuck_cells pm_Sieve_stuck_cells cd_Sieve_stuck_cells ct_Sieve_stuck_cells : Value} {f_Sieve_need_takeable : Addr} {od_Sieve_need_takeable an_Sieve_need_takeable : Option Addr} {sl_Sieve_need_takeable : Array (Option Value)} {oc_Sieve_need_takeable kV_Sieve_need_takeable dc_Sieve_need_takeable pm_Sieve_need_takeable cd_Sieve_need_takeable ct_Sieve_need_takeable : Value} {f_Sieve_take : Addr} {od_Sieve_take an_Sieve_take : Option Addr} {sl_Sieve_take : Array (Option Value)} {oc_Sieve_take kV_Sieve_take dc_Sieve_take pm_Sieve_take cd_Sieve_take ct_Sieve_take : Value} {f__law_counts : Addr} {od__law_counts an__law_counts : Option Addr} {sl__law_counts : Array (Option Value)} {oc__law_counts kV__law_counts dc__law_counts pm__law_counts cd__law_counts ct__law_counts : Value} {f_built : Addr} {od_built an_built : Option Addr} {sl_built : Array (Option Value)} {oc_built kV_built dc_built pm_built cd_built ct_built : Value} {f__law_says : Addr} {od__law_says an__law_says : Option Addr} {sl__law_says : Array (Option Value)} {oc__law_says kV__law_says dc__law_says pm__law_says cd__law_says ct__law_says : Value} {f_NoSieve_init : Addr} {od_NoSieve_init an_NoSieve_init : Option Addr} {sl_NoSieve_init : Array (Option Value)} {oc_NoSieve_init kV_NoSieve_init dc_NoSieve_init pm_NoSieve_init cd_NoSieve_init ct_NoSieve_init : Value} {f_BadText_init : Addr} {od_BadText_init an_BadText_init : Option Addr} {sl_BadText_init : Array (Option Value)} {oc_BadText_init kV_BadText_init dc_BadText_init pm_BadText_init cd_BadText_init ct_BadText_init : Value} {f__law_took : Addr} {od__law_took an__law_took : Option Addr} {sl__law_took : Array (Option Value)} {oc__law_took kV__law_took dc__law_took pm__law_took cd__law_took ct__law_took : Value} {f__law_is_refused : Addr} {od__law_is_refused an__law_is_refused : Option Addr} {sl__law_is_refused : Array (Option Value)} {oc__law_is_refused kV__law_is_refused dc__law_is_refused pm__law_is_refused cd__law_is_refused ct__law_is_refused : Value} {f_law : Addr} {od_law an_law : Option Addr} {sl_law : Array (Option Value)} {oc_law kV_law dc_law pm_law cd_law ct_law : Value} {tg_MOST_CAP : Tok} {tg_MOST_HANDS : Tok} {tg_MOST_SIZE : Tok} {tg_RING : Tok} {nm_BadSieve q_BadSieve : Str} {N_BadSieve : Addr} {bs_BadSieve sub_BadSieve : List Value} {sn_BadSieve : List Str} {ab_BadSieve : Bool} {col_BadSieve : Option Bool} {dd_BadSieve : Option Addr} {m0_BadSieve m1_BadSieve m2_BadSieve m3_BadSieve m5_BadSieve : Option Value} {nm_BadText q_BadText : Str} {N_BadText : Addr} {bs_BadText sub_BadText : List Value} {sn_BadText : List Str} {ab_BadText : Bool} {col_BadText : Option Bool} {dd_BadText : Option Addr} {m0_BadText m1_BadText m2_BadText m3_BadText m5_BadText : Option Value} {nm_NoSieve q_NoSieve : Str} {N_NoSieve : Addr} {bs_NoSieve sub_NoSieve : List Value} {sn_NoSieve : List Str} {ab_NoSieve : Bool} {col_NoSieve : Option Bool} {dd_NoSieve : Option Addr} {m0_NoSieve m1_NoSieve m2_NoSieve m3_NoSieve m5_NoSieve : Option Value} {nm_Stuck q_Stuck : Str} {N_Stuck : Addr} {bs_Stuck sub_Stuck : List Value} {sn_Stuck : List Str} {ab_Stuck : Bool} {col_Stuck : Option Bool} {dd_Stuck : Option Addr} {m0_Stuck m1_Stuck m2_Stuck m3_Stuck m5_Stuck : Option Value}
    (a_SieveError : PySem.W.nsIn K mainGlobals "SieveError" = some (some (.ref c_SieveError)))
    (a_BadSieve : PySem.W.nsIn K mainGlobals "BadSieve" = some (some (.ref c_BadSieve)))
    (a_BadKey : PySem.W.nsIn K mainGlobals "BadKey" = some (some (.ref c_BadKey)))
    (a_NotIn : PySem.W.nsIn K mainGlobals "NotIn" = some (some (.ref c_NotIn)))
    (a_Stuck : PySem.W.nsIn K mainGlobals "Stuck" = some (some (.ref c_Stuck)))
    (a_Unlike : PySem.W.nsIn K mainGlobals "Unlike" = some (some (.ref c_Unlike)))
    (a_NoSieve : PySem.W.nsIn K mainGlobals "NoSieve" = some (some (.ref c_NoSieve)))
    (a_BadText : PySem.W.nsIn K mainGlobals "BadText" = some (some (.ref c_BadText)))
    (a_Sieve : PySem.W.nsIn K mainGlobals "Sieve" = some (some (.ref c_Sieve)))
    (pg_Sieve : PySem.W.plainGet K c_Sieve Str.empty = true)
    (hd_Sieve : PySem.W.hasDictIn K c_Sieve = true)
    (po_Sieve : PySem.W.plainOver K c_Sieve = true)
    (sa_Sieve : PySem.W.findIn K (.ref c_Sieve) "__setattr__" = some (some (.builtin "object.__setattr__")))
    (na_Sieve_many : PySem.W.findIn K (.ref c_Sieve) "many" = some none)
    (na_Sieve_pointers : PySem.W.findIn K (.ref c_Sieve) "pointers" = some none)
    (na_Sieve_most : PySem.W.findIn K (.ref c_Sieve) "most" = some none)
    (na_Sieve_cells : PySem.W.findIn K (.ref c_Sieve) "cells" = some none)
    (a_need_key : PySem.W.nsIn K mainGlobals "need_key" = some (some (.ref f_need_key)))
    (l_need_key : K.lookup f_need_key = some ⟨oc_need_key, od_need_key, .func (PySem.W.fnOf "need_key" "need_key" (defArgs s_need_key) (defBody s_need_key) (defScope s_need_key) .none kV_need_key dc_need_key pm_need_key an_need_key cd_need_key ct_need_key), sl_need_key⟩)
    (o_need_key : PySem.W.codeIn K cd_need_key "need_key" = true)
    (q_need_key : PySem.W.keepIn K (.ref f_need_key) = true)
    (a_pointed : PySem.W.nsIn K mainGlobals "pointed" = some (some (.ref f_pointed)))
    (l_pointed : K.lookup f_pointed = some ⟨oc_pointed, od_pointed, .func (PySem.W.fnOf "pointed" "pointed" (defArgs s_pointed) (defBody s_pointed) (defScope s_pointed) .none kV_pointed dc_pointed pm_pointed an_pointed cd_pointed ct_pointed), sl_pointed⟩)
    (o_pointed : PySem.W.codeIn K cd_pointed "pointed" = true)
    (q_pointed : PySem.W.keepIn K (.ref f_pointed) = true)
    (a__law_mix : PySem.W.nsIn K mainGlobals "_law_mix" = some (some (.ref f__law_mix)))
    (l__law_mix : K.lookup f__law_mix = some ⟨oc__law_mix, od__law_mix, .func (PySem.W.fnOf "_law_mix" "_law_mix" (defArgs s__law_mix) (defBody s__law_mix) (defScope s__law_mix) .none kV__law_mix dc__law_mix pm__law_mix an__law_mix cd__law_mix ct__law_mix), sl__law_mix⟩)
    (o__law_mix : PySem.W.codeIn K cd__law_mix "_law_mix" = true)
    (q__law_mix : PySem.W.keepIn K (.ref f__law_mix) = true)
    (a__law_next : PySem.W.nsIn K mainGlobals "_law_next" = some (some (.ref f__law_next)))
    (l__law_next : K.lookup f__law_next = some ⟨oc__law_next, od__law_next, .func (PySem.W.fnOf "_law_next" "_law_next" (defArgs s__law_next) (defBody s__law_next) (defScope s__law_next) .none kV__law_next dc__law_next pm__law_next an__law_next cd__law_next ct__law_next), sl__law_next⟩)
    (o__law_next : PySem.W.codeIn K cd__law_next "_law_next" = true)
    (q__law_next : PySem.W.keepIn K (.ref f__law_next) = true)
    (a__law_hands : PySem.W.nsIn K mainGlobals "_law_hands" = some (some (.ref f__law_hands)))
    (l__law_hands : K.lookup f__law_hands = some ⟨oc__law_hands, od__law_hands, .func (PySem.W.fnOf "_law_hands" "_law_hands" (defArgs s__law_hands) (defBody s__law_hands) (defScope s__law_hands) .none kV__law_hands dc__law_hands pm__law_hands an__law_hands cd__law_hands ct__law_hands), sl__law_hands⟩)
    (o__law_hands : PySem.W.codeIn K cd__law_hands "_law_hands" = true)
    (q__law_hands : PySem.W.keepIn K (.ref f__law_hands) = true)
    (a__law_keys : PySem.W.nsIn K mainGlobals "_law_keys" = some (some (.ref f__law_keys)))
    (l__law_keys : K.lookup f__law_keys = some ⟨oc__law_keys, od__law_keys, .func (PySem.W.fnOf "_law_keys" "_law_keys" (defArgs s__law_keys) (defBody s__law_keys) (defScope s__law_keys) .none kV__law_keys dc__law_keys pm__law_keys an__law_keys cd__law_keys ct__law_keys), sl__law_keys⟩)
    (o__law_keys : PySem.W.codeIn K cd__law_keys "_law_keys" = true)
    (q__law_keys : PySem.W.keepIn K (.ref f__law_keys) = true)
    (a__law_cells : PySem.W.nsIn K mainGlobals "_law_cells" = some (some (.ref f__law_cells)))
    (l__law_cells : K.lookup f__law_cells = some ⟨oc__law_cells, od__law_cells, .func (PySem.W.fnOf "_law_cells" "_law_cells" (defArgs s__law_cells) (defBody s__law_cells) (defScope s__law_cells) .none kV__law_cells dc__law_cells pm__law_cells an__law_cells cd__law_cells ct__law_cells), sl__law_cells⟩)
    (o__law_cells : PySem.W.codeIn K cd__law_cells "_law_cells" = true)
    (q__law_cells : PySem.W.keepIn K (.ref f__law_cells) = true)
    (a__law_are : PySem.W.nsIn K mainGlobals "_law_are" = some (some (.ref f__law_are)))
    (l__law_are : K.lookup f__law_are = some ⟨oc__law_are, od__law_are, .func (PySem.W.fnOf "_law_are" "_law_are" (defArgs s__law_are) (defBody s__law_are) (defScope s__law_are) .none kV__law_are dc__law_are pm__law_are an__law_are cd__law_are ct__law_are), sl__law_are⟩)
    (o__law_are : PySem.W.codeIn K cd__law_are "_law_are" = true)
    (q__law_are : PySem.W.keepIn K (.ref f__law_are) = true)
    (a_BadSieve_init : PySem.W.findIn K (.ref c_BadSieve) "__init__" = some (some (.ref f_BadSieve_init)))
    (i_BadSieve_init : PySem.W.isFn K (.ref f_BadSieve_init) = true)
    (l_BadSieve_init : K.lookup f_BadSieve_init = some ⟨oc_BadSieve_init, od_BadSieve_init, .func (PySem.W.fnOf "__init__" "BadSieve.__init__" (defArgs s_BadSieve_init) (defBody s_BadSieve_init) (defScope s_BadSieve_init) .none kV_BadSieve_init dc_BadSieve_init pm_BadSieve_init an_BadSieve_init cd_BadSieve_init ct_BadSieve_init), sl_BadSieve_init⟩)
    (o_BadSieve_init : PySem.W.codeIn K cd_BadSieve_init "BadSieve.__init__" = true)
    (q_BadSieve_init : PySem.W.keepIn K (.ref f_BadSieve_init) = true)
    (a_Stuck_init : PySem.W.findIn K (.ref c_Stuck) "__init__" = some (some (.ref f_Stuck_init)))
    (i_Stuck_init : PySem.W.isFn K (.ref f_Stuck_init) = true)
    (l_Stuck_init : K.lookup f_Stuck_init = some ⟨oc_Stuck_init, od_Stuck_init, .func (PySem.W.fnOf "__init__" "Stuck.__init__" (defArgs s_Stuck_init) (defBody s_Stuck_init) (defScope s_Stuck_init) .none kV_Stuck_init dc_Stuck_init pm_Stuck_init an_Stuck_init cd_Stuck_init ct_Stuck_init), sl_Stuck_init⟩)
    (o_Stuck_init : PySem.W.codeIn K cd_Stuck_init "Stuck.__init__" = true)
    (q_Stuck_init : PySem.W.keepIn K (.ref f_Stuck_init) = true)
    (a_need : PySem.W.nsIn K mainGlobals "need" = some (some (.ref f_need)))
    (l_need : K.lookup f_need = some ⟨oc_need, od_need, .func (PySem.W.fnOf "need" "need" (defArgs s_need) (defBody s_need) (defScope s_need) .none kV_need dc_need pm_need an_need cd_need ct_need), sl_need⟩)
    (o_need : PySem.W.codeIn K cd_need "need" = true)
    (q_need : PySem.W.keepIn K (.ref f_need) = true)
    (a_need_size : PySem.W.nsIn K mainGlobals "need_size" = some (some (.ref f_need_size)))
    (l_need_size : K.lookup f_need_size = some ⟨oc_need_size, od_need_size, .func (PySem.W.fnOf "need_size" "need_size" (defArgs s_need_size) (defBody s_need_size) (defScope s_need_size) .none kV_need_size dc_need_size pm_need_size an_need_size cd_need_size ct_need_size), sl_need_size⟩)
    (o_need_size : PySem.W.codeIn K cd_need_size "need_size" = true)
    (q_need_size : PySem.W.keepIn K (.ref f_need_size) = true)
    (a_need_cap : PySem.W.nsIn K mainGlobals "need_cap" = some (some (.ref f_need_cap)))
    (l_need_cap : K.lookup f_need_cap = some ⟨oc_need_cap, od_need_cap, .func (PySem.W.fnOf "need_cap" "need_cap" (defArgs s_need_cap) (defBody s_need_cap) (defScope s_need_cap) .none kV_need_cap dc_need_cap pm_need_cap an_need_cap cd_need_cap ct_need_cap), sl_need_cap⟩)
    (o_need_cap : PySem.W.codeIn K cd_need_cap "need_cap" = true)
    (q_need_cap : PySem.W.keepIn K (.ref f_need_cap) = true)
    (a_need_hands : PySem.W.nsIn K mainGlobals "need_hands" = some (some (.ref f_need_hands)))
    (l_need_hands : K.lookup f_need_hands = some ⟨oc_need_hands, od_need_hands, .func (PySem.W.fnOf "need_hands" "need_hands" (defArgs s_need_hands) (defBody s_need_hands) (defScope s_need_hands) .none kV_need_hands dc_need_hands pm_need_hands an_need_hands cd_need_hands ct_need_hands), sl_need_hands⟩)
    (o_need_hands : PySem.W.codeIn K cd_need_hands "need_hands" = true)
    (q_need_hands : PySem.W.keepIn K (.ref f_need_hands) = true)
    (a_hands_by_cell : PySem.W.nsIn K mainGlobals "hands_by_cell" = some (some (.ref f_hands_by_cell)))
    (l_hands_by_cell : K.lookup f_hands_by_cell = some ⟨oc_hands_by_cell, od_hands_by_cell, .func (PySem.W.fnOf "hands_by_cell" "hands_by_cell" (defArgs s_hands_by_cell) (defBody s_hands_by_cell) (defScope s_hands_by_cell) .none kV_hands_by_cell dc_hands_by_cell pm_hands_by_cell an_hands_by_cell cd_hands_by_cell ct_hands_by_cell), sl_hands_by_cell⟩)
    (o_hands_by_cell : PySem.W.codeIn K cd_hands_by_cell "hands_by_cell" = true)
    (q_hands_by_cell : PySem.W.keepIn K (.ref f_hands_by_cell) = true)
    (a_Sieve_size : PySem.W.findIn K (.ref c_Sieve) "size" = some (some (.ref f_Sieve_size)))
    (i_Sieve_size : PySem.W.isFn K (.ref f_Sieve_size) = true)
    (l_Sieve_size : K.lookup f_Sieve_size = some ⟨oc_Sieve_size, od_Sieve_size, .func (PySem.W.fnOf "size" "Sieve.size" (defArgs s_Sieve_size) (defBody s_Sieve_size) (defScope s_Sieve_size) .none kV_Sieve_size dc_Sieve_size pm_Sieve_size an_Sieve_size cd_Sieve_size ct_Sieve_size), sl_Sieve_size⟩)
    (o_Sieve_size : PySem.W.codeIn K cd_Sieve_size "Sieve.size" = true)
    (q_Sieve_size : PySem.W.keepIn K (.ref f_Sieve_size) = true)
    (a_Sieve_cap : PySem.W.findIn K (.ref c_Sieve) "cap" = some (some (.ref f_Sieve_cap)))
    (i_Sieve_cap : PySem.W.isFn K (.ref f_Sieve_cap) = true)
    (l_Sieve_cap : K.lookup f_Sieve_cap = some ⟨oc_Sieve_cap, od_Sieve_cap, .func (PySem.W.fnOf "cap" "Sieve.cap" (defArgs s_Sieve_cap) (defBody s_Sieve_cap) (defScope s_Sieve_cap) .none kV_Sieve_cap dc_Sieve_cap pm_Sieve_cap an_Sieve_cap cd_Sieve_cap ct_Sieve_cap), sl_Sieve_cap⟩)
    (o_Sieve_cap : PySem.W.codeIn K cd_Sieve_cap "Sieve.cap" = true)
    (q_Sieve_cap : PySem.W.keepIn K (.ref f_Sieve_cap) = true)
    (a_Sieve_hands : PySem.W.findIn K (.ref c_Sieve) "hands" = some (some (.ref f_Sieve_hands)))
    (i_Sieve_hands : PySem.W.isFn K (.ref f_Sieve_hands) = true)
    (l_Sieve_hands : K.lookup f_Sieve_hands = some ⟨oc_Sieve_hands, od_Sieve_hands, .func (PySem.W.fnOf "hands" "Sieve.hands" (defArgs s_Sieve_hands) (defBody s_Sieve_hands) (defScope s_Sieve_hands) .none kV_Sieve_hands dc_Sieve_hands pm_Sieve_hands an_Sieve_hands cd_Sieve_hands ct_Sieve_hands), sl_Sieve_hands⟩)
    (o_Sieve_hands : PySem.W.codeIn K cd_Sieve_hands "Sieve.hands" = true)
    (q_Sieve_hands : PySem.W.keepIn K (.ref f_Sieve_hands) = true)
    (a_Sieve_counts : PySem.W.findIn K (.ref c_Sieve) "counts" = some (some (.ref f_Sieve_counts)))
    (i_Sieve_counts : PySem.W.isFn K (.ref f_Sieve_counts) = true)
    (l_Sieve_counts : K.lookup f_Sieve_counts = some ⟨oc_Sieve_counts, od_Sieve_counts, .func (PySem.W.fnOf "counts" "Sieve.counts" (defArgs s_Sieve_counts) (defBody s_Sieve_counts) (defScope s_Sieve_counts) .none kV_Sieve_counts dc_Sieve_counts pm_Sieve_counts an_Sieve_counts cd_Sieve_counts ct_Sieve_counts), sl_Sieve_counts⟩)
    (o_Sieve_counts : PySem.W.codeIn K cd_Sieve_counts "Sieve.counts" = true)
    (q_Sieve_counts : PySem.W.keepIn K (.ref f_Sieve_counts) = true)
    (a_Sieve_init : PySem.W.findIn K (.ref c_Sieve) "__init__" = some (some (.ref f_Sieve_init)))
    (i_Sieve_init : PySem.W.isFn K (.ref f_Sieve_init) = true)
    (l_Sieve_init : K.lookup f_Sieve_init = some ⟨oc_Sieve_init, od_Sieve_init, .func (PySem.W.fnOf "__init__" "Sieve.__init__" (defArgs s_Sieve_init) (defBody s_Sieve_init) (defScope s_Sieve_init) .none kV_Sieve_init dc_Sieve_init pm_Sieve_init an_Sieve_init cd_Sieve_init ct_Sieve_init), sl_Sieve_init⟩)
    (o_Sieve_init : PySem.W.codeIn K cd_Sieve_init "Sieve.__init__" = true)
    (q_Sieve_init : PySem.W.keepIn K (.ref f_Sieve_init) = true)
    (a_Sieve_put : PySem.W.findIn K (.ref c_Sieve) "put" = some (some (.ref f_Sieve_put)))
    (i_Sieve_put : PySem.W.isFn K (.ref f_Sieve_put) = true)
    (l_Sieve_put : K.lookup f_Sieve_put = some ⟨oc_Sieve_put, od_Sieve_put, .func (PySem.W.fnOf "put" "Sieve.put" (defArgs s_Sieve_put) (defBody s_Sieve_put) (defScope s_Sieve_put) .none kV_Sieve_put dc_Sieve_put pm_Sieve_put an_Sieve_put cd_Sieve_put ct_Sieve_put), sl_Sieve_put⟩)
    (o_Sieve_put : PySem.W.codeIn K cd_Sieve_put "Sieve.put" = true)
    (q_Sieve_put : PySem.W.keepIn K (.ref f_Sieve_put) = true)
    (a_Sieve_says : PySem.W.findIn K (.ref c_Sieve) "says" = some (some (.ref f_Sieve_says)))
    (i_Sieve_says : PySem.W.isFn K (.ref f_Sieve_says) = true)
    (l_Sieve_says : K.lookup f_Sieve_says = some ⟨oc_Sieve_says, od_Sieve_says, .func (PySem.W.fnOf "says" "Sieve.says" (defArgs s_Sieve_says) (defBody s_Sieve_says) (defScope s_Sieve_says) .none kV_Sieve_says dc_Sieve_says pm_Sieve_says an_Sieve_says cd_Sieve_says ct_Sieve_says), sl_Sieve_says⟩)
    (o_Sieve_says : PySem.W.codeIn K cd_Sieve_says "Sieve.says" = true)
    (q_Sieve_says : PySem.W.keepIn K (.ref f_Sieve_says) = true)
    (a_Sieve_stuck_cells : PySem.W.findIn K (.ref c_Sieve) "stuck_cells" = some (some (.ref f_Sieve_stuck_cells)))
    (i_Sieve_stuck_cells : PySem.W.isFn K (.ref f_Sieve_stuck_cells) = true)
    (l_Sieve_stuck_cells : K.lookup f_Sieve_stuck_cells = some ⟨oc_Sieve_stuck_cells, od_Sieve_stuck_cells, .func (PySem.W.fnOf "stuck_cells" "Sieve.stuck_cells" (defArgs s_Sieve_stuck_cells) (defBody s_Sieve_stuck_cells) (defScope s_Sieve_stuck_cells) .none kV_Sieve_stuck_cells dc_Sieve_stuck_cells pm_Sieve_stuck_cells an_Sieve_stuck_cells cd_Sieve_stuck_cells ct_Sieve_stuck_cells), sl_Sieve_stuck_cells⟩)
    (o_Sieve_stuck_cells : PySem.W.codeIn K cd_Sieve_stuck_cells "Sieve.stuck_cells" = true)
    (q_Sieve_stuck_cells : PySem.W.keepIn K (.ref f_Sieve_stuck_cells) = true)
    (a_Sieve_need_takeable : PySem.W.findIn K (.ref c_Sieve) "need_takeable" = some (some (.ref f_Sieve_need_takeable)))
    (i_Sieve_need_takeable : PySem.W.isFn K (.ref f_Sieve_need_takeable) = true)
    (l_Sieve_need_takeable : K.lookup f_Sieve_need_takeable = some ⟨oc_Sieve_need_takeable, od_Sieve_need_takeable, .func (PySem.W.fnOf "need_takeable" "Sieve.need_takeable" (defArgs s_Sieve_need_takeable) (defBody s_Sieve_need_takeable) (defScope s_Sieve_need_takeable) .none kV_Sieve_need_takeable dc_Sieve_need_takeable pm_Sieve_need_takeable an_Sieve_need_takeable cd_Sieve_need_takeable ct_Sieve_need_takeable), sl_Sieve_need_takeable⟩)
    (o_Sieve_need_takeable : PySem.W.codeIn K cd_Sieve_need_takeable "Sieve.need_takeable" = true)
    (q_Sieve_need_takeable : PySem.W.keepIn K (.ref f_Sieve_need_takeable) = true)
    (a_Sieve_take : PySem.W.findIn K (.ref c_Sieve) "take" = some (some (.ref f_Sieve_take)))
    (i_Sieve_take : PySem.W.isFn K (.ref f_Sieve_take) = true)
    (l_Sieve_take : K.lookup f_Sieve_take = some ⟨oc_Sieve_take, od_Sieve_take, .func (PySem.W.fnOf "take" "Sieve.take" (defArgs s_Sieve_take) (defBody s_Sieve_take) (defScope s_Sieve_take) .none kV_Sieve_take dc_Sieve_take pm_Sieve_take an_Sieve_take cd_Sieve_take ct_Sieve_take), sl_Sieve_take⟩)
    (o_Sieve_take : PySem.W.codeIn K cd_Sieve_take "Sieve.take" = true)
    (q_Sieve_take : PySem.W.keepIn K (.ref f_Sieve_take) = true)
    (a__law_counts : PySem.W.nsIn K mainGlobals "_law_counts" = some (some (.ref f__law_counts)))
    (l__law_counts : K.lookup f__law_counts = some ⟨oc__law_counts, od__law_counts, .func (PySem.W.fnOf "_law_counts" "_law_counts" (defArgs s__law_counts) (defBody s__law_counts) (defScope s__law_counts) .none kV__law_counts dc__law_counts pm__law_counts an__law_counts cd__law_counts ct__law_counts), sl__law_counts⟩)
    (o__law_counts : PySem.W.codeIn K cd__law_counts "_law_counts" = true)
    (q__law_counts : PySem.W.keepIn K (.ref f__law_counts) = true)
    (a_built : PySem.W.nsIn K mainGlobals "built" = some (some (.ref f_built)))
    (l_built : K.lookup f_built = some ⟨oc_built, od_built, .func (PySem.W.fnOf "built" "built" (defArgs s_built) (defBody s_built) (defScope s_built) .none kV_built dc_built pm_built an_built cd_built ct_built), sl_built⟩)
    (o_built : PySem.W.codeIn K cd_built "built" = true)
    (q_built : PySem.W.keepIn K (.ref f_built) = true)
    (a__law_says : PySem.W.nsIn K mainGlobals "_law_says" = some (some (.ref f__law_says)))
    (l__law_says : K.lookup f__law_says = some ⟨oc__law_says, od__law_says, .func (PySem.W.fnOf "_law_says" "_law_says" (defArgs s__law_says) (defBody s__law_says) (defScope s__law_says) .none kV__law_says dc__law_says pm__law_says an__law_says cd__law_says ct__law_says), sl__law_says⟩)
    (o__law_says : PySem.W.codeIn K cd__law_says "_law_says" = true)
    (q__law_says : PySem.W.keepIn K (.ref f__law_says) = true)
    (a_NoSieve_init : PySem.W.findIn K (.ref c_NoSieve) "__init__" = some (some (.ref f_NoSieve_init)))
    (i_NoSieve_init : PySem.W.isFn K (.ref f_NoSieve_init) = true)
    (l_NoSieve_init : K.lookup f_NoSieve_init = some ⟨oc_NoSieve_init, od_NoSieve_init, .func (PySem.W.fnOf "__init__" "NoSieve.__init__" (defArgs s_NoSieve_init) (defBody s_NoSieve_init) (defScope s_NoSieve_init) .none kV_NoSieve_init dc_NoSieve_init pm_NoSieve_init an_NoSieve_init cd_NoSieve_init ct_NoSieve_init), sl_NoSieve_init⟩)
    (o_NoSieve_init : PySem.W.codeIn K cd_NoSieve_init "NoSieve.__init__" = true)
    (q_NoSieve_init : PySem.W.keepIn K (.ref f_NoSieve_init) = true)
    (a_BadText_init : PySem.W.findIn K (.ref c_BadText) "__init__" = some (some (.ref f_BadText_init)))
    (i_BadText_init : PySem.W.isFn K (.ref f_BadText_init) = true)
    (l_BadText_init : K.lookup f_BadText_init = some ⟨oc_BadText_init, od_BadText_init, .func (PySem.W.fnOf "__init__" "BadText.__init__" (defArgs s_BadText_init) (defBody s_BadText_init) (defScope s_BadText_init) .none kV_BadText_init dc_BadText_init pm_BadText_init an_BadText_init cd_BadText_init ct_BadText_init), sl_BadText_init⟩)
    (o_BadText_init : PySem.W.codeIn K cd_BadText_init "BadText.__init__" = true)
    (q_BadText_init : PySem.W.keepIn K (.ref f_BadText_init) = true)
    (a__law_took : PySem.W.nsIn K mainGlobals "_law_took" = some (some (.ref f__law_took)))
    (l__law_took : K.lookup f__law_took = some ⟨oc__law_took, od__law_took, .func (PySem.W.fnOf "_law_took" "_law_took" (defArgs s__law_took) (defBody s__law_took) (defScope s__law_took) .none kV__law_took dc__law_took pm__law_took an__law_took cd__law_took ct__law_took), sl__law_took⟩)
    (o__law_took : PySem.W.codeIn K cd__law_took "_law_took" = true)
    (q__law_took : PySem.W.keepIn K (.ref f__law_took) = true)
    (a__law_is_refused : PySem.W.nsIn K mainGlobals "_law_is_refused" = some (some (.ref f__law_is_refused)))
    (l__law_is_refused : K.lookup f__law_is_refused = some ⟨oc__law_is_refused, od__law_is_refused, .func (PySem.W.fnOf "_law_is_refused" "_law_is_refused" (defArgs s__law_is_refused) (defBody s__law_is_refused) (defScope s__law_is_refused) .none kV__law_is_refused dc__law_is_refused pm__law_is_refused an__law_is_refused cd__law_is_refused ct__law_is_refused), sl__law_is_refused⟩)
    (o__law_is_refused : PySem.W.codeIn K cd__law_is_refused "_law_is_refused" = true)
    (q__law_is_refused : PySem.W.keepIn K (.ref f__law_is_refused) = true)
    (a_law : PySem.W.nsIn K mainGlobals "law" = some (some (.ref f_law)))
    (l_law : K.lookup f_law = some ⟨oc_law, od_law, .func (PySem.W.fnOf "law" "law" (defArgs s_law) (defBody s_law) (defScope s_law) .none kV_law dc_law pm_law an_law cd_law ct_law), sl_law⟩)
    (o_law : PySem.W.codeIn K cd_law "law" = true)
    (q_law : PySem.W.keepIn K (.ref f_law) = true)
    (ms_Sieve : PySem.W.makesIn K c_Sieve = true)
    (kc_Sieve : PySem.W.keepIn K (.ref c_Sieve) = true)
    (eb_SieveError : PySem.W.subIn K (.ref c_SieveError) (.type "BaseException") = some true)
    (ed_SieveError : PySem.W.hasDictIn K c_SieveError = true)
    (et_SieveError : PySem.W.typeIn K (.ref c_SieveError) = some (.type "type"))
    (es_NotIn_SieveError : PySem.W.subIn K (.ref c_NotIn) (.ref c_SieveError) = some true)
    (es_Stuck_SieveError : PySem.W.subIn K (.ref c_Stuck) (.ref c_SieveError) = some true)
    (zg_MOST_CAP : PySem.W.nsIn K mainGlobals "MOST_CAP" = some (some (.int 9 tg_MOST_CAP)))
    (zg_MOST_HANDS : PySem.W.nsIn K mainGlobals "MOST_HANDS" = some (some (.int 6 tg_MOST_HANDS)))
    (zg_MOST_SIZE : PySem.W.nsIn K mainGlobals "MOST_SIZE" = some (some (.int 96 tg_MOST_SIZE)))
    (zg_RING : PySem.W.nsIn K mainGlobals "RING" = some (some (.int 10007 tg_RING)))
    (zic_Sieve0 : PySem.W.findIn K (.ref c_Sieve) "__class__" = some (some (.builtin "object.__class__")))
    (zic_Sieve1 : PySem.W.specialIn K (.builtin "object.__class__") "__get__" = some (some (.builtin "getset_descriptor.__get__")))
    (zic_Sieve2 : PySem.W.takesIn K (.builtin "object.__class__") = some true)
    (zic_Sieve3 : PySem.W.mroIn K c_Sieve (.type "object") = some true)
    (zki_Sieve_Sieve : PySem.W.kitOne K (.ref c_Sieve) (.ref c_Sieve) = some true)
    (zis_NotIn0 : PySem.W.findIn K (.ref c_NotIn) "__getattribute__" = some (some (.builtin "BaseException.__getattribute__")))
    (zis_NotIn1 : PySem.W.findIn K (.ref c_NotIn) "__getattr__" = some none)
    (zis_NotIn2 : PySem.W.subIn K (.ref c_NotIn) (.type "BaseException") = some true)
    (zis_NotIn3 : PySem.W.hasDictIn K c_NotIn = true)
    (zis_NotIn4 : PySem.W.findIn K (.ref c_NotIn) "__class__" = some (some (.builtin "object.__class__")))
    (zis_NotIn5 : PySem.W.specialIn K (.builtin "object.__class__") "__get__" = some (some (.builtin "getset_descriptor.__get__")))
    (zis_NotIn6 : PySem.W.takesIn K (.builtin "object.__class__") = some true)
    (zis_NotIn7 : PySem.W.mroIn K c_NotIn (.type "object") = some true)
    (zis_Stuck0 : PySem.W.findIn K (.ref c_Stuck) "__getattribute__" = some (some (.builtin "BaseException.__getattribute__")))
    (zis_Stuck1 : PySem.W.findIn K (.ref c_Stuck) "__getattr__" = some none)
    (zis_Stuck2 : PySem.W.subIn K (.ref c_Stuck) (.type "BaseException") = some true)
    (zis_Stuck3 : PySem.W.hasDictIn K c_Stuck = true)
    (zis_Stuck4 : PySem.W.findIn K (.ref c_Stuck) "__class__" = some (some (.builtin "object.__class__")))
    (zis_Stuck5 : PySem.W.specialIn K (.builtin "object.__class__") "__get__" = some (some (.builtin "getset_descriptor.__get__")))
    (zis_Stuck6 : PySem.W.takesIn K (.builtin "object.__class__") = some true)
    (zis_Stuck7 : PySem.W.mroIn K c_Stuck (.type "object") = some true)
    (zkc_BadKey : PySem.W.keepIn K (.ref c_BadKey) = true)
    (zkc_NotIn : PySem.W.keepIn K (.ref c_NotIn) = true)
    (zki_NotIn_BadKey : PySem.W.kitOne K (.ref c_NotIn) (.ref c_BadKey) = some false)
    (zki_NotIn_BadSieve : PySem.W.kitOne K (.ref c_NotIn) (.ref c_BadSieve) = some false)
    (zki_NotIn_BadText : PySem.W.kitOne K (.ref c_NotIn) (.ref c_BadText) = some false)
    (zki_NotIn_NoSieve : PySem.W.kitOne K (.ref c_NotIn) (.ref c_NoSieve) = some false)
    (zki_NotIn_NotIn : PySem.W.kitOne K (.ref c_NotIn) (.ref c_NotIn) = some true)
    (zki_NotIn_Stuck : PySem.W.kitOne K (.ref c_NotIn) (.ref c_Stuck) = some false)
    (zki_NotIn_Unlike : PySem.W.kitOne K (.ref c_NotIn) (.ref c_Unlike) = some false)
    (zki_NotIn_ValueError : PySem.W.kitOne K (.ref c_NotIn) (.type "ValueError") = some true)
    (zki_Stuck_BadKey : PySem.W.kitOne K (.ref c_Stuck) (.ref c_BadKey) = some false)
    (zki_Stuck_BadSieve : PySem.W.kitOne K (.ref c_Stuck) (.ref c_BadSieve) = some false)
    (zki_Stuck_BadText : PySem.W.kitOne K (.ref c_Stuck) (.ref c_BadText) = some false)
    (zki_Stuck_NoSieve : PySem.W.kitOne K (.ref c_Stuck) (.ref c_NoSieve) = some false)
    (zki_Stuck_NotIn : PySem.W.kitOne K (.ref c_Stuck) (.ref c_NotIn) = some false)
    (zki_Stuck_Unlike : PySem.W.kitOne K (.ref c_Stuck) (.ref c_Unlike) = some false)
    (zki_Stuck_ValueError : PySem.W.kitOne K (.ref c_Stuck) (.type "ValueError") = some true)
    (zn_ValueError : PySem.W.nsIn K mainGlobals "ValueError" = some none)
    (zn_bool : PySem.W.nsIn K mainGlobals "bool" = some none)
    (zn_enumerate : PySem.W.nsIn K mainGlobals "enumerate" = some none)
    (zn_int : PySem.W.nsIn K mainGlobals "int" = some none)
    (zn_isinstance : PySem.W.nsIn K mainGlobals "isinstance" = some none)
    (zn_len : PySem.W.nsIn K mainGlobals "len" = some none)
    (zn_list : PySem.W.nsIn K mainGlobals "list" = some none)
    (zn_max : PySem.W.nsIn K mainGlobals "max" = some none)
    (zn_min : PySem.W.nsIn K mainGlobals "min" = some none)
    (zn_range : PySem.W.nsIn K mainGlobals "range" = some none)
    (zn_set : PySem.W.nsIn K mainGlobals "set" = some none)
    (zn_sorted : PySem.W.nsIn K mainGlobals "sorted" = some none)
    (zn_tuple : PySem.W.nsIn K mainGlobals "tuple" = some none)
    (zl_BadSieve : K.lookup c_BadSieve = some (PySem.excClassObj nm_BadSieve q_BadSieve c_BadSieve N_BadSieve bs_BadSieve [.ref c_SieveError, .type "ValueError", .type "Exception", .type "BaseException", .type "object"] true sn_BadSieve sub_BadSieve ab_BadSieve col_BadSieve dd_BadSieve m0_BadSieve m1_BadSieve m2_BadSieve m3_BadSieve m5_BadSieve "ValueError.__new__"))
    (zs_BadSieve : PySem.W.findIn K (.ref c_BadSieve) "__setattr__" = some (some (.builtin "object.__setattr__")))
    (eb_BadSieve : PySem.W.subIn K (.ref c_BadSieve) (.type "BaseException") = some true)
    (et_BadSieve : PySem.W.typeIn K (.ref c_BadSieve) = some (.type "type"))
    (ek_BadSieve : PySem.W.keepIn K (.ref c_BadSieve) = true)
    (zl_BadText : K.lookup c_BadText = some (PySem.excClassObj nm_BadText q_BadText c_BadText N_BadText bs_BadText [.ref c_SieveError, .type "ValueError", .type "Exception", .type "BaseException", .type "object"] true sn_BadText sub_BadText ab_BadText col_BadText dd_BadText m0_BadText m1_BadText m2_BadText m3_BadText m5_BadText "ValueError.__new__"))
    (zs_BadText : PySem.W.findIn K (.ref c_BadText) "__setattr__" = some (some (.builtin "object.__setattr__")))
    (eb_BadText : PySem.W.subIn K (.ref c_BadText) (.type "BaseException") = some true)
    (et_BadText : PySem.W.typeIn K (.ref c_BadText) = some (.type "type"))
    (ek_BadText : PySem.W.keepIn K (.ref c_BadText) = true)
    (zl_NoSieve : K.lookup c_NoSieve = some (PySem.excClassObj nm_NoSieve q_NoSieve c_NoSieve N_NoSieve bs_NoSieve [.ref c_SieveError, .type "ValueError", .type "Exception", .type "BaseException", .type "object"] true sn_NoSieve sub_NoSieve ab_NoSieve col_NoSieve dd_NoSieve m0_NoSieve m1_NoSieve m2_NoSieve m3_NoSieve m5_NoSieve "ValueError.__new__"))
    (zs_NoSieve : PySem.W.findIn K (.ref c_NoSieve) "__setattr__" = some (some (.builtin "object.__setattr__")))
    (eb_NoSieve : PySem.W.subIn K (.ref c_NoSieve) (.type "BaseException") = some true)
    (et_NoSieve : PySem.W.typeIn K (.ref c_NoSieve) = some (.type "type"))
    (ek_NoSieve : PySem.W.keepIn K (.ref c_NoSieve) = true)
    (zl_Stuck : K.lookup c_Stuck = some (PySem.excClassObj nm_Stuck q_Stuck c_Stuck N_Stuck bs_Stuck [.ref c_SieveError, .type "ValueError", .type "Exception", .type "BaseException", .type "object"] true sn_Stuck sub_Stuck ab_Stuck col_Stuck dd_Stuck m0_Stuck m1_Stuck m2_Stuck m3_Stuck m5_Stuck "ValueError.__new__"))
    (zs_Stuck : PySem.W.findIn K (.ref c_Stuck) "__setattr__" = some (some (.builtin "object.__setattr__")))
    (eb_Stuck : PySem.W.subIn K (.ref c_Stuck) (.type "BaseException") = some true)
    (et_Stuck : PySem.W.typeIn K (.ref c_Stuck) = some (.type "type"))
    (ek_Stuck : PySem.W.keepIn K (.ref c_Stuck) = true)
    (ztf_BadSieve_init : PySem.W.typeIn K (.ref f_BadSieve_init) = some (.type "function"))
    (ztf_Stuck_init : PySem.W.typeIn K (.ref f_Stuck_init) = some (.type "function"))
    (zx_BadKey : PySem.W.excIn K c_BadKey [.type "ValueError", .type "Exception", .type "BaseException", .type "object"] "ValueError.__new__" = true)
    (zx_NotIn : PySem.W.excIn K c_NotIn [.type "ValueError", .type "Exception", .type "BaseException", .type "object"] "ValueError.__new__" = true)
    (zxb_BadKey : PySem.W.subIn K (.ref c_BadKey) (.type "BaseException") = some true)
    (zxb_NotIn : PySem.W.subIn K (.ref c_NotIn) (.type "BaseException") = some true)
    (zxf_Stuck0 : PySem.W.findIn K (.ref c_Stuck) "__getattribute__" = some (some (.builtin "BaseException.__getattribute__")))
    (zxf_Stuck1 : PySem.W.findIn K (.ref c_Stuck) "__getattr__" = some none)
    (zxf_Stuck2 : PySem.W.subIn K (.ref c_Stuck) (.type "BaseException") = some true)
    (zxf_Stuck3 : PySem.W.hasDictIn K c_Stuck = true)
    (zxn_BadSieve_why : PySem.W.findIn K (.ref c_BadSieve) "why" = some none)
    (zxn_BadText_row : PySem.W.findIn K (.ref c_BadText) "row" = some none)
    (zxn_NoSieve_paper : PySem.W.findIn K (.ref c_NoSieve) "paper" = some none)
    (zxn_Stuck_cells : PySem.W.findIn K (.ref c_Stuck) "cells" = some none)
    (zxt_BadKey : PySem.W.typeIn K (.ref c_BadKey) = some (.type "type"))
    (zxt_NotIn : PySem.W.typeIn K (.ref c_NotIn) = some (.type "type")) :
    ∃ fd : FuncData, (∀ (s : Shared) (u : Value), BindsTo s fd ⟨[u], []⟩ [("_law_script", u)]) ∧ ∀ base : Heap, K.In base → base.Ns mainGlobals mg → FnOk P w K mg base CX0 8 fa fd ["_law_script"] (KS.spLaw K) := by
  have e := hfa.symm.trans (PySem.W.mg_of X G a_law)
  cases e
  have T : Txt K mg := { c_SieveError := c_SieveError, m_SieveError := PySem.W.mg_of X G a_SieveError, c_BadSieve := c_BadSieve, m_BadSieve := PySem.W.mg_of X G a_BadSieve, c_BadKey := c_BadKey, m_BadKey := PySem.W.mg_of X G a_BadKey, c_NotIn := c_NotIn, m_NotIn := PySem.W.mg_of X G a_NotIn, c_Stuck := c_Stuck, m_Stuck := PySem.W.mg_of X G a_Stuck, c_Unlike := c_Unlike, m_Unlike := PySem.W.mg_of X G a_Unlike, c_NoSieve := c_NoSieve, m_NoSieve := PySem.W.mg_of X G a_NoSieve, c_BadText := c_BadText, m_BadText := PySem.W.mg_of X G a_BadText, c_Sieve := c_Sieve, m_Sieve := PySem.W.mg_of X G a_Sieve, cl_Sieve := ⟨pg_Sieve, hd_Sieve, po_Sieve, sa_Sieve⟩, na_Sieve_many := na_Sieve_many, na_Sieve_pointers := na_Sieve_pointers, na_Sieve_most := na_Sieve_most, na_Sieve_cells := na_Sieve_cells, f_need_key := f_need_key, d_need_key := _, m_need_key := PySem.W.mg_of X G a_need_key, F_need_key := fun_mk (st := s_need_key) l_need_key o_need_key q_need_key, f_pointed := f_pointed, d_pointed := _, m_pointed := PySem.W.mg_of X G a_pointed, F_pointed := fun_mk (st := s_pointed) l_pointed o_pointed q_pointed, f__law_mix := f__law_mix, d__law_mix := _, m__law_mix := PySem.W.mg_of X G a__law_mix, F__law_mix := fun_mk (st := s__law_mix) l__law_mix o__law_mix q__law_mix, f__law_next := f__law_next, d__law_next := _, m__law_next := PySem.W.mg_of X G a__law_next, F__law_next := fun_mk (st := s__law_next) l__law_next o__law_next q__law_next, f__law_hands := f__law_hands, d__law_hands := _, m__law_hands := PySem.W.mg_of X G a__law_hands, F__law_hands := fun_mk (st := s__law_hands) l__law_hands o__law_hands q__law_hands, f__law_keys := f__law_keys, d__law_keys := _, m__law_keys := PySem.W.mg_of X G a__law_keys, F__law_keys := fun_mk (st := s__law_keys) l__law_keys o__law_keys q__law_keys, f__law_cells := f__law_cells, d__law_cells := _, m__law_cells := PySem.W.mg_of X G a__law_cells, F__law_cells := fun_mk (st := s__law_cells) l__law_cells o__law_cells q__law_cells, f__law_are := f__law_are, d__law_are := _, m__law_are := PySem.W.mg_of X G a__law_are, F__law_are := fun_mk (st := s__law_are) l__law_are o__law_are q__law_are, f_BadSieve_init := f_BadSieve_init, d_BadSieve_init := _, me_BadSieve_init := ⟨a_BadSieve_init, i_BadSieve_init, q_BadSieve_init⟩, F_BadSieve_init := fun_mk (st := s_BadSieve_init) l_BadSieve_init o_BadSieve_init q_BadSieve_init, f_Stuck_init := f_Stuck_init, d_Stuck_init := _, me_Stuck_init := ⟨a_Stuck_init, i_Stuck_init, q_Stuck_init⟩, F_Stuck_init := fun_mk (st := s_Stuck_init) l_Stuck_init o_Stuck_init q_Stuck_init, f_need := f_need, d_need := _, m_need := PySem.W.mg_of X G a_need, F_need := fun_mk (st := s_need) l_need o_need q_need, f_need_size := f_need_size, d_need_size := _, m_need_size := PySem.W.mg_of X G a_need_size, F_need_size := fun_mk (st := s_need_size) l_need_size o_need_size q_need_size, f_need_cap := f_need_cap, d_need_cap := _, m_need_cap := PySem.W.mg_of X G a_need_cap, F_need_cap := fun_mk (st := s_need_cap) l_need_cap o_need_cap q_need_cap, f_need_hands := f_need_hands, d_need_hands := _, m_need_hands := PySem.W.mg_of X G a_need_hands, F_need_hands := fun_mk (st := s_need_hands) l_need_hands o_need_hands q_need_hands, f_hands_by_cell := f_hands_by_cell, d_hands_by_cell := _, m_hands_by_cell := PySem.W.mg_of X G a_hands_by_cell, F_hands_by_cell := fun_mk (st := s_hands_by_cell) l_hands_by_cell o_hands_by_cell q_hands_by_cell, f_Sieve_size := f_Sieve_size, d_Sieve_size := _, me_Sieve_size := ⟨a_Sieve_size, i_Sieve_size, q_Sieve_size⟩, F_Sieve_size := fun_mk (st := s_Sieve_size) l_Sieve_size o_Sieve_size q_Sieve_size, f_Sieve_cap := f_Sieve_cap, d_Sieve_cap := _, me_Sieve_cap := ⟨a_Sieve_cap, i_Sieve_cap, q_Sieve_cap⟩, F_Sieve_cap := fun_mk (st := s_Sieve_cap) l_Sieve_cap o_Sieve_cap q_Sieve_cap, f_Sieve_hands := f_Sieve_hands, d_Sieve_hands := _, me_Sieve_hands := ⟨a_Sieve_hands, i_Sieve_hands, q_Sieve_hands⟩, F_Sieve_hands := fun_mk (st := s_Sieve_hands) l_Sieve_hands o_Sieve_hands q_Sieve_hands, f_Sieve_counts := f_Sieve_counts, d_Sieve_counts := _, me_Sieve_counts := ⟨a_Sieve_counts, i_Sieve_counts, q_Sieve_counts⟩, F_Sieve_counts := fun_mk (st := s_Sieve_counts) l_Sieve_counts o_Sieve_counts q_Sieve_counts, f_Sieve_init := f_Sieve_init, d_Sieve_init := _, me_Sieve_init := ⟨a_Sieve_init, i_Sieve_init, q_Sieve_init⟩, F_Sieve_init := fun_mk (st := s_Sieve_init) l_Sieve_init o_Sieve_init q_Sieve_init, f_Sieve_put := f_Sieve_put, d_Sieve_put := _, me_Sieve_put := ⟨a_Sieve_put, i_Sieve_put, q_Sieve_put⟩, F_Sieve_put := fun_mk (st := s_Sieve_put) l_Sieve_put o_Sieve_put q_Sieve_put, f_Sieve_says := f_Sieve_says, d_Sieve_says := _, me_Sieve_says := ⟨a_Sieve_says, i_Sieve_says, q_Sieve_says⟩, F_Sieve_says := fun_mk (st := s_Sieve_says) l_Sieve_says o_Sieve_says q_Sieve_says, f_Sieve_stuck_cells := f_Sieve_stuck_cells, d_Sieve_stuck_cells := _, me_Sieve_stuck_cells := ⟨a_Sieve_stuck_cells, i_Sieve_stuck_cells, q_Sieve_stuck_cells⟩, F_Sieve_stuck_cells := fun_mk (st := s_Sieve_stuck_cells) l_Sieve_stuck_cells o_Sieve_stuck_cells q_Sieve_stuck_cells, f_Sieve_need_takeable := f_Sieve_need_takeable, d_Sieve_need_takeable := _, me_Sieve_need_takeable := ⟨a_Sieve_need_takeable, i_Sieve_need_takeable, q_Sieve_need_takeable⟩, F_Sieve_need_takeable := fun_mk (st := s_Sieve_need_takeable) l_Sieve_need_takeable o_Sieve_need_takeable q_Sieve_need_takeable, f_Sieve_take := f_Sieve_take, d_Sieve_take := _, me_Sieve_take := ⟨a_Sieve_take, i_Sieve_take, q_Sieve_take⟩, F_Sieve_take := fun_mk (st := s_Sieve_take) l_Sieve_take o_Sieve_take q_Sieve_take, f__law_counts := f__law_counts, d__law_counts := _, m__law_counts := PySem.W.mg_of X G a__law_counts, F__law_counts := fun_mk (st := s__law_counts) l__law_counts o__law_counts q__law_counts, f_built := f_built, d_built := _, m_built := PySem.W.mg_of X G a_built, F_built := fun_mk (st := s_built) l_built o_built q_built, f__law_says := f__law_says, d__law_says := _, m__law_says := PySem.W.mg_of X G a__law_says, F__law_says := fun_mk (st := s__law_says) l__law_says o__law_says q__law_says, f_NoSieve_init := f_NoSieve_init, d_NoSieve_init := _, me_NoSieve_init := ⟨a_NoSieve_init, i_NoSieve_init, q_NoSieve_init⟩, F_NoSieve_init := fun_mk (st := s_NoSieve_init) l_NoSieve_init o_NoSieve_init q_NoSieve_init, f_BadText_init := f_BadText_init, d_BadText_init := _, me_BadText_init := ⟨a_BadText_init, i_BadText_init, q_BadText_init⟩, F_BadText_init := fun_mk (st := s_BadText_init) l_BadText_init o_BadText_init q_BadText_init, f__law_took := f__law_took, d__law_took := _, m__law_took := PySem.W.mg_of X G a__law_took, F__law_took := fun_mk (st := s__law_took) l__law_took o__law_took q__law_took, f__law_is_refused := f__law_is_refused, d__law_is_refused := _, m__law_is_refused := PySem.W.mg_of X G a__law_is_refused, F__law_is_refused := fun_mk (st := s__law_is_refused) l__law_is_refused o__law_is_refused q__law_is_refused, mk_Sieve := ⟨ms_Sieve, a_Sieve_init, i_Sieve_init, kc_Sieve⟩, em_NotIn_SieveError := PySem.W.exm_ref eb_SieveError ed_SieveError et_SieveError es_NotIn_SieveError, em_Stuck_SieveError := PySem.W.exm_ref eb_SieveError ed_SieveError et_SieveError es_Stuck_SieveError, tg_MOST_CAP := tg_MOST_CAP, g_MOST_CAP := PySem.W.mg_of X G zg_MOST_CAP, tg_MOST_HANDS := tg_MOST_HANDS, g_MOST_HANDS := PySem.W.mg_of X G zg_MOST_HANDS, tg_MOST_SIZE := tg_MOST_SIZE, g_MOST_SIZE := PySem.W.mg_of X G zg_MOST_SIZE, tg_RING := tg_RING, g_RING := PySem.W.mg_of X G zg_RING, ic_Sieve := ⟨⟨pg_Sieve, hd_Sieve, po_Sieve, sa_Sieve⟩, zic_Sieve0, zic_Sieve1, zic_Sieve2, zic_Sieve3, zki_Sieve_Sieve⟩, is_NotIn := ⟨zis_NotIn0, zis_NotIn1, zis_NotIn2, zis_NotIn3, zis_NotIn4, zis_NotIn5, zis_NotIn6, zis_NotIn7⟩, is_Stuck := ⟨zis_Stuck0, zis_Stuck1, zis_Stuck2, zis_Stuck3, zis_Stuck4, zis_Stuck5, zis_Stuck6, zis_Stuck7⟩, kc_BadKey := zkc_BadKey, kc_NotIn := zkc_NotIn, ki_NotIn_BadKey := zki_NotIn_BadKey, ki_NotIn_BadSieve := zki_NotIn_BadSieve, ki_NotIn_BadText := zki_NotIn_BadText, ki_NotIn_NoSieve := zki_NotIn_NoSieve, ki_NotIn_NotIn := zki_NotIn_NotIn, ki_NotIn_Stuck := zki_NotIn_Stuck, ki_NotIn_Unlike := zki_NotIn_Unlike, ki_NotIn_ValueError := zki_NotIn_ValueError, ki_Sieve_Sieve := zki_Sieve_Sieve, ki_Stuck_BadKey := zki_Stuck_BadKey, ki_Stuck_BadSieve := zki_Stuck_BadSieve, ki_Stuck_BadText := zki_Stuck_BadText, ki_Stuck_NoSieve := zki_Stuck_NoSieve, ki_Stuck_NotIn := zki_Stuck_NotIn, ki_Stuck_Unlike := zki_Stuck_Unlike, ki_Stuck_ValueError := zki_Stuck_ValueError, n_ValueError := PySem.W.mg_none_of X G zn_ValueError, n_bool := PySem.W.mg_none_of X G zn_bool, n_enumerate := PySem.W.mg_none_of X G zn_enumerate, n_int := PySem.W.mg_none_of X G zn_int, n_isinstance := PySem.W.mg_none_of X G zn_isinstance, n_len := PySem.W.mg_none_of X G zn_len, n_list := PySem.W.mg_none_of X G zn_list, n_max := PySem.W.mg_none_of X G zn_max, n_min := PySem.W.mg_none_of X G zn_min, n_range := PySem.W.mg_none_of X G zn_range, n_set := PySem.W.mg_none_of X G zn_set, n_sorted := PySem.W.mg_none_of X G zn_sorted, n_tuple := PySem.W.mg_none_of X G zn_tuple, ox_BadSieve := ⟨⟨_, _, _, _, _, _, _, _, _, _, _, _, _, _, _, zl_BadSieve, rfl⟩, zs_BadSieve, eb_BadSieve, et_BadSieve, ek_BadSieve⟩, ox_BadText := ⟨⟨_, _, _, _, _, _, _, _, _, _, _, _, _, _, _, zl_BadText, rfl⟩, zs_BadText, eb_BadText, et_BadText, ek_BadText⟩, ox_NoSieve := ⟨⟨_, _, _, _, _, _, _, _, _, _, _, _, _, _, _, zl_NoSieve, rfl⟩, zs_NoSieve, eb_NoSieve, et_NoSieve, ek_NoSieve⟩, ox_Stuck := ⟨⟨_, _, _, _, _, _, _, _, _, _, _, _, _, _, _, zl_Stuck, rfl⟩, zs_Stuck, eb_Stuck, et_Stuck, ek_Stuck⟩, tf_BadSieve_init := ztf_BadSieve_init, tf_Stuck_init := ztf_Stuck_init, x_BadKey := zx_BadKey, x_NotIn := zx_NotIn, xb_BadKey := zxb_BadKey, xb_NotIn := zxb_NotIn, xf_Stuck := ⟨zxf_Stuck0, zxf_Stuck1, zxf_Stuck2, zxf_Stuck3⟩, xn_BadSieve_why := zxn_BadSieve_why, xn_BadText_row := zxn_BadText_row, xn_NoSieve_paper := zxn_NoSieve_paper, xn_Stuck_cells := zxn_Stuck_cells, xt_BadKey := zxt_BadKey, xt_NotIn := zxt_NotIn }
  have F_law := fun_mk (st := s_law) l_law o_law q_law
  exact ⟨_, KS.law_binds F_law (fun _ _ _ _ _ _ _ => rfl), fun base _ _ => ok_law T F_law⟩
theorem walk {l : PySem.W.OpenLaw} {q : Program} {loose : List Str} {XP : (Str → Option Value) → Heap → Prop} {YP : World → Heap → Prop} {d : DefRec} {K : Params → PySem.W.Frag} (hn : l.most = some 63) (hdf : d.params.defaults = [])
    (hY : ∀ (w : World) (h : Heap), YP w h → (K w.params).In h)
    (F : ∀ (w : World) (mg : Str → Option Value) (fa : Addr) (h : Heap), (K w.params).In h → h.Ns mainGlobals mg → mg d.name = some (.ref fa) →
      ∃ fd : FuncData, (∀ (s : Shared) (u : Value), BindsTo s fd ⟨[u], []⟩ [("_law_script", u)]) ∧ ∀ base : Heap, (K w.params).In base → base.Ns mainGlobals mg → FnOk l.prog w (K w.params) mg base CX0 8 fa fd ["_law_script"] (KS.spLaw (K w.params))) :
    PySem.W.WalkO q loose XP YP l.row.toRowW d [] (fun f vs => PySem.call f vs) :=
  L2.walk_of (n := 63) (k := 8) (x := "_law_script") (CX := fun _ => CX0) (sp := fun w => KS.spLaw (K w.params)) hn (by decide) hdf ⟨rfl, by decide, by decide⟩ hY F (fun _ _ a ns hl _ hS => ⟨a, ns, rfl, hS, hl, fun _ => rfl⟩) fun _ _ _ _ _ z => z
end KW
open PySem PySem.W PyProof.Rows
set_option maxRecDepth 100000 in
set_option maxHeartbeats 0 in
theorem PySem.Challenge.cw_keysieve_k03_yes_and_taken_out_holds : PySem.Challenge.rw_keysieve_k03_yes_and_taken_out.Holds := by
  w_on; o_law; k_head; (case hw => w_witness2)
  k_fill
  refine KW.walk (l := PySem.Challenge.rw_keysieve_k03_yes_and_taken_out) rfl rfl (fun w h Y => PySem.W.kIn_of Y) ?F
  case F =>
    intro w mg fa h KX G hmg
    refine' KW.all_mk KX G hmg ?a_SieveError ?a_BadSieve ?a_BadKey ?a_NotIn ?a_Stuck ?a_Unlike ?a_NoSieve ?a_BadText ?a_Sieve ?pg_Sieve ?hd_Sieve ?po_Sieve ?sa_Sieve ?na_Sieve_many ?na_Sieve_pointers ?na_Sieve_most ?na_Sieve_cells ?a_need_key ?l_need_key ?o_need_key ?q_need_key ?a_pointed ?l_pointed ?o_pointed ?q_pointed ?a__law_mix ?l__law_mix ?o__law_mix ?q__law_mix ?a__law_next ?l__law_next ?o__law_next ?q__law_next ?a__law_hands ?l__law_hands ?o__law_hands ?q__law_hands ?a__law_keys ?l__law_keys ?o__law_keys ?q__law_keys ?a__law_cells ?l__law_cells ?o__law_cells ?q__law_cells ?a__law_are ?l__law_are ?o__law_are ?q__law_are ?a_BadSieve_init ?i_BadSieve_init ?l_BadSieve_init ?o_BadSieve_init ?q_BadSieve_init ?a_Stuck_init ?i_Stuck_init ?l_Stuck_init ?o_Stuck_init ?q_Stuck_init ?a_need ?l_need ?o_need ?q_need ?a_need_size ?l_need_size ?o_need_size ?q_need_size ?a_need_cap ?l_need_cap ?o_need_cap ?q_need_cap ?a_need_hands ?l_need_hands ?o_need_hands ?q_need_hands ?a_hands_by_cell ?l_hands_by_cell ?o_hands_by_cell ?q_hands_by_cell ?a_Sieve_size ?i_Sieve_size ?l_Sieve_size ?o_Sieve_size ?q_Sieve_size ?a_Sieve_cap ?i_Sieve_cap ?l_Sieve_cap ?o_Sieve_cap ?q_Sieve_cap ?a_Sieve_hands ?i_Sieve_hands ?l_Sieve_hands ?o_Sieve_hands ?q_Sieve_hands ?a_Sieve_counts ?i_Sieve_counts ?l_Sieve_counts ?o_Sieve_counts ?q_Sieve_counts ?a_Sieve_init ?i_Sieve_init ?l_Sieve_init ?o_Sieve_init ?q_Sieve_init ?a_Sieve_put ?i_Sieve_put ?l_Sieve_put ?o_Sieve_put ?q_Sieve_put ?a_Sieve_says ?i_Sieve_says ?l_Sieve_says ?o_Sieve_says ?q_Sieve_says ?a_Sieve_stuck_cells ?i_Sieve_stuck_cells ?l_Sieve_stuck_cells ?o_Sieve_stuck_cells ?q_Sieve_stuck_cells ?a_Sieve_need_takeable ?i_Sieve_need_takeable ?l_Sieve_need_takeable ?o_Sieve_need_takeable ?q_Sieve_need_takeable ?a_Sieve_take ?i_Sieve_take ?l_Sieve_take ?o_Sieve_take ?q_Sieve_take ?a__law_counts ?l__law_counts ?o__law_counts ?q__law_counts ?a_built ?l_built ?o_built ?q_built ?a__law_says ?l__law_says ?o__law_says ?q__law_says ?a_NoSieve_init ?i_NoSieve_init ?l_NoSieve_init ?o_NoSieve_init ?q_NoSieve_init ?a_BadText_init ?i_BadText_init ?l_BadText_init ?o_BadText_init ?q_BadText_init ?a__law_took ?l__law_took ?o__law_took ?q__law_took ?a__law_is_refused ?l__law_is_refused ?o__law_is_refused ?q__law_is_refused ?a_law ?l_law ?o_law ?q_law ?ms_Sieve ?kc_Sieve ?eb_SieveError ?ed_SieveError ?et_SieveError ?es_NotIn_SieveError ?es_Stuck_SieveError ?zg_MOST_CAP ?zg_MOST_HANDS ?zg_MOST_SIZE ?zg_RING ?zic_Sieve0 ?zic_Sieve1 ?zic_Sieve2 ?zic_Sieve3 ?zki_Sieve_Sieve ?zis_NotIn0 ?zis_NotIn1 ?zis_NotIn2 ?zis_NotIn3 ?zis_NotIn4 ?zis_NotIn5 ?zis_NotIn6 ?zis_NotIn7 ?zis_Stuck0 ?zis_Stuck1 ?zis_Stuck2 ?zis_Stuck3 ?zis_Stuck4 ?zis_Stuck5 ?zis_Stuck6 ?zis_Stuck7 ?zkc_BadKey ?zkc_NotIn ?zki_NotIn_BadKey ?zki_NotIn_BadSieve ?zki_NotIn_BadText ?zki_NotIn_NoSieve ?zki_NotIn_NotIn ?zki_NotIn_Stuck ?zki_NotIn_Unlike ?zki_NotIn_ValueError ?zki_Stuck_BadKey ?zki_Stuck_BadSieve ?zki_Stuck_BadText ?zki_Stuck_NoSieve ?zki_Stuck_NotIn ?zki_Stuck_Unlike ?zki_Stuck_ValueError ?zn_ValueError ?zn_bool ?zn_enumerate ?zn_int ?zn_isinstance ?zn_len ?zn_list ?zn_max ?zn_min ?zn_range ?zn_set ?zn_sorted ?zn_tuple ?zl_BadSieve ?zs_BadSieve ?eb_BadSieve ?et_BadSieve ?ek_BadSieve ?zl_BadText ?zs_BadText ?eb_BadText ?et_BadText ?ek_BadText ?zl_NoSieve ?zs_NoSieve ?eb_NoSieve ?et_NoSieve ?ek_NoSieve ?zl_Stuck ?zs_Stuck ?eb_Stuck ?et_Stuck ?ek_Stuck ?ztf_BadSieve_init ?ztf_Stuck_init ?zx_BadKey ?zx_NotIn ?zxb_BadKey ?zxb_NotIn ?zxf_Stuck0 ?zxf_Stuck1 ?zxf_Stuck2 ?zxf_Stuck3 ?zxn_BadSieve_why ?zxn_BadText_row ?zxn_NoSieve_paper ?zxn_Stuck_cells ?zxt_BadKey ?zxt_NotIn
    (case a_SieveError => k_is)
    (case a_BadSieve => k_is)
    (case a_BadKey => k_is)
    (case a_NotIn => k_is)
    (case a_Stuck => k_is)
    (case a_Unlike => k_is)
    (case a_NoSieve => k_is)
    (case a_BadText => k_is)
    (case a_Sieve => k_is)
    (case pg_Sieve => k_is)
    (case hd_Sieve => k_is)
    (case po_Sieve => k_is)
    (case sa_Sieve => k_is)
    (case na_Sieve_many => k_is)
    (case na_Sieve_pointers => k_is)
    (case na_Sieve_most => k_is)
    (case na_Sieve_cells => k_is)
    (case a_need_key => k_is)
    (case l_need_key => k_is)
    (case o_need_key => k_is)
    (case q_need_key => k_is)
    (case a_pointed => k_is)
    (case l_pointed => k_is)
    (case o_pointed => k_is)
    (case q_pointed => k_is)
    (case a__law_mix => k_is)
    (case l__law_mix => k_is)
    (case o__law_mix => k_is)
    (case q__law_mix => k_is)
    (case a__law_next => k_is)
    (case l__law_next => k_is)
    (case o__law_next => k_is)
    (case q__law_next => k_is)
    (case a__law_hands => k_is)
    (case l__law_hands => k_is)
    (case o__law_hands => k_is)
    (case q__law_hands => k_is)
    (case a__law_keys => k_is)
    (case l__law_keys => k_is)
    (case o__law_keys => k_is)
    (case q__law_keys => k_is)
    (case a__law_cells => k_is)
    (case l__law_cells => k_is)
    (case o__law_cells => k_is)
    (case q__law_cells => k_is)
    (case a__law_are => k_is)
    (case l__law_are => k_is)
    (case o__law_are => k_is)
    (case q__law_are => k_is)
    (case a_BadSieve_init => k_is)
    (case i_BadSieve_init => k_is)
    (case l_BadSieve_init => k_is)
    (case o_BadSieve_init => k_is)
    (case q_BadSieve_init => k_is)
    (case a_Stuck_init => k_is)
    (case i_Stuck_init => k_is)
    (case l_Stuck_init => k_is)
    (case o_Stuck_init => k_is)
    (case q_Stuck_init => k_is)
    (case a_need => k_is)
    (case l_need => k_is)
    (case o_need => k_is)
    (case q_need => k_is)
    (case a_need_size => k_is)
    (case l_need_size => k_is)
    (case o_need_size => k_is)
    (case q_need_size => k_is)
    (case a_need_cap => k_is)
    (case l_need_cap => k_is)
    (case o_need_cap => k_is)
    (case q_need_cap => k_is)
    (case a_need_hands => k_is)
    (case l_need_hands => k_is)
    (case o_need_hands => k_is)
    (case q_need_hands => k_is)
    (case a_hands_by_cell => k_is)
    (case l_hands_by_cell => k_is)
    (case o_hands_by_cell => k_is)
    (case q_hands_by_cell => k_is)
    (case a_Sieve_size => k_is)
    (case i_Sieve_size => k_is)
    (case l_Sieve_size => k_is)
    (case o_Sieve_size => k_is)
    (case q_Sieve_size => k_is)
    (case a_Sieve_cap => k_is)
    (case i_Sieve_cap => k_is)
    (case l_Sieve_cap => k_is)
    (case o_Sieve_cap => k_is)
    (case q_Sieve_cap => k_is)
    (case a_Sieve_hands => k_is)
    (case i_Sieve_hands => k_is)
    (case l_Sieve_hands => k_is)
    (case o_Sieve_hands => k_is)
    (case q_Sieve_hands => k_is)
    (case a_Sieve_counts => k_is)
    (case i_Sieve_counts => k_is)
    (case l_Sieve_counts => k_is)
    (case o_Sieve_counts => k_is)
    (case q_Sieve_counts => k_is)
    (case a_Sieve_init => k_is)
    (case i_Sieve_init => k_is)
    (case l_Sieve_init => k_is)
    (case o_Sieve_init => k_is)
    (case q_Sieve_init => k_is)
    (case a_Sieve_put => k_is)
    (case i_Sieve_put => k_is)
    (case l_Sieve_put => k_is)
    (case o_Sieve_put => k_is)
    (case q_Sieve_put => k_is)
    (case a_Sieve_says => k_is)
    (case i_Sieve_says => k_is)
    (case l_Sieve_says => k_is)
    (case o_Sieve_says => k_is)
    (case q_Sieve_says => k_is)
    (case a_Sieve_stuck_cells => k_is)
    (case i_Sieve_stuck_cells => k_is)
    (case l_Sieve_stuck_cells => k_is)
    (case o_Sieve_stuck_cells => k_is)
    (case q_Sieve_stuck_cells => k_is)
    (case a_Sieve_need_takeable => k_is)
    (case i_Sieve_need_takeable => k_is)
    (case l_Sieve_need_takeable => k_is)
    (case o_Sieve_need_takeable => k_is)
    (case q_Sieve_need_takeable => k_is)
    (case a_Sieve_take => k_is)
    (case i_Sieve_take => k_is)
    (case l_Sieve_take => k_is)
    (case o_Sieve_take => k_is)
    (case q_Sieve_take => k_is)
    (case a__law_counts => k_is)
    (case l__law_counts => k_is)
    (case o__law_counts => k_is)
    (case q__law_counts => k_is)
    (case a_built => k_is)
    (case l_built => k_is)
    (case o_built => k_is)
    (case q_built => k_is)
    (case a__law_says => k_is)
    (case l__law_says => k_is)
    (case o__law_says => k_is)
    (case q__law_says => k_is)
    (case a_NoSieve_init => k_is)
    (case i_NoSieve_init => k_is)
    (case l_NoSieve_init => k_is)
    (case o_NoSieve_init => k_is)
    (case q_NoSieve_init => k_is)
    (case a_BadText_init => k_is)
    (case i_BadText_init => k_is)
    (case l_BadText_init => k_is)
    (case o_BadText_init => k_is)
    (case q_BadText_init => k_is)
    (case a__law_took => k_is)
    (case l__law_took => k_is)
    (case o__law_took => k_is)
    (case q__law_took => k_is)
    (case a__law_is_refused => k_is)
    (case l__law_is_refused => k_is)
    (case o__law_is_refused => k_is)
    (case q__law_is_refused => k_is)
    (case a_law => k_is)
    (case l_law => k_is)
    (case o_law => k_is)
    (case q_law => k_is)
    (case ms_Sieve => k_is)
    (case kc_Sieve => k_is)
    (case eb_SieveError => k_is)
    (case ed_SieveError => k_is)
    (case et_SieveError => k_is)
    (case es_NotIn_SieveError => first | rfl | k_is)
    (case es_Stuck_SieveError => first | rfl | k_is)
    (case zg_MOST_CAP => k_is)
    (case zg_MOST_HANDS => k_is)
    (case zg_MOST_SIZE => k_is)
    (case zg_RING => k_is)
    (case zic_Sieve0 => k_is)
    (case zic_Sieve1 => k_is)
    (case zic_Sieve2 => k_is)
    (case zic_Sieve3 => k_is)
    (case zki_Sieve_Sieve => first | rfl | kit_is)
    (case zis_NotIn0 => k_is)
    (case zis_NotIn1 => k_is)
    (case zis_NotIn2 => k_is)
    (case zis_NotIn3 => k_is)
    (case zis_NotIn4 => k_is)
    (case zis_NotIn5 => k_is)
    (case zis_NotIn6 => k_is)
    (case zis_NotIn7 => k_is)
    (case zis_Stuck0 => k_is)
    (case zis_Stuck1 => k_is)
    (case zis_Stuck2 => k_is)
    (case zis_Stuck3 => k_is)
    (case zis_Stuck4 => k_is)
    (case zis_Stuck5 => k_is)
    (case zis_Stuck6 => k_is)
    (case zis_Stuck7 => k_is)
    (case zkc_BadKey => k_is)
    (case zkc_NotIn => k_is)
    (case zki_NotIn_BadKey => first | rfl | kit_is)
    (case zki_NotIn_BadSieve => first | rfl | kit_is)
    (case zki_NotIn_BadText => first | rfl | kit_is)
    (case zki_NotIn_NoSieve => first | rfl | kit_is)
    (case zki_NotIn_NotIn => first | rfl | kit_is)
    (case zki_NotIn_Stuck => first | rfl | kit_is)
    (case zki_NotIn_Unlike => first | rfl | kit_is)
    (case zki_NotIn_ValueError => first | rfl | kit_is)
    (case zki_Stuck_BadKey => first | rfl | kit_is)
    (case zki_Stuck_BadSieve => first | rfl | kit_is)
    (case zki_Stuck_BadText => first | rfl | kit_is)
    (case zki_Stuck_NoSieve => first | rfl | kit_is)
    (case zki_Stuck_NotIn => first | rfl | kit_is)
    (case zki_Stuck_Unlike => first | rfl | kit_is)
    (case zki_Stuck_ValueError => first | rfl | kit_is)
    (case zn_ValueError => k_is)
    (case zn_bool => k_is)
    (case zn_enumerate => k_is)
    (case zn_int => k_is)
    (case zn_isinstance => k_is)
    (case zn_len => k_is)
    (case zn_list => k_is)
    (case zn_max => k_is)
    (case zn_min => k_is)
    (case zn_range => k_is)
    (case zn_set => k_is)
    (case zn_sorted => k_is)
    (case zn_tuple => k_is)
    (case zl_BadSieve => k_is)
    (case zs_BadSieve => k_is)
    (case eb_BadSieve => k_is)
    (case et_BadSieve => k_is)
    (case ek_BadSieve => k_is)
    (case zl_BadText => k_is)
    (case zs_BadText => k_is)
    (case eb_BadText => k_is)
    (case et_BadText => k_is)
    (case ek_BadText => k_is)
    (case zl_NoSieve => k_is)
    (case zs_NoSieve => k_is)
    (case eb_NoSieve => k_is)
    (case et_NoSieve => k_is)
    (case ek_NoSieve => k_is)
    (case zl_Stuck => k_is)
    (case zs_Stuck => k_is)
    (case eb_Stuck => k_is)
    (case et_Stuck => k_is)
    (case ek_Stuck => k_is)
    (case ztf_BadSieve_init => k_is)
    (case ztf_Stuck_init => k_is)
    (case zx_BadKey => k_exc)
    (case zx_NotIn => k_exc)
    (case zxb_BadKey => k_is)
    (case zxb_NotIn => k_is)
    (case zxf_Stuck0 => k_is)
    (case zxf_Stuck1 => k_is)
    (case zxf_Stuck2 => k_is)
    (case zxf_Stuck3 => k_is)
    (case zxn_BadSieve_why => k_is)
    (case zxn_BadText_row => k_is)
    (case zxn_NoSieve_paper => k_is)
    (case zxn_Stuck_cells => k_is)
    (case zxt_BadKey => k_is)
    (case zxt_NotIn => k_is)
#print axioms PySem.Challenge.cw_keysieve_k03_yes_and_taken_out_holds
