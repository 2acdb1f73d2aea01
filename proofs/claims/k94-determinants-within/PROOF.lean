import PyProof.Rows.All
import Wide.All
import OpenK.AllK
import Wide.FinOn
import HandS.ForMost
import HandS.Star
import HandS.TupAny
import HandS.Deep
import HandS.Wide
import HandS.Style
import HandS.IsInst
import HandS.Walk
import KE.GoesEnum
import HandS.Conv
import HandS.TupMul
import HandS.Gcd
import KE.SortData
import KE.DataMinMax
import PyProof.ReprRoads
import HandS.Evl
import KE.KDictZip
import PyProof.ReprLen
import PySem.Challenge.RW_cornersmet_k94_whole_determinants_within
set_option Elab.async false
set_option linter.all false
set_option maxRecDepth 100000
/-! PyA: data, what denotes them, the state relation, the judgements. -/
namespace Py
open PySem L2

abbrev D := PyData
abbrev Env := List (Option D)
abbrev AS := Addr → Prop

/-! ### the wish monad -/
def M (α : Type) : Type := (α → Prop) → Prop
def ret {α : Type} (a : α) : M α := fun Q => Q a
def bnd {α β : Type} (m : M α) (k : α → M β) : M β := fun Q => m fun a => k a Q
def stuck {α : Type} : M α := fun _ => False
theorem bnd_ret {α β : Type} (a : α) (k : α → M β) : bnd (ret a) k = k a := rfl
theorem bnd_stuck {α β : Type} (k : α → M β) : bnd stuck k = stuck := rfl
theorem bnd_assoc {α β γ : Type} (m : M α) (k : α → M β) (l : β → M γ) : bnd (bnd m k) l = bnd m fun a => bnd (k a) l := rfl
theorem ret_app {α : Type} (a : α) (Q : α → Prop) : ret a Q = Q a := rfl
theorem bnd_app {α β : Type} (m : M α) (k : α → M β) (Q : β → Prop) : bnd m k Q = m fun a => k a Q := rfl

/-! ### what denotes a datum: lists, dicts that nobody changes (not in U), tuples -/
mutual
inductive Den (H : Hp) (U : AS) : V → D → Prop
  | non : Den H U .non .none
  | bl (b : Bool) : Den H U (.bl b) (.bool b)
  | int (i : Int) : Den H U (.int i) (.int i)
  | str (x : Str) : Den H U (.str x) (.str x)
  | lst {a : Addr} {xs : List V} {ds : List D} : H a = some (.lst xs) → ¬ U a → DenL H U xs ds → Den H U (.ref a) (.list ds)
  | tup {a : Addr} {xs : List V} {ds : List D} : H a = some (.tup xs) → ¬ U a → DenL H U xs ds → Den H U (.ref a) (.tuple ds)
  | dct {a : Addr} : H a = some (.dK []) → ¬ U a → Den H U (.ref a) (.dict [])
inductive DenL (H : Hp) (U : AS) : List V → List D → Prop
  | nil : DenL H U [] []
  | cons {v : V} {vs : List V} {d : D} {ds : List D} : Den H U v d → DenL H U vs ds → DenL H U (v :: vs) (d :: ds)
end
theorem Den.mono {H H' : Hp} {U U' : AS} (e : ∀ a o, H a = some o → ¬ U a → H' a = some o) (u : ∀ a o, H a = some o → U' a → U a) : ∀ {d : D} {v : V}, Den H U v d → Den H' U' v d := by
  intro d v h
  refine Den.rec (motive_1 := fun v d _ => Den H' U' v d) (motive_2 := fun vs ds _ => DenL H' U' vs ds) ?_ ?_ ?_ ?_ ?_ ?_ ?_ ?_ ?_ h
  · exact .non
  · exact .bl
  · exact .int
  · exact .str
  · intro a xs ds ha hu _ ih; exact .lst (e _ _ ha hu) (fun q => hu (u _ _ ha q)) ih
  · intro a xs ds ha hu _ ih; exact .tup (e _ _ ha hu) (fun q => hu (u _ _ ha q)) ih
  · intro a ha hu; exact .dct (e _ _ ha hu) (fun q => hu (u _ _ ha q))
  · exact .nil
  · intro v vs d ds _ _ h1 h2; exact .cons h1 h2
theorem DenL.mono {H H' : Hp} {U U' : AS} (e : ∀ a o, H a = some o → ¬ U a → H' a = some o) (u : ∀ a o, H a = some o → U' a → U a) : ∀ {ds : List D} {vs : List V}, DenL H U vs ds → DenL H' U' vs ds
  | _, _, .nil => .nil
  | _, _, .cons h t => .cons (h.mono e u) (DenL.mono e u t)
theorem DenL.length {H : Hp} {U : AS} : ∀ {vs : List V} {ds : List D}, DenL H U vs ds → vs.length = ds.length
  | _, _, .nil => rfl
  | _, _, .cons _ t => congrArg (· + 1) t.length
theorem DenL.get {H : Hp} {U : AS} : ∀ {vs : List V} {ds : List D} {i : Nat} {d : D}, DenL H U vs ds → ds[i]? = some d → ∃ v, vs[i]? = some v ∧ Den H U v d
  | _, _, _, _, .nil, h => by simp at h
  | _, _, 0, _, .cons h _, e => by simp at e; subst e; exact ⟨_, rfl, h⟩
  | _, _, i + 1, _, .cons _ t, e => by
    obtain ⟨v, h1, h2⟩ := DenL.get (i := i) t (by simpa using e)
    exact ⟨v, by simpa using h1, h2⟩
theorem DenL.append {H : Hp} {U : AS} : ∀ {vs ws : List V} {ds es : List D}, DenL H U vs ds → DenL H U ws es → DenL H U (vs ++ ws) (ds ++ es)
  | _, _, _, _, .nil, h => h
  | _, _, _, _, .cons h t, q => .cons h (t.append q)
theorem DenL.take {H : Hp} {U : AS} : ∀ {vs : List V} {ds : List D} (n : Nat), DenL H U vs ds → DenL H U (vs.take n) (ds.take n)
  | _, _, 0, _ => .nil
  | _, _, _ + 1, .nil => .nil
  | _, _, n + 1, .cons h t => .cons h (t.take n)
theorem DenL.drop {H : Hp} {U : AS} : ∀ {vs : List V} {ds : List D} (n : Nat), DenL H U vs ds → DenL H U (vs.drop n) (ds.drop n)
  | _, _, 0, h => h
  | _, _, _ + 1, .nil => .nil
  | _, _, n + 1, .cons _ t => t.drop n
theorem DenL.set {H : Hp} {U : AS} {v : V} {d : D} (h : Den H U v d) : ∀ {vs : List V} {ds : List D} (i : Nat), DenL H U vs ds → DenL H U (vs.set i v) (ds.set i d)
  | _, _, _, .nil => .nil
  | _, _, 0, .cons _ t => .cons h t
  | _, _, i + 1, .cons q t => .cons q (DenL.set h i t)
theorem DenL.reverse {H : Hp} {U : AS} {vs : List V} {ds : List D} (h : DenL H U vs ds) : DenL H U vs.reverse ds.reverse := by
  induction ds generalizing vs with
  | nil => cases h; exact .nil
  | cons d ds ih =>
    cases h with
    | cons h1 h2 => rw [List.reverse_cons, List.reverse_cons]; exact (ih h2).append (.cons h1 .nil)

/-! ### a def's frame: what the callers may change (U0), what this code may change (A: the drawing source), what is kept of that (J), the heap at the entry -/
structure Sx where
  A : AS
  J : Hp → Prop
  src : Addr
structure Fx where
  s : Sx
  U0 : AS
  H0 : Hp
abbrev Fx.A (c : Fx) : AS := c.s.A
abbrev Fx.J (c : Fx) : Hp → Prop := c.s.J
abbrev Fx.src (c : Fx) : Addr := c.s.src

structure Fx.Ok (c : Fx) : Prop where
  sub : ∀ a, c.A a → c.U0 a
  st : ∀ H H', c.J H → (∀ a o, c.A a → H a = some o → H' a = some o) → c.J H'

/-- how a name's slot stands: any datum; a list of this def's own that it changes; one of lists; such a list while a loop walks it; the source -/
inductive Md where
  | fro | own | own2 | lent (p : Addr) (vs : List V) | src

inductive Rows (H : Hp) (U : AS) : List Addr → List (List D) → Prop
  | nil : Rows H U [] []
  | cons {q : Addr} {qs : List Addr} {vs : List V} {ds : List D} {dss : List (List D)} : H q = some (.lst vs) → DenL H U vs ds → Rows H U qs dss → Rows H U (q :: qs) (ds :: dss)

/-- slot: mode, datum, value, own addresses -/
inductive SlotR (c : Fx) (H : Hp) (U : AS) : Md → Option D → Option V → List Addr → Prop
  | no {m : Md} {o : Option V} : SlotR c H U m none o []
  | fro {d : D} {v : V} : Den H U v d → SlotR c H U .fro (some d) (some v) []
  | own {p : Addr} {vs : List V} {ds : List D} : H p = some (.lst vs) → DenL H U vs ds → SlotR c H U .own (some (.list ds)) (some (.ref p)) [p]
  | lent {p : Addr} {vs : List V} {ds : List D} : H p = some (.lst vs) → DenL H U vs ds → SlotR c H U (.lent p vs) (some (.list ds)) (some (.ref p)) [p]
  | own2 {p : Addr} {qs : List Addr} {dss : List (List D)} : H p = some (.lst (qs.map V.ref)) → Rows H U qs dss → SlotR c H U .own2 (some (.list (dss.map .list))) (some (.ref p)) (p :: qs)
  | src {d : D} : SlotR c H U .src (some d) (some (.ref c.src)) []

inductive Slots (c : Fx) (H : Hp) (U : AS) : List Md → Env → St → List Addr → Prop
  | nil : Slots c H U [] [] [] []
  | cons {m : Md} {d : Option D} {o : Option V} {ps qs : List Addr} {Γ : List Md} {ρ : Env} {σ : St} : SlotR c H U m d o ps → Slots c H U Γ ρ σ qs → Slots c H U (m :: Γ) (d :: ρ) (o :: σ) (ps ++ qs)

def Fx.U (c : Fx) (ps : List Addr) : AS := fun a => c.U0 a ∨ a ∈ ps
/-- what stands in a mutable place is no tuple -/
def Loose (H : Hp) (U : AS) : Prop := ∀ a, U a → ∃ o, H a = some o ∧ ∀ xs, o ≠ .tup xs

/-- lists and tuples are no longer than may be -/
def Sz (H : Hp) : Prop := ∀ a xs, (H a = some (.lst xs) ∨ H a = some (.tup xs)) → xs.length ≤ sizeLine

structure R (c : Fx) (Γ : List Md) (ρ : Env) (ps : List Addr) (σ : St) (H : Hp) : Prop where
  ok : c.Ok
  keep : ∀ a o, c.H0 a = some o → ¬ c.A a → H a = some o
  there : ∀ a o, c.H0 a = some o → ∃ o', H a = some o'
  inv : c.J H
  al : Loose H c.U0
  sz : Sz H
  sl : Slots c H (c.U ps) Γ ρ σ ps
  nd : ps.Nodup
  own : ∀ p ∈ ps, c.H0 p = none ∧ ¬ c.U0 p

/-- a step of reckoning: only the source may change -/
structure Stp (c : Fx) (H H' : Hp) : Prop where
  keep : ∀ a o, H a = some o → ¬ c.A a → H' a = some o
  there : ∀ a o, H a = some o → ∃ o', H' a = some o'
  inv : c.J H → c.J H'
  al : Loose H c.U0 → Loose H' c.U0
  sz : Sz H → Sz H'
theorem Stp.refl (c : Fx) (H : Hp) : Stp c H H := ⟨fun _ _ h _ => h, fun _ o h => ⟨o, h⟩, fun h => h, fun h => h, fun h => h⟩
theorem Stp.trans {c : Fx} {H H1 H2 : Hp} (a : Stp c H H1) (b : Stp c H1 H2) : Stp c H H2 :=
  ⟨fun x o h n => b.keep x o (a.keep x o h n) n, fun x o h => let ⟨o', h'⟩ := a.there x o h; b.there x o' h', fun h => b.inv (a.inv h), fun h => b.al (a.al h), fun h => b.sz (a.sz h)⟩
theorem Stp.fresh {c : Fx} {H H' : Hp} {p : Addr} (e : Stp c H H') (h : H' p = none) : H p = none := by
  cases q : H p with
  | none => rfl
  | some o => obtain ⟨o', h'⟩ := e.there p o q; rw [h] at h'; cases h'
/-- all that stood stands -/
theorem Stp.same {c : Fx} (ok : c.Ok) {H H' : Hp} (e : ∀ a o, H a = some o → H' a = some o) (z : Sz H → Sz H') : Stp c H H' :=
  ⟨fun a o h _ => e a o h, fun a o h => ⟨o, e a o h⟩, fun h => ok.st H H' h fun a o _ q => e a o q, fun h a u => let ⟨o, h1, h2⟩ := h a u; ⟨o, e a o h1, h2⟩, z⟩
theorem Sz.upd {H : Hp} {p : Addr} {o : HO} (h : Sz H) (ho : ∀ xs, (o = .lst xs ∨ o = .tup xs) → xs.length ≤ sizeLine) : Sz (upd H p o) := fun a xs q => by
  by_cases e : a = p
  · subst e
    rw [upd_same] at q
    rcases q with q | q
    · exact ho xs (.inl (Option.some.inj q))
    · exact ho xs (.inr (Option.some.inj q))
  · rw [upd_ne e] at q; exact h a xs q
theorem upd_keep {H : Hp} {p : Addr} {o : HO} (h : H p = none) : ∀ a u, H a = some u → upd H p o a = some u := fun a u e => by
  rw [upd_ne (ne_of_none e h)]; exact e
theorem Stp.new {c : Fx} (ok : c.Ok) {H : Hp} {p : Addr} {o : HO} (h : H p = none) (ho : ∀ xs, (o = .lst xs ∨ o = .tup xs) → xs.length ≤ sizeLine) : Stp c H (upd H p o) :=
  Stp.same ok (upd_keep h) fun z => z.upd ho
theorem Stp.lst {c : Fx} (ok : c.Ok) {H : Hp} {p : Addr} {xs : List V} (h : H p = none) (ho : xs.length ≤ sizeLine) : Stp c H (upd H p (.lst xs)) :=
  Stp.new ok h fun ys q => by rcases q with q | q <;> cases q; exact ho
theorem Stp.tup {c : Fx} (ok : c.Ok) {H : Hp} {p : Addr} {xs : List V} (h : H p = none) (ho : xs.length ≤ sizeLine) : Stp c H (upd H p (.tup xs)) :=
  Stp.new ok h fun ys q => by rcases q with q | q <;> cases q; exact ho

theorem Rows.monoOn {H H' : Hp} {U U' : AS} (e : ∀ a o, H a = some o → ¬ U a → H' a = some o) (u : ∀ a o, H a = some o → U' a → U a) :
    ∀ {qs : List Addr} {dss : List (List D)}, (∀ a ∈ qs, ∀ o, H a = some o → H' a = some o) → Rows H U qs dss → Rows H' U' qs dss
  | _, _, _, .nil => .nil
  | _, _, q, .cons h d t => .cons (q _ (List.mem_cons_self ..) _ h) (d.mono e u) (Rows.monoOn e u (fun a ha => q a (List.mem_cons_of_mem _ ha)) t)

/-- the slots over another heap, own lists kept -/
theorem SlotR.mono {c : Fx} {H H' : Hp} {U U' : AS} {m : Md} {d : Option D} {o : Option V} {ps : List Addr} (q : ∀ a ∈ ps, ∀ o, H a = some o → H' a = some o) (e : ∀ a o, H a = some o → ¬ U a → H' a = some o)
    (u : ∀ a o, H a = some o → U' a → U a) (h : SlotR c H U m d o ps) : SlotR c H' U' m d o ps := by
  cases h with
  | no => exact .no
  | fro h => exact .fro (h.mono e u)
  | own h1 h2 => exact .own (q _ (by simp) _ h1) (h2.mono e u)
  | lent h1 h2 => exact .lent (q _ (by simp) _ h1) (h2.mono e u)
  | own2 h1 h2 => exact .own2 (q _ (by simp) _ h1) (h2.monoOn e u fun a ha => q a (List.mem_cons_of_mem _ ha))
  | src => exact .src
theorem Slots.mono {c : Fx} {H H' : Hp} {U U' : AS} {Γ : List Md} {ρ : Env} {σ : St} {ps : List Addr} (q : ∀ a ∈ ps, ∀ o, H a = some o → H' a = some o) (e : ∀ a o, H a = some o → ¬ U a → H' a = some o)
    (u : ∀ a o, H a = some o → U' a → U a) (h : Slots c H U Γ ρ σ ps) : Slots c H' U' Γ ρ σ ps := by
  induction h with
  | nil => exact .nil
  | cons h1 _ ih => exact .cons (h1.mono (fun a ha => q a (List.mem_append_left _ ha)) e u) (ih fun a ha => q a (List.mem_append_right _ ha))

section
variable {c : Fx} {Γ : List Md} {ρ : Env} {ps : List Addr} {σ : St} {H H' : Hp} {v : V} {d : D} {vs : List V} {ds : List D}
theorem R.nA (r : R c Γ ρ ps σ H) {a : Addr} (h : ¬ c.U ps a) : ¬ c.A a := fun q => h (.inl (r.ok.sub a q))
theorem R.ownA (r : R c Γ ρ ps σ H) {p : Addr} (h : p ∈ ps) : ¬ c.A p := fun q => (r.own p h).2 (r.ok.sub p q)
theorem Den.stp (ok : c.Ok) (e : Stp c H H') (h : Den H (c.U ps) v d) : Den H' (c.U ps) v d :=
  h.mono (fun a o q n => e.keep a o q fun z => n (.inl (ok.sub a z))) fun _ _ _ q => q
theorem DenL.stp (ok : c.Ok) (e : Stp c H H') (h : DenL H (c.U ps) vs ds) : DenL H' (c.U ps) vs ds :=
  h.mono (fun a o q n => e.keep a o q fun z => n (.inl (ok.sub a z))) fun _ _ _ q => q
theorem Den.stpA (e : Stp c H H') (h : Den H c.A v d) : Den H' c.A v d := h.mono (fun a o q n => e.keep a o q n) fun _ _ _ q => q
theorem DenL.stpA (e : Stp c H H') (h : DenL H c.A vs ds) : DenL H' c.A vs ds := h.mono (fun a o q n => e.keep a o q n) fun _ _ _ q => q
theorem Den.borrow (ok : c.Ok) (h : Den H (c.U ps) v d) : Den H c.A v d := h.mono (fun _ _ q _ => q) fun a _ _ q => .inl (ok.sub a q)
theorem DenL.borrow (ok : c.Ok) (h : DenL H (c.U ps) vs ds) : DenL H c.A vs ds := h.mono (fun _ _ q _ => q) fun a _ _ q => .inl (ok.sub a q)
theorem R.stp (r : R c Γ ρ ps σ H) (e : Stp c H H') : R c Γ ρ ps σ H' where
  ok := r.ok
  keep := fun a o h n => e.keep a o (r.keep a o h n) n
  there := fun a o h => let ⟨o', h'⟩ := r.there a o h; e.there a o' h'
  inv := e.inv r.inv
  al := e.al r.al
  sz := e.sz r.sz
  sl := r.sl.mono (fun a ha o q => e.keep a o q (r.ownA ha)) (fun a o q n => e.keep a o q (r.nA n)) fun _ _ _ q => q
  nd := r.nd
  own := r.own
theorem Rows.loose {U : AS} {qs : List Addr} {dss : List (List D)} (h : Rows H U qs dss) : ∀ p ∈ qs, ∃ xs, H p = some (.lst xs) := by
  induction h with
  | nil => intro p hp; cases hp
  | cons h1 _ _ ih =>
    intro p hp
    rcases List.mem_cons.mp hp with rfl | hp
    · exact ⟨_, h1⟩
    · exact ih p hp
theorem SlotR.loose {U : AS} {m : Md} {x : Option D} {o : Option V} {qs : List Addr} (h : SlotR c H U m x o qs) : ∀ p ∈ qs, ∃ xs, H p = some (.lst xs) := by
  intro p hp
  cases h with
  | no => cases hp
  | fro _ => cases hp
  | own h1 _ => rw [List.mem_singleton.mp hp]; exact ⟨_, h1⟩
  | lent h1 _ => rw [List.mem_singleton.mp hp]; exact ⟨_, h1⟩
  | own2 h1 h2 =>
    rcases List.mem_cons.mp hp with rfl | hp
    · exact ⟨_, h1⟩
    · exact h2.loose p hp
  | src => cases hp
theorem Slots.loose {U : AS} (h : Slots c H U Γ ρ σ ps) : ∀ p ∈ ps, ∃ xs, H p = some (.lst xs) := by
  induction h with
  | nil => intro p hp; cases hp
  | cons h1 _ ih =>
    intro p hp
    rcases List.mem_append.mp hp with hp | hp
    · exact h1.loose p hp
    · exact ih p hp
theorem R.loose (r : R c Γ ρ ps σ H) : Loose H (c.U ps) := fun a u => by
  rcases u with u | u
  · exact r.al a u
  · obtain ⟨xs, h⟩ := r.sl.loose a u
    exact ⟨_, h, fun ys q => by cases q⟩
theorem R.new (r : R c Γ ρ ps σ H) {p : Addr} (h : H p = none) : ¬ c.U ps p := fun u => by
  obtain ⟨o, h', _⟩ := r.loose p u
  rw [h] at h'; cases h'
theorem Slots.len {U : AS} (h : Slots c H U Γ ρ σ ps) : Γ.length = ρ.length ∧ ρ.length = σ.length := by
  induction h with
  | nil => exact ⟨rfl, rfl⟩
  | cons _ _ ih => exact ⟨congrArg (· + 1) ih.1, congrArg (· + 1) ih.2⟩
theorem Slots.get {U : AS} (h : Slots c H U Γ ρ σ ps) : ∀ {i : Nat} {m : Md} {d : Option D}, Γ[i]? = some m → ρ[i]? = some d →
    ∃ o qs, σ[i]? = some o ∧ SlotR c H U m d o qs ∧ ∀ p ∈ qs, p ∈ ps := by
  induction h with
  | nil => intro i m d h; simp at h
  | cons h1 _ ih =>
    intro i m d hm hd
    cases i with
    | zero =>
      simp at hm hd; subst hm; subst hd
      exact ⟨_, _, rfl, h1, fun p hp => List.mem_append_left _ hp⟩
    | succ i =>
      obtain ⟨o, qs, e1, e2, e3⟩ := ih (i := i) (by simpa using hm) (by simpa using hd)
      exact ⟨o, qs, by simpa using e1, e2, fun p hp => List.mem_append_right _ (e3 p hp)⟩
end

/-- what may be looked at: a datum, or a list of this def's own whose items are data -/
inductive View (c : Fx) (ps : List Addr) (H : Hp) : V → D → Prop
  | den {v : V} {d : D} : Den H (c.U ps) v d → View c ps H v d
  | own {p : Addr} {vs : List V} {ds : List D} : H p = some (.lst vs) → p ∈ ps → DenL H (c.U ps) vs ds → View c ps H (.ref p) (.list ds)
theorem View.stp {c : Fx} {ps : List Addr} {H H' : Hp} {v : V} {d : D} (ok : c.Ok) (hp : ∀ p ∈ ps, ¬ c.A p) (e : Stp c H H') (h : View c ps H v d) : View c ps H' v d := by
  cases h with
  | den h => exact .den (h.stp ok e)
  | own h1 h2 h3 => exact .own (e.keep _ _ h1 (hp _ h2)) h2 (h3.stp ok e)
theorem View.borrow {c : Fx} {ps : List Addr} {H : Hp} {v : V} {d : D} (ok : c.Ok) (hp : ∀ p ∈ ps, ¬ c.A p) (h : View c ps H v d) : Den H c.A v d := by
  cases h with
  | den h => exact h.borrow ok
  | own h1 h2 h3 => exact .lst h1 (hp _ h2) (h3.borrow ok)

/-! ### the judgements over readings -/
section
variable (s : Sx) (Γ : List Md)
/-- an expression's value: a datum | looked at | a new list -/
def SemE (t : TE) (f : Env → M D) : Prop := ∀ c ρ ps σ H Q P, c.s = s → R c Γ ρ ps σ H → f ρ P → (∀ d v H', P d → Stp c H H' → Den H' (c.U ps) v d → Q v H') → t σ H Q
def SemV (t : TE) (f : Env → M D) : Prop := ∀ c ρ ps σ H Q P, c.s = s → R c Γ ρ ps σ H → f ρ P → (∀ d v H', P d → Stp c H H' → View c ps H' v d → Q v H') → t σ H Q
def SemL (t : TE) (f : Env → M (List D)) : Prop := ∀ c ρ ps σ H Q P, c.s = s → R c Γ ρ ps σ H → f ρ P →
  (∀ ds p vs H', P ds → Stp c H H' → H p = none → H' p = some (.lst vs) → DenL H' (fun a => c.U ps a ∨ a = p) vs ds → Q (.ref p) H') → t σ H Q
def SemT (t : TT) (g : Env → M Bool) : Prop := ∀ c ρ ps σ H Q P, c.s = s → R c Γ ρ ps σ H → g ρ P → (∀ b H', P b → Stp c H H' → Q b H') → t σ H Q
/-- arguments -/
def SemA (t : TA) (f : Env → M (List D)) : Prop := ∀ c ρ ps σ H Q P, c.s = s → R c Γ ρ ps σ H → f ρ P → (∀ ds vs H', P ds → Stp c H H' → DenL H' (c.U ps) vs ds → Q vs H') → t σ H Q
end
inductive Views (c : Fx) (ps : List Addr) (H : Hp) : List V → List D → Prop
  | nil : Views c ps H [] []
  | cons {v : V} {vs : List V} {d : D} {ds : List D} : View c ps H v d → Views c ps H vs ds → Views c ps H (v :: vs) (d :: ds)
theorem Views.stp {c : Fx} {ps : List Addr} {H H' : Hp} (ok : c.Ok) (hp : ∀ p ∈ ps, ¬ c.A p) (e : Stp c H H') : ∀ {vs : List V} {ds : List D}, Views c ps H vs ds → Views c ps H' vs ds
  | _, _, .nil => .nil
  | _, _, .cons h t => .cons (h.stp ok hp e) (Views.stp ok hp e t)
def SemAV (s : Sx) (Γ : List Md) (t : TA) (f : Env → M (List D)) : Prop := ∀ c ρ ps σ H Q P, c.s = s → R c Γ ρ ps σ H → f ρ P → (∀ ds vs H', P ds → Stp c H H' → Views c ps H' vs ds → Q vs H') → t σ H Q

theorem SemE.v {s : Sx} {Γ : List Md} {t : TE} {f : Env → M D} (h : SemE s Γ t f) : SemV s Γ t f := fun c ρ ps σ H Q P e r q k =>
  h c ρ ps σ H Q P e r q fun d v H' p e dn => k d v H' p e (.den dn)
def mkL (f : Env → M (List D)) : Env → M D := fun ρ => bnd (f ρ) fun ds => ret (.list ds)
theorem SemL.e {s : Sx} {Γ : List Md} {t : TE} {f : Env → M (List D)} (h : SemL s Γ t f) : SemE s Γ t (mkL f) := fun c ρ ps σ H Q P ec r q k =>
  h c ρ ps σ H Q (fun ds => P (.list ds)) ec r q fun ds p vs H' p' e hn hp dn =>
    k (.list ds) (.ref p) H' p' e (.lst hp (fun u => by
      have := r.new hn; exact this u) (dn.mono (fun _ _ q _ => q) fun _ _ _ u => .inl u))
end Py
/-! PyB: expressions without calls and loops. -/
namespace Py
open PySem L2

/-! ### facts at hand in a state -/
structure Gd (c : Fx) (ps : List Addr) (H : Hp) : Prop where
  ok : c.Ok
  lo : Loose H (c.U ps)
  sz : Sz H
  nA : ∀ p ∈ ps, ¬ c.A p
  inv : c.J H
theorem R.gd {c : Fx} {Γ : List Md} {ρ : Env} {ps : List Addr} {σ : St} {H : Hp} (r : R c Γ ρ ps σ H) : Gd c ps H := ⟨r.ok, r.loose, r.sz, fun p h => r.ownA h, r.inv⟩
theorem Gd.new {c : Fx} {ps : List Addr} {H : Hp} (g : Gd c ps H) {p : Addr} (h : H p = none) : ¬ c.U ps p := fun u => by
  obtain ⟨o, h', _⟩ := g.lo p u
  rw [h] at h'; cases h'
section
variable {c : Fx} {ps : List Addr} {H : Hp} {v w : V} {d : D}
theorem View.int {i : Int} (h : View c ps H v (.int i)) : v = .int i := by cases h with | den h => cases h; rfl
theorem View.bl {b : Bool} (h : View c ps H v (.bool b)) : v = .bl b := by cases h with | den h => cases h; rfl
theorem View.str {b : Str} (h : View c ps H v (.str b)) : v = .str b := by cases h with | den h => cases h; rfl
theorem View.non (h : View c ps H v .none) : v = .non := by cases h with | den h => cases h; rfl
theorem View.non_iff (h : View c ps H v d) : v = .non ↔ d = .none := by
  constructor
  · intro e; subst e
    cases h with | den h => cases h; rfl
  · intro e; subst e; exact h.non
theorem View.lst {ds : List D} (h : View c ps H v (.list ds)) : ∃ a vs, v = .ref a ∧ H a = some (.lst vs) ∧ DenL H (c.U ps) vs ds := by
  cases h with
  | den h => cases h with | lst h1 h2 h3 => exact ⟨_, _, rfl, h1, h3⟩
  | own h1 h2 h3 => exact ⟨_, _, rfl, h1, h3⟩
theorem View.tup {ds : List D} (h : View c ps H v (.tuple ds)) : ∃ a vs, v = .ref a ∧ H a = some (.tup vs) ∧ DenL H (c.U ps) vs ds ∧ ¬ c.U ps a := by
  cases h with | den h => cases h with | tup h1 h2 h3 => exact ⟨_, _, rfl, h1, h3, h2⟩
end

/-! ### names, constants -/
section
variable {s : Sx} {Γ : List Md}
def eVar (i : Nat) : Env → M D := fun ρ => match ρ[i]? with | some (some d) => ret d | _ => stuck
theorem eVar_get {i : Nat} {ρ : Env} {P : D → Prop} (h : eVar i ρ P) : ∃ d, ρ[i]? = some (some d) ∧ P d := by
  unfold eVar at h
  generalize ρ[i]? = z at h ⊢
  rcases z with _ | _ | d
  · cases h
  · cases h
  · exact ⟨d, rfl, h⟩
theorem sem_var {i : Nat} (hm : Γ[i]? = some .fro) : SemE s Γ (tVar i) (eVar i) := by
  intro c ρ ps σ H Q P _ r q k
  obtain ⟨d, e, p⟩ := eVar_get q
  obtain ⟨o, qs, e1, e2, _⟩ := r.sl.get hm e
  cases e2 with
  | fro h => exact ⟨_, e1, k d _ H p (Stp.refl c H) h⟩
theorem sem_own {i : Nat} (hm : Γ[i]? = some .own) : SemV s Γ (tVar i) (eVar i) := by
  intro c ρ ps σ H Q P _ r q k
  obtain ⟨d, e, p⟩ := eVar_get q
  obtain ⟨o, qs, e1, e2, e3⟩ := r.sl.get hm e
  cases e2 with
  | own h1 h2 => exact ⟨_, e1, k _ _ H p (Stp.refl c H) (.own h1 (e3 _ (by simp)) h2)⟩
theorem sem_lent {i : Nat} {p : Addr} {vs : List V} (hm : Γ[i]? = some (.lent p vs)) : SemV s Γ (tVar i) (eVar i) := by
  intro c ρ ps σ H Q P _ r q k
  obtain ⟨d, e, p⟩ := eVar_get q
  obtain ⟨o, qs, e1, e2, e3⟩ := r.sl.get hm e
  cases e2 with
  | lent h1 h2 => exact ⟨_, e1, k _ _ H p (Stp.refl c H) (.own h1 (e3 _ (by simp)) h2)⟩
def eC (d : D) : Env → M D := fun _ => ret d
theorem sem_int {i : Int} : SemE s Γ (tC (.int i)) (eC (.int i)) := fun c ρ ps σ H Q P _ r q k => k _ _ H q (Stp.refl c H) (.int i)
theorem sem_bl {i : Bool} : SemE s Γ (tC (.bl i)) (eC (.bool i)) := fun c ρ ps σ H Q P _ r q k => k _ _ H q (Stp.refl c H) (.bl i)
theorem sem_str {i : Str} : SemE s Γ (tC (.str i)) (eC (.str i)) := fun c ρ ps σ H Q P _ r q k => k _ _ H q (Stp.refl c H) (.str i)
theorem sem_non : SemE s Γ (tC .non) (eC .none) := fun c ρ ps σ H Q P _ r q k => k _ _ H q (Stp.refl c H) .non

/-! ### operators by values -/
/-- r reckons g; what it gives is a datum -/
def OpE (s : Sx) (r : R2) (g : D → D → M D) : Prop := ∀ c ps H x y u v Q P, c.s = s → Gd c ps H → View c ps H u x → View c ps H v y → g x y P → (∀ d w H', P d → Stp c H H' → Den H' (c.U ps) w d → Q w H') → r u v H Q
def UnE (s : Sx) (r : V → Hp → VK → Prop) (g : D → M D) : Prop := ∀ c ps H x u Q P, c.s = s → Gd c ps H → View c ps H u x → g x P → (∀ d w H', P d → Stp c H H' → Den H' (c.U ps) w d → Q w H') → r u H Q
def bin (g : D → D → M D) (a b : Env → M D) : Env → M D := fun ρ => bnd (a ρ) fun x => bnd (b ρ) fun y => g x y
def una (g : D → M D) (a : Env → M D) : Env → M D := fun ρ => bnd (a ρ) g
theorem sem_op {r : R2} {g : D → D → M D} {ta tb : TE} {a b : Env → M D} (o : OpE s r g) (ha : SemV s Γ ta a) (hb : SemV s Γ tb b) : SemE s Γ (tOp r ta tb) (bin g a b) := by
  intro c ρ ps σ H Q P hc r0 q k
  refine ha c ρ ps σ H _ _ hc r0 q fun x u H1 q1 e1 d1 => ?_
  refine hb c ρ ps σ H1 _ _ hc (r0.stp e1) q1 fun y v H2 q2 e2 d2 => ?_
  have r2 := (r0.stp e1).stp e2
  exact o c ps H2 x y u v Q P hc r2.gd (d1.stp r0.ok r2.gd.nA e2) d2 q2 fun d w H3 p e3 dn => k d w H3 p ((e1.trans e2).trans e3) dn
theorem sem_un {r : V → Hp → VK → Prop} {g : D → M D} {ta : TE} {a : Env → M D} (o : UnE s r g) (ha : SemV s Γ ta a) : SemE s Γ (tUn r ta) (una g a) := by
  intro c ρ ps σ H Q P hc r0 q k
  refine ha c ρ ps σ H _ _ hc r0 q fun x u H1 q1 e1 d1 => ?_
  exact o c ps H1 x u Q P hc (r0.stp e1).gd d1 q1 fun d w H3 p e3 dn => k d w H3 p (e1.trans e3) dn

/-- two ints -/
def gI (f : Int → Int → D) : D → D → M D
  | .int i, .int j => ret (f i j)
  | _, _ => stuck
/-- two ints, on a condition -/
def gIc (p : Int → Int → Bool) (f : Int → Int → D) : D → D → M D
  | .int i, .int j => if p i j = true then ret (f i j) else stuck
  | _, _ => stuck
theorem op_i0 {f : Int → Int → V} {g : Int → Int → D} (h : ∀ i j H U, Den H U (f i j) (g i j)) : OpE s (rI0 f) (gI g) := by
  intro c ps H x y u v Q P hc G hx hy q k
  unfold gI at q
  split at q
  · exact ⟨_, _, hx.int, hy.int, k _ _ H q (Stp.refl c H) (h _ _ _ _)⟩
  · cases q
theorem op_ic {C : Int → Int → Prop} {p : Int → Int → Bool} {f : Int → Int → V} {g : Int → Int → D} (hp : ∀ i j, p i j = true → C i j) (h : ∀ i j H U, Den H U (f i j) (g i j)) : OpE s (rI C f) (gIc p g) := by
  intro c ps H x y u v Q P hc G hx hy q k
  unfold gIc at q
  split at q
  · split at q
    · exact ⟨_, _, hx.int, hy.int, hp _ _ (by assumption), k _ _ H q (Stp.refl c H) (h _ _ _ _)⟩
    · cases q
  · cases q
abbrev gSub : D → D → M D := gI fun i j => .int (i - j)
abbrev gLt : D → D → M D := gI fun i j => .bool (decide (i < j))
abbrev gLe : D → D → M D := gI fun i j => .bool (decide (i ≤ j))
abbrev gGt : D → D → M D := gI fun i j => .bool (decide (j < i))
abbrev gGe : D → D → M D := gI fun i j => .bool (decide (j ≤ i))
def mulOk (i j : Int) : Bool := decide (i.natAbs.log2 + j.natAbs.log2 < 1000000)
def divOk (_ j : Int) : Bool := decide (j ≠ 0 ∧ j.natAbs.log2 < 9000)
def modOk (_ j : Int) : Bool := decide (j ≠ 0)
abbrev gFdiv : D → D → M D := gIc divOk fun i j => .int (i.fdiv j)
abbrev gMod : D → D → M D := gIc modOk fun i j => .int (i.fmod j)
def CDivF (_ j : Int) : Prop := j ≠ 0 ∧ j.natAbs.log2 < 9000
theorem divOk_c {i j : Int} (h : divOk i j = true) : CDivF i j := by
  unfold divOk at h
  have h' := of_decide_eq_true h
  exact h'
theorem mulOk_c {i j : Int} (h : mulOk i j = true) : CMulW i j := by
  unfold mulOk at h
  have h' := of_decide_eq_true h
  exact h'
theorem modOk_c {i j : Int} (h : modOk i j = true) : j ≠ 0 := by
  unfold modOk at h
  exact of_decide_eq_true h
theorem op_fdivF {X : Cx} : OpR X (binaryOp .FloorDiv) (rI CDivF fun i j => .int (i.fdiv j)) := opI fun _ _ _ _ _ _ _ hc q => PyProof.Rows.floordiv_int hc.1 q (.inl (PyProof.noPylong_of_log2 hc.2))
abbrev rSubI : R2 := rI0 fun i j => .int (i - j)
abbrev rFdivI : R2 := rI CDivF fun i j => .int (i.fdiv j)
abbrev rModI : R2 := rI (fun _ j => j ≠ 0) fun i j => .int (i.fmod j)
theorem oe_sub : OpE s rSubI gSub := op_i0 fun _ _ _ _ => .int _
theorem oe_fdiv : OpE s rFdivI gFdiv := op_ic (fun i j h => divOk_c h) fun _ _ _ _ => .int _
theorem oe_mod : OpE s rModI gMod := op_ic (fun i j h => modOk_c h) fun _ _ _ _ => .int _
theorem oe_lt : OpE s (rI0 fun i j => .bl (decide (i < j))) gLt := op_i0 fun _ _ _ _ => .bl _
theorem oe_le : OpE s (rI0 fun i j => .bl (decide (i ≤ j))) gLe := op_i0 fun _ _ _ _ => .bl _
theorem oe_gt : OpE s (rI0 fun i j => .bl (decide (j < i))) gGt := op_i0 fun _ _ _ _ => .bl _
theorem oe_ge : OpE s (rI0 fun i j => .bl (decide (j ≤ i))) gGe := op_i0 fun _ _ _ _ => .bl _
def gNeg : D → M D
  | .int i => ret (.int (-i))
  | _ => stuck
theorem oe_neg : UnE s (rU fun i => .int (-i)) gNeg := by
  intro c ps H x u Q P hc G hx q k
  unfold gNeg at q
  split at q
  · exact ⟨_, hx.int, k _ _ H q (Stp.refl c H) (.int _)⟩
  · cases q

/-! ### + of ints, tuples, lists -/
def rAddA (K : PySem.W.Frag) : R2 := fun x y H Q => (rI0 (fun i j => .int (i + j)) x y H Q ∨ rCatA K x y H Q) ∨ rCat x y H Q
theorem op_addA {X : Cx} : OpR X (binaryOp .Add) (rAddA X.K) := (L2.op_add.or op_catA).or op_cat
def lenOk (n : Nat) : Bool := decide (n ≤ 100000)
theorem lenOk_sz {n : Nat} (h : lenOk n = true) : n ≤ sizeLine := Nat.le_trans (of_decide_eq_true h) (by decide)
def gAdd : D → D → M D
  | .int i, .int j => ret (.int (i + j))
  | .tuple a, .tuple b => if lenOk (a.length + b.length) = true then ret (.tuple (a ++ b)) else stuck
  | .list a, .list b => if lenOk (a.length + b.length) = true then ret (.list (a ++ b)) else stuck
  | _, _ => stuck
theorem DenL.nil_iff {H : Hp} {U : AS} {vs : List V} {ds : List D} (h : DenL H U vs ds) : vs = [] ↔ ds = [] := by
  cases h with
  | nil => exact ⟨fun _ => rfl, fun _ => rfl⟩
  | cons _ _ => exact Iff.intro (fun e => nomatch e) (fun e => nomatch e)
theorem oe_add {K : PySem.W.Frag} : OpE s (rAddA K) gAdd := by
  intro c ps H x y u v Q P hc G hx hy q k
  unfold gAdd at q
  split at q
  · exact .inl (.inl ⟨_, _, hx.int, hy.int, k _ _ H q (Stp.refl c H) (.int _)⟩)
  · split at q
    · rename_i a b hl
      obtain ⟨p1, vs, rfl, h1, dn1, n1⟩ := hx.tup
      obtain ⟨p2, ws, rfl, h2, dn2, n2⟩ := hy.tup
      have hz : vs.length + ws.length ≤ sizeLine := by rw [dn1.length, dn2.length]; exact lenOk_sz hl
      refine .inl (.inr ⟨p1, p2, vs, ws, rfl, rfl, SqT.of h1, SqT.of h2, hz, fun e => ?_, fun _ e => ?_, fun _ _ p hp => ?_⟩)
      · have e' := dn1.nil_iff.mp e
        subst e'
        exact k _ _ H q (Stp.refl c H) (.tup h2 n2 dn2)
      · have e' := dn2.nil_iff.mp e
        subst e'
        rw [List.append_nil] at q
        exact k _ _ H q (Stp.refl c H) (.tup h1 n1 dn1)
      · have e := Stp.tup G.ok (xs := vs ++ ws) hp (by rw [List.length_append]; exact hz)
        exact k _ _ _ q e (.tup upd_same (G.new hp) ((dn1.stp G.ok e).append (dn2.stp G.ok e)))
    · cases q
  · split at q
    · rename_i a b hl
      obtain ⟨p1, vs, rfl, h1, dn1⟩ := hx.lst
      obtain ⟨p2, ws, rfl, h2, dn2⟩ := hy.lst
      have hz : vs.length + ws.length ≤ sizeLine := by rw [dn1.length, dn2.length]; exact lenOk_sz hl
      refine .inr ⟨p1, p2, vs, ws, rfl, rfl, h1, h2, hz, fun p hp => ?_⟩
      have e := Stp.lst G.ok (xs := vs ++ ws) hp (by rw [List.length_append]; exact hz)
      exact k _ _ _ q e (.lst upd_same (G.new hp) ((dn1.stp G.ok e).append (dn2.stp G.ok e)))
    · cases q
  · cases q

/-! ### * of ints; a list or a tuple times an int -/
def rMulA (K : PySem.W.Frag) : R2 := fun x y H Q => rI CMulW (fun i j => .int (i * j)) x y H Q ∨ rRep x y H Q
theorem op_mulA {X : Cx} : OpR X (binaryOp .Mult) (rMulA X.K) := op_mulW.or op_rep
def repD : Nat → List D → List D
  | 0, _ => []
  | n + 1, ds => ds ++ repD n ds
theorem DenL.rep {H : Hp} {U : AS} {vs : List V} {ds : List D} (h : DenL H U vs ds) : ∀ n : Nat, DenL H U (List.replicate n vs).flatten (repD n ds)
  | 0 => .nil
  | n + 1 => by rw [List.replicate_succ, List.flatten_cons]; exact h.append (h.rep n)
def gMul : D → D → M D
  | .int i, .int j => if mulOk i j = true then ret (.int (i * j)) else stuck
  | .list a, .int n => if decide (0 ≤ n ∧ n ≤ 1000 ∧ a.length ≤ 100) = true then ret (.list (repD n.toNat a)) else stuck
  | _, _ => stuck
theorem oe_mul {K : PySem.W.Frag} : OpE s (rMulA K) gMul := by
  intro c ps H x y u v Q P hc G hx hy q k
  unfold gMul at q
  split at q
  · split at q
    · exact .inl ⟨_, _, hx.int, hy.int, mulOk_c (by assumption), k _ _ H q (Stp.refl c H) (.int _)⟩
    · cases q
  · split at q
    · rename_i a n hl
      have hb := of_decide_eq_true hl
      obtain ⟨p1, vs, rfl, h1, dn1⟩ := hx.lst
      have hv : vs.length ≤ 100 := by rw [dn1.length]; exact hb.2.2
      have h3 : vs.length * n.toNat ≤ 100 * 1000 := Nat.mul_le_mul hv (by omega)
      have hz : vs.length * n.toNat ≤ sizeLine := Nat.le_trans h3 (by decide)
      refine .inr ⟨p1, n, vs, rfl, hy.int, h1, by omega, by omega, hz, fun p hp => ?_⟩
      have e := Stp.lst G.ok (xs := (List.replicate n.toNat vs).flatten) hp (by rw [List.length_flatten, List.map_replicate, List.sum_replicate_nat, Nat.mul_comm]; exact hz)
      exact k _ _ _ q e (.lst upd_same (G.new hp) ((dn1.stp G.ok e).rep _))
    · cases q
  · cases q

/-! ### == and != of data -/
theorem Den.dp {K : PySem.W.Frag} {H : Hp} {U : AS} : ∀ {d : D} {v : V}, Den H U v d → d.canLay0 = true → Dp K H v d := by
  intro d v h
  refine Den.rec (motive_1 := fun v d _ => d.canLay0 = true → Dp K H v d) (motive_2 := fun vs ds _ => PyData.canLayAll0 ds = true → DpAll K H vs ds) ?_ ?_ ?_ ?_ ?_ ?_ ?_ ?_ ?_ h
  · intro _; exact .non
  · intro b _; exact .bl b
  · intro b _; exact .int b
  · intro b _; exact .str b
  · intro a xs ds ha hu _ ih z; exact .lst (SqL.of ha) (ih (by simpa [PyData.canLay0] using z))
  · intro a xs ds ha hu _ ih z; exact .tup (SqT.of ha) (ih (by simpa [PyData.canLay0] using z))
  · intro a ha hu z; simp [PyData.canLay0] at z
  · intro _; exact .nil
  · intro v vs d ds _ _ h1 h2 z
    have z' : d.canLay0 = true ∧ PyData.canLayAll0 ds = true := by simpa [PyData.canLayAll0] using z
    exact .cons (h1 z'.1) (h2 z'.2)
theorem DenL.dp {K : PySem.W.Frag} {H : Hp} {U : AS} : ∀ {ds : List D} {vs : List V}, DenL H U vs ds → PyData.canLayAll0 ds = true → DpAll K H vs ds
  | _, _, .nil, _ => .nil
  | d :: ds, _, .cons h t, z => by
    have z' : d.canLay0 = true ∧ PyData.canLayAll0 ds = true := by simpa [PyData.canLayAll0] using z
    exact .cons (h.dp z'.1) (t.dp z'.2)
theorem View.dp {K : PySem.W.Frag} {c : Fx} {ps : List Addr} {H : Hp} {v : V} {d : D} (h : View c ps H v d) (z : d.canLay0 = true) : Dp K H v d := by
  cases h with
  | den h => exact h.dp z
  | own h1 _ h3 => exact .lst (SqL.of h1) (h3.dp (by simpa [PyData.canLay0] using z))
def shp (d : D) : Bool := SeqAt.shaped d
theorem shp_lay {d : D} (h : shp d = true) : d.canLay0 = true := SeqAt.canLay_of_shaped h
def gEq : D → D → M D := fun x y => if (shp x && shp y) = true then ret (.bool (PyData.eqv x y)) else stuck
def gNe : D → D → M D := fun x y => if (shp x && shp y) = true then ret (.bool (!PyData.eqv x y)) else stuck
theorem oe_eq {K : PySem.W.Frag} : OpE s (rEqD K) gEq := by
  intro c ps H x y u v Q P hc G hx hy q k
  unfold gEq at q
  split at q
  · rename_i z
    have z' : shp x = true ∧ shp y = true := by simpa using z
    exact ⟨x, y, hx.dp (shp_lay z'.1), hy.dp (shp_lay z'.2), z'.1, z'.2, k _ _ H q (Stp.refl c H) (.bl _)⟩
  · cases q
theorem oe_ne {K : PySem.W.Frag} : OpE s (rNeD K) gNe := by
  intro c ps H x y u v Q P hc G hx hy q k
  unfold gNe at q
  split at q
  · rename_i z
    have z' : shp x = true ∧ shp y = true := by simpa using z
    exact ⟨x, y, hx.dp (shp_lay z'.1), hy.dp (shp_lay z'.2), z'.1, z'.2, k _ _ H q (Stp.refl c H) (.bl _)⟩
  · cases q

/-! ### is None, is True -/
def isNonD : D → Bool
  | .none => true
  | _ => false
def gIsN : D → D → M D := fun x _ => ret (.bool (isNonD x))
def gNotN : D → D → M D := fun x _ => ret (.bool (!isNonD x))
theorem is_non {c : Fx} {ps : List Addr} {H : Hp} {v : V} {d : D} (h : View c ps H v d) : decide (v = .non) = isNonD d := by
  by_cases e : v = .non
  · rw [decide_eq_true e, h.non_iff.mp e]; rfl
  · rw [decide_eq_false e]
    have ne := fun q => e (h.non_iff.mpr q)
    cases d <;> first | rfl | exact absurd rfl ne
abbrev rIsNon : R2 := fun x y H Q => y = .non ∧ Q (.bl (decide (x = .non))) H
abbrev rNotNon : R2 := fun x y H Q => y = .non ∧ Q (.bl (!decide (x = .non))) H
theorem sem_isN {ta : TE} {a : Env → M D} (ha : SemV s Γ ta a) : SemE s Γ (tOp rIsNon ta (tC .non)) (bin gIsN a (eC .none)) := by
  intro c ρ ps σ H Q P hc r0 q k
  refine ha c ρ ps σ H _ _ hc r0 q fun x u H1 q1 e1 d1 => ?_
  refine ⟨rfl, k _ _ H1 q1 e1 ?_⟩
  rw [is_non d1]; exact .bl _
theorem sem_notN {ta : TE} {a : Env → M D} (ha : SemV s Γ ta a) : SemE s Γ (tOp rNotNon ta (tC .non)) (bin gNotN a (eC .none)) := by
  intro c ρ ps σ H Q P hc r0 q k
  refine ha c ρ ps σ H _ _ hc r0 q fun x u H1 q1 e1 d1 => ?_
  refine ⟨rfl, k _ _ H1 q1 e1 ?_⟩
  rw [is_non d1]; exact .bl _
def gB (f : Bool → Bool → Bool) : D → D → M D
  | .bool i, .bool j => ret (.bool (f i j))
  | _, _ => stuck
theorem oe_isB : OpE s rIsB (gB fun a b => decide (a = b)) := by
  intro c ps H x y u v Q P hc G hx hy q k
  unfold gB at q
  split at q
  · exact ⟨_, _, hx.bl, hy.bl, k _ _ H q (Stp.refl c H) (.bl _)⟩
  · cases q
theorem oe_notB : OpE s rNotB (gB fun a b => !decide (a = b)) := by
  intro c ps H x y u v Q P hc G hx hy q k
  unfold gB at q
  split at q
  · exact ⟨_, _, hx.bl, hy.bl, k _ _ H q (Stp.refl c H) (.bl _)⟩
  · cases q

/-! ### tests -/
def tst (e : Env → M D) : Env → M Bool := fun ρ => bnd (e ρ) fun d => match d with | .bool b => ret b | _ => stuck
theorem sem_test {t : TE} {e : Env → M D} (h : SemV s Γ t e) : SemT s Γ (tTest t) (tst e) := by
  intro c ρ ps σ H Q P hc r0 q k
  refine h c ρ ps σ H _ _ hc r0 q fun x u H1 q1 e1 d1 => ?_
  dsimp only at q1
  split at q1
  · exact ⟨_, d1.bl, k _ H1 q1 e1⟩
  · cases q1
theorem sem_tB {t : TE} {e : Env → M D} (h : SemV s Γ t e) : SemT s Γ (tB t) (tst e) := by
  intro c ρ ps σ H Q P hc r0 q k
  refine h c ρ ps σ H _ _ hc r0 q fun x u H1 q1 e1 d1 => ?_
  dsimp only at q1
  split at q1
  · exact ⟨_, d1.bl, k _ H1 q1 e1⟩
  · cases q1
/-- the truth of a bool, an int, a sequence, None -/
def truD : D → M Bool
  | .bool b => ret b
  | .int i => ret (i != 0)
  | .list ds => ret (!ds.isEmpty)
  | .tuple ds => ret (!ds.isEmpty)
  | .none => ret false
  | _ => stuck
def tru (e : Env → M D) : Env → M Bool := fun ρ => bnd (e ρ) truD
theorem DenL.empty {H : Hp} {U : AS} {vs : List V} {ds : List D} (h : DenL H U vs ds) : vs.isEmpty = ds.isEmpty := by cases h <;> rfl
theorem sem_tru {K : PySem.W.Frag} {t : TE} {e : Env → M D} (h : SemV s Γ t e) : SemT s Γ (fun σ H Q => t σ H fun x H' => ∃ k, TruV K x H' k ∧ Q k H') (tru e) := by
  intro c ρ ps σ H Q P hc r0 q k
  refine h c ρ ps σ H _ _ hc r0 q fun x u H1 q1 e1 d1 => ?_
  unfold truD at q1
  split at q1
  · rw [d1.bl]; exact ⟨_, rfl, k _ H1 q1 e1⟩
  · rw [d1.int]; exact ⟨_, rfl, k _ H1 q1 e1⟩
  · obtain ⟨a, vs, rfl, h1, dn⟩ := d1.lst
    refine ⟨_, .inl ⟨vs, SqL.of h1, rfl⟩, k _ H1 ?_ e1⟩
    rw [dn.empty]; exact q1
  · obtain ⟨a, vs, rfl, h1, dn, _⟩ := d1.tup
    refine ⟨_, .inr (.inl ⟨vs, SqT.of h1, rfl⟩), k _ H1 ?_ e1⟩
    rw [dn.empty]; exact q1
  · rw [d1.non]; exact ⟨_, rfl, k _ H1 q1 e1⟩
  · cases q1
def bAnd (a b : Env → M Bool) : Env → M Bool := fun ρ => bnd (a ρ) fun x => if x = true then b ρ else ret false
def bOr (a b : Env → M Bool) : Env → M Bool := fun ρ => bnd (a ρ) fun x => if x = true then ret true else b ρ
def bNot (a : Env → M Bool) : Env → M Bool := fun ρ => bnd (a ρ) fun x => ret (!x)
theorem sem_and {t u : TT} {a b : Env → M Bool} (ha : SemT s Γ t a) (hb : SemT s Γ u b) : SemT s Γ (tAnd t u) (bAnd a b) := by
  intro c ρ ps σ H Q P hc r0 q k
  refine ha c ρ ps σ H _ _ hc r0 q fun x H1 q1 e1 => ?_
  dsimp only at q1
  cases x with
  | true =>
    refine iteT ?_
    rw [if_pos rfl] at q1
    exact hb c ρ ps σ H1 _ _ hc (r0.stp e1) q1 fun y H2 q2 e2 => k y H2 q2 (e1.trans e2)
  | false =>
    refine iteF ?_
    rw [if_neg Bool.false_ne_true] at q1
    exact k _ H1 q1 e1
theorem sem_or {t u : TT} {a b : Env → M Bool} (ha : SemT s Γ t a) (hb : SemT s Γ u b) : SemT s Γ (tOr t u) (bOr a b) := by
  intro c ρ ps σ H Q P hc r0 q k
  refine ha c ρ ps σ H _ _ hc r0 q fun x H1 q1 e1 => ?_
  dsimp only at q1
  cases x with
  | true =>
    refine iteT ?_
    rw [if_pos rfl] at q1
    exact k _ H1 q1 e1
  | false =>
    refine iteF ?_
    rw [if_neg Bool.false_ne_true] at q1
    exact hb c ρ ps σ H1 _ _ hc (r0.stp e1) q1 fun y H2 q2 e2 => k y H2 q2 (e1.trans e2)
theorem sem_not {t : TT} {a : Env → M Bool} (ha : SemT s Γ t a) : SemT s Γ (tNot t) (bNot a) := by
  intro c ρ ps σ H Q P hc r0 q k
  exact ha c ρ ps σ H _ _ hc r0 q fun x H1 q1 e1 => k _ H1 q1 e1
/-- and, or, not as values: bools -/
def vB (a : Env → M Bool) : Env → M D := fun ρ => bnd (a ρ) fun b => ret (.bool b)
def eAnd (a b : Env → M D) : Env → M D := fun ρ => bnd (tst a ρ) fun x => if x = true then b ρ else ret (.bool false)
def eOr (a b : Env → M D) : Env → M D := fun ρ => bnd (tst a ρ) fun x => if x = true then ret (.bool true) else b ρ
def eNot (a : Env → M D) : Env → M D := fun ρ => bnd (tst a ρ) fun x => ret (.bool (!x))
theorem sem_eAnd {t u : TE} {a b : Env → M D} (ha : SemV s Γ t a) (hb : SemE s Γ u b) : SemE s Γ (tAndV t u) (eAnd a b) := by
  intro c ρ ps σ H Q P hc r0 q k
  refine ha c ρ ps σ H _ _ hc r0 q fun x v H1 q1 e1 d1 => ?_
  dsimp only at q1
  split at q1
  · refine ⟨_, d1.bl, ?_⟩
    rename_i bb
    replace q1 : (if bb = true then b ρ else ret (.bool false)) P := q1
    cases bb with
    | true =>
      rw [if_pos rfl] at q1
      refine iteT ?_
      exact hb c ρ ps σ H1 _ _ hc (r0.stp e1) q1 fun d w H2 q2 e2 dn => k d w H2 q2 (e1.trans e2) dn
    | false =>
      rw [if_neg Bool.false_ne_true] at q1
      exact iteF (k _ _ H1 q1 e1 (.bl _))
  · cases q1
theorem sem_eOr {t u : TE} {a b : Env → M D} (ha : SemV s Γ t a) (hb : SemE s Γ u b) : SemE s Γ (tOrV t u) (eOr a b) := by
  intro c ρ ps σ H Q P hc r0 q k
  refine ha c ρ ps σ H _ _ hc r0 q fun x v H1 q1 e1 d1 => ?_
  dsimp only at q1
  split at q1
  · refine ⟨_, d1.bl, ?_⟩
    rename_i bb
    replace q1 : (if bb = true then ret (.bool true) else b ρ) P := q1
    cases bb with
    | true =>
      rw [if_pos rfl] at q1
      exact iteT (k _ _ H1 q1 e1 (.bl _))
    | false =>
      rw [if_neg Bool.false_ne_true] at q1
      refine iteF ?_
      exact hb c ρ ps σ H1 _ _ hc (r0.stp e1) q1 fun d w H2 q2 e2 dn => k d w H2 q2 (e1.trans e2) dn
  · cases q1
theorem sem_eNot {t : TE} {a : Env → M D} (ha : SemV s Γ t a) : SemE s Γ (tNotV t) (eNot a) := by
  intro c ρ ps σ H Q P hc r0 q k
  refine ha c ρ ps σ H _ _ hc r0 q fun x v H1 q1 e1 d1 => ?_
  dsimp only at q1
  split at q1
  · exact ⟨_, d1.bl, k _ _ H1 q1 e1 (.bl _)⟩
  · cases q1
def eIf (g : Env → M Bool) (a b : Env → M D) : Env → M D := fun ρ => bnd (g ρ) fun x => if x = true then a ρ else b ρ
theorem sem_eIf {t : TT} {u w : TE} {g : Env → M Bool} {a b : Env → M D} (hg : SemT s Γ t g) (ha : SemE s Γ u a) (hb : SemE s Γ w b) : SemE s Γ (tIf t u w) (eIf g a b) := by
  intro c ρ ps σ H Q P hc r0 q k
  refine hg c ρ ps σ H _ _ hc r0 q fun x H1 q1 e1 => ?_
  dsimp only at q1
  cases x with
  | true =>
    rw [if_pos rfl] at q1
    refine iteT ?_
    exact ha c ρ ps σ H1 _ _ hc (r0.stp e1) q1 fun d w H2 q2 e2 dn => k d w H2 q2 (e1.trans e2) dn
  | false =>
    rw [if_neg Bool.false_ne_true] at q1
    refine iteF ?_
    exact hb c ρ ps σ H1 _ _ hc (r0.stp e1) q1 fun d w H2 q2 e2 dn => k d w H2 q2 (e1.trans e2) dn
/-- a < b < c of ints (b asked once) -/
def eChain (g g' : D → D → M D) (a b e : Env → M D) : Env → M D := fun ρ => bnd (a ρ) fun x => bnd (b ρ) fun y => bnd (g x y) fun z => match z with
  | .bool k => if k = true then bnd (e ρ) fun w => g' y w else ret (.bool false)
  | _ => stuck
theorem sem_chain {r r' : R2} {g g' : D → D → M D} {ta tb te : TE} {a b e : Env → M D} (o : OpE s r g) (o' : OpE s r' g') (ha : SemV s Γ ta a) (hb : SemV s Γ tb b) (he : SemV s Γ te e) : SemE s Γ (tChain r r' ta tb te) (eChain g g' a b e) := by
  intro c ρ ps σ H Q P hc r0 q k
  refine ha c ρ ps σ H _ _ hc r0 q fun x u H1 q1 e1 d1 => ?_
  refine hb c ρ ps σ H1 _ _ hc (r0.stp e1) q1 fun y v H2 q2 e2 d2 => ?_
  have r2 := (r0.stp e1).stp e2
  refine o c ps H2 x y u v _ _ hc r2.gd (d1.stp r0.ok r2.gd.nA e2) d2 q2 fun z w H3 q3 e3 d3 => ?_
  dsimp only at q3
  split at q3
  · rename_i kk
    cases d3
    refine ⟨kk, rfl, ?_⟩
    cases kk with
    | true =>
      rw [if_pos rfl] at q3
      refine iteT ?_
      have r3 := r2.stp e3
      refine he c ρ ps σ H3 _ _ hc r3 q3 fun z' w' H4 q4 e4 d4 => ?_
      have r4 := r3.stp e4
      exact o' c ps H4 y z' v w' _ _ hc r4.gd ((d2.stp r0.ok r2.gd.nA e3).stp r0.ok r2.gd.nA e4) d4 q4 fun d w H5 p e5 dn => k d w H5 p ((((e1.trans e2).trans e3).trans e4).trans e5) dn
    | false =>
      rw [if_neg Bool.false_ne_true] at q3
      exact iteF (k _ _ H3 q3 ((e1.trans e2).trans e3) (.bl _))
  · cases q3
end
end Py
/-! PyC: places, slices, displays, targets, what is walked, comprehensions. -/
namespace Py
open PySem L2 StX
section
variable {s : Sx} {Γ : List Md}

/-! ### places -/
def gIx : D → D → M D
  | .list ds, .int i => match atI ds i with | some d => ret d | none => stuck
  | .tuple ds, .int i => match atI ds i with | some d => ret d | none => stuck
  | _, _ => stuck
theorem DenL.atI {H : Hp} {U : AS} {vs : List V} {ds : List D} {i : Int} {d : D} (h : DenL H U vs ds) (e : atI ds i = some d) : ∃ v, L2.atI vs i = some v ∧ Den H U v d := by
  unfold L2.atI at e ⊢
  rw [h.length]
  cases z : ixN ds.length i with
  | none => rw [z] at e; cases e
  | some j => rw [z] at e; exact h.get e
theorem oe_ix {K : PySem.W.Frag} : OpE s (rIx K) gIx := by
  intro c ps H x y u v Q P hc G hx hy q k
  unfold gIx at q
  split at q
  · rename_i ds i
    obtain ⟨a, vs, rfl, h1, dn⟩ := hx.lst
    cases z : L2.atI ds i with
    | none => rw [z] at q; cases q
    | some d =>
      rw [z] at q
      obtain ⟨w, e1, e2⟩ := dn.atI z
      exact .inl ⟨a, vs, i, w, rfl, hy.int, SqL.of h1, e1, k _ _ H q (Stp.refl c H) e2⟩
  · rename_i ds i
    obtain ⟨a, vs, rfl, h1, dn, _⟩ := hx.tup
    cases z : L2.atI ds i with
    | none => rw [z] at q; cases q
    | some d =>
      rw [z] at q
      obtain ⟨w, e1, e2⟩ := dn.atI z
      exact .inr (.inl ⟨a, vs, i, w, rfl, hy.int, SqT.of h1, e1, k _ _ H q (Stp.refl c H) e2⟩)
  · cases q

/-! ### slices -/
def SemO (s : Sx) (Γ : List Md) (t : TO) (f : Env → M (Option Int)) : Prop := ∀ c ρ ps σ H Q P, c.s = s → R c Γ ρ ps σ H → f ρ P → (∀ o H', P o → Stp c H H' → Q o H') → t σ H Q
def oNo : Env → M (Option Int) := fun _ => ret none
def oPart (e : Env → M D) : Env → M (Option Int) := fun ρ => bnd (e ρ) fun d => match d with | .int i => ret (some i) | _ => stuck
theorem sem_oNo : SemO s Γ tNoPart oNo := fun c ρ ps σ H Q P _ r q k => k _ H q (Stp.refl c H)
theorem sem_oPart {t : TE} {e : Env → M D} (h : SemV s Γ t e) : SemO s Γ (tPart t) (oPart e) := by
  intro c ρ ps σ H Q P hc r0 q k
  refine h c ρ ps σ H _ _ hc r0 q fun x u H1 q1 e1 d1 => ?_
  dsimp only at q1
  split at q1
  · exact ⟨_, d1.int, k _ H1 q1 e1⟩
  · cases q1
def cutD (ds : List D) (lo hi : Option Int) : List D := (ds.drop (HT.sIx ds.length 0 lo)).take (HT.sIx ds.length ds.length hi - HT.sIx ds.length 0 lo)
theorem DenL.cut {H : Hp} {U : AS} {vs : List V} {ds : List D} (h : DenL H U vs ds) (lo hi : Option Int) : DenL H U (cutV vs lo hi) (cutD ds lo hi) := by
  unfold cutV cutD
  rw [h.length]
  exact (h.drop _).take _
def gSl (d : D) (lo hi : Option Int) : M D := match d with
  | .list ds => ret (.list (cutD ds lo hi))
  | .tuple ds => ret (.tuple (cutD ds lo hi))
  | _ => stuck
def rSlLT (K : PySem.W.Frag) : V → Option Int → Option Int → Hp → VK → Prop := fun x lo hi H Q => rSlL K x lo hi H Q ∨ rSlA K x lo hi H Q
theorem sl_any {X : Cx} : SlR X (rSlLT X.K) := sl_list.or sl_tupA
def eSl (e : Env → M D) (lo hi : Env → M (Option Int)) : Env → M D := fun ρ => bnd (e ρ) fun d => bnd (lo ρ) fun l => bnd (hi ρ) fun h => gSl d l h
theorem sem_sl {K : PySem.W.Frag} {te : TE} {tl th : TO} {e : Env → M D} {lo hi : Env → M (Option Int)} (he : SemV s Γ te e) (hl : SemO s Γ tl lo) (hh : SemO s Γ th hi) : SemE s Γ (tSl (rSlLT K) te tl th) (eSl e lo hi) := by
  intro c ρ ps σ H Q P hc r0 q k
  refine he c ρ ps σ H _ _ hc r0 q fun x u H1 q1 e1 d1 => ?_
  refine hl c ρ ps σ H1 _ _ hc (r0.stp e1) q1 fun l H2 q2 e2 => ?_
  refine hh c ρ ps σ H2 _ _ hc ((r0.stp e1).stp e2) q2 fun h H3 q3 e3 => ?_
  have r3 := ((r0.stp e1).stp e2).stp e3
  have e4 := e1.trans (e2.trans e3)
  have d3 := d1.stp r0.ok r3.gd.nA (e2.trans e3)
  dsimp only at q3
  unfold gSl at q3
  split at q3
  · obtain ⟨a, vs, rfl, h1, dn⟩ := d3.lst
    refine .inl ⟨a, vs, rfl, SqL.of h1, fun p hp => ?_⟩
    have e := Stp.lst r0.ok (xs := cutV vs l h) hp (Nat.le_trans (cutV_length _ _ _) (r3.sz a vs (.inl h1)))
    exact k _ _ _ q3 (e4.trans e) (.lst upd_same (r3.gd.new hp) ((dn.stp r0.ok e).cut l h))
  · obtain ⟨a, vs, rfl, h1, dn, nu⟩ := d3.tup
    refine .inr ⟨a, vs, rfl, SqT.of h1, fun w => ?_, fun _ p hp => ?_⟩
    · refine k _ _ H3 q3 e4 (.tup h1 nu ?_)
      have hcut : cutV vs l h = vs := by
        unfold cutV
        rw [w.1, w.2, List.drop_zero, Nat.sub_zero, List.take_length]
      have := dn.cut l h
      rwa [hcut] at this
    · have e := Stp.tup r0.ok (xs := cutV vs l h) hp (Nat.le_trans (cutV_length _ _ _) (r3.sz a vs (.inr h1)))
      exact k _ _ _ q3 (e4.trans e) (.tup upd_same (r3.gd.new hp) ((dn.stp r0.ok e).cut l h))
  · cases q3

/-! ### argument lists, displays -/
def aNil : Env → M (List D) := fun _ => ret []
def aCons (a : Env → M D) (r : Env → M (List D)) : Env → M (List D) := fun ρ => bnd (a ρ) fun d => bnd (r ρ) fun ds => ret (d :: ds)
def seqD : D → M (List D)
  | .list ds => ret ds
  | .tuple ds => ret ds
  | _ => stuck
def aStar (a : Env → M D) (r : Env → M (List D)) : Env → M (List D) := fun ρ => bnd (a ρ) fun d => bnd (seqD d) fun xs => bnd (r ρ) fun ds => ret (xs ++ ds)
theorem sem_anil : SemA s Γ tNil aNil := fun c ρ ps σ H Q P _ r q k => k _ _ H q (Stp.refl c H) .nil
theorem sem_acons {t : TE} {u : TA} {a : Env → M D} {r : Env → M (List D)} (ha : SemE s Γ t a) (hr : SemA s Γ u r) : SemA s Γ (tCons t u) (aCons a r) := by
  intro c ρ ps σ H Q P hc r0 q k
  refine ha c ρ ps σ H _ _ hc r0 q fun x u H1 q1 e1 d1 => ?_
  refine hr c ρ ps σ H1 _ _ hc (r0.stp e1) q1 fun ds vs H2 q2 e2 d2 => ?_
  exact k _ _ H2 q2 (e1.trans e2) (.cons (d1.stp r0.ok e2) d2)
theorem seqD_get {d : D} {P : List D → Prop} (h : seqD d P) : ∃ ds, (d = .list ds ∨ d = .tuple ds) ∧ P ds := by
  unfold seqD at h
  split at h
  · exact ⟨_, .inl rfl, h⟩
  · exact ⟨_, .inr rfl, h⟩
  · cases h
theorem View.seq {c : Fx} {ps : List Addr} {H : Hp} {v : V} {d : D} {ds : List D} (h : View c ps H v d) (e : d = .list ds ∨ d = .tuple ds) : ∃ a vs, v = .ref a ∧ ((d = .list ds ∧ H a = some (.lst vs)) ∨ (d = .tuple ds ∧ H a = some (.tup vs))) ∧ DenL H (c.U ps) vs ds := by
  rcases e with rfl | rfl
  · obtain ⟨a, vs, e, h1, h2⟩ := h.lst; exact ⟨a, vs, e, .inl ⟨rfl, h1⟩, h2⟩
  · obtain ⟨a, vs, e, h1, h2, _⟩ := h.tup; exact ⟨a, vs, e, .inr ⟨rfl, h1⟩, h2⟩
theorem sem_astar {K : PySem.W.Frag} {t : TE} {u : TA} {a : Env → M D} {r : Env → M (List D)} (ha : SemV s Γ t a) (hr : SemA s Γ u r) : SemA s Γ (tStar K t u) (aStar a r) := by
  intro c ρ ps σ H Q P hc r0 q k
  refine ha c ρ ps σ H _ _ hc r0 q fun x u H1 q1 e1 d1 => ?_
  obtain ⟨ds, ed, q1⟩ := seqD_get q1
  obtain ⟨p, vs, rfl, h1, dn⟩ := d1.seq ed
  refine ⟨p, vs, rfl, ?_, ?_⟩
  · rcases h1 with ⟨_, h1⟩ | ⟨_, h1⟩
    · exact .inr (SqL.of h1)
    · exact .inl (SqT.of h1)
  · refine hr c ρ ps σ H1 _ _ hc (r0.stp e1) q1 fun es ws H2 q2 e2 d2 => ?_
    exact k _ _ H2 q2 (e1.trans e2) ((dn.stp r0.ok e2).append d2)
def eTup (f : Env → M (List D)) : Env → M D := fun ρ => bnd (f ρ) fun ds => if lenOk ds.length = true then ret (.tuple ds) else stuck
theorem sem_tup {t : TA} {f : Env → M (List D)} (h : SemA s Γ t f) : SemE s Γ (tTup t) (eTup f) := by
  intro c ρ ps σ H Q P hc r0 q k
  refine h c ρ ps σ H _ _ hc r0 q fun ds vs H1 q1 e1 d1 => ?_
  dsimp only at q1
  split at q1
  · rename_i hl
    have hz : vs.length ≤ sizeLine := by rw [d1.length]; exact lenOk_sz hl
    refine ⟨hz, fun p hp => ?_⟩
    have e := Stp.tup r0.ok (xs := vs) hp hz
    exact k _ _ _ q1 (e1.trans e) (.tup upd_same ((r0.stp e1).new hp) (d1.stp r0.ok e))
  · cases q1
def lDisp (f : Env → M (List D)) : Env → M (List D) := fun ρ => bnd (f ρ) fun ds => if lenOk ds.length = true then ret ds else stuck
theorem DenL.plus {H : Hp} {U : AS} {p : Addr} {vs : List V} {ds : List D} {o : HO} (hp : H p = none) (h : DenL H U vs ds) : DenL (upd H p o) (fun a => U a ∨ a = p) vs ds :=
  h.mono (fun a u e _ => upd_keep hp a u e) fun a u e z => z.elim id fun z => by rw [z, hp] at e; cases e
theorem sem_lst {t : TA} {f : Env → M (List D)} (h : SemA s Γ t f) : SemL s Γ (tLst t) (lDisp f) := by
  intro c ρ ps σ H Q P hc r0 q k
  refine h c ρ ps σ H _ _ hc r0 q fun ds vs H1 q1 e1 d1 => ?_
  dsimp only at q1
  split at q1
  · rename_i hl
    have hz : vs.length ≤ sizeLine := by rw [d1.length]; exact lenOk_sz hl
    refine ⟨hz, fun p hp => ?_⟩
    have e := Stp.lst r0.ok (xs := vs) hp hz
    exact k _ p vs _ q1 (e1.trans e) (e1.fresh hp) upd_same (d1.plus hp)
  · cases q1
/-- views, for what only looks at its arguments -/
theorem sem_vnil : SemAV s Γ tNil aNil := fun c ρ ps σ H Q P _ r q k => k _ _ H q (Stp.refl c H) .nil
theorem sem_vcons {t : TE} {u : TA} {a : Env → M D} {r : Env → M (List D)} (ha : SemV s Γ t a) (hr : SemAV s Γ u r) : SemAV s Γ (tCons t u) (aCons a r) := by
  intro c ρ ps σ H Q P hc r0 q k
  refine ha c ρ ps σ H _ _ hc r0 q fun x u H1 q1 e1 d1 => ?_
  refine hr c ρ ps σ H1 _ _ hc (r0.stp e1) q1 fun ds vs H2 q2 e2 d2 => ?_
  exact k _ _ H2 q2 (e1.trans e2) (.cons (d1.stp r0.ok (r0.stp e1).gd.nA e2) d2)

/-! ### targets -/
/-- t stores a datum at places of ts -/
def SemG (s : Sx) (Γ : List Md) (t : TG) (ts : List Nat) (g : D → Env → M Env) : Prop := ∀ c ρ ps σ H d v (Q : St → Hp → Prop) (P : Env → Prop), c.s = s → R c Γ ρ ps σ H → Den H (c.U ps) v d → g d ρ P →
  (∀ ρ' σ', P ρ' → R c Γ ρ' ps σ' H → σ'.length = σ.length → (∀ i, i ∉ ts → σ'[i]? = σ[i]?) → Q σ' H) → t v σ H Q
def SemGs (s : Sx) (Γ : List Md) (t : TGs) (ts : List Nat) (g : List D → Env → M Env) : Prop := ∀ c ρ ps σ H ds vs (Q : St → Hp → Prop) (P : Env → Prop), c.s = s → R c Γ ρ ps σ H → DenL H (c.U ps) vs ds → g ds ρ P →
  (∀ ρ' σ', P ρ' → R c Γ ρ' ps σ' H → σ'.length = σ.length → (∀ i, i ∉ ts → σ'[i]? = σ[i]?) → Q σ' H) → t vs σ H Q
theorem SlotR.froEmpty {c : Fx} {H : Hp} {U : AS} {d : Option D} {o : Option V} {ps : List Addr} (h : SlotR c H U .fro d o ps) : ps = [] := by cases h <;> rfl
theorem Slots.setFro {c : Fx} {H : Hp} {U : AS} {ρ : Env} {σ : St} {ps : List Addr} {v : V} {d : D} (dn : Den H U v d) (h : Slots c H U Γ ρ σ ps) : ∀ {i : Nat}, Γ[i]? = some .fro → Slots c H U Γ (ρ.set i (some d)) (σ.set i (some v)) ps := by
  induction h with
  | nil => intro i hm; simp at hm
  | cons h1 h2 ih =>
    intro i hm
    cases i with
    | zero =>
      simp at hm; subst hm
      have e := h1.froEmpty
      subst e
      exact .cons (.fro dn) h2
    | succ i => exact .cons h1 (ih (by simpa using hm))
theorem Slots.setNo {c : Fx} {H : Hp} {U : AS} {ρ : Env} {σ : St} {ps : List Addr} (h : Slots c H U Γ ρ σ ps) : ∀ {i : Nat} {o : Option V}, Γ[i]? = some .fro → Slots c H U Γ (ρ.set i none) (σ.set i o) ps := by
  induction h with
  | nil => intro i o hm; simp at hm
  | cons h1 h2 ih =>
    intro i o hm
    cases i with
    | zero =>
      simp at hm; subst hm
      have e := h1.froEmpty
      subst e
      exact .cons .no h2
    | succ i => exact .cons h1 (ih (by simpa using hm))
theorem R.setFro {c : Fx} {ρ : Env} {ps : List Addr} {σ : St} {H : Hp} {v : V} {d : D} (r : R c Γ ρ ps σ H) (dn : Den H (c.U ps) v d) {i : Nat} (hm : Γ[i]? = some .fro) : R c Γ (ρ.set i (some d)) ps (σ.set i (some v)) H :=
  { r with sl := r.sl.setFro dn hm }
theorem R.setNo {c : Fx} {ρ : Env} {ps : List Addr} {σ : St} {H : Hp} (r : R c Γ ρ ps σ H) {i : Nat} {o : Option V} (hm : Γ[i]? = some .fro) : R c Γ (ρ.set i none) ps (σ.set i o) H :=
  { r with sl := r.sl.setNo hm }
def tgN (i : Nat) : D → Env → M Env := fun d ρ => ret (ρ.set i (some d))
theorem sem_gname {i : Nat} (hm : Γ[i]? = some .fro) : SemG s Γ (gName i) [i] (tgN i) := by
  intro c ρ ps σ H d v Q P hc r dn q k
  exact k _ _ q (r.setFro dn hm) (by simp) fun j hj => by
    rw [List.getElem?_set_ne (fun e => hj (by simp [e]))]
def tgsNil : List D → Env → M Env := fun ds ρ => match ds with | [] => ret ρ | _ => stuck
def tgsCons (g : D → Env → M Env) (r : List D → Env → M Env) : List D → Env → M Env := fun ds ρ => match ds with | d :: ds => bnd (g d ρ) fun ρ' => r ds ρ' | [] => stuck
theorem sem_gsnil : SemGs s Γ gNil [] tgsNil := by
  intro c ρ ps σ H ds vs Q P hc r dn q k
  unfold tgsNil at q
  split at q
  · cases dn; exact ⟨rfl, k _ _ q r rfl fun _ _ => rfl⟩
  · cases q
theorem sem_gscons {t : TG} {u : TGs} {ts us : List Nat} {g : D → Env → M Env} {g' : List D → Env → M Env} (h : SemG s Γ t ts g) (h' : SemGs s Γ u us g') : SemGs s Γ (gCons t u) (ts ++ us) (tgsCons g g') := by
  intro c ρ ps σ H ds vs Q P hc r dn q k
  unfold tgsCons at q
  split at q
  · cases dn with
    | cons d1 d2 =>
      refine ⟨_, _, rfl, ?_⟩
      refine h c ρ ps σ H _ _ _ _ hc r d1 q fun ρ' σ' q1 r1 l1 n1 => ?_
      refine h' c ρ' ps σ' H _ _ _ _ hc r1 d2 q1 fun ρ2 σ2 q2 r2 l2 n2 => ?_
      exact k ρ2 σ2 q2 r2 (l2.trans l1) fun i hi => (n2 i fun z => hi (List.mem_append_right _ z)).trans (n1 i fun z => hi (List.mem_append_left _ z))
  · cases q
def tgTup (n : Nat) (g : List D → Env → M Env) : D → Env → M Env := fun d ρ => match d with | .tuple ds => if ds.length = n then g ds ρ else stuck | _ => stuck
theorem sem_gtup {K : PySem.W.Frag} {n : Nat} {t : TGs} {ts : List Nat} {g : List D → Env → M Env} (h : SemGs s Γ t ts g) : SemG s Γ (gTup K n t) ts (tgTup n g) := by
  intro c ρ ps σ H d v Q P hc r dn q k
  unfold tgTup at q
  split at q
  · split at q
    · rename_i e
      cases dn with
      | tup h1 h2 h3 =>
        refine ⟨_, _, rfl, SqT.of h1, h3.length.trans e, ?_⟩
        exact h c ρ ps σ H _ _ _ _ hc r h3 q k
    · cases q
  · cases q

/-! ### what is walked -/
/-- nothing else changes than what S tells -/
def Later (S : AS) (H H' : Hp) : Prop := ∀ a o, H a = some o → ¬ S a → H' a = some o
theorem Later.refl (S : AS) (H : Hp) : Later S H H := fun _ _ h _ => h
theorem Later.trans {S : AS} {H H1 H2 : Hp} (a : Later S H H1) (b : Later S H1 H2) : Later S H H2 := fun x o h n => b x o (a x o h n) n
theorem Later.mono {S S' : AS} {H H' : Hp} (h : ∀ a o, H a = some o → S a → S' a) (e : Later S H H') : Later S' H H' := fun x o q n => e x o q fun z => n (h x o q z)
/-- the walk J gives the data ds, whatever happens meanwhile outside S; U: what is mutable -/
structure Items (J : It) (S U : AS) (H : Hp) (ds : List D) : Prop where
  len : ds.length ≤ sizeLine
  go : ∀ i H', Later S H H' → i < ds.length → J.go i H'
  stop : ∀ H', Later S H H' → J.stop ds.length H'
  yld : ∀ i d H' x H'', Later S H H' → Later U H H' → ds[i]? = some d → J.yld i H' x H'' → (∀ a o, H' a = some o → H'' a = some o) ∧ (Sz H' → Sz H'') ∧ ∀ U' : AS, (∀ a o, H a = some o → U' a → U a) → (∀ a, H' a = none → ¬ U' a) → Den H'' U' x d
/-- wi walks; lk: which own lists it leans on (none, or a lent one) -/
def SemI (s : Sx) (Γ : List Md) (wi : TI) (f : Env → M (List D)) : Prop := ∀ c ρ ps σ H (R' : It → Hp → Prop) P, c.s = s → R c Γ ρ ps σ H → f ρ P → (∀ ds J H1, P ds → Stp c H H1 → Items J (c.U ps) (c.U ps) H1 ds → R' J H1) → wi σ H R'
/-- in a comprehension: own lists stand still -/
def SemIc (s : Sx) (Γ : List Md) (wi : TI) (f : Env → M (List D)) : Prop := ∀ c ρ ps σ H (R' : It → Hp → Prop) P, c.s = s → R c Γ ρ ps σ H → f ρ P → (∀ ds J H1, P ds → Stp c H H1 → Items J c.A (c.U ps) H1 ds → R' J H1) → wi σ H R'
end
end Py
/-! PyI: what is walked: sequences (list or tuple), ranges, zip and enumerate over either. -/
namespace Py
open PySem L2 StX PySem.Spec PyProof.Rows

/-! ### a list or a tuple -/
def SqB (K : PySem.W.Frag) (b : Bool) (H : Hp) (a : Addr) (xs : List V) : Prop := if b = true then SqL K H a xs else SqT K H a xs
def RawB (b : Bool) (h : Heap) (a : Addr) (its : Array Value) : Prop := if b = true then h.IsList a its else h.IsTuple a its
def ItB (b : Bool) (h : Heap) (i a : Addr) (k : Nat) : Prop := if b = true then h.IsListIter i a k else h.IsTupleIter i a k
def objB (b : Bool) (a : Addr) : Obj := if b = true then { cls := .type "list_iterator", data := .fields #[.ref a, .int 0 0] } else { cls := .type "tuple_iterator", data := .fields #[.ref a, .int 0 0] }
theorem SqB.raw {X : Cx} {pins : List (Addr × Obj)} {σ : L2.St} {H : Hp} {s : Shared} (I : Inv X pins σ H s) {b : Bool} {a : Addr} {xs : List V} (h : SqB X.K b H a xs) : ∃ its : List Value, Vals xs its ∧ RawB b s.heap a its.toArray ∧ a < s.heap.objs.size := by
  cases b with
  | true =>
    obtain ⟨its, r, p, _⟩ := I.list (show SqL X.K H a xs from h)
    exact ⟨its, r, p.isList, p.lt⟩
  | false =>
    obtain ⟨its, r, p, _⟩ := I.tuple (show SqT X.K H a xs from h)
    exact ⟨its, r, p, p.lt⟩
theorem SqB.inj {X : Cx} {pins : List (Addr × Obj)} {σ : L2.St} {H : Hp} {s : Shared} (I : Inv X pins σ H s) {b : Bool} {a : Addr} {xs ys : List V} (h : SqB X.K b H a xs) (h' : SqB X.K b H a ys) : xs = ys := by
  cases b with
  | true => exact I.list_inj (show SqL X.K H a xs from h) h'
  | false => exact I.tuple_inj (show SqT X.K H a xs from h) h'
theorem ItB.at {b : Bool} {h h' : Heap} {i a : Addr} {k : Nat} (q : ItB b h i a k) (e : ∀ o, h.get? i = some o → h'.get? i = some o) : ItB b h' i a k := by
  cases b with
  | true => exact Heap.IsListIter.at (show h.IsListIter i a k from q) fun o z => e o z
  | false => exact Heap.IsTupleIter.at (show h.IsTupleIter i a k from q) fun o z => e o z
theorem ItB.obj {b : Bool} {h : Heap} {i a : Addr} {k : Nat} (q : ItB b h i a k) : ∃ o, h.get? i = some o ∧ ∀ v, o.data ≠ .cell v := by
  cases b with
  | true =>
    obtain ⟨o, e, _, d⟩ := (show h.IsListIter i a k from q)
    exact ⟨o, e, fun v z => by rw [d] at z; cases z⟩
  | false =>
    obtain ⟨o, e, _, d⟩ := (show h.IsTupleIter i a k from q)
    exact ⟨o, e, fun v z => by rw [d] at z; cases z⟩
theorem draws_b {prog : Program} {w : World} {A : Around} (hh : A.handled = none) (b : Bool) (it a : Addr) (hne : a ≠ it) (its : Array Value) :
    Draws prog w A it [it, a] its.size (fun i v => its[i]? = some v) (fun i h => ItB b h it a i ∧ RawB b h a its) := by
  cases b with
  | true => exact Draws.list hh it a hne its
  | false => exact Draws.tuple hh it a hne its
theorem begins_b (b : Bool) (a : Addr) (its : Array Value) : Begins (.ref a) (objB b a) fun h => RawB b h a its := by
  cases b with
  | true => exact begins_list a its
  | false => exact begins_tuple a its
theorem ItB.start {b : Bool} {h : Heap} {i a : Addr} (e : h.get? i = some (objB b a)) : ItB b h i a 0 := by
  cases b with
  | true => exact ⟨_, e, rfl, rfl⟩
  | false => exact ⟨_, e, rfl, rfl⟩

section
variable {X : Cx} {tg : Expr}
def iSeq (K : PySem.W.Frag) (tl : TE) : TI := fun σ H R => tl σ H fun x H1 => (∃ a, x = .ref a ∧ (∃ xs, SqL K H1 a xs) ∧ R (Itl K a) H1) ∨ (∃ a, x = .ref a ∧ (∃ xs, SqT K H1 a xs) ∧ R (Itt K a) H1)
theorem pi_seq {l : Expr} {tl : TE} (hl : PE X l tl) : PI X tg l (iSeq X.K tl) := by
  refine ⟨fun pn st sg Hh Rr In hw => ?_⟩
  refine thn (hl.run pn st sg Hh _ In hw) fun v s1 ⟨x, H1, I1, r1, q1⟩ => ?_
  rcases q1 with ⟨a, e, ⟨xs, hq⟩, q⟩ | ⟨a, e, ⟨xs, hq⟩, q⟩
  · subst e
    cases r1
    obtain ⟨its, rv, p, hz⟩ := I1.list hq
    refine wpAny_pyIter_list p.isList ?_
    refine ⟨s1.heap.objs.size, [s1.heap.objs.size], _, _, H1, rfl, I1.kept (t' := s1.toks) fun b o e => Heap.get?_push_of_some _ e, turn_list a _, ⟨_, Heap.get?_push_size _ rfl, rfl, rfl⟩, fun b hb => ?_, q⟩
    rw [List.mem_singleton.mp hb]
    exact I1.fpOk (Nat.le_refl _) (I1.hok.fresh (Nat.le_refl _))
  · subst e
    cases r1
    obtain ⟨its, rv, p, hz⟩ := I1.tuple hq
    refine wpAny_pyIter_tuple (show s1.heap.IsTuple a its.toArray from p) ?_
    refine ⟨s1.heap.objs.size, [s1.heap.objs.size], _, _, H1, rfl, I1.kept (t' := s1.toks) fun b o e => Heap.get?_push_of_some _ e, turn_tuple a _, ⟨_, Heap.get?_push_size _ rfl, rfl, rfl⟩, fun b hb => ?_, q⟩
    rw [List.mem_singleton.mp hb]
    exact I1.fpOk (Nat.le_refl _) (I1.hok.fresh (Nat.le_refl _))

/-! ### a walk by new tuples (WalksT), told over the layer -/
/-- the state St is bare (the iterator's own records); the sequences it reads stand in H at each turn -/
structure Bare (P : Program) (w : World) (K : PySem.W.Frag) (I : Addr) (fp wr : List Addr) (n : Nat) (go : Nat → Hp → Prop) (val : Nat → Hp → List V → Prop) (stop : Nat → Hp → Prop) (tn : Nat → Heap → Prop) : Prop where
  sub : ∀ b ∈ wr, b ∈ fp
  mem : I ∈ fp
  obj : ∀ i h, tn i h → ∀ b ∈ fp, ∃ o, h.get? b = some o ∧ ∀ v, o.data ≠ .cell v
  keep : ∀ i h h', tn i h → (∀ b ∈ fp, ∀ o, h.get? b = some o → h'.get? b = some o) → tn i h'
  item : ∀ (X : Cx), X.prog = P → X.w = w → X.K = K → X.A.handled = none → ∀ (elts : List Expr) (k : Nat) (pos : Pos) (i : Nat) (pins : List (Addr × Obj)) (s : Shared) (σ : L2.St) (H : Hp) (E : Value → Shared → Prop) (Q : Value → Shared → Prop), Inv X pins σ H s → (∀ b ∈ fp, H b = none) → tn i s.heap → go i H →
    (∀ T vals us h' tk, val i H vals → Vals vals us → us.length ≤ 8 → s.heap.objs.size ≤ T → h'.IsTuple T us.toArray → tn (i + 1) h' → (∀ b o, b ∉ wr → s.heap.get? b = some o → h'.get? b = some o) → Q (.ref T) { s with heap := h', toks := tk }) →
    wpAny (model P w) X.A (pyNext (.ref I)) (fun r s1 => ∃ u, r = some u ∧ wpAny (model P w) X.A (letOwnedTupleGo (.Tuple elts k pos) (.ref I) u) (fun _ s2 => Q u s2) E s1) E s
  done : ∀ (X : Cx), X.prog = P → X.w = w → X.K = K → X.A.handled = none → ∀ (i : Nat) (pins : List (Addr × Obj)) (s : Shared) (σ : L2.St) (H : Hp) (E : Value → Shared → Prop) (Q : Shared → Prop), Inv X pins σ H s → (∀ b ∈ fp, H b = none) → tn i s.heap → stop i H →
    (∀ h' tk, (∀ b o, b ∉ wr → s.heap.get? b = some o → h'.get? b = some o) → Q { s with heap := h', toks := tk }) → wpAny (model P w) X.A (pyNext (.ref I)) (fun r s1 => r = none ∧ Q s1) E s
  self : ∀ (A : Around) (i : Nat) (s : Shared) (Q : Value → Shared → Prop) (E : Value → Shared → Prop), tn i s.heap → Q (.ref I) s → wpAny (model P w) A (pyIter (.ref I)) Q E s
/-- each turn gives a new tuple of what val tells -/
def Itw (go : Nat → Hp → Prop) (val : Nat → Hp → List V → Prop) (stop : Nat → Hp → Prop) : It :=
  ⟨go, fun i H v H' => ∃ T vals, v = .ref T ∧ H T = none ∧ H' = upd H T (.tup vals) ∧ val i H vals ∧ vals.length ≤ 8, stop⟩
theorem turn_bare {P : Program} {w : World} {K : PySem.W.Frag} {I : Addr} {fp wr : List Addr} {n : Nat} {go : Nat → Hp → Prop} {val : Nat → Hp → List V → Prop} {stop : Nat → Hp → Prop} {tn : Nat → Heap → Prop} {elts : List Expr} {k : Nat} {pos : Pos}
    (B : Bare P w K I fp wr n go val stop tn) : Turn P w K (.Tuple elts k pos) (Itw go val stop) fp I tn where
  mem := B.mem
  obj := B.obj
  keep := B.keep
  item := by
    intro X hP hw hK hc i pins s σ H E Iv hf st hg
    have hh := Iv.ok.hd hc
    subst hP hw hK
    refine wpAny_mono (B.item X rfl rfl rfl hh elts k pos i pins s σ H E (fun u s2 => ∃ x H', Inv X pins σ H' s2 ∧ RelV x u ∧ (Itw go val stop).yld i H x H' ∧ tn (i + 1) s2.heap ∧ ∀ b ∈ fp, H' b = none) Iv (fun b hb => (hf b hb).1) st hg
      fun T vals us h' tk hv rv hl hT hi st' hk => ?_) (fun r s1 q => q) fun _ _ q => q
    have hn : H T = none := Iv.hok.fresh hT
    have hz : vals.length ≤ sizeLine := by
      rw [rv.length]
      exact Nat.le_trans hl (by decide)
    have new : ObjOk X.prog X.w (upd H T (.tup vals)) h' T (.tup vals) := ⟨hz, us, rv, hi⟩
    have I1 : Inv X pins σ (upd H T (.tup vals)) { s with heap := h', toks := tk } :=
      Iv.turnedNew (ch := fp) (fun b o hb q => hk b o (fun z => hb (B.sub b z)) q) hf hT new
    refine ⟨.ref T, _, I1, rfl, ⟨T, vals, rfl, hn, rfl, hv, by rw [rv.length]; exact hl⟩, st', fun b hb => ?_⟩
    obtain ⟨o, ho, _⟩ := B.obj i _ st b hb
    have hlt : b < s.heap.objs.size := Heap.lt_size ho
    rw [upd_ne (Nat.ne_of_lt (Nat.lt_of_lt_of_le hlt hT))]
    exact (hf b hb).1
  done := by
    intro X hP hw hK hc i pins s σ H E Iv hf st hg
    have hh := Iv.ok.hd hc
    subst hP hw hK
    exact B.done X rfl rfl rfl hh i pins s σ H E (fun s1 => Inv X pins σ H s1) Iv (fun b hb => (hf b hb).1) st hg fun h' tk hk =>
      Iv.turnedL (ch := fp) (fun b o hb q => hk b o (fun z => hb (B.sub b z)) q) hf
  self := B.self

/-! ### zip of two sequences -/
def goZ (K : PySem.W.Frag) (b1 b2 : Bool) (a b : Addr) : Nat → Hp → Prop := fun i H => ∃ xs ys x y, SqB K b1 H a xs ∧ SqB K b2 H b ys ∧ xs[i]? = some x ∧ ys[i]? = some y
def valZ (K : PySem.W.Frag) (b1 b2 : Bool) (a b : Addr) : Nat → Hp → List V → Prop := fun i H vs => ∃ x y, vs = [x, y] ∧ (∀ xs, SqB K b1 H a xs → xs[i]? = some x) ∧ ∀ ys, SqB K b2 H b ys → ys[i]? = some y
def stopZ (K : PySem.W.Frag) (b1 b2 : Bool) (a b : Addr) : Nat → Hp → Prop := fun i H => ∃ xs ys, SqB K b1 H a xs ∧ SqB K b2 H b ys ∧ i = min xs.length ys.length
def tnZ (b1 b2 : Bool) (z TI TO i1 i2 a b : Addr) : Nat → Heap → Prop := fun i h => IsZip h z TI TO .none ∧ IsTupOf2 h TI (.ref i1) (.ref i2) ∧ (∃ a1 a2, IsTupOf2 h TO a1 a2) ∧ ItB b1 h i1 a i ∧ ItB b2 h i2 b i
theorem bare_zip {P : Program} {w : World} {K : PySem.W.Frag} {b1 b2 : Bool} {z TI TO i1 i2 a b : Addr} (S : ZipSep2 z TI TO i1 i2 [i1, a] [i2, b]) (ha : a ≠ i1) (hb : b ≠ i2) :
    Bare P w K z [z, TI, TO, i1, i2] [z, TO, i1, i2] 0 (goZ K b1 b2 a b) (valZ K b1 b2 a b) (stopZ K b1 b2 a b) (tnZ b1 b2 z TI TO i1 i2 a b) where
  sub := fun c hc => by simp at hc ⊢; rcases hc with rfl | rfl | rfl | rfl <;> simp
  mem := by simp
  obj := fun i h st c hc => by
    obtain ⟨hz, hTI, ⟨x, y, hTO⟩, h1, h2⟩ := st
    have e' : c = z ∨ c = TI ∨ c = TO ∨ c = i1 ∨ c = i2 := by simpa using hc
    rcases e' with q | q | q | q | q
    · rw [q]; exact ⟨_, hz, fun v q => nomatch q⟩
    · rw [q]; exact ⟨_, hTI, fun v q => nomatch q⟩
    · rw [q]; exact ⟨_, hTO, fun v q => nomatch q⟩
    · rw [q]; exact h1.obj
    · rw [q]; exact h2.obj
  keep := fun i h h' st k => by
    obtain ⟨hz, hTI, ⟨x, y, hTO⟩, h1, h2⟩ := st
    exact ⟨k z (by simp) _ hz, k TI (by simp) _ hTI, ⟨x, y, k TO (by simp) _ hTO⟩, h1.at fun o q => k i1 (by simp) o q, h2.at fun o q => k i2 (by simp) o q⟩
  item := by
    intro X hP hw hK hh elts k pos i pins s σ H E Q Iv hf st hg hQ
    subst hP hw hK
    obtain ⟨hz, hTI, hTO, h1, h2⟩ := st
    obtain ⟨xs, ys, x, y, hqx, hqy, hx, hy⟩ := hg
    obtain ⟨its, rv, p, la⟩ := hqx.raw Iv
    obtain ⟨its2, rv2, p2, lb⟩ := hqy.raw Iv
    have WT := WalksT.zipD2 (prog := X.prog) (w := X.w) (A := X.A) S (draws_b (A := X.A.in1) hh b1 i1 a ha its.toArray) (draws_b (A := X.A.in1) hh b2 i2 b hb its2.toArray)
    have hi1 : i < xs.length := (List.getElem?_eq_some_iff.mp hx).1
    have hi2 : i < ys.length := (List.getElem?_eq_some_iff.mp hy).1
    have l1 := rv.length
    have l2 := rv2.length
    refine WT.item i s _ E (by simp only [List.size_toArray]; omega) ⟨hz, hTI, hTO, ⟨h1, p⟩, ⟨h2, p2⟩⟩ fun T vals h' tk hv hT hi hm hk => ?_
    refine ⟨_, rfl, WT.go elts k pos i T _ _ E hm fun h'' st' hk2 => ?_⟩
    obtain ⟨x1, x2, e1, e2, rfl⟩ := hv
    obtain ⟨u1, hu1, r1⟩ := rv.get hx
    obtain ⟨u2, hu2, r2⟩ := rv2.get hy
    have e1' : u1 = x1 := Option.some.inj (hu1.symm.trans (by simpa using e1))
    have e2' : u2 = x2 := Option.some.inj (hu2.symm.trans (by simpa using e2))
    subst e1' e2'
    obtain ⟨sz, sTI, sTO, ⟨s1, _⟩, ⟨s2, _⟩⟩ := st'
    refine hQ T [x, y] [u1, u2] h'' tk ⟨x, y, rfl, fun l hl => by rw [hl.inj Iv hqx]; exact hx, fun l hl => by rw [hl.inj Iv hqy]; exact hy⟩ (.cons r1 (.cons r2 .nil)) (by simp) hT
      (hi.at fun o q => hk2 T o (WT.apart i T _ hm) q) ⟨sz, sTI, sTO, s1, s2⟩ fun c o hc q => hk2 c o hc (hk c o hc q)
  done := by
    intro X hP hw hK hh i pins s σ H E Q Iv hf st hg hQ
    subst hP hw hK
    obtain ⟨hz, hTI, hTO, h1, h2⟩ := st
    obtain ⟨xs, ys, hqx, hqy, hi⟩ := hg
    obtain ⟨its, rv, p, la⟩ := hqx.raw Iv
    obtain ⟨its2, rv2, p2, lb⟩ := hqy.raw Iv
    have WT := WalksT.zipD2 (prog := X.prog) (w := X.w) (A := X.A) S (draws_b (A := X.A.in1) hh b1 i1 a ha its.toArray) (draws_b (A := X.A.in1) hh b2 i2 b hb its2.toArray)
    have l1 := rv.length
    have l2 := rv2.length
    have hi' : min its.toArray.size its2.toArray.size = i := by simp only [List.size_toArray]; omega
    exact WT.done s _ E (by rw [hi']; exact ⟨hz, hTI, hTO, ⟨h1, p⟩, ⟨h2, p2⟩⟩) fun h' tk hk => ⟨rfl, hQ h' tk hk⟩
  self := fun A i s Q E st h => wpAny_pyIter_zip st.1 h
def iZipB (K : PySem.W.Frag) (ta : TA) : TI := fun σ H R => ta σ H fun vs H1 => ∃ a b b1 b2 xs ys, vs = [.ref a, .ref b] ∧ SqB K b1 H1 a xs ∧ SqB K b2 H1 b ys ∧ R (Itw (goZ K b1 b2 a b) (valZ K b1 b2 a b) (stopZ K b1 b2 a b)) H1
theorem pi_zipB {X : Cx} {e e2 : Expr} {ta : TA} {p pos tpos : Pos} {elts : List Expr} {kk : Nat} (hg : Gl X "zip") (hm : X.mg "zip" = none) (ha : PA X [e, e2] ta)
    (hs : starEach [e, e2] X.env = (false, eval e X.env) :: starEach [e2] X.env := by rfl) (hpl : (backTo pos (starEach [e2] X.env)).any (·.1) = false := by rfl) :
    PI X (.Tuple elts kk tpos) (.Call (.Name "zip" p) [e, e2] [] pos) (iZipB X.K ta) := by
  refine ⟨fun pn st sg Hh Rr In hw => ?_⟩
  refine Call_ (ld_blt In hg hm PyProof.Rows.boot_zip (PyProof.Rows.callWith_type1 (thn (ha.run pos pn st sg Hh _ In hw) fun us s1 ⟨vs, H1, I1, r1, q1⟩ => ?_) hs hpl))
  obtain ⟨a, b, b1, b2, xs, ys, ex, hqx, hqy, q⟩ := q1
  subst ex
  cases r1 with
  | cons r rr =>
    cases rr with
    | cons r' rr =>
      cases rr
      cases r
      cases r'
      obtain ⟨its, rv, p1, la⟩ := hqx.raw I1
      obtain ⟨its2, rv2, p2, lb⟩ := hqy.raw I1
      refine zip_begins2 (begins_b b1 a its.toArray) (begins_b b2 b its2.toArray) p1 p2 fun h' hz hTI hTO h1 h2 hsz hk => wpAny_pyIter_zip hz ?_
      have I2 : Inv X pn sg H1 { s1 with heap := h' } := I1.kept (t' := s1.toks) hk
      have S := zip_sep2 (N := s1.heap.objs.size) (fp1 := [a]) (fp2 := [b]) (by simpa using la) (by simpa using lb)
      refine ⟨s1.heap.objs.size + 4, [s1.heap.objs.size + 4, s1.heap.objs.size + 2, s1.heap.objs.size + 3, s1.heap.objs.size, s1.heap.objs.size + 1], _, _, H1, rfl, I2,
        turn_bare (bare_zip S (Nat.ne_of_lt la) (Nat.ne_of_lt (Nat.lt_succ_of_lt lb))), ⟨hz, hTI, ⟨_, _, hTO⟩, ItB.start h1, ItB.start h2⟩, fun c hcm => ?_, q⟩
      have e' : c = s1.heap.objs.size + 4 ∨ c = s1.heap.objs.size + 2 ∨ c = s1.heap.objs.size + 3 ∨ c = s1.heap.objs.size ∨ c = s1.heap.objs.size + 1 := by simpa using hcm
      have hle : s1.heap.objs.size ≤ c := by
        rcases e' with z | z | z | z | z
        · rw [z]; exact Nat.le_add_right _ _
        · rw [z]; exact Nat.le_add_right _ _
        · rw [z]; exact Nat.le_add_right _ _
        · rw [z]; exact Nat.le_refl _
        · rw [z]; exact Nat.le_add_right _ _
      exact I1.fpOk hle (I1.hok.fresh hle)

/-! ### enumerate of a sequence -/
theorem meets_enum1 {v : Value} {o : Obj} {Hb : Heap → Prop} (B : Begins v o Hb) :
    Meets (Builtin.«enumerate.__new__» ⟨[.type "enumerate", v], []⟩) (fun _ R s => Hb s.heap ∧
      R (.ok (.ret (.ref (s.heap.push o).objs.size))) { s with heap := (s.heap.push o).push { cls := .type "enumerate", data := .fields #[.none, .bool false, .ref s.heap.objs.size, rawInt 0, .none, .none] } }) :=
  .of_wp fun prog w A R s h => by
    obtain ⟨hp, g, d, tk, os⟩ := s; obtain ⟨hl, h⟩ := h
    have hsub := sub_enumerate
    have q1 : ∀ {A' : Around} {E : Value → Shared → Prop} {Q : Value → Shared → Prop}, Q (.ref hp.objs.size) ⟨(hp.push o), g, d, tk, os⟩ → wpAny (model prog w) A' (pyIter v) Q E ⟨hp, g, d, tk, os⟩ :=
      fun q => B.iter prog w _ _ ⟨hp, g, d, tk, os⟩ _ hl q
    wp_walk
    refine wpAny_stack_any fun st => wpAny_pure ?_
    split
    · rename_i c _ _ _ _ _
      cases (c == Value.type "enumerate")
      · wp_walk using q1
        exact ⟨_, rfl, h⟩
      · wp_walk using q1
        exact ⟨_, rfl, h⟩
    · wp_walk using q1
      exact ⟨_, rfl, h⟩
theorem enum_one {prog : Program} {w : World} {A : Around} {E : Value → Shared → Prop} {s : Shared} {v : Value} {o : Obj} {Hb : Heap → Prop} {Q : Value → Shared → Prop} (B : Begins v o Hb) (h1 : Hb s.heap)
    (h : ∀ h', IsEnum h' (s.heap.objs.size + 1) s.heap.objs.size 0 .none → h'.get? s.heap.objs.size = some o → h'.objs.size = s.heap.objs.size + 2 →
      (∀ b u, s.heap.get? b = some u → h'.get? b = some u) → Q (.ref (s.heap.objs.size + 1)) { s with heap := h' }) :
    wpAny (model prog w) A (call (.type "enumerate") [v]) Q E s := by
  refine callType_new F.called_enumerate (by decide) (F.typeCall_enumerate_1 _) (F.newCall_enumerate_1 _) (fun obj => F.args_object_init_2 obj _) F.entry_enumerate_new (meets_enum1 B) ⟨h1, ?_⟩
  have hz : (s.heap.push o).objs.size = s.heap.objs.size + 1 := Heap.size_push ..
  show _ ∧ _
  rw [hz]
  have he : IsEnum ((s.heap.push o).push { cls := .type "enumerate", data := .fields #[.none, .bool false, .ref s.heap.objs.size, rawInt 0, .none, .none] }) (s.heap.objs.size + 1) s.heap.objs.size 0 .none := by
    have hq := Heap.get?_push_size (s.heap.push o) (o := { cls := .type "enumerate", data := .fields #[.none, .bool false, .ref s.heap.objs.size, rawInt 0, .none, .none] }) rfl
    rw [hz] at hq; exact hq
  refine ⟨⟨_, he, rfl⟩, h _ he (Heap.get?_push_of_some _ (Heap.get?_push_size _ B.free)) (by rw [Heap.size_push, hz]) fun b u x => Heap.get?_push_of_some _ (Heap.get?_push_of_some _ x)⟩
def goE (K : PySem.W.Frag) (b : Bool) (a : Addr) : Nat → Hp → Prop := fun i H => ∃ xs x, SqB K b H a xs ∧ xs[i]? = some x
def valE (K : PySem.W.Frag) (b : Bool) (a : Addr) : Nat → Hp → List V → Prop := fun i H vs => ∃ x, vs = [.int (i : Nat), x] ∧ ∀ xs, SqB K b H a xs → xs[i]? = some x
def stopE (K : PySem.W.Frag) (b : Bool) (a : Addr) : Nat → Hp → Prop := fun i H => ∃ xs, SqB K b H a xs ∧ i = xs.length
def tnE (b : Bool) (e it a : Addr) : Nat → Heap → Prop := fun i h => (∃ old, IsEnum h e it (0 + ((i : Nat) : Int)) old) ∧ ItB b h it a i
theorem bare_enum {P : Program} {w : World} {K : PySem.W.Frag} {b : Bool} {e it a : Addr} (hei : e ≠ it) (hea : e ≠ a) (ha : a ≠ it) :
    Bare P w K e [e, it] [e, it] 0 (goE K b a) (valE K b a) (stopE K b a) (tnE b e it a) where
  sub := fun c hc => hc
  mem := by simp
  obj := fun i h st c hc => by
    obtain ⟨⟨old, he⟩, h1⟩ := st
    have e' : c = e ∨ c = it := by simpa using hc
    rcases e' with q | q
    · rw [q]; exact ⟨_, he, fun v q => nomatch q⟩
    · rw [q]; exact h1.obj
  keep := fun i h h' st k => by
    obtain ⟨⟨old, he⟩, h1⟩ := st
    exact ⟨⟨old, k e (by simp) _ he⟩, h1.at fun o q => k it (by simp) o q⟩
  item := by
    intro X hP hw hK hh elts k pos i pins s σ H E Q Iv hf st hg hQ
    subst hP hw hK
    obtain ⟨he, h1⟩ := st
    obtain ⟨xs, x, hqx, hx⟩ := hg
    obtain ⟨its, rv, p, la⟩ := hqx.raw Iv
    have WT := WalksT.enumFrom (prog := X.prog) (w := X.w) (A := X.A) 0 (draws_b (A := X.A.in1) hh b it a ha its.toArray) e hei (by simp [hei, hea]) (by simp)
    have hi1 : i < xs.length := (List.getElem?_eq_some_iff.mp hx).1
    have l1 := rv.length
    refine WT.item i s _ E (by simp only [List.size_toArray]; omega) ⟨he, h1, p⟩ fun T vals h' tk hv hT hi hm hk => ?_
    refine ⟨_, rfl, WT.go elts k pos i T _ _ E hm fun h'' st' hk2 => ?_⟩
    obtain ⟨t, x1, e1, rfl⟩ := hv
    obtain ⟨u1, hu1, r1⟩ := rv.get hx
    have e1' : u1 = x1 := Option.some.inj (hu1.symm.trans (by simpa using e1))
    subst e1'
    obtain ⟨se, s1, _⟩ := st'
    refine hQ T [.int (i : Nat), x] [.int (0 + (i : Int)) t, u1] h'' tk ⟨x, rfl, fun l hl => by rw [hl.inj Iv hqx]; exact hx⟩ (.cons ⟨t, by rw [Int.zero_add]⟩ (.cons r1 .nil)) (by simp) hT
      (hi.at fun o q => hk2 T o (WT.apart i T _ hm) q) ⟨se, s1⟩ fun c o hc q => hk2 c o hc (hk c o hc q)
  done := by
    intro X hP hw hK hh i pins s σ H E Q Iv hf st hg hQ
    subst hP hw hK
    obtain ⟨he, h1⟩ := st
    obtain ⟨xs, hqx, hi⟩ := hg
    obtain ⟨its, rv, p, la⟩ := hqx.raw Iv
    have WT := WalksT.enumFrom (prog := X.prog) (w := X.w) (A := X.A) 0 (draws_b (A := X.A.in1) hh b it a ha its.toArray) e hei (by simp [hei, hea]) (by simp)
    have l1 := rv.length
    have hi' : its.toArray.size = i := by simp only [List.size_toArray]; omega
    exact WT.done s _ E (by rw [hi']; exact ⟨he, h1, p⟩) fun h' tk hk => ⟨rfl, hQ h' tk hk⟩
  self := fun A i s Q E st h => let ⟨⟨_, he⟩, _⟩ := st; wpAny_pyIter_enum he h
def iEnumB (K : PySem.W.Frag) (ta : TA) : TI := fun σ H R => ta σ H fun vs H1 => ∃ a b xs, vs = [.ref a] ∧ SqB K b H1 a xs ∧ R (Itw (goE K b a) (valE K b a) (stopE K b a)) H1
theorem pi_enumB {X : Cx} {e : Expr} {ta : TA} {p pos tpos : Pos} {elts : List Expr} {kk : Nat} (hg : Gl X "enumerate") (hm : X.mg "enumerate" = none) (ha : PA X [e] ta) (hs : starEach [e] X.env = [(false, eval e X.env)] := by rfl) :
    PI X (.Tuple elts kk tpos) (.Call (.Name "enumerate" p) [e] [] pos) (iEnumB X.K ta) := by
  refine ⟨fun pn st sg Hh Rr In hw => ?_⟩
  refine Call_ (ld_blt In hg hm boot_enumerate (PyProof.Rows.callWith_type1 (thn (ha.run pos pn st sg Hh _ In hw) fun us s1 ⟨vs, H1, I1, r1, q1⟩ => ?_) hs rfl))
  obtain ⟨a, b, xs, ex, hqx, q⟩ := q1
  subst ex
  cases r1 with
  | cons r rr =>
    cases rr
    cases r
    obtain ⟨its, rv, p1, la⟩ := hqx.raw I1
    refine enum_one (begins_b b a its.toArray) p1 fun h' he hit hsz hk => wpAny_pyIter_enum he ?_
    have I2 : Inv X pn sg H1 { s1 with heap := h' } := I1.kept (t' := s1.toks) hk
    refine ⟨s1.heap.objs.size + 1, [s1.heap.objs.size + 1, s1.heap.objs.size], _, _, H1, rfl, I2, turn_bare (bare_enum (Nat.succ_ne_self _) (Nat.ne_of_gt (Nat.lt_succ_of_lt la)) (Nat.ne_of_lt la)), ⟨⟨.none, he⟩, ItB.start hit⟩, fun c hc => ?_, q⟩
    have e' : c = s1.heap.objs.size + 1 ∨ c = s1.heap.objs.size := by simpa using hc
    have hle : s1.heap.objs.size ≤ c := by
      rcases e' with z | z
      · rw [z]; exact Nat.le_add_right _ _
      · rw [z]; exact Nat.le_refl _
    exact I1.fpOk hle (I1.hok.fresh hle)
end
end Py
/-! PyJ: the data that a walk gives; comprehensions. -/
namespace Py
open PySem L2 StX

section
variable {s : Sx} {Γ : List Md} {K : PySem.W.Frag}
theorem View.seqA {c : Fx} {ps : List Addr} {H : Hp} {v : V} {d : D} {ds : List D} (ok : c.Ok) (nA : ∀ p ∈ ps, ¬ c.A p) (h : View c ps H v d) (e : d = .list ds ∨ d = .tuple ds) :
    ∃ a vs b, v = .ref a ∧ SqB K b H a vs ∧ DenL H (c.U ps) vs ds ∧ ¬ c.A a ∧ (H a = some (.lst vs) ∧ b = true ∨ H a = some (.tup vs) ∧ b = false) := by
  have nU : ∀ {a}, ¬ c.U ps a → ¬ c.A a := fun h z => h (.inl (ok.sub _ z))
  rcases e with rfl | rfl
  · cases h with
    | den h => cases h with | lst h1 h2 h3 => exact ⟨_, _, true, rfl, SqL.of h1, h3, nU h2, .inl ⟨h1, rfl⟩⟩
    | own h1 h2 h3 => exact ⟨_, _, true, rfl, SqL.of h1, h3, nA _ h2, .inl ⟨h1, rfl⟩⟩
  · cases h with
    | den h => cases h with | tup h1 h2 h3 => exact ⟨_, _, false, rfl, SqT.of h1, h3, nU h2, .inr ⟨h1, rfl⟩⟩
theorem Den.seqU {H : Hp} {U : AS} {v : V} {d : D} {ds : List D} (h : Den H U v d) (e : d = .list ds ∨ d = .tuple ds) :
    ∃ a vs b, v = .ref a ∧ SqB K b H a vs ∧ DenL H U vs ds ∧ ¬ U a ∧ (H a = some (.lst vs) ∧ b = true ∨ H a = some (.tup vs) ∧ b = false) := by
  rcases e with rfl | rfl
  · cases h with | lst h1 h2 h3 => exact ⟨_, _, true, rfl, SqL.of h1, h3, h2, .inl ⟨h1, rfl⟩⟩
  · cases h with | tup h1 h2 h3 => exact ⟨_, _, false, rfl, SqT.of h1, h3, h2, .inr ⟨h1, rfl⟩⟩
theorem sz_seq {H : Hp} {a : Addr} {vs : List V} {b : Bool} (z : Sz H) (h : H a = some (.lst vs) ∧ b = true ∨ H a = some (.tup vs) ∧ b = false) : vs.length ≤ sizeLine := by
  rcases h with ⟨h, _⟩ | ⟨h, _⟩
  · exact z a vs (.inl h)
  · exact z a vs (.inr h)
/-- such a sequence still stands -/
theorem seq_later {H H' : Hp} {S : AS} {a : Addr} {vs : List V} {b : Bool} (h : H a = some (.lst vs) ∧ b = true ∨ H a = some (.tup vs) ∧ b = false) (n : ¬ S a) (l : Later S H H') : SqB K b H' a vs := by
  rcases h with ⟨h, rfl⟩ | ⟨h, rfl⟩
  · exact SqL.of (l a _ h n)
  · exact SqT.of (l a _ h n)
theorem items_list {H : Hp} {S U : AS} {a : Addr} {vs : List V} {ds : List D} (h : H a = some (.lst vs)) (n : ¬ S a) (dn : DenL H U vs ds) (z : Sz H) : Items (Itl K a) S U H ds where
  len := by rw [← dn.length]; exact z a vs (.inl h)
  go := fun i H' l hi => ⟨vs, vs[i]'(by rw [dn.length]; exact hi), SqL.of (l a _ h n), by simp [dn.length, hi]⟩
  stop := fun H' l => ⟨vs, SqL.of (l a _ h n), by rw [dn.length]; exact Nat.le_refl _⟩
  yld := fun i d H' x H'' l lu hd y => by
    obtain ⟨rfl, y⟩ := y
    obtain ⟨v, e1, e2⟩ := dn.get hd
    have e := y vs (SqL.of (l a _ h n))
    rw [e1] at e; cases e
    exact ⟨fun _ _ q => q, fun q => q, fun U' hu _ => e2.mono (fun b o q nn => lu b o q nn) hu⟩
theorem items_tup {H : Hp} {S U : AS} {a : Addr} {vs : List V} {ds : List D} (h : H a = some (.tup vs)) (n : ¬ S a) (dn : DenL H U vs ds) (z : Sz H) : Items (Itt K a) S U H ds where
  len := by rw [← dn.length]; exact z a vs (.inr h)
  go := fun i H' l hi => ⟨vs, vs[i]'(by rw [dn.length]; exact hi), SqT.of (l a _ h n), by simp [dn.length, hi]⟩
  stop := fun H' l => ⟨vs, SqT.of (l a _ h n), by rw [dn.length]; exact Nat.le_refl _⟩
  yld := fun i d H' x H'' l lu hd y => by
    obtain ⟨rfl, y⟩ := y
    obtain ⟨v, e1, e2⟩ := dn.get hd
    have e := y vs (SqT.of (l a _ h n))
    rw [e1] at e; cases e
    exact ⟨fun _ _ q => q, fun q => q, fun U' hu _ => e2.mono (fun b o q nn => lu b o q nn) hu⟩
def itSeq (e : Env → M D) : Env → M (List D) := fun ρ => bnd (e ρ) seqD
theorem semI_seq {t : TE} {e : Env → M D} (h : SemE s Γ t e) : SemI s Γ (iSeq K t) (itSeq e) := by
  intro c ρ ps σ H R' P hc r0 q k
  refine h c ρ ps σ H _ _ hc r0 q fun d v H1 q1 e1 d1 => ?_
  obtain ⟨ds, ed, q1⟩ := seqD_get q1
  obtain ⟨a, vs, b, rfl, _, dn, nu, hh⟩ := d1.seqU (K := K) ed
  have r1 := r0.stp e1
  rcases hh with ⟨h1, _⟩ | ⟨h1, _⟩
  · exact .inl ⟨a, rfl, ⟨vs, SqL.of h1⟩, k ds _ H1 q1 e1 (items_list h1 nu dn r1.sz)⟩
  · exact .inr ⟨a, rfl, ⟨vs, SqT.of h1⟩, k ds _ H1 q1 e1 (items_tup h1 nu dn r1.sz)⟩
theorem semIc_seq {t : TE} {e : Env → M D} (h : SemV s Γ t e) : SemIc s Γ (iSeq K t) (itSeq e) := by
  intro c ρ ps σ H R' P hc r0 q k
  refine h c ρ ps σ H _ _ hc r0 q fun d v H1 q1 e1 d1 => ?_
  obtain ⟨ds, ed, q1⟩ := seqD_get q1
  have r1 := r0.stp e1
  obtain ⟨a, vs, b, rfl, _, dn, nu, hh⟩ := d1.seqA (K := K) r0.ok r1.gd.nA ed
  rcases hh with ⟨h1, _⟩ | ⟨h1, _⟩
  · exact .inl ⟨a, rfl, ⟨vs, SqL.of h1⟩, k ds _ H1 q1 e1 (items_list h1 nu dn r1.sz)⟩
  · exact .inr ⟨a, rfl, ⟨vs, SqT.of h1⟩, k ds _ H1 q1 e1 (items_tup h1 nu dn r1.sz)⟩

/-! ### range -/
def rangeD (lo : Int) (n : Nat) : List D := (List.range n).map fun i => .int (lo + (i : Nat))
theorem items_range {H : Hp} {S U : AS} {lo : Int} {n : Nat} (hz : n ≤ sizeLine) : Items (Itr lo n) S U H (rangeD lo n) where
  len := by unfold rangeD; simpa using hz
  go := fun i H' l hi => by
    show i < n
    unfold rangeD at hi
    simpa using hi
  stop := fun H' l => by show n ≤ _; unfold rangeD; simp
  yld := fun i d H' x H'' l lu hd y => by
    obtain ⟨rfl, rfl⟩ := y
    unfold rangeD at hd
    rw [List.getElem?_map, Option.map_eq_some_iff] at hd
    obtain ⟨j, hj, rfl⟩ := hd
    have e : j = i := by
      rw [List.getElem?_range] at hj
      · exact (Option.some.inj hj).symm
      · exact Nat.lt_of_not_le fun z => by rw [List.getElem?_eq_none (by simpa using z)] at hj; cases hj
    subst e
    exact ⟨fun _ _ q => q, fun q => q, fun _ _ _ => .int _⟩
def rngOk (n : Int) : Bool := decide (-100000 ≤ n ∧ n ≤ 100000)
theorem rngOk_b {n : Int} (h : rngOk n = true) : -100000 ≤ n ∧ n ≤ 100000 := by
  unfold rngOk at h
  exact of_decide_eq_true h
def itRng1 (f : Env → M (List D)) : Env → M (List D) := fun ρ => bnd (f ρ) fun ds => match ds with
  | [.int n] => if rngOk n = true then ret (rangeD 0 n.toNat) else stuck
  | _ => stuck
def itRng2 (f : Env → M (List D)) : Env → M (List D) := fun ρ => bnd (f ρ) fun ds => match ds with
  | [.int m, .int n] => if (rngOk m && rngOk n) = true then ret (rangeD m (n - m).toNat) else stuck
  | _ => stuck
theorem Views.one {c : Fx} {ps : List Addr} {H : Hp} {vs : List V} {d : D} (h : Views c ps H vs [d]) : ∃ v, vs = [v] ∧ View c ps H v d := by
  cases h with
  | cons h t => cases t; exact ⟨_, rfl, h⟩
theorem Views.two {c : Fx} {ps : List Addr} {H : Hp} {vs : List V} {d e : D} (h : Views c ps H vs [d, e]) : ∃ v w, vs = [v, w] ∧ View c ps H v d ∧ View c ps H w e := by
  cases h with
  | cons h t =>
    obtain ⟨w, rfl, h2⟩ := t.one
    exact ⟨_, _, rfl, h, h2⟩
theorem sz_1e5 {n : Nat} (h : n ≤ 200000) : n ≤ sizeLine := Nat.le_trans h (by decide)
theorem rng1_any {t : TA} {f : Env → M (List D)} (h : SemAV s Γ t f) {c : Fx} {ρ : Env} {ps : List Addr} {σ : St} {H : Hp} {R' : It → Hp → Prop} {P : List D → Prop} (hc : c.s = s) (r0 : R c Γ ρ ps σ H) (q : itRng1 f ρ P) {S : AS}
    (k : ∀ ds J H1, P ds → Stp c H H1 → Items J S (c.U ps) H1 ds → R' J H1) : iRng1 t σ H R' := by
  refine h c ρ ps σ H _ _ hc r0 q fun ds vs H1 q1 e1 d1 => ?_
  dsimp only at q1
  split at q1
  · rename_i n
    split at q1
    · rename_i hr
      have b := rngOk_b hr
      obtain ⟨v, rfl, dv⟩ := d1.one
      exact ⟨n, by rw [dv.int], by omega, by omega, k _ _ H1 q1 e1 (items_range (sz_1e5 (by omega)))⟩
    · cases q1
  · cases q1
theorem semI_rng1 {t : TA} {f : Env → M (List D)} (h : SemAV s Γ t f) : SemI s Γ (iRng1 t) (itRng1 f) := fun c ρ ps σ H R' P hc r0 q k => rng1_any h hc r0 q k
theorem semIc_rng1 {t : TA} {f : Env → M (List D)} (h : SemAV s Γ t f) : SemIc s Γ (iRng1 t) (itRng1 f) := fun c ρ ps σ H R' P hc r0 q k => rng1_any h hc r0 q k
theorem rng2_any {t : TA} {f : Env → M (List D)} (h : SemAV s Γ t f) {c : Fx} {ρ : Env} {ps : List Addr} {σ : St} {H : Hp} {R' : It → Hp → Prop} {P : List D → Prop} (hc : c.s = s) (r0 : R c Γ ρ ps σ H) (q : itRng2 f ρ P) {S : AS}
    (k : ∀ ds J H1, P ds → Stp c H H1 → Items J S (c.U ps) H1 ds → R' J H1) : iRng2 t σ H R' := by
  refine h c ρ ps σ H _ _ hc r0 q fun ds vs H1 q1 e1 d1 => ?_
  dsimp only at q1
  split at q1
  · rename_i m n
    split at q1
    · rename_i hr
      have hr' : rngOk m = true ∧ rngOk n = true := by simpa using hr
      have b1 := rngOk_b hr'.1
      have b2 := rngOk_b hr'.2
      obtain ⟨v, w, rfl, dv, dw⟩ := d1.two
      exact ⟨m, n, by rw [dv.int, dw.int], ⟨by omega, by omega, by omega, by omega⟩, k _ _ H1 q1 e1 (items_range (sz_1e5 (by omega)))⟩
    · cases q1
  · cases q1
theorem semI_rng2 {t : TA} {f : Env → M (List D)} (h : SemAV s Γ t f) : SemI s Γ (iRng2 t) (itRng2 f) := fun c ρ ps σ H R' P hc r0 q k => rng2_any h hc r0 q k
theorem semIc_rng2 {t : TA} {f : Env → M (List D)} (h : SemAV s Γ t f) : SemIc s Γ (iRng2 t) (itRng2 f) := fun c ρ ps σ H R' P hc r0 q k => rng2_any h hc r0 q k

/-! ### zip, enumerate -/
def zipD : List D → List D → List D
  | d :: ds, e :: es => .tuple [d, e] :: zipD ds es
  | _, _ => []
theorem zipD_len : ∀ (ds es : List D), (zipD ds es).length = min ds.length es.length
  | [], _ => by simp [zipD]
  | _ :: _, [] => by simp [zipD]
  | d :: ds, e :: es => by simp [zipD, zipD_len ds es]
theorem zipD_get : ∀ {ds es : List D} {i : Nat} {x : D}, (zipD ds es)[i]? = some x → ∃ d e, ds[i]? = some d ∧ es[i]? = some e ∧ x = .tuple [d, e]
  | [], _, _, _, h => by simp [zipD] at h
  | _ :: _, [], _, _, h => by simp [zipD] at h
  | d :: ds, e :: es, 0, x, h => by simp [zipD] at h; exact ⟨d, e, rfl, rfl, h.symm⟩
  | d :: ds, e :: es, i + 1, x, h => by
    obtain ⟨a, b, h1, h2, h3⟩ := zipD_get (ds := ds) (es := es) (i := i) (by simpa [zipD] using h)
    exact ⟨a, b, by simpa using h1, by simpa using h2, h3⟩
def enumD : Nat → List D → List D
  | _, [] => []
  | k, d :: ds => .tuple [.int (k : Nat), d] :: enumD (k + 1) ds
theorem enumD_len : ∀ (k : Nat) (ds : List D), (enumD k ds).length = ds.length
  | _, [] => rfl
  | k, d :: ds => by simp [enumD, enumD_len (k + 1) ds]
theorem enumD_get : ∀ {k : Nat} {ds : List D} {i : Nat} {x : D}, (enumD k ds)[i]? = some x → ∃ d, ds[i]? = some d ∧ x = .tuple [.int ((k + i : Nat) : Int), d]
  | _, [], _, _, h => by simp [enumD] at h
  | k, d :: ds, 0, x, h => by simp [enumD] at h; exact ⟨d, rfl, h.symm⟩
  | k, d :: ds, i + 1, x, h => by
    obtain ⟨a, h1, h2⟩ := enumD_get (k := k + 1) (ds := ds) (i := i) (by simpa [enumD] using h)
    refine ⟨a, by simpa using h1, ?_⟩
    rw [h2, show k + 1 + i = k + (i + 1) by omega]
theorem items_zip {H : Hp} {S U : AS} {a b : Addr} {b1 b2 : Bool} {vs ws : List V} {ds es : List D} (h1 : H a = some (.lst vs) ∧ b1 = true ∨ H a = some (.tup vs) ∧ b1 = false) (h2 : H b = some (.lst ws) ∧ b2 = true ∨ H b = some (.tup ws) ∧ b2 = false)
    (n1 : ¬ S a) (n2 : ¬ S b) (d1 : DenL H U vs ds) (d2 : DenL H U ws es) (z : Sz H) : Items (Itw (goZ K b1 b2 a b) (valZ K b1 b2 a b) (stopZ K b1 b2 a b)) S U H (zipD ds es) where
  len := by rw [zipD_len, ← d1.length]; exact Nat.le_trans (Nat.min_le_left _ _) (sz_seq z h1)
  go := fun i H' l hi => by
    rw [zipD_len] at hi
    have i1 : i < vs.length := by rw [d1.length]; omega
    have i2 : i < ws.length := by rw [d2.length]; omega
    exact ⟨vs, ws, vs[i], ws[i], seq_later h1 n1 l, seq_later h2 n2 l, by simp [i1], by simp [i2]⟩
  stop := fun H' l => ⟨vs, ws, seq_later h1 n1 l, seq_later h2 n2 l, by rw [zipD_len, d1.length, d2.length]⟩
  yld := fun i x H' v H'' l lu hd y => by
    obtain ⟨T, vals, rfl, hn, rfl, ⟨x1, y1, rfl, f1, f2⟩, hl⟩ := y
    obtain ⟨d, e, g1, g2, rfl⟩ := zipD_get hd
    obtain ⟨u1, a1, a2⟩ := d1.get g1
    obtain ⟨u2, c1, c2⟩ := d2.get g2
    have p1 := f1 vs (seq_later h1 n1 l)
    have p2 := f2 ws (seq_later h2 n2 l)
    rw [a1] at p1; cases p1
    rw [c1] at p2; cases p2
    have up : ∀ aa o, H aa = some o → ¬ U aa → (upd H' T (.tup [x1, y1])) aa = some o := fun aa o q nn => upd_keep hn aa o (lu aa o q nn)
    refine ⟨upd_keep hn, fun zz => zz.upd fun xs q => ?_, fun U' hu nu => .tup upd_same (nu T hn) (.cons (a2.mono up hu) (.cons (c2.mono up hu) .nil))⟩
    rcases q with q | q <;> cases q
    show 2 ≤ sizeLine
    decide
theorem items_enum {H : Hp} {S U : AS} {a : Addr} {b : Bool} {vs : List V} {ds : List D} (h1 : H a = some (.lst vs) ∧ b = true ∨ H a = some (.tup vs) ∧ b = false)
    (n1 : ¬ S a) (d1 : DenL H U vs ds) (z : Sz H) : Items (Itw (goE K b a) (valE K b a) (stopE K b a)) S U H (enumD 0 ds) where
  len := by rw [enumD_len, ← d1.length]; exact sz_seq z h1
  go := fun i H' l hi => by
    rw [enumD_len] at hi
    have i1 : i < vs.length := by rw [d1.length]; omega
    exact ⟨vs, vs[i], seq_later h1 n1 l, by simp [i1]⟩
  stop := fun H' l => ⟨vs, seq_later h1 n1 l, by rw [enumD_len, d1.length]⟩
  yld := fun i x H' v H'' l lu hd y => by
    obtain ⟨T, vals, rfl, hn, rfl, ⟨x1, rfl, f1⟩, hl⟩ := y
    obtain ⟨d, g1, rfl⟩ := enumD_get hd
    obtain ⟨u1, a1, a2⟩ := d1.get g1
    have p1 := f1 vs (seq_later h1 n1 l)
    rw [a1] at p1; cases p1
    have up : ∀ aa o, H aa = some o → ¬ U aa → (upd H' T (.tup [.int (i : Nat), x1])) aa = some o := fun aa o q nn => upd_keep hn aa o (lu aa o q nn)
    refine ⟨upd_keep hn, fun zz => zz.upd fun xs q => ?_, fun U' hu nu => .tup upd_same (nu T hn) (.cons (by rw [Nat.zero_add]; exact .int _) (.cons (a2.mono up hu) .nil))⟩
    rcases q with q | q <;> cases q
    show 2 ≤ sizeLine
    decide
def itZip (f : Env → M (List D)) : Env → M (List D) := fun ρ => bnd (f ρ) fun l => match l with
  | [x, y] => bnd (seqD x) fun ds => bnd (seqD y) fun es => ret (zipD ds es)
  | _ => stuck
def itEnum (f : Env → M (List D)) : Env → M (List D) := fun ρ => bnd (f ρ) fun l => match l with
  | [x] => bnd (seqD x) fun ds => ret (enumD 0 ds)
  | _ => stuck
theorem semI_zip {t : TA} {f : Env → M (List D)} (h : SemA s Γ t f) : SemI s Γ (iZipB K t) (itZip f) := by
  intro c ρ ps σ H R' P hc r0 q k
  refine h c ρ ps σ H _ _ hc r0 q fun ds vs H1 q1 e1 d1 => ?_
  dsimp only at q1
  split at q1
  · rename_i x y
    obtain ⟨l1, z1, q1⟩ := seqD_get q1
    obtain ⟨l2, z2, q1⟩ := seqD_get q1
    cases d1 with
    | cons dx dr =>
      cases dr with
      | cons dy dr =>
        cases dr
        obtain ⟨a, us, b1, rfl, hs1, dn1, nu1, hh1⟩ := dx.seqU (K := K) z1
        obtain ⟨b, ws, b2, rfl, hs2, dn2, nu2, hh2⟩ := dy.seqU (K := K) z2
        exact ⟨a, b, b1, b2, us, ws, rfl, hs1, hs2, k _ _ H1 q1 e1 (items_zip hh1 hh2 nu1 nu2 dn1 dn2 (r0.stp e1).sz)⟩
  · cases q1
theorem semIc_zip {t : TA} {f : Env → M (List D)} (h : SemAV s Γ t f) : SemIc s Γ (iZipB K t) (itZip f) := by
  intro c ρ ps σ H R' P hc r0 q k
  refine h c ρ ps σ H _ _ hc r0 q fun ds vs H1 q1 e1 d1 => ?_
  dsimp only at q1
  split at q1
  · rename_i x y
    obtain ⟨l1, z1, q1⟩ := seqD_get q1
    obtain ⟨l2, z2, q1⟩ := seqD_get q1
    obtain ⟨v, w, rfl, dx, dy⟩ := d1.two
    have g := (r0.stp e1).gd
    obtain ⟨a, us, b1, rfl, hs1, dn1, nu1, hh1⟩ := dx.seqA (K := K) g.ok g.nA z1
    obtain ⟨b, ws, b2, rfl, hs2, dn2, nu2, hh2⟩ := dy.seqA (K := K) g.ok g.nA z2
    exact ⟨a, b, b1, b2, us, ws, rfl, hs1, hs2, k _ _ H1 q1 e1 (items_zip hh1 hh2 nu1 nu2 dn1 dn2 g.sz)⟩
  · cases q1
theorem semI_enum {t : TA} {f : Env → M (List D)} (h : SemA s Γ t f) : SemI s Γ (iEnumB K t) (itEnum f) := by
  intro c ρ ps σ H R' P hc r0 q k
  refine h c ρ ps σ H _ _ hc r0 q fun ds vs H1 q1 e1 d1 => ?_
  dsimp only at q1
  split at q1
  · rename_i x
    obtain ⟨l1, z1, q1⟩ := seqD_get q1
    cases d1 with
    | cons dx dr =>
      cases dr
      obtain ⟨a, us, b1, rfl, hs1, dn1, nu1, hh1⟩ := dx.seqU (K := K) z1
      exact ⟨a, b1, us, rfl, hs1, k _ _ H1 q1 e1 (items_enum hh1 nu1 dn1 (r0.stp e1).sz)⟩
  · cases q1
theorem semIc_enum {t : TA} {f : Env → M (List D)} (h : SemAV s Γ t f) : SemIc s Γ (iEnumB K t) (itEnum f) := by
  intro c ρ ps σ H R' P hc r0 q k
  refine h c ρ ps σ H _ _ hc r0 q fun ds vs H1 q1 e1 d1 => ?_
  dsimp only at q1
  split at q1
  · rename_i x
    obtain ⟨l1, z1, q1⟩ := seqD_get q1
    obtain ⟨v, rfl, dx⟩ := d1.one
    have g := (r0.stp e1).gd
    obtain ⟨a, us, b1, rfl, hs1, dn1, nu1, hh1⟩ := dx.seqA (K := K) g.ok g.nA z1
    exact ⟨a, b1, us, rfl, hs1, k _ _ H1 q1 e1 (items_enum hh1 nu1 dn1 g.sz)⟩
  · cases q1
end
end Py
/-! PyK: comprehensions. -/
namespace Py
open PySem L2 StX

section
variable {s : Sx} {Γ : List Md}
def wipeD (ρ : Env) : List Nat → Env
  | [] => ρ
  | v :: vs => (wipeD ρ vs).set v none
theorem R.wiped {c : Fx} {ρ : Env} {ps : List Addr} {σ : St} {H : Hp} (r : R c Γ ρ ps σ H) : ∀ {vs : List Nat}, (∀ i ∈ vs, Γ[i]? = some .fro) → R c Γ (wipeD ρ vs) ps (wipe σ vs) H
  | [], _ => r
  | v :: vs, h => (r.wiped fun i hi => h i (List.mem_cons_of_mem _ hi)).setNo (h v (List.mem_cons_self ..))
theorem wipe_get {σ : St} {i : Nat} : ∀ {vs : List Nat}, i ∈ vs → i < σ.length → (wipe σ vs)[i]? = some none
  | [], h, _ => absurd h (by simp)
  | v :: vs, h, hl => by
    unfold wipe
    by_cases e : v = i
    · subst e
      rw [List.getElem?_set_self (by rw [wipe_length]; exact hl)]
    · rw [List.getElem?_set_ne e]
      exact wipe_get ((List.mem_cons.mp h).resolve_left fun z => e z.symm) hl
theorem wipe_again {σ σ' : St} {vs ts : List Nat} (hl : σ'.length = (wipe σ vs).length) (hs : ∀ i, i ∉ ts → σ'[i]? = (wipe σ vs)[i]?) (ht : ∀ i ∈ ts, i ∈ vs) : wipe σ' vs = wipe σ vs := by
  apply List.ext_getElem?
  intro i
  have l1 := wipe_length σ vs
  by_cases hi : i ∈ vs
  · by_cases hz : i < σ.length
    · rw [wipe_get hi (by rw [hl, l1]; exact hz), wipe_get hi hz]
    · rw [List.getElem?_eq_none (by rw [wipe_length, hl, l1]; omega), List.getElem?_eq_none (by rw [l1]; omega)]
  · rw [wipe_out hi]
    exact hs i fun z => hi (ht i z)

theorem upd_off {H : Hp} {S : AS} {a p : Addr} {o : HO} (hp : S p) (n : ¬ S a) : upd H p o a = H a := upd_ne fun z => n (by rw [z]; exact hp)
theorem upd_offm {H : Hp} {S : AS} {a p : Addr} {o : HO} (hp : ¬ S p) (n : S a) : upd H p o a = H a := upd_ne fun z => hp (by rw [← z]; exact n)
/-- one more place that changes: the list that a comprehension makes -/
def Fx.plus (c : Fx) (p : Addr) : Fx := { c with U0 := fun a => c.U0 a ∨ a = p }
theorem SlotR.ofSrc {c c' : Fx} (e : c'.s = c.s) {H : Hp} {U : AS} {m : Md} {d : Option D} {o : Option V} {ps : List Addr} (h : SlotR c H U m d o ps) : SlotR c' H U m d o ps := by
  cases h with
  | no => exact .no
  | fro h => exact .fro h
  | own h1 h2 => exact .own h1 h2
  | lent h1 h2 => exact .lent h1 h2
  | own2 h1 h2 => exact .own2 h1 h2
  | src =>
    have q : c'.src = c.src := by show c'.s.src = c.s.src; rw [e]
    rw [← q]; exact .src
theorem Slots.ofSrc {c c' : Fx} (e : c'.s = c.s) {H : Hp} {U : AS} {ρ : Env} {σ : St} {ps : List Addr} (h : Slots c H U Γ ρ σ ps) : Slots c' H U Γ ρ σ ps := by
  induction h with
  | nil => exact .nil
  | cons h1 _ ih => exact .cons (h1.ofSrc e) ih
theorem R.fresh0 {c : Fx} {ρ : Env} {ps : List Addr} {σ : St} {H : Hp} (r : R c Γ ρ ps σ H) {p : Addr} (h : H p = none) : c.H0 p = none := by
  cases q : c.H0 p with
  | none => rfl
  | some o => obtain ⟨o', h'⟩ := r.there p o q; rw [h] at h'; cases h'
theorem R.nU0 {c : Fx} {ρ : Env} {ps : List Addr} {σ : St} {H : Hp} (r : R c Γ ρ ps σ H) {p : Addr} (h : H p = none) : ¬ c.U0 p := fun u => by
  obtain ⟨o, h', _⟩ := r.al p u
  rw [h] at h'; cases h'
theorem R.plus {c : Fx} {ρ : Env} {ps : List Addr} {σ : St} {H : Hp} (r : R c Γ ρ ps σ H) {p : Addr} (h : H p = none) : R (c.plus p) Γ ρ ps σ (upd H p (.lst [])) where
  ok := ⟨fun a q => .inl (r.ok.sub a q), r.ok.st⟩
  keep := fun a o q n => upd_keep h a o (r.keep a o q n)
  there := fun a o q => let ⟨o', q'⟩ := r.there a o q; ⟨o', upd_keep h a o' q'⟩
  inv := r.ok.st H _ r.inv fun a o _ q => upd_keep h a o q
  al := fun a u => by
    rcases u with u | rfl
    · obtain ⟨o, q, n⟩ := r.al a u
      exact ⟨o, upd_keep h a o q, n⟩
    · exact ⟨_, upd_same, fun xs z => by cases z⟩
  sz := r.sz.upd fun xs q => by rcases q with q | q <;> cases q; exact Nat.zero_le _
  sl := (Slots.ofSrc (c := c) (c' := c.plus p) rfl r.sl).mono (fun a _ o q => upd_keep h a o q) (fun a o q _ => upd_keep h a o q) fun a o q u => by
    rcases u with (u | rfl) | u
    · exact .inl u
    · rw [h] at q; cases q
    · exact .inr u
  nd := r.nd
  own := fun a ha => ⟨(r.own a ha).1, fun u => by
    rcases u with u | rfl
    · exact (r.own a ha).2 u
    · obtain ⟨xs, q⟩ := r.sl.loose a ha
      rw [h] at q; cases q⟩
/-- a list of the callers' changes (here: the comprehension's own) -/
theorem R.updU0 {c : Fx} {ρ : Env} {ps : List Addr} {σ : St} {H : Hp} (r : R c Γ ρ ps σ H) {p : Addr} {xs ys : List V} (hu : c.U0 p) (hA : ¬ c.A p) (h0 : c.H0 p = none) (h : H p = some (.lst xs)) (hz : ys.length ≤ sizeLine) : R c Γ ρ ps σ (upd H p (.lst ys)) where
  ok := r.ok
  keep := fun a o q n => by rw [upd_ne (ne_of_none q h0)]; exact r.keep a o q n
  there := fun a o q => by
    rw [upd_ne (ne_of_none q h0)]; exact r.there a o q
  inv := r.ok.st H _ r.inv fun a o u q => by rw [upd_offm (S := c.A) hA u]; exact q
  al := fun a u => by
    by_cases e : a = p
    · subst e; exact ⟨_, upd_same, fun xs z => by cases z⟩
    · rw [upd_ne e]; exact r.al a u
  sz := r.sz.upd fun zs q => by rcases q with q | q <;> cases q; exact hz
  sl := r.sl.mono (fun a ha o q => by rw [upd_off (S := c.U0) hu (r.own a ha).2]; exact q) (fun a o q n => by rw [upd_off (S := c.U ps) (.inl hu) n]; exact q) fun _ _ _ q => q
  nd := r.nd
  own := r.own

def lcW (tg : D → Env → M Env) (cond : Env → M Bool) (elt : Env → M D) (ρ : Env) : List D → M (List D)
  | [] => ret []
  | d :: ds => bnd (tg d ρ) fun ρ' => bnd (cond ρ') fun b => if b = true then bnd (elt ρ') fun y => bnd (lcW tg cond elt ρ ds) fun ys => ret (y :: ys) else lcW tg cond elt ρ ds
def eLc (its : Env → M (List D)) (tg : D → Env → M Env) (cond : Env → M Bool) (elt : Env → M D) (vs : List Nat) : Env → M (List D) := fun ρ => bnd (its ρ) fun ds => lcW tg cond elt (wipeD ρ vs) ds
def cYes : Env → M Bool := fun _ => ret true
theorem sem_yes : SemT s Γ tYes cYes := fun c ρ ps σ H Q P _ r q k => k true H q (Stp.refl c H)

/-- what holds between two turns of a comprehension -/
structure LcI (c : Fx) (Γ : List Md) (ρw : Env) (ps : List Addr) (σw : St) (H1 : Hp) (p : Addr) (n i : Nat) (H : Hp) (ys : List D) : Prop where
  keep : ∀ a o, H1 a = some o → ¬ c.A a → H a = some o
  there : ∀ a o, H1 a = some o → ∃ o', H a = some o'
  r : R (c.plus p) Γ ρw ps σw H
  acc : ∃ vs, H p = some (.lst vs) ∧ DenL H ((c.plus p).U ps) vs ys ∧ vs.length ≤ i
theorem sem_lc {wi : TI} {g : TG} {tt : TT} {te : TE} {vs ts : List Nat} {its : Env → M (List D)} {tg : D → Env → M Env} {cond : Env → M Bool} {elt : Env → M D}
    (hi : SemIc s Γ wi its) (hg : SemG s Γ g ts tg) (ht : SemT s Γ tt cond) (he : SemE s Γ te elt) (hv : ∀ i ∈ vs, Γ[i]? = some .fro) (hts : ∀ i ∈ ts, i ∈ vs) : SemL s Γ (tLc wi g tt te vs) (eLc its tg cond elt vs) := by
  intro c ρ ps σ H Q P hc r0 q k
  refine hi c ρ ps σ H _ _ hc r0 q fun ds J H1 q1 e1 it => ?_
  intro p hp
  have r1 := r0.stp e1
  have n0 := r1.fresh0 hp
  have nA : ¬ c.A p := fun z => r1.nU0 hp (r1.ok.sub p z)
  have rp := (r1.wiped hv).plus hp
  refine ⟨fun i m H' => m = ds.length - i ∧ i ≤ ds.length ∧ ∃ ys, LcI c Γ (wipeD ρ vs) ps (wipe σ vs) H1 p ds.length i H' ys ∧ lcW tg cond elt (wipeD ρ vs) (ds.drop i) (fun zs => P (ys ++ zs)),
    ⟨ds.length, by simp, Nat.zero_le _, [], ⟨fun a o h _ => upd_keep hp a o h, fun a o h => ⟨o, upd_keep hp a o h⟩, rp, ⟨[], upd_same, .nil, Nat.le_refl _⟩⟩, q1⟩, ?_⟩
  rintro i m H' ⟨rfl, hle, ys, I, w⟩
  have lA : Later c.A H1 H' := I.keep
  have lU : Later (c.U ps) H1 H' := fun a o h n => I.keep a o h fun z => n (.inl (r1.ok.sub a z))
  by_cases hlt : i < ds.length
  · refine .inr ⟨it.go i H' lA hlt, fun H'' => (ds.length - (i + 1) = ds.length - (i + 1) ∧ i + 1 ≤ ds.length ∧ ∃ zs, LcI c Γ (wipeD ρ vs) ps (wipe σ vs) H1 p ds.length (i + 1) H'' zs ∧ lcW tg cond elt (wipeD ρ vs) (ds.drop (i + 1)) (fun ws => P (zs ++ ws))),
      fun H'' h => ⟨ds.length - (i + 1), by omega, h⟩, fun x H'' y => ?_⟩
    have hd : ds[i]? = some ds[i] := by simp [hlt]
    obtain ⟨same, sz, den⟩ := it.yld i ds[i] H' x H'' lA lU hd y
    have stp2 : Stp (c.plus p) H' H'' := Stp.same I.r.ok same sz
    have r2 := I.r.stp stp2
    have dx : Den H'' ((c.plus p).U ps) x ds[i] := den _ (fun a o h u => by
      rcases u with (u | rfl) | u
      · exact .inl u
      · rw [hp] at h; cases h
      · exact .inr u) fun a h => I.r.new h
    rw [List.drop_eq_getElem_cons hlt] at w
    have hc' : (c.plus p).s = s := hc
    refine hg (c.plus p) (wipeD ρ vs) ps (wipe σ vs) H'' _ _ _ _ hc' r2 dx w fun ρ' σ' w2 r3 l3 s3 => ?_
    refine ⟨wipe_again l3 s3 hts, ?_⟩
    refine ht (c.plus p) ρ' ps σ' H'' _ _ hc' r3 w2 fun b H3 w3 e3 => ?_
    have r4 := r3.stp e3
    have kp3 : ∀ a o, H1 a = some o → ¬ c.A a → H3 a = some o := fun a o h n => e3.keep a o (same a o (I.keep a o h n)) n
    have th3 : ∀ a o, H1 a = some o → ∃ o', H3 a = some o' := fun a o h => let ⟨o1, h1⟩ := I.there a o h; e3.there a o1 (same a o1 h1)
    obtain ⟨acc, ha, dacc, hlen⟩ := I.acc
    have da3 : H3 p = some (.lst acc) ∧ DenL H3 ((c.plus p).U ps) acc ys := ⟨e3.keep _ _ (same _ _ ha) nA, (dacc.stp I.r.ok stp2).stp r3.ok e3⟩
    dsimp only at w3
    cases b with
    | true =>
      rw [if_pos rfl] at w3
      rw [if_pos rfl]
      refine he (c.plus p) ρ' ps σ' H3 _ _ hc' r4 w3 fun yd v H4 w4 e4 dv => ?_
      have ha4 : H4 p = some (.lst acc) := e4.keep _ _ da3.1 nA
      have d4 : DenL H4 ((c.plus p).U ps) acc ys := da3.2.stp r4.ok e4
      have lz : acc.length < sizeLine := Nat.lt_of_lt_of_le (Nat.lt_of_le_of_lt hlen hlt) it.len
      have hz : (acc ++ [v]).length ≤ sizeLine := by rw [List.length_append]; exact lz
      have rw4 : R (c.plus p) Γ (wipeD ρ vs) ps (wipe σ vs) H4 := (r2.stp e3).stp e4
      have up : ∀ a o, H4 a = some o → ¬ (c.plus p).U ps a → (upd H4 p (.lst (acc ++ [v]))) a = some o := fun a o h n => by
        rw [upd_off (S := (c.plus p).U ps) (.inl (.inr rfl)) n]; exact h
      refine ⟨acc, ha4, lz, rfl, hlt, ys ++ [yd], ⟨fun a o h n => ?_, fun a o h => ?_, rw4.updU0 (.inr rfl) nA n0 ha4 hz, ⟨acc ++ [v], upd_same, ?_, ?_⟩⟩, ?_⟩
      · rw [upd_ne (ne_of_none h hp)]; exact e4.keep a o (kp3 a o h n) n
      · rw [upd_ne (ne_of_none h hp)]
        obtain ⟨o1, h1⟩ := th3 a o h
        exact e4.there a o1 h1
      · exact (d4.mono up fun _ _ _ z => z).append (.cons (dv.mono up fun _ _ _ z => z) .nil)
      · rw [List.length_append]; exact Nat.succ_le_succ hlen
      · have w5 : lcW tg cond elt (wipeD ρ vs) (ds.drop (i + 1)) (fun zs => P (ys ++ (yd :: zs))) := w4
        have ee : (fun zs => P (ys ++ [yd] ++ zs)) = fun zs => P (ys ++ (yd :: zs)) := by
          funext zs
          rw [List.append_assoc]
          rfl
        rw [ee]
        exact w5
    | false =>
      rw [if_neg Bool.false_ne_true] at w3
      rw [if_neg Bool.false_ne_true]
      have rw3 : R (c.plus p) Γ (wipeD ρ vs) ps (wipe σ vs) H3 := r2.stp e3
      exact ⟨rfl, hlt, ys, ⟨kp3, th3, rw3, ⟨acc, da3.1, da3.2, Nat.le_succ_of_le hlen⟩⟩, w3⟩
  · have e : i = ds.length := by omega
    subst e
    rw [List.drop_length] at w
    have w' : P (ys ++ []) := w
    rw [List.append_nil] at w'
    obtain ⟨acc, ha, dacc, hlen⟩ := I.acc
    refine .inl ⟨it.stop H' lA, k ys p acc H' w' (e1.trans ⟨I.keep, I.there, fun _ => I.r.inv, fun _ a u => I.r.al a (.inl u), fun _ => I.r.sz⟩) (e1.fresh hp) ha (dacc.mono (fun a o h _ => h) fun a o h u => ?_)⟩
    rcases u with (u | u) | rfl
    · exact .inl (.inl u)
    · exact .inr u
    · exact .inl (.inr rfl)
end
end Py
/-! PyS: statements. -/
namespace Py
open PySem L2 StX

inductive Out where
  | nx (ρ : Env) | rt (d : D) | bk (ρ : Env) | ct (ρ : Env)

/-- what stands behind the code -/
structure Fin (c : Fx) (H : Hp) : Prop where
  keep : ∀ a o, c.H0 a = some o → ¬ c.A a → H a = some o
  there : ∀ a o, c.H0 a = some o → ∃ o', H a = some o'
  inv : c.J H
  al : Loose H c.U0
  sz : Sz H
section
variable {s : Sx} {Γ Γ' Γl : List Md}
theorem R.fin {c : Fx} {ρ : Env} {ps : List Addr} {σ : St} {H : Hp} (r : R c Γ ρ ps σ H) : Fin c H := ⟨r.keep, r.there, r.inv, r.al, r.sz⟩
structure Ek (c : Fx) (Γl Γ' : List Md) (P : Out → Prop) (E : Ends) : Prop where
  nx : ∀ ρ ps σ H, P (.nx ρ) → R c Γ' ρ ps σ H → E.nx σ H
  rt : ∀ d v H, P (.rt d) → Fin c H → Den H c.U0 v d → E.rt v H
  bk : ∀ ρ ps σ H, P (.bk ρ) → R c Γl ρ ps σ H → E.bk σ H
  ct : ∀ ρ ps σ H, P (.ct ρ) → R c Γl ρ ps σ H → E.ct σ H
def SemS (s : Sx) (Γl Γ Γ' : List Md) (t : TS) (f : Env → M Out) : Prop := ∀ c ρ ps σ H E P, c.s = s → R c Γ ρ ps σ H → f ρ P → Ek c Γl Γ' P E → t E σ H

/-! ### slots stored -/
theorem Slots.put {c : Fx} {H : Hp} {U : AS} {ρ : Env} {σ : St} {ps : List Addr} {m : Md} {d : Option D} {o : Option V} {qs : List Addr} (n : SlotR c H U m d o qs) (h : Slots c H U Γ ρ σ ps) (nd : ps.Nodup) (nq : qs.Nodup) (dj : ∀ a ∈ qs, a ∉ ps) :
    ∀ {i : Nat}, i < Γ.length → ∃ ps', Slots c H U (Γ.set i m) (ρ.set i d) (σ.set i o) ps' ∧ ps'.Nodup ∧ (∀ a ∈ ps', a ∈ ps ∨ a ∈ qs) := by
  induction h with
  | nil => intro i hi; exact absurd hi (by simp)
  | @cons m1 d1 o1 p1 q1 Γ1 ρ1 σ1 h1 h2 ih =>
    intro i hi
    have nd' := List.nodup_append.mp nd
    cases i with
    | zero =>
      refine ⟨qs ++ q1, .cons n h2, List.nodup_append.mpr ⟨nq, nd'.2.1, fun a ha b hb e => dj a ha (List.mem_append_right _ (e ▸ hb))⟩, fun a ha => ?_⟩
      rcases List.mem_append.mp ha with ha | ha
      · exact .inr ha
      · exact .inl (List.mem_append_right _ ha)
    | succ i =>
      obtain ⟨ps', s', n', m'⟩ := ih nd'.2.1 (fun a ha z => dj a ha (List.mem_append_right _ z)) (i := i) (by simpa using hi)
      refine ⟨p1 ++ ps', .cons h1 s', List.nodup_append.mpr ⟨nd'.1, n', fun a ha b hb e => ?_⟩, fun a ha => ?_⟩
      · subst e
        rcases m' a hb with z | z
        · exact nd'.2.2 a ha a z rfl
        · exact dj a z (List.mem_append_left _ ha)
      · rcases List.mem_append.mp ha with ha | ha
        · exact .inl (List.mem_append_left _ ha)
        · rcases m' a ha with z | z
          · exact .inl (List.mem_append_right _ z)
          · exact .inr z
/-- fewer own places -/
theorem R.ofSlots {c : Fx} {ρ ρ' : Env} {ps ps' qs : List Addr} {σ σ' : St} {H : Hp} {Γ' : List Md} (r : R c Γ ρ ps σ H) (sl : Slots c H (fun a => c.U ps a ∨ a ∈ qs) Γ' ρ' σ' ps') (nd : ps'.Nodup) (sub : ∀ a ∈ ps', a ∈ ps ∨ a ∈ qs) (nq : ∀ a ∈ qs, c.H0 a = none ∧ ¬ c.U0 a) :
    R c Γ' ρ' ps' σ' H :=
  { ok := r.ok, keep := r.keep, there := r.there, inv := r.inv, al := r.al, sz := r.sz, nd := nd
    sl := sl.mono (fun _ _ _ q => q) (fun _ _ q _ => q) fun a o q u => by
      rcases u with u | u
      · exact .inl (.inl u)
      · rcases sub a u with z | z
        · exact .inl (.inr z)
        · exact .inr z
    own := fun a ha => (sub a ha).elim (r.own a) (nq a) }
/-- a slot gets a datum: any mode behind -/
theorem R.put {c : Fx} {ρ : Env} {ps : List Addr} {σ : St} {H : Hp} (r : R c Γ ρ ps σ H) {i : Nat} {v : V} {d : D} (hi : i < Γ.length) (dn : Den H (c.U ps) v d) : ∃ ps', R c (Γ.set i .fro) (ρ.set i (some d)) ps' (σ.set i (some v)) H := by
  obtain ⟨ps', h1, h2, h3⟩ := r.sl.put (SlotR.fro dn) r.nd List.nodup_nil (fun a ha => absurd ha (by simp)) hi
  exact ⟨ps', r.ofSlots (qs := []) (h1.mono (fun _ _ _ q => q) (fun _ _ q _ => q) fun a o q u => u.elim id fun z => absurd z (by simp)) h2 h3 fun a ha => absurd ha (by simp)⟩
theorem R.forget {c : Fx} {ρ : Env} {ps : List Addr} {σ : St} {H : Hp} (r : R c Γ ρ ps σ H) {i : Nat} {m : Md} {o : Option V} (hi : i < Γ.length) : ∃ ps', R c (Γ.set i m) (ρ.set i none) ps' (σ.set i o) H := by
  obtain ⟨ps', h1, h2, h3⟩ := r.sl.put (SlotR.no (m := m) (o := o)) r.nd List.nodup_nil (fun a ha => absurd ha (by simp)) hi
  exact ⟨ps', r.ofSlots (qs := []) (h1.mono (fun _ _ _ q => q) (fun _ _ q _ => q) fun a o q u => u.elim id fun z => absurd z (by simp)) h2 h3 fun a ha => absurd ha (by simp)⟩
/-- a slot gets a new list as its own -/
theorem R.putOwn {c : Fx} {ρ : Env} {ps : List Addr} {σ : St} {H H' : Hp} (r : R c Γ ρ ps σ H) (e : Stp c H H') {i : Nat} {p : Addr} {vs : List V} {ds : List D} (hi : i < Γ.length) (hn : H p = none) (hp : H' p = some (.lst vs))
    (dn : DenL H' (fun a => c.U ps a ∨ a = p) vs ds) : ∃ ps', R c (Γ.set i .own) (ρ.set i (some (.list ds))) ps' (σ.set i (some (.ref p))) H' := by
  have r' := r.stp e
  have nU := r.new hn
  have sl' : Slots c H' (fun a => c.U ps a ∨ a ∈ [p]) Γ ρ σ ps := r.sl.mono (fun a ha o q => e.keep a o q (r.ownA ha)) (fun a o q n => e.keep a o q (r.nA n)) fun a o q u => u.elim id fun z => by
    rw [List.mem_singleton.mp z, hn] at q; cases q
  have dn' : DenL H' (fun a => c.U ps a ∨ a ∈ [p]) vs ds := dn.mono (fun _ _ q _ => q) fun a o q u => u.imp id fun z => List.mem_singleton.mp z
  obtain ⟨ps', h1, h2, h3⟩ := sl'.put (SlotR.own hp dn') r.nd (by simp) (fun a ha z => nU (.inr (by rw [List.mem_singleton.mp ha] at z; exact z))) hi
  exact ⟨ps', r'.ofSlots (qs := [p]) h1 h2 h3 fun a ha => by
    rw [List.mem_singleton.mp ha]
    exact ⟨r.fresh0 hn, r.nU0 hn⟩⟩

/-! ### blocks -/
def oThen (o : Out) (k : Env → M Out) : M Out := match o with
  | .nx ρ => k ρ
  | o => ret o
def sSeq (f g : Env → M Out) : Env → M Out := fun ρ => bnd (f ρ) fun o => oThen o g
def sNx : Env → M Out := fun ρ => ret (.nx ρ)
theorem sem_nx : SemS s Γl Γ Γ tNext sNx := fun c ρ ps σ H E P hc r q k => k.nx ρ ps σ H q r
theorem sem_seq {t u : TS} {f g : Env → M Out} {Γ1 : List Md} (h : SemS s Γl Γ Γ1 t f) (h' : SemS s Γl Γ1 Γ' u g) : SemS s Γl Γ Γ' (tSeq t u) (sSeq f g) := by
  intro c ρ ps σ H E P hc r q k
  refine h c ρ ps σ H _ _ hc r q ⟨fun ρ' ps' σ' H' p r' => ?_, fun d v H' p fi dn => k.rt d v H' p fi dn, fun ρ' ps' σ' H' p r' => k.bk ρ' ps' σ' H' p r', fun ρ' ps' σ' H' p r' => k.ct ρ' ps' σ' H' p r'⟩
  exact h' c ρ' ps' σ' H' _ _ hc r' p k
def sAsg (i : Nat) (e : Env → M D) : Env → M Out := fun ρ => bnd (e ρ) fun d => ret (.nx (ρ.set i (some d)))
theorem sem_asg {i : Nat} {t : TE} {e : Env → M D} (h : SemE s Γ t e) (hi : i < Γ.length) : SemS s Γl Γ (Γ.set i .fro) (tAsg t (gName i)) (sAsg i e) := by
  intro c ρ ps σ H E P hc r q k
  refine h c ρ ps σ H _ _ hc r q fun d v H1 q1 e1 dn => ?_
  obtain ⟨ps', r'⟩ := (r.stp e1).put hi dn
  exact k.nx _ ps' _ H1 q1 r'
def sOwn (i : Nat) (e : Env → M (List D)) : Env → M Out := fun ρ => bnd (e ρ) fun ds => ret (.nx (ρ.set i (some (.list ds))))
theorem sem_asgOwn {i : Nat} {t : TE} {e : Env → M (List D)} (h : SemL s Γ t e) (hi : i < Γ.length) : SemS s Γl Γ (Γ.set i .own) (tAsg t (gName i)) (sOwn i e) := by
  intro c ρ ps σ H E P hc r q k
  refine h c ρ ps σ H _ _ hc r q fun ds p vs H1 q1 e1 hn hp dn => ?_
  obtain ⟨ps', r'⟩ := r.putOwn e1 hi hn hp dn
  exact k.nx _ ps' _ H1 q1 r'
/-- a target of names: all data -/
def sTgt (e : Env → M D) (g : D → Env → M Env) : Env → M Out := fun ρ => bnd (e ρ) fun d => bnd (g d ρ) fun ρ' => ret (.nx ρ')
theorem sem_tgt {t : TE} {g : TG} {ts : List Nat} {e : Env → M D} {tg : D → Env → M Env} (h : SemE s Γ t e) (hg : SemG s Γ g ts tg) : SemS s Γl Γ Γ (tAsg t g) (sTgt e tg) := by
  intro c ρ ps σ H E P hc r q k
  refine h c ρ ps σ H _ _ hc r q fun d v H1 q1 e1 dn => ?_
  exact hg c ρ ps σ H1 d v _ _ hc (r.stp e1) dn q1 fun ρ' σ' p r' _ _ => k.nx ρ' ps σ' H1 p r'
/-- a, b = x, y (two names) -/
def sPar (i j : Nat) (f : Env → M (List D)) : Env → M Out := fun ρ => bnd (f ρ) fun l => match l with
  | [x, y] => ret (.nx ((ρ.set i (some x)).set j (some y)))
  | _ => stuck
theorem sem_par {i j : Nat} {t : TA} {f : Env → M (List D)} (h : SemA s Γ t f) (hi : Γ[i]? = some .fro) (hj : Γ[j]? = some .fro) : SemS s Γl Γ Γ (tPar i j t) (sPar i j f) := by
  intro c ρ ps σ H E P hc r q k
  refine h c ρ ps σ H _ _ hc r q fun ds vs H1 q1 e1 dn => ?_
  dsimp only at q1
  split at q1
  · cases dn with
    | cons d1 dr =>
      cases dr with
      | cons d2 dr =>
        cases dr
        exact ⟨_, _, rfl, k.nx _ ps _ H1 q1 (((r.stp e1).setFro d1 hi).setFro d2 hj)⟩
  · cases q1
def sPar3 (i j l : Nat) (f : Env → M (List D)) : Env → M Out := fun ρ => bnd (f ρ) fun w => match w with
  | [x, y, z] => ret (.nx (((ρ.set i (some x)).set j (some y)).set l (some z)))
  | _ => stuck
theorem sem_par3 {i j l : Nat} {t : TA} {f : Env → M (List D)} (h : SemA s Γ t f) (hi : Γ[i]? = some .fro) (hj : Γ[j]? = some .fro) (hl : Γ[l]? = some .fro) : SemS s Γl Γ Γ (tPar3 i j l t) (sPar3 i j l f) := by
  intro c ρ ps σ H E P hc r q k
  refine h c ρ ps σ H _ _ hc r q fun ds vs H1 q1 e1 dn => ?_
  dsimp only at q1
  split at q1
  · cases dn with
    | cons d1 dr =>
      cases dr with
      | cons d2 dr =>
        cases dr with
        | cons d3 dr =>
          cases dr
          exact ⟨_, _, _, rfl, k.nx _ ps _ H1 q1 ((((r.stp e1).setFro d1 hi).setFro d2 hj).setFro d3 hl)⟩
  · cases q1
def sRet (e : Env → M D) : Env → M Out := fun ρ => bnd (e ρ) fun d => ret (.rt d)
theorem sem_ret {t : TE} {e : Env → M D} (h : SemE s Γ t e) : SemS s Γl Γ Γ' (tRet t) (sRet e) := by
  intro c ρ ps σ H E P hc r q k
  refine h c ρ ps σ H _ _ hc r q fun d v H1 q1 e1 dn => ?_
  exact k.rt d v H1 q1 (r.stp e1).fin (dn.mono (fun _ _ z _ => z) fun a o z u => .inl u)
def sRetN : Env → M Out := fun _ => ret (.rt .none)
theorem sem_retN : SemS s Γl Γ Γ' tRetN sRetN := fun c ρ ps σ H E P hc r q k => k.rt _ _ H q r.fin .non
def sIf (g : Env → M Bool) (f f' : Env → M Out) : Env → M Out := fun ρ => bnd (g ρ) fun b => if b = true then f ρ else f' ρ
theorem sem_if {t : TT} {u w : TS} {g : Env → M Bool} {f f' : Env → M Out} (hg : SemT s Γ t g) (h : SemS s Γl Γ Γ' u f) (h' : SemS s Γl Γ Γ' w f') : SemS s Γl Γ Γ' (tIfS t u w) (sIf g f f') := by
  intro c ρ ps σ H E P hc r q k
  refine hg c ρ ps σ H _ _ hc r q fun b H1 q1 e1 => ?_
  dsimp only at q1
  cases b with
  | true =>
    rw [if_pos rfl] at q1
    exact iteT (h c ρ ps σ H1 _ _ hc (r.stp e1) q1 k)
  | false =>
    rw [if_neg Bool.false_ne_true] at q1
    exact iteF (h' c ρ ps σ H1 _ _ hc (r.stp e1) q1 k)
def sNever : Env → M Out := fun _ => stuck
theorem sem_never : SemS s Γl Γ Γ' tNever sNever := fun c ρ ps σ H E P hc r q k => False.elim q
def sBk : Env → M Out := fun ρ => ret (.bk ρ)
def sCt : Env → M Out := fun ρ => ret (.ct ρ)
theorem sem_bk : SemS s Γ Γ Γ' tBreak sBk := fun c ρ ps σ H E P hc r q k => k.bk ρ ps σ H q r
theorem sem_ct : SemS s Γ Γ Γ' tCont sCt := fun c ρ ps σ H E P hc r q k => k.ct ρ ps σ H q r

/-! ### own lists -/
theorem Slots.upd1 {c : Fx} {H H' : Hp} {U : AS} {ρ : Env} {σ : St} {ps : List Addr} {p : Addr} {vs : List V} {ds : List D} (h : Slots c H U Γ ρ σ ps) (nd : ps.Nodup) (same : ∀ a o, a ≠ p → H a = some o → H' a = some o) (hU : U p) (hp : H' p = some (.lst vs)) (dn : DenL H' U vs ds) :
    ∀ {i : Nat} {es : List D}, Γ[i]? = some .own → ρ[i]? = some (some (.list es)) → σ[i]? = some (some (.ref p)) → Slots c H' U Γ (ρ.set i (some (.list ds))) σ ps := by
  have e : ∀ a o, H a = some o → ¬ U a → H' a = some o := fun a o q n => same a o (fun z => n (by rw [z]; exact hU)) q
  induction h with
  | nil => intro i es h; simp at h
  | @cons m1 d1 o1 p1 q1 Γ1 ρ1 σ1 h1 h2 ih =>
    intro i es hm hd ho
    have nd' := List.nodup_append.mp nd
    cases i with
    | zero =>
      simp at hm hd ho
      subst hm hd ho
      cases h1 with
      | own a1 a2 =>
        refine .cons (.own hp dn) (h2.mono (fun a ha o q => same a o (fun z => ?_) q) e fun _ _ _ q => q)
        rw [z] at ha
        exact nd'.2.2 p (by simp) p ha rfl
    | succ i =>
      have hm' : Γ1[i]? = some .own := by simpa using hm
      have hd' : ρ1[i]? = some (some (.list es)) := by simpa using hd
      have ho' : σ1[i]? = some (some (.ref p)) := by simpa using ho
      obtain ⟨o, qs, e1, e2, e3⟩ := h2.get hm' hd'
      rw [ho'] at e1
      cases e1
      cases e2 with
      | own a1 a2 =>
        have hpq : p ∈ q1 := e3 p (by simp)
        refine .cons (h1.mono (fun a ha o q => same a o (fun z => ?_) q) e fun _ _ _ q => q) (ih nd'.2.1 hm' hd' ho')
        rw [z] at ha
        exact nd'.2.2 p ha p hpq rfl
/-- the own list in slot i becomes another one -/
theorem R.updOwn {c : Fx} {ρ : Env} {ps : List Addr} {σ : St} {H : Hp} (r : R c Γ ρ ps σ H) {i : Nat} {p : Addr} {xs vs : List V} {es ds : List D} (hm : Γ[i]? = some .own) (hd : ρ[i]? = some (some (.list es))) (ho : σ[i]? = some (some (.ref p)))
    (hp : p ∈ ps) (h : H p = some (.lst xs)) (hz : vs.length ≤ sizeLine) (dn : DenL H (c.U ps) vs ds) : R c Γ (ρ.set i (some (.list ds))) ps σ (upd H p (.lst vs)) where
  ok := r.ok
  keep := fun a o q n => by rw [upd_ne (ne_of_none q (r.own p hp).1)]; exact r.keep a o q n
  there := fun a o q => by rw [upd_ne (ne_of_none q (r.own p hp).1)]; exact r.there a o q
  inv := r.ok.st H _ r.inv fun a o u q => by rw [upd_offm (S := c.A) (r.ownA hp) u]; exact q
  al := fun a u => by rw [upd_offm (S := c.U0) (r.own p hp).2 u]; exact r.al a u
  sz := r.sz.upd fun zs q => by rcases q with q | q <;> cases q; exact hz
  sl := r.sl.upd1 r.nd (fun a o n q => by rw [upd_ne n]; exact q) (.inr hp) upd_same (dn.mono (fun a o q n => by rw [upd_off (S := c.U ps) (.inr hp) n]; exact q) fun _ _ _ q => q) hm hd ho
  nd := r.nd
  own := r.own
theorem R.ownAt {c : Fx} {ρ : Env} {ps : List Addr} {σ : St} {H : Hp} (r : R c Γ ρ ps σ H) {i : Nat} {d : D} (hm : Γ[i]? = some .own) (hd : ρ[i]? = some (some d)) : ∃ p xs ds, σ[i]? = some (some (.ref p)) ∧ d = .list ds ∧ p ∈ ps ∧ H p = some (.lst xs) ∧ DenL H (c.U ps) xs ds := by
  obtain ⟨o, qs, e1, e2, e3⟩ := r.sl.get hm hd
  cases e2 with
  | own a1 a2 => exact ⟨_, _, _, e1, rfl, e3 _ (by simp), a1, a2⟩
/-- i.append(e) -/
def sApp (i : Nat) (e : Env → M D) : Env → M Out := fun ρ => bnd (eVar i ρ) fun l => bnd (e ρ) fun d => match l with
  | .list ds => if lenOk (ds.length + 1) = true then ret (.nx (ρ.set i (some (.list (ds ++ [d]))))) else stuck
  | _ => stuck
theorem sem_app {K : PySem.W.Frag} {i : Nat} {t : TE} {e : Env → M D} (hm : Γ[i]? = some .own) (h : SemE s Γ t e) : SemS s Γl Γ Γ (tDrop (tBM K "list" rAppend (tVar i) (tCons t tNil))) (sApp i e) := by
  intro c ρ ps σ H E P hc r q k
  obtain ⟨l, hl, q⟩ := eVar_get q
  obtain ⟨p, xs, ds, ho, rfl, hp, h1, dn⟩ := r.ownAt hm hl
  refine ⟨_, ho, Or.inl ⟨rfl, _, SqL.of h1⟩, ?_⟩
  refine h c ρ ps σ H _ _ hc r q fun d v H1 q1 e1 d1 => ?_
  have q1 : (if lenOk (ds.length + 1) = true then ret (.nx (ρ.set i (some (.list (ds ++ [d]))))) else stuck) P := q1
  · split at q1
    · rename_i hz
      have hz' := lenOk_sz hz
      have r1 := r.stp e1
      have h1' : H1 p = some (.lst xs) := e1.keep _ _ h1 (r.ownA hp)
      have lz : xs.length < sizeLine := by rw [dn.length]; exact hz'
      refine ⟨p, xs, v, rfl, rfl, h1', lz, k.nx _ ps σ _ q1 (r1.updOwn hm hl ho hp h1' (by rw [List.length_append]; exact lz) ((dn.stp r.ok e1).append (.cons d1 .nil)))⟩
    · exact False.elim q1
/-- i[j] = e -/
def sSetI (i : Nat) (j e : Env → M D) : Env → M Out := fun ρ => bnd (e ρ) fun d => bnd (eVar i ρ) fun l => bnd (j ρ) fun x => match l, x with
  | .list ds, .int n => match ixN ds.length n with | some m => ret (.nx (ρ.set i (some (.list (ds.set m d))))) | none => stuck
  | _, _ => stuck
theorem sem_setI {i : Nat} {t u : TE} {e j : Env → M D} (hm : Γ[i]? = some .own) (h : SemE s Γ t e) (hj : SemV s Γ u j) : SemS s Γl Γ Γ (tAsg t (L2.gSub (tVar i) u rSetL)) (sSetI i j e) := by
  intro c ρ ps σ H E P hc r q k
  refine h c ρ ps σ H _ _ hc r q fun d v H1 q1 e1 d1 => ?_
  have r1 := r.stp e1
  obtain ⟨l, hl, q1⟩ := eVar_get q1
  obtain ⟨p, xs, ds, ho, rfl, hp, h1, dn⟩ := r1.ownAt hm hl
  refine ⟨_, ho, ?_⟩
  refine hj c ρ ps σ H1 _ _ hc r1 q1 fun x w H2 q2 e2 d2 => ?_
  have r2 := r1.stp e2
  cases x with
  | int n =>
    have q2 : (match ixN ds.length n with | some m => ret (Out.nx (ρ.set i (some (.list (ds.set m d))))) | none => (stuck : M Out)) P := q2
    cases z : ixN ds.length n with
    | none => rw [z] at q2; exact False.elim q2
    | some m =>
      rw [z] at q2
      have h2' : H2 p = some (.lst xs) := e2.keep _ _ h1 (r.ownA hp)
      have dn2 := dn.stp r.ok e2
      refine ⟨p, xs, n, m, rfl, d2.int, h2', by rw [dn.length]; exact z, k.nx _ ps σ _ q2 (r2.updOwn hm hl ho hp h2' (by rw [List.length_set]; exact r2.sz p xs (.inl h2')) (DenL.set (d1.stp r.ok e2) m dn2))⟩
  | _ => exact False.elim q2
/-- j = i, i own and not asked again: handed on as a datum -/
def sMove (j i : Nat) : Env → M Out := fun ρ => bnd (eVar i ρ) fun d => ret (.nx ((ρ.set i none).set j (some d)))
theorem R.frozen {c : Fx} {ρ : Env} {ps : List Addr} {σ : St} {H : Hp} (r : R c Γ ρ ps σ H) {i : Nat} {d : D} {p : Addr} (hm : Γ[i]? = some .own) (hd : ρ[i]? = some (some d)) (ho : σ[i]? = some (some (.ref p))) :
    ∃ ps', R c Γ (ρ.set i none) ps' σ H ∧ Den H (c.U ps') (.ref p) d ∧ ∀ a ∈ ps', a ∈ ps := by
  have key : ∀ {Γ : List Md} {ρ : Env} {σ : St} {ps : List Addr} {U : AS}, Slots c H U Γ ρ σ ps → ps.Nodup → ∀ {i : Nat}, Γ[i]? = some .own → ρ[i]? = some (some d) → σ[i]? = some (some (.ref p)) →
      ∃ ps', Slots c H U Γ (ρ.set i none) σ ps' ∧ ps'.Nodup ∧ (∀ a ∈ ps', a ∈ ps) ∧ p ∉ ps' ∧ ∃ vs ds, d = .list ds ∧ H p = some (.lst vs) ∧ DenL H U vs ds := by
    intro Γ ρ σ ps U h
    induction h with
    | nil => intro _ i hm; simp at hm
    | @cons m1 d1 o1 p1 q1 Γ1 ρ1 σ1 h1 h2 ih =>
      intro nd i hm hd ho
      have nd' := List.nodup_append.mp nd
      cases i with
      | zero =>
        simp at hm hd ho
        subst hm hd ho
        cases h1 with
        | own a1 a2 =>
          refine ⟨[] ++ q1, .cons .no h2, nd'.2.1, fun a ha => List.mem_append_right _ ha, fun z => nd'.2.2 p (by simp) p z rfl, _, _, rfl, a1, a2⟩
      | succ i =>
        obtain ⟨ps', s1, s2, s3, s4, s5⟩ := ih nd'.2.1 (i := i) (by simpa using hm) (by simpa using hd) (by simpa using ho)
        have hp : p ∈ q1 := by
          obtain ⟨o, qs, e1, e2, e3⟩ := h2.get (i := i) (by simpa using hm) (by simpa using hd)
          have ho' : σ1[i]? = some (some (.ref p)) := by simpa using ho
          rw [ho'] at e1; cases e1
          cases e2 with
          | own a1 a2 => exact e3 p (by simp)
        refine ⟨p1 ++ ps', .cons h1 s1, List.nodup_append.mpr ⟨nd'.1, s2, fun a ha b hb e => nd'.2.2 a ha b (s3 b hb) e⟩, fun a ha => ?_, fun z => ?_, s5⟩
        · rcases List.mem_append.mp ha with ha | ha
          · exact List.mem_append_left _ ha
          · exact List.mem_append_right _ (s3 a ha)
        · rcases List.mem_append.mp z with z | z
          · exact nd'.2.2 p z p hp rfl
          · exact s4 z
  obtain ⟨ps', h1, h2, h3, h4, vs, ds, rfl, h5, h6⟩ := key r.sl r.nd hm hd ho
  have mon : ∀ a o, H a = some o → c.U ps' a → c.U ps a := fun a o _ u => u.imp id (h3 a)
  have hp : p ∈ ps := by
    obtain ⟨q, xs, es, e1, e2, e3, _⟩ := r.ownAt hm hd
    rw [ho] at e1; cases e1
    exact e3
  refine ⟨ps', r.ofSlots (qs := []) (h1.mono (fun _ _ _ q => q) (fun _ _ q _ => q) fun a o q u => u.elim id fun z => absurd z (by simp)) h2 (fun a ha => .inl (h3 a ha)) fun a ha => absurd ha (by simp),
    .lst h5 (fun u => u.elim (r.own p hp).2 h4) (h6.mono (fun _ _ q _ => q) mon), h3⟩
theorem sem_move {i j : Nat} (hm : Γ[i]? = some .own) (hj : Γ[j]? = some .fro) : SemS s Γl Γ Γ (tAsg (tVar i) (gName j)) (sMove j i) := by
  intro c ρ ps σ H E P hc r q k
  obtain ⟨l, hl, q⟩ := eVar_get q
  obtain ⟨p, xs, ds, ho, e0, hp, h1, dn⟩ := r.ownAt hm hl
  obtain ⟨ps', r', d', _⟩ := r.frozen hm hl ho
  exact ⟨_, ho, k.nx _ ps' _ H q (r'.setFro d' hj)⟩
/-- return of an own list -/
def sRetOwn (i : Nat) : Env → M Out := fun ρ => bnd (eVar i ρ) fun d => ret (.rt d)
theorem sem_retOwn {i : Nat} (hm : Γ[i]? = some .own) : SemS s Γl Γ Γ' (tRet (tVar i)) (sRetOwn i) := by
  intro c ρ ps σ H E P hc r q k
  obtain ⟨l, hl, q⟩ := eVar_get q
  obtain ⟨p, xs, ds, ho, e0, hp, h1, dn⟩ := r.ownAt hm hl
  obtain ⟨ps', r', d', _⟩ := r.frozen hm hl ho
  exact ⟨_, ho, k.rt _ _ H q r.fin (d'.mono (fun _ _ z _ => z) fun a o z u => .inl u)⟩
/-- from here on the own list in slot i is a datum: a step without a text of its own -/
def sFrz (f : Env → M Out) : Env → M Out := f
theorem R.toFro {c : Fx} {ρ : Env} {ps : List Addr} {σ : St} {H : Hp} (r : R c Γ ρ ps σ H) {i : Nat} (hm : Γ[i]? = some .own) : ∃ ps', R c (Γ.set i .fro) ρ ps' σ H := by
  have hi : i < Γ.length := (List.getElem?_eq_some_iff.mp hm).1
  have hl := r.sl.len
  cases hd : ρ[i]? with
  | none => rw [List.getElem?_eq_none_iff] at hd; omega
  | some od =>
    cases od with
    | none =>
      have hs : i < σ.length := by omega
      obtain ⟨ps', r'⟩ := r.forget (i := i) (m := .fro) (o := σ[i]) hi
      have e1 : ρ.set i none = ρ := by
        apply List.ext_getElem?
        intro j
        by_cases e : i = j
        · subst e; rw [List.getElem?_set_self (by omega), hd]
        · rw [List.getElem?_set_ne e]
      rw [e1, List.set_getElem_self] at r'
      exact ⟨ps', r'⟩
    | some d =>
      obtain ⟨p, xs, ds, ho, e0, hp, h1, dn⟩ := r.ownAt hm hd
      obtain ⟨ps', r', d', sub⟩ := r.frozen hm hd ho
      obtain ⟨ps2, r2⟩ := r'.put hi d'
      have e1 : (ρ.set i none).set i (some d) = ρ := by
        rw [List.set_set]
        apply List.ext_getElem?
        intro j
        by_cases e : i = j
        · subst e; rw [List.getElem?_set_self (by omega), hd]
        · rw [List.getElem?_set_ne e]
      have e2 : σ.set i (some (.ref p)) = σ := by
        apply List.ext_getElem?
        intro j
        by_cases e : i = j
        · subst e; rw [List.getElem?_set_self (by omega), ho]
        · rw [List.getElem?_set_ne e]
      rw [e1, e2] at r2
      exact ⟨ps2, r2⟩
theorem sem_frz {i : Nat} {t : TS} {f : Env → M Out} (hm : Γ[i]? = some .own) (h : SemS s Γl (Γ.set i .fro) Γ' t f) : SemS s Γl Γ Γ' t (sFrz f) := by
  intro c ρ ps σ H E P hc r q k
  obtain ⟨ps', r'⟩ := r.toFro hm
  exact h c ρ ps' σ H E P hc r' q k
/-- .. at an end: the slot is forgotten, its mode free -/
theorem sem_end {i : Nat} {m : Md} {t : TS} {f : Env → M Out} (hi : i < Γ.length) (h : SemS s Γl (Γ.set i m) Γ' t f) (hf : ∀ ρ, f ρ = f (ρ.set i none)) : SemS s Γl Γ Γ' t f := by
  intro c ρ ps σ H E P hc r q k
  rw [hf] at q
  have hs : i < σ.length := by have := r.sl.len; omega
  obtain ⟨ps', r'⟩ := r.forget (i := i) (m := m) (o := σ[i]) hi
  rw [List.set_getElem_self] at r'
  exact h c _ ps' σ H E P hc r' q k
end
end Py
/-! PyL: loops. -/
namespace Py
open PySem L2 StX
section
variable {s : Sx} {Γ Γ' Γl : List Md}
/-- the same def, seen from a later place: what stands there is kept too -/
def Fx.at (c : Fx) (ps : List Addr) (H : Hp) : Fx := { c with H0 := fun a => if a ∈ ps then none else H a }
theorem Fx.at_none {c : Fx} {ps : List Addr} {H : Hp} {a : Addr} (h : (c.at ps H).H0 a = none) : a ∈ ps ∨ H a = none := by
  have h' : (if a ∈ ps then none else H a) = none := h
  by_cases q : a ∈ ps
  · exact .inl q
  · rw [if_neg q] at h'; exact .inr h'
theorem Fx.at_some {c : Fx} {ps : List Addr} {H : Hp} {a : Addr} {o : HO} (n : a ∉ ps) (h : H a = some o) : (c.at ps H).H0 a = some o := by
  show (if a ∈ ps then none else H a) = some o
  rw [if_neg n]; exact h
theorem R.enter {c : Fx} {ρ : Env} {ps : List Addr} {σ : St} {H : Hp} (r : R c Γ ρ ps σ H) : R (c.at ps H) Γ ρ ps σ H where
  ok := ⟨r.ok.sub, r.ok.st⟩
  keep := fun a o h _ => by
    have h' : (if a ∈ ps then none else H a) = some o := h
    by_cases q : a ∈ ps
    · rw [if_pos q] at h'; cases h'
    · rw [if_neg q] at h'; exact h'
  there := fun a o h => by
    have h' : (if a ∈ ps then none else H a) = some o := h
    by_cases q : a ∈ ps
    · rw [if_pos q] at h'; cases h'
    · rw [if_neg q] at h'; exact ⟨o, h'⟩
  inv := r.inv
  al := r.al
  sz := r.sz
  sl := Slots.ofSrc (c := c) (c' := c.at ps H) rfl r.sl
  nd := r.nd
  own := fun p hp => ⟨if_pos hp, (r.own p hp).2⟩
theorem R.leave {c : Fx} {ρ ρ0 : Env} {ps ps0 : List Addr} {σ σ0 : St} {H H1 : Hp} {Γ0 : List Md} (r0 : R c Γ0 ρ0 ps0 σ0 H1) (r : R (c.at ps0 H1) Γ ρ ps σ H) : R c Γ ρ ps σ H where
  ok := r0.ok
  keep := fun a o h n => r.keep a o (Fx.at_some (fun z => by rw [(r0.own a z).1] at h; cases h) (r0.keep a o h n)) n
  there := fun a o h => let ⟨o1, h1⟩ := r0.there a o h; r.there a o1 (Fx.at_some (fun z => by rw [(r0.own a z).1] at h; cases h) h1)
  inv := r.inv
  al := r.al
  sz := r.sz
  sl := Slots.ofSrc (c := c.at ps0 H1) (c' := c) rfl r.sl
  nd := r.nd
  own := fun p hp => ⟨(Fx.at_none (r.own p hp).1).elim (fun z => (r0.own p z).1) fun z => r0.fresh0 z, (r.own p hp).2⟩
theorem Fin.leave {c : Fx} {ρ0 : Env} {ps0 : List Addr} {σ0 : St} {H H1 : Hp} {Γ0 : List Md} (r0 : R c Γ0 ρ0 ps0 σ0 H1) (r : Fin (c.at ps0 H1) H) : Fin c H :=
  ⟨fun a o h n => r.keep a o (Fx.at_some (fun z => by rw [(r0.own a z).1] at h; cases h) (r0.keep a o h n)) n,
   fun a o h => let ⟨o1, h1⟩ := r0.there a o h; r.there a o1 (Fx.at_some (fun z => by rw [(r0.own a z).1] at h; cases h) h1), r.inv, r.al, r.sz⟩

def oLoop (o : Out) (k : Env → M Out) : M Out := match o with
  | .nx ρ => k ρ
  | .ct ρ => k ρ
  | .bk ρ => ret (.nx ρ)
  | .rt d => ret (.rt d)
def forW (tg : D → Env → M Env) (body : Env → M Out) : List D → Env → M Out
  | [], ρ => ret (.nx ρ)
  | d :: ds, ρ => bnd (tg d ρ) fun ρ' => bnd (body ρ') fun o => oLoop o (forW tg body ds)
def sFor (its : Env → M (List D)) (tg : D → Env → M Env) (body : Env → M Out) : Env → M Out := fun ρ => bnd (its ρ) fun ds => forW tg body ds ρ
theorem sem_for {wi : TI} {g : TG} {tb : TS} {ts : List Nat} {its : Env → M (List D)} {tg : D → Env → M Env} {body : Env → M Out} (hi : SemI s Γ wi its) (hg : SemG s Γ g ts tg) (hb : SemS s Γ Γ Γ tb body) :
    SemS s Γl Γ Γ (tFor wi g tb) (sFor its tg body) := by
  intro c ρ ps σ H E P hc r q k
  refine hi c ρ ps σ H _ _ hc r q fun ds J H1 q1 e1 it => ?_
  have r1 := r.stp e1
  refine ⟨fun i m σ' H' => m = ds.length - i ∧ i ≤ ds.length ∧ ∃ ρ' ps', R (c.at ps H1) Γ ρ' ps' σ' H' ∧ forW tg body (ds.drop i) ρ' P, ⟨ds.length, by simp, Nat.zero_le _, ρ, ps, r1.enter, q1⟩, ?_⟩
  rintro i m σ' H' ⟨rfl, hle, ρ', ps', r', w⟩
  have lU : Later (c.U ps) H1 H' := fun a o h n => r'.keep a o (Fx.at_some (fun z => n (.inr z)) h) fun z => n (.inl (r1.ok.sub a z))
  by_cases hlt : i < ds.length
  · refine .inr ⟨it.go i H' lU hlt, fun σ2 H2 => ds.length - (i + 1) = ds.length - (i + 1) ∧ i + 1 ≤ ds.length ∧ ∃ ρ2 ps2, R (c.at ps H1) Γ ρ2 ps2 σ2 H2 ∧ forW tg body (ds.drop (i + 1)) ρ2 P, fun σ2 H2 h => ⟨ds.length - (i + 1), by omega, h⟩, fun x H'' y => ?_⟩
    have hd : ds[i]? = some ds[i] := by simp [hlt]
    obtain ⟨same, sz, den⟩ := it.yld i ds[i] H' x H'' lU lU hd y
    have r2 := r'.stp (Stp.same r'.ok same sz)
    have dx : Den H'' ((c.at ps H1).U ps') x ds[i] := den _ (fun a o h u => by
      rcases u with u | u
      · exact .inl u
      · rcases Fx.at_none (r'.own a u).1 with z | z
        · exact .inr z
        · rw [h] at z; cases z) fun a h => r'.new h
    rw [List.drop_eq_getElem_cons hlt] at w
    have hc' : (c.at ps H1).s = s := hc
    refine hg (c.at ps H1) ρ' ps' σ' H'' _ _ _ _ hc' r2 dx w fun ρ2 σ2 w2 r3 _ _ => ?_
    refine hb (c.at ps H1) ρ2 ps' σ2 H'' _ _ hc' r3 w2 ⟨fun ρ3 ps3 σ3 H3 p r4 => ?_, fun d v H3 p fi dn => ?_, fun ρ3 ps3 σ3 H3 p r4 => ?_, fun ρ3 ps3 σ3 H3 p r4 => ?_⟩
    · exact ⟨rfl, hlt, ρ3, ps3, r4, p⟩
    · exact k.rt d v H3 p (fi.leave r1) dn
    · exact k.nx ρ3 ps3 σ3 H3 p (r1.leave r4)
    · exact ⟨rfl, hlt, ρ3, ps3, r4, p⟩
  · have e : i = ds.length := by omega
    subst e
    rw [List.drop_length] at w
    exact .inl ⟨it.stop H' lU, k.nx ρ' ps' σ' H' w (r1.leave r')⟩
def whW (g : Env → M Bool) (body : Env → M Out) : Nat → Env → M Out
  | 0, _ => stuck
  | n + 1, ρ => bnd (g ρ) fun b => if b = true then bnd (body ρ) fun o => oLoop o (whW g body n) else ret (.nx ρ)
def sWhile (fuel : Env → Nat) (g : Env → M Bool) (body : Env → M Out) : Env → M Out := fun ρ => whW g body (fuel ρ) ρ
theorem sem_while {t : TT} {tb : TS} {fuel : Env → Nat} {g : Env → M Bool} {body : Env → M Out} (hg : SemT s Γ t g) (hb : SemS s Γ Γ Γ tb body) : SemS s Γl Γ Γ (tWhile t tb) (sWhile fuel g body) := by
  intro c ρ ps σ H E P hc r q k
  refine ⟨fun m σ' H' => ∃ ρ' ps', R c Γ ρ' ps' σ' H' ∧ whW g body m ρ' P, ⟨fuel ρ, ρ, ps, r, q⟩, ?_⟩
  rintro m σ' H' ⟨ρ', ps', r', w⟩
  cases m with
  | zero => exact False.elim w
  | succ m =>
    refine hg c ρ' ps' σ' H' _ _ hc r' w fun b H1 q1 e1 => ?_
    dsimp only at q1
    cases b with
    | true =>
      rw [if_pos rfl] at q1
      rw [if_pos rfl]
      refine ⟨fun σ2 H2 => ∃ ρ2 ps2, R c Γ ρ2 ps2 σ2 H2 ∧ whW g body m ρ2 P, fun σ2 H2 h => ⟨m, Nat.lt_succ_self m, h⟩, ?_⟩
      exact hb c ρ' ps' σ' H1 _ _ hc (r'.stp e1) q1 ⟨fun ρ3 ps3 σ3 H3 p r4 => ⟨ρ3, ps3, r4, p⟩, fun d v H3 p fi dn => k.rt d v H3 p fi dn, fun ρ3 ps3 σ3 H3 p r4 => k.nx ρ3 ps3 σ3 H3 p r4, fun ρ3 ps3 σ3 H3 p r4 => ⟨ρ3, ps3, r4, p⟩⟩
    | false =>
      rw [if_neg Bool.false_ne_true] at q1
      rw [if_neg Bool.false_ne_true]
      exact k.nx ρ' ps' σ' H1 q1 (r'.stp e1)
end
end Py
/-! PyF: defs and their calls (no repr under way: guards). -/
namespace Py
open PySem PySem.Spec PyProof.Rows L2 StX

section
variable {P : Program} {w : World} {K : PySem.W.Frag} {mg : Str → Option Value} {base : Heap}
structure FnG (P : Program) (w : World) (K : PySem.W.Frag) (mg : Str → Option Value) (base : Heap) (k : Nat) (f : Addr) (fd : FuncData) (ps : List Str) (sp : Sp) : Prop where
  len : ∀ vs H Q E, sp vs H Q E → vs.length = ps.length
  run : ∀ (A : Around) (outer : List PySem.Env) (s : Shared) (H : Hp) (args : Args) (us : List Value) (vs : List V) (Q : VK) (E : XK), A.guards = some [] → Room k A → Env0 P w K mg base A outer s H → BindsTo s fd args (ps.zip us) → Vals vs us → sp vs H Q E →
    codeAny (model P w) A (.call (.ref f) args) (CR CX0 outer P w H s Q E) s
theorem FnG.mono {j k : Nat} {f : Addr} {fd : FuncData} {ps : List Str} {sp : Sp} (F : FnG P w K mg base j f fd ps sp) (h : j ≤ k) : FnG P w K mg base k f fd ps sp :=
  ⟨F.len, fun A outer s H args us vs Q E hg hr => F.run A outer s H args us vs Q E hg (hr.mono h)⟩
theorem guards_deeper (A : Around) (env : PySem.Env) : (A.deeper env).guards = A.guards := rfl
theorem fn_g {k : Nat} {x qual : Str} {st : Stmt} {f : Addr} {fd : FuncData} {N ps : List Str} {sp : Sp} (F : Fun K x qual st f fd) (S : FnScope N ps (defScope st)) (len : ∀ vs H Q E, sp vs H Q E → vs.length = ps.length)
    (hbody : ∀ (cdv : Value) (A : Around) (outer : List PySem.Env) (s : Shared) (H : Hp) (vs : List V) (Q : VK) (E : XK), A.guards = some [] → Room k (A.deeper (envOfC qual (defScope st) s.heap.objs.size f cdv)) → sp vs H Q E →
      ∃ t, PSs (cxOf CX0 P w K mg base N qual (defScope st) f cdv A outer s H E).nox (defBody st) t ∧ t { nx := fun _ H' => Q .non H', rt := Q } (start N vs) H) : FnG P w K mg base (k + 1) f fd ps sp := by
  obtain ⟨oc, od, kV, doc, pm, an, cdv, ct, osl, rfl, lk, hcd⟩ := F.ex
  refine ⟨len, fun A outer s H args us vs Q E hgd hr e0 hb r hsp => ?_⟩
  have hl := len _ _ _ _ hsp
  have inK : K.In s.heap := e0.mod.kin.keeps fun b o e => (e0.bs b o e).1
  have noL : s.heap.NoLimit := e0.mod.nolimit.keeps fun b o e => (e0.bs b o e).1
  have kinds : ∀ y ∈ ps.zip us, (defScope st).names.lookup y.1 = some .local ∨ ((defScope st).names.lookup y.1 = some .cell ∧ ((cellsFrom (s.heap.objs.size + 1) (defScope st).names []).lookup y.1).isSome = true) := by
    rintro ⟨n, v⟩ hy
    rcases S.par n (List.of_mem_zip hy).1 with z | z
    · exact .inl z
    · exact .inr ⟨z, PySem.W.cellsFrom_some _ _ _ (.inl z)⟩
  refine codeAny_call_function hr.depth (inK _ _ lk) rfl S.co S.gen rfl (PySem.W.codeRec_of inK hcd) (hb _ _ _ _ ?_)
  refine wpAny_newFunctionEnv_cells S.kind kinds fun env he s1 xx => ?_
  subst he
  refine ⟨noL.keeps xx.toInCall.keep, codeAny_func ?_⟩
  obtain ⟨t, ht, hq⟩ := hbody cdv A outer s H vs Q E hgd (hr.deeper _) hsp
  have In := inv_start (CX := CX0) (E := E) S hr.hd e0 hl r xx
  refine wpAny_mono (ht.nox.run [] s1 (start N vs) H _ In hq) (fun fl s' hs => ?_) fun e s' hs => hs
  cases fl with
  | ret u =>
    obtain ⟨v, σ', H', J, rv, q⟩ := hs
    exact ⟨v, H', J.os, J.bare, J.base, J.hok, rv, q⟩
  | next =>
    obtain ⟨σ', H', J, q⟩ := hs
    exact ⟨V.non, H', J.os, J.bare, J.base, J.hok, rfl, q⟩
  | brk =>
    obtain ⟨_, _, _, q⟩ := hs
    exact False.elim q
  | cont =>
    obtain ⟨_, _, _, q⟩ := hs
    exact False.elim q
end

section
variable {X : Cx} {k : Nat} {f : Addr} {fd : FuncData} {ps : List Str} {sp : Sp} {x : Str} {p pos : Pos} {e : Expr} {es : List Expr} {t : TA}
theorem run_g {pins : List (Addr × Obj)} {σ : L2.St} {H : Hp} {s : Shared} {Q : VK} {us : List Value} {vs : List V} (F : FnG X.prog X.w X.K X.mg X.base k f fd ps sp) (hgd : X.A.guards = some []) (hr : Room k X.A) (hb : Binds X.K fd ps [])
    (In : Inv X pins σ H s) (r : Vals vs us) (h : sp vs H Q E0) : wpAny (model X.prog X.w) X.A (call (.ref f) us) (EP X pins σ Q) X.xe s := by
  have hl : (us ++ []).length = ps.length := by rw [List.append_nil, ← r.length]; exact F.len _ _ _ _ h
  have hb' := hb s us In.kIn hl
  rw [List.append_nil] at hb'
  refine wpAny_call (codeAny_mono (F.run X.A X.stack s H ⟨us, []⟩ us vs Q E0 hgd hr In.env0 hb' r h) fun rr s' hq => ?_)
  cases rr with
  | error e => exact False.elim hq
  | ok fl =>
    cases fl with
    | ret u => exact In.after hq
    | next => exact False.elim hq
    | brk => exact False.elim hq
    | cont => exact False.elim hq
def tCallG (sp : Sp) (t : TA) : TE := fun σ H Q => t σ H fun vs H1 => sp vs H1 Q E0
theorem pe_callG (F : FnG X.prog X.w X.K X.mg X.base k f fd ps sp) (hgd : X.A.guards = some []) (hr : Room k X.A) (hg : Gl X x) (hm : X.mg x = some (.ref f)) (hk : PySem.W.keepIn X.K (.ref f) = true) (hb : Binds X.K fd ps [])
    (ha : PA X (e :: es) t) (hdb : (x == ("__debug__" : Str)) = false := by decide) (he : starEach (e :: es) X.env = (false, eval e X.env) :: starEach es X.env := by rfl) (hpl : (backTo pos (starEach es X.env)).any (·.1) = false := by rfl) :
    PE X (.Call (.Name x p) (e :: es) [] pos) (tCallG sp t) := by
  refine ⟨fun pn st sg Hh Qq In hw => ?_⟩
  refine wpAny_Call_Name_kw (ld_glob In hg hm ?_ hdb)
  refine PySem.W.callWith_K (h₀ := X.base) In.ok.mod.kin hk (thn (ha.run pos pn st sg Hh _ In hw) fun us s1 ⟨vs, H1, I1, r, q⟩ => ⟨I1.kIn, ?_⟩) he hpl
  exact run_g F hgd hr hb I1 r q
end

/-! ### promises by functions of data -/
def pureS : Sx := ⟨fun _ => False, fun _ => True, 0⟩
structure SxOk (s : Sx) : Prop where
  st : ∀ H H', s.J H → (∀ a o, s.A a → H a = some o → H' a = some o) → s.J H'
theorem pureOk : SxOk pureS := ⟨fun _ _ _ _ => trivial⟩
def outD : Out → M D
  | .rt d => ret d
  | .nx _ => ret .none
  | _ => stuck
/-- the function of data that a body is: N places, the parameters first -/
def fnD (m : Nat) (f : Env → M Out) : List D → M D := fun ds => bnd (f (ds.map some ++ List.replicate m none)) outD
/-- what a call wants: the arguments' data, what may change (U) -/
structure Call (s : Sx) (F : List D → M D) (vs : List V) (H : Hp) (Q : VK) (ds : List D) (U : AS) (P : D → Prop) : Prop where
  den : DenL H U vs ds
  sub : ∀ a, s.A a → U a
  al : Loose H U
  sz : Sz H
  inv : s.J H
  run : F ds P
  out : ∀ d v H', P d → Stp ⟨s, U, H⟩ H H' → Den H' U v d → Q v H'
def spP (n : Nat) (F : List D → M D) : Sp := fun vs H Q _ => vs.length = n ∧ ∃ ds U P, Call pureS F vs H Q ds U P
/-- the first argument is the source -/
def spS (s : Sx) (n : Nat) (F : List D → M D) : Sp := fun vs H Q _ => vs.length = n + 1 ∧ ∃ ws, vs = .ref s.src :: ws ∧ ∃ ds U P, Call s F ws H Q ds U P
theorem slots_start {c : Fx} {H : Hp} {U : AS} {Γr : List Md} : ∀ {vs : List V} {ds : List D}, DenL H U vs ds → Slots c H U (List.replicate ds.length .fro ++ Γr) (ds.map some ++ List.replicate Γr.length none) (vs.map some ++ List.replicate Γr.length none) []
  | _, _, .nil => by
    show Slots c H U Γr (List.replicate Γr.length none) (List.replicate Γr.length none) []
    induction Γr with
    | nil => exact .nil
    | cons m Γr ih =>
      have := Slots.cons (SlotR.no (c := c) (H := H) (U := U) (m := m) (o := none)) ih
      exact this
  | _, _, .cons h t => by
    have := Slots.cons (SlotR.fro (c := c) h) (slots_start (c := c) (Γr := Γr) t)
    exact this
theorem U_nil {c : Fx} : ∀ a, c.U [] a → c.U0 a := fun a u => u.elim id fun z => absurd z (by simp)
/-- the body of a def without the source -/
theorem body_p {n m : Nat} {N : List Str} {Γr Γ' Γl : List Md} {t : TS} {f : Env → M Out} {vs : List V} {H : Hp} {Q : VK} {E : XK} (h : SemS pureS Γl (List.replicate n .fro ++ Γr) Γ' t f) (hN : N.length = n + m) (hm : Γr.length = m)
    (hs : spP n (fnD m f) vs H Q E) : t { nx := fun _ H' => Q .non H', rt := Q } (start N vs) H := by
  obtain ⟨hl, ds, U, P, C⟩ := hs
  have dl : ds.length = n := by rw [← C.den.length]; exact hl
  have ok : Fx.Ok ⟨pureS, U, H⟩ := ⟨C.sub, pureOk.st⟩
  have r0 : R ⟨pureS, U, H⟩ (List.replicate n .fro ++ Γr) (ds.map some ++ List.replicate m none) [] (start N vs) H := by
    refine ⟨ok, fun a o q _ => q, fun a o q => ⟨o, q⟩, C.inv, C.al, C.sz, ?_, List.nodup_nil, fun p hp => absurd hp (by simp)⟩
    have e1 : L2.start N vs = vs.map some ++ List.replicate Γr.length none := by
      unfold L2.start
      rw [hN, hl, hm, Nat.add_sub_cancel_left]
    rw [e1, ← dl, ← hm]
    exact slots_start (C.den.mono (fun _ _ q _ => q) fun a _ _ u => U_nil a u)
  refine h ⟨pureS, U, H⟩ _ [] _ H _ _ rfl r0 C.run ⟨fun ρ ps σ H' p r => ?_, fun d v H' p fi dn => ?_, fun ρ ps σ H' p r => False.elim p, fun ρ ps σ H' p r => False.elim p⟩
  · exact C.out .none .non H' p ⟨fun a o q n => r.keep a o q n, r.there, fun _ => r.inv, fun _ => r.al, fun _ => r.sz⟩ .non
  · exact C.out d v H' p ⟨fun a o q n => fi.keep a o q n, fi.there, fun _ => fi.inv, fun _ => fi.al, fun _ => fi.sz⟩ dn
/-- with the source in the first place -/
def fnS (m : Nat) (f : Env → M Out) : List D → M D := fun ds => bnd (f (some .none :: (ds.map some ++ List.replicate m none))) outD
theorem body_s {s : Sx} (so : SxOk s) {n m : Nat} {N : List Str} {Γr Γ' Γl : List Md} {t : TS} {f : Env → M Out} {vs : List V} {H : Hp} {Q : VK} {E : XK} (h : SemS s Γl (.src :: (List.replicate n .fro ++ Γr)) Γ' t f) (hN : N.length = n + 1 + m) (hm : Γr.length = m)
    (hs : spS s n (fnS m f) vs H Q E) : t { nx := fun _ H' => Q .non H', rt := Q } (start N vs) H := by
  obtain ⟨hl, ws, rfl, ds, U, P, C⟩ := hs
  have hl' : ws.length = n := by simpa using hl
  have dl : ds.length = n := by rw [← C.den.length]; exact hl'
  have ok : Fx.Ok ⟨s, U, H⟩ := ⟨C.sub, so.st⟩
  have r0 : R ⟨s, U, H⟩ (.src :: (List.replicate n .fro ++ Γr)) (some .none :: (ds.map some ++ List.replicate m none)) [] (start N (.ref s.src :: ws)) H := by
    refine ⟨ok, fun a o q _ => q, fun a o q => ⟨o, q⟩, C.inv, C.al, C.sz, ?_, List.nodup_nil, fun p hp => absurd hp (by simp)⟩
    have e1 : L2.start N (.ref s.src :: ws) = some (.ref s.src) :: (ws.map some ++ List.replicate Γr.length none) := by
      unfold L2.start
      rw [hN, hl, hm, Nat.add_sub_cancel_left]
      rfl
    rw [e1, ← dl, ← hm]
    have q := slots_start (c := ⟨s, U, H⟩) (Γr := Γr) (C.den.mono (fun _ _ q _ => q) fun a _ _ u => U_nil (c := ⟨s, U, H⟩) a u)
    exact Slots.cons (SlotR.src (c := ⟨s, U, H⟩) (d := .none)) q
  refine h ⟨s, U, H⟩ _ [] _ H _ _ rfl r0 C.run ⟨fun ρ ps σ H' p r => ?_, fun d v H' p fi dn => ?_, fun ρ ps σ H' p r => False.elim p, fun ρ ps σ H' p r => False.elim p⟩
  · exact C.out .none .non H' p ⟨fun a o q n => r.keep a o q n, r.there, fun _ => r.inv, fun _ => r.al, fun _ => r.sz⟩ .non
  · exact C.out d v H' p ⟨fun a o q n => fi.keep a o q n, fi.there, fun _ => fi.inv, fun _ => fi.al, fun _ => fi.sz⟩ dn

section
variable {s : Sx} {Γ : List Md}
def eCall (n : Nat) (F : List D → M D) (f : Env → M (List D)) : Env → M D := fun ρ => bnd (f ρ) fun ds => if ds.length = n then F ds else stuck
theorem sem_call {n : Nat} {F : List D → M D} {t : TA} {f : Env → M (List D)} (h : SemA s Γ t f) : SemE s Γ (tCallG (spP n F) t) (eCall n F f) := by
  intro c ρ ps σ H Q P hc r q k
  refine h c ρ ps σ H _ _ hc r q fun ds vs H1 q1 e1 dn => ?_
  have r1 := r.stp e1
  dsimp only at q1
  split at q1
  · rename_i hl
    refine ⟨dn.length.trans hl, ds, c.U ps, P, dn, fun a z => False.elim z, r1.loose, r1.sz, trivial, q1, fun d v H2 p e2 d2 => ?_⟩
    have same : ∀ a o, H1 a = some o → H2 a = some o := fun a o q => e2.keep a o q fun z => False.elim z
    exact k d v H2 p (e1.trans (Stp.same r.ok same e2.sz)) d2
  · exact False.elim q1
/-- a call that draws from the source -/
def eCallS (i n : Nat) (F : List D → M D) (f : Env → M (List D)) : Env → M D := fun ρ => bnd (eVar i ρ) fun _ => eCall n F f ρ
theorem sem_callS {i n : Nat} {F : List D → M D} {t : TA} {f : Env → M (List D)} (hi : Γ[i]? = some .src) (h : SemA s Γ t f) : SemE s Γ (tCallG (spS s n F) (tCons (tVar i) t)) (eCallS i n F f) := by
  intro c ρ ps σ H Q P hc r q k
  subst hc
  obtain ⟨d0, hd, q⟩ := eVar_get q
  obtain ⟨o, qs, ho, hs, _⟩ := r.sl.get hi hd
  cases hs with
  | src =>
    refine ⟨_, ho, ?_⟩
    refine h c ρ ps σ H _ _ rfl r q fun ds vs H1 q1 e1 dn => ?_
    have r1 := r.stp e1
    dsimp only at q1
    split at q1
    · rename_i hl
      refine ⟨congrArg (· + 1) (dn.length.trans hl), vs, rfl, ds, c.U ps, P, dn, fun a z => .inl (r.ok.sub a z), r1.loose, r1.sz, r1.inv, q1, fun d v H2 p e2 d2 => ?_⟩
      exact k d v H2 p (e1.trans ⟨e2.keep, e2.there, e2.inv, fun _ a u => e2.al r1.loose a (.inl u), e2.sz⟩) d2
    · exact False.elim q1
end
end Py
section
set_option maxHeartbeats 1000000
/-! PyG: builtin functions: their readings over any data. -/
namespace Py
open PySem L2 StX PyProof.Rows
open PySem.W (AlikeAll minD maxD min_list_data min_tuple_data max_list_data max_tuple_data dataLe dataKind SortsAt AllAlike Sortable EachIs)

section
variable {X : Cx}
/-! ### in, not in -/
def rInX (neg : Bool) (K : PySem.W.Frag) : R2 := fun x y H Q => ∃ d ds, Dp K H x d ∧ (Dp K H y (.list ds) ∨ Dp K H y (.tuple ds)) ∧ shp d = true ∧ PyData.canLayAll0 ds = true ∧ Q (.bl (xor neg (ds.any fun z => PyData.eqv z d))) H
theorem room_shp {A : Around} {d : D} {n : Nat} (h : shp d = true) (hu : A.units + 65 < cLine) : A.units + 1 + min n d.depth < cLine := by
  have h' : (d.canLay0 && decide (d.depth ≤ 64)) = true := h
  rw [Bool.and_eq_true] at h'
  have := of_decide_eq_true h'.2
  omega
theorem op_inX (hu : X.A.units + 65 < cLine) : OpR X (compareOp .In) (rInX false X.K) := by
  intro pins s σ H x y v u Q I rx ry h
  obtain ⟨d, ds, hd, he, sd, se, q⟩ := h
  obtain ⟨as, r1⟩ := Dp.reads I d x v hd rx
  rcases he with he | he
  · obtain ⟨bs, r2⟩ := Dp.reads I (.list ds) y u he ry
    exact SeqAt.in_list_reads r2 r1 se (shp_lay sd) (room_shp sd hu) ⟨.bl _, H, I, rfl, by simpa using q⟩
  · obtain ⟨bs, r2⟩ := Dp.reads I (.tuple ds) y u he ry
    exact SeqAt.in_tuple_reads r2 r1 se (shp_lay sd) (room_shp sd hu) ⟨.bl _, H, I, rfl, by simpa using q⟩
theorem op_notInX (hu : X.A.units + 65 < cLine) : OpR X (compareOp .NotIn) (rInX true X.K) := by
  intro pins s σ H x y v u Q I rx ry h
  obtain ⟨d, ds, hd, he, sd, se, q⟩ := h
  obtain ⟨as, r1⟩ := Dp.reads I d x v hd rx
  rcases he with he | he
  · obtain ⟨bs, r2⟩ := Dp.reads I (.list ds) y u he ry
    exact SeqAt.notIn_list_reads r2 r1 se (shp_lay sd) (room_shp sd hu) ⟨.bl _, H, I, rfl, by simpa using q⟩
  · obtain ⟨bs, r2⟩ := Dp.reads I (.tuple ds) y u he ry
    exact SeqAt.notIn_tuple_reads r2 r1 se (shp_lay sd) (room_shp sd hu) ⟨.bl _, H, I, rfl, by simpa using q⟩

/-! ### < of alike data -/
def cmpOk (x y : D) : Bool := W.alike x y && shp x && !isNonD x
def rLtD (K : PySem.W.Frag) : R2 := fun x y H Q => ∃ d e, Dp K H x d ∧ Dp K H y e ∧ cmpOk d e = true ∧ Q (.bl (W.dataLt d e)) H
theorem ne_non {d : D} (h : isNonD d = false) : d ≠ .none := fun e => by rw [e] at h; cases h
theorem cmpOk_of {x y : D} (h : cmpOk x y = true) : W.alike x y = true ∧ x.depth ≤ 64 ∧ x ≠ .none := by
  unfold cmpOk at h
  rw [Bool.and_eq_true, Bool.and_eq_true] at h
  have h' : (x.canLay0 && decide (x.depth ≤ 64)) = true := h.1.2
  rw [Bool.and_eq_true] at h'
  exact ⟨h.1.1, of_decide_eq_true h'.2, ne_non (by simpa using h.2)⟩
theorem op_ltD (hu : X.A.units + 65 < cLine) : OpR X (compareOp .Lt) (rLtD X.K) := by
  intro pins s σ H x y v u Q I rx ry h
  obtain ⟨d, e, hd, he, ok, q⟩ := h
  obtain ⟨as, r1⟩ := Dp.reads I d x v hd rx
  obtain ⟨bs, r2⟩ := Dp.reads I e y u he ry
  obtain ⟨k1, k2, k3⟩ := cmpOk_of ok
  exact W.rcLt_alike d e _ s v u as bs r1 r2 k1 k3 (by omega) _ _ _ _ ⟨.bl _, H, I, rfl, q⟩

/-! ### min, max of a list or a tuple of alike data -/
theorem Dp.at' {K : PySem.W.Frag} {H : Hp} : ∀ {vs : List V} {ds : List D}, DpAll K H vs ds → ∀ {i : Nat} {v : V}, vs[i]? = some v → ∃ d, ds[i]? = some d ∧ Dp K H v d
  | _, _, .nil, i, v, e => by simp at e
  | _, _, .cons h t, 0, v, e => by simp at e; subst e; exact ⟨_, rfl, h⟩
  | _, _, .cons h t, i + 1, v, e => by
    obtain ⟨d, e1, e2⟩ := Dp.at' t (i := i) (by simpa using e)
    exact ⟨d, by simpa using e1, e2⟩
theorem vals_at' : ∀ {vs : List V} {us : List Value}, Vals vs us → ∀ {i : Nat} {u : Value}, us[i]? = some u → ∃ v, vs[i]? = some v ∧ RelV v u
  | _, _, .nil, i, u, e => by simp at e
  | _, _, .cons r t, 0, u, e => by simp at e; subst e; exact ⟨_, rfl, r⟩
  | _, _, .cons r t, i + 1, u, e => by
    obtain ⟨v, e1, e2⟩ := vals_at' t (i := i) (by simpa using e)
    exact ⟨v, by simpa using e1, e2⟩
def alls (ds : List D) : Bool := ds.all fun x => shp x && !isNonD x && ds.all fun y => W.alike x y
theorem alls_of {ds : List D} (h : alls ds = true) : AlikeAll ds ∧ PyData.depthAll ds ≤ 64 ∧ PyData.canLayAll0 ds = true ∧ (∀ d ∈ ds, d.depth ≤ 64) := by
  unfold alls at h
  have h1 : ∀ x ∈ ds, shp x = true ∧ isNonD x = false ∧ ∀ y ∈ ds, W.alike x y = true := fun x hx => by
    have h2 := List.all_eq_true.mp h x hx
    rw [Bool.and_eq_true, Bool.and_eq_true] at h2
    exact ⟨h2.1.1, by simpa using h2.1.2, fun y hy => List.all_eq_true.mp h2.2 y hy⟩
  have dp : ∀ d ∈ ds, d.depth ≤ 64 := fun d hd => by
    have h' : (d.canLay0 && decide (d.depth ≤ 64)) = true := (h1 d hd).1
    rw [Bool.and_eq_true] at h'
    exact of_decide_eq_true h'.2
  refine ⟨⟨fun x hx y hy => (h1 x hx).2.2 y hy, fun x hx => ne_non (h1 x hx).2.1⟩, ?_, ?_, dp⟩
  · clear h h1
    induction ds with
    | nil => exact Nat.zero_le _
    | cons d ds ih =>
      exact Nat.max_le.mpr ⟨dp d (by simp), ih fun x hx => dp x (by simp [hx])⟩
  · have h3 : ∀ d ∈ ds, d.canLay0 = true := fun d hd => shp_lay (h1 d hd).1
    clear h h1 dp
    induction ds with
    | nil => rfl
    | cons d ds ih =>
      show (d.canLay0 && PyData.canLayAll0 ds) = true
      rw [h3 d (by simp), ih fun x hx => h3 x (by simp [hx])]; rfl
/-- the items of a list or a tuple -/
def SqAny (K : PySem.W.Frag) (H : Hp) (a : Addr) (vs : List V) : Prop := SqL K H a vs ∨ SqT K H a vs
def rBest (f : D → List D → D) (K : PySem.W.Frag) : List V → Hp → VK → Prop := fun xs H Q => ∃ a vs d ds, xs = [.ref a] ∧ SqAny K H a vs ∧ DpAll K H vs (d :: ds) ∧ alls (d :: ds) = true ∧ ∀ (i : Nat) v, vs[i]? = some v → (d :: ds)[i]? = some (f d ds) → Q v H
theorem best_fin {pins : List (Addr × Obj)} {s : Shared} {σ : L2.St} {H : Hp} {Q : VK} {vs : List V} {its : List Value} {d : D} {ds : List D} {f : D → List D → D} (I : Inv X pins σ H s) (rv : Vals vs its) (hd : DpAll X.K H vs (d :: ds)) (ok : alls (d :: ds) = true) (hf : f d ds ∈ d :: ds)
    (q : ∀ (i : Nat) v, vs[i]? = some v → (d :: ds)[i]? = some (f d ds) → Q v H) {i : Nat} {v : Value} {h' : Heap} {tk : Nat} {bs : List Addr} (hv : its.toArray[i]? = some v) (r : Reads h' v (f d ds) bs) (hk : ∀ b o, s.heap.get? b = some o → h'.get? b = some o) :
    EP X pins σ Q v { s with heap := h', toks := tk } := by
  obtain ⟨w, e1, e2⟩ := vals_at' rv (i := i) (u := v) (by simpa using hv)
  obtain ⟨g, e3, e4⟩ := Dp.at' hd e1
  obtain ⟨cs, r'⟩ := Dp.reads I g w v e4 e2
  obtain ⟨ha, _, _, _⟩ := alls_of ok
  have hg : g ∈ d :: ds := List.mem_of_getElem? e3
  have e : g = f d ds := W.alike_unique g (f d ds) v cs bs (ha.1 g hg _ hf) (Reads.keeps hk r') r
  subst e
  exact ⟨w, H, I.kept hk, e2, q i w e1 e3⟩
theorem fold_mem (g : D → D → D) (hg : ∀ a y, g a y = a ∨ g a y = y) : ∀ (xs : List D) (x : D), xs.foldl g x ∈ x :: xs
  | [], x => by simp
  | y :: ys, x => by
    rw [List.foldl_cons]
    rcases List.mem_cons.mp (fold_mem g hg ys (g x y)) with h | h
    · rw [h]
      rcases hg x y with e | e <;> rw [e] <;> simp
    · simp [h]
theorem minD_mem (x : D) (xs : List D) : minD x xs ∈ x :: xs := fold_mem _ (fun a y => by
  by_cases h : W.dataLt y a = true
  · exact .inr (if_pos h)
  · exact .inl (if_neg h)) xs x
theorem maxD_mem (x : D) (xs : List D) : maxD x xs ∈ x :: xs := fold_mem _ (fun a y => by
  by_cases h : W.dataLt a y = true
  · exact .inr (if_pos h)
  · exact .inl (if_neg h)) xs x
theorem cr_minD (hc : X.calm = true) (hu : X.A.units + 66 < cLine) : CallR X (.builtin "min") (rBest minD X.K) := by
  intro pins s σ H xs us Q I r h
  obtain ⟨a, vs, d, ds, rfl, hs, hd, ok, q⟩ := h
  obtain ⟨ha, hdp, _, _⟩ := alls_of ok
  rw [Vals.ref1 r]
  rcases hs with hs | hs
  · obtain ⟨its, rv, hl, _⟩ := I.list hs
    obtain ⟨as, hr⟩ := Dp.readsAll I _ _ _ hd rv
    exact min_list_data (I.ok.hd hc) hl.isList (by simpa using hr) ha (by omega) fun i v h' tk bs hv hr' hk => best_fin I rv hd ok (minD_mem d ds) q hv hr' hk
  · obtain ⟨its, rv, hl, _⟩ := I.tuple hs
    obtain ⟨as, hr⟩ := Dp.readsAll I _ _ _ hd rv
    exact min_tuple_data (I.ok.hd hc) hl (by simpa using hr) ha (by omega) fun i v h' tk bs hv hr' hk => best_fin I rv hd ok (minD_mem d ds) q hv hr' hk
theorem cr_maxD (hc : X.calm = true) (hu : X.A.units + 66 < cLine) : CallR X (.builtin "max") (rBest maxD X.K) := by
  intro pins s σ H xs us Q I r h
  obtain ⟨a, vs, d, ds, rfl, hs, hd, ok, q⟩ := h
  obtain ⟨ha, hdp, _, _⟩ := alls_of ok
  rw [Vals.ref1 r]
  rcases hs with hs | hs
  · obtain ⟨its, rv, hl, _⟩ := I.list hs
    obtain ⟨as, hr⟩ := Dp.readsAll I _ _ _ hd rv
    exact max_list_data (I.ok.hd hc) hl.isList (by simpa using hr) ha (by omega) fun i v h' tk bs hv hr' hk => best_fin I rv hd ok (maxD_mem d ds) q hv hr' hk
  · obtain ⟨its, rv, hl, _⟩ := I.tuple hs
    obtain ⟨as, hr⟩ := Dp.readsAll I _ _ _ hd rv
    exact max_tuple_data (I.ok.hd hc) hl (by simpa using hr) ha (by omega) fun i v h' tk bs hv hr' hk => best_fin I rv hd ok (maxD_mem d ds) q hv hr' hk

/-! ### repr -/
def rpOk (d : D) : Bool := d.showable && !d.hasDict && d.canLay0 && decide (d.depth ≤ 64) && decide (d.shown.length ≤ sizeLine)
def rRepr (K : PySem.W.Frag) : List V → Hp → VK → Prop := fun xs H Q => ∃ x d, xs = [x] ∧ Dp K H x d ∧ rpOk d = true ∧ Q (.str d.shown) H
theorem cr_repr (hg : X.A.guards = some []) (hu : X.A.units + 66 < cLine) : CallR X (.builtin "repr") (rRepr X.K) := by
  intro pins s σ H xs us Q I r h
  obtain ⟨x, d, rfl, hd, ok, q⟩ := h
  unfold rpOk at ok
  simp only [Bool.and_eq_true, decide_eq_true_eq] at ok
  obtain ⟨⟨⟨⟨o1, o2⟩, o3⟩, o4⟩, o5⟩ := ok
  obtain ⟨u, rfl, rx⟩ := vals1 r
  have fin : ∀ tk t, EP X pins σ Q (.str d.shown t) { s with toks := tk } := fun tk t => ⟨.str d.shown, H, I.tok tk, ⟨t, rfl⟩, q⟩
  have obj : ∀ a, u = .ref a → wpAny (model X.prog X.w) X.A (call (.builtin "repr") [u]) (EP X pins σ Q) X.xe s := fun a e => by
    obtain ⟨as, rd⟩ := Dp.reads I d x u hd rx
    rw [e] at rd ⊢
    exact repr_of_reads' rd o1 (fun z => by rw [z] at o2; cases o2) hg (by omega) (fun _ _ q => q) (fun h' t tk hk => ⟨.str d.shown, H, I.kept hk, ⟨t, rfl⟩, q⟩) o5
  cases hd with
  | non =>
    cases rx
    exact P.repr_of_none (fin _ _)
  | bl b =>
    cases rx
    exact P.repr_of_bool (by
      have := fin (s.toks + 1) s.toks
      cases b <;> exact this)
  | int i =>
    obtain ⟨t, rfl⟩ := rx
    exact P.repr_of_int (of_decide_eq_true o1) (fin _ _)
  | str w =>
    obtain ⟨t, rfl⟩ := rx
    exact P.repr_of_str (fin _ _) o5
  | lst hs ha => cases rx; exact obj _ rfl
  | tup hs ha => cases rx; exact obj _ rfl
end
end Py
end
section
set_option maxHeartbeats 1000000
/-! PyH: sorted of data (a first empty tuple among them too), tuple * int. -/
namespace Py
open PySem L2 StX PyProof.Rows PySem.Calls
open PySem.W (AlikeAll dataLe dataKind SortsAt AllAlike Sortable EachIs kas_first_eq kas_mapM looks_reads sortingHeap copyHeap sorted_vals sortVals_data each_keys dataKind_some dataKind_inv rcLt_alike eqAt_alikeAll rcLt_alikeAll firstLt_toks Looks)

section
variable {prog : Program} {w : World} {M : Model} {A : Around} {E : Value → Shared → Prop} {s : Shared}
/-- the first items of tuples, or none -/
theorem firsts_any : ∀ (vs : List Value) (xss : List (List Value)) {Q : List (Option Value) → Shared → Prop}, EachIs (fun v xs => ∃ a o n, v = Value.ref a ∧ s.heap.get? a = some o ∧ o.cls = .type "tuple" ∧ o.data = .seq (List.toArray xs) n) vs xss → Q (xss.map fun xs => xs[0]?) s →
    wpAny M A (vs.mapM firstOfTuple') Q E s
  | [], _, _, t, h => by cases t; rw [List.mapM_nil]; exact wpAny_pure h
  | v :: vs, _, Q, t, h => by
    cases t with
    | @cons _ xs _ xss t1 t2 =>
      obtain ⟨a, o, n, rfl, ho, hc, hd⟩ := t1
      rw [List.mapM_cons]
      refine wpAny_bind ?_
      rw [kas_first_eq]
      refine wpAny_bind (Looks.here (show Looks M s.heap (typeOf (.ref a)) o.cls from (Looks.ld ho).andThen .now) ?_)
      rw [hc, if_neg (by first | decide | simp)]
      refine wpAny_bind (listItems_at ho hd (wpAny_pure ?_))
      exact wpAny_bind (firsts_any vs xss (Q := fun bs s' => wpAny M A (pure ((List.toArray xs)[0]? :: bs)) Q E s') t2 (wpAny_pure (by simpa using h)))
theorem kind_empty {v : Value} {vs : List Value} {xss : List (List Value)} {Q : SortKind → Shared → Prop} (t : EachIs (fun v xs => ∃ a o n, v = Value.ref a ∧ s.heap.get? a = some o ∧ o.cls = .type "tuple" ∧ o.data = .seq (List.toArray xs) n) (v :: vs) ([] :: xss)) (h : Q oneType' s) :
    wpAny M A (keyKind' (List.toArray (v :: vs))) Q E s := by
  have hT : ∀ u ∈ v :: vs, Looks M s.heap (typeOf u) (.type "tuple") := fun u hu => by
    obtain ⟨xs, _, a, o, n, rfl, ho, hc, hd⟩ := t.left u hu
    rw [← hc]
    exact (Looks.ld ho).andThen .now
  rw [keyKind'_eq, List.mapM_toArray, map_eq_pure_bind]
  refine wpAny_bind (wpAny_bind (firsts_any _ _ t (wpAny_pure ?_)))
  rw [if_neg (by simp), if_neg (by simp)]
  rw [oneTypeOnly'_eq, List.mapM_toArray, map_eq_pure_bind]
  refine wpAny_bind (wpAny_bind (wpAny_bind (kas_mapM (r := Value.type "tuple") _ (fun v hv Q' hq => (hT v hv).here hq) (wpAny_pure ?_))))
  have hall : ((List.map (fun _ => Value.type "tuple") (v :: vs)).toArray.all fun x => x == Value.type "tuple") = true := by
    simp only [List.all_toArray, List.all_map, List.all_eq_true]
    intro _ _
    exact beq_self_eq_true _
  have h0 : (List.map (fun _ => Value.type "tuple") (v :: vs)).toArray[0]? = some (Value.type "tuple") := by simp
  rw [h0]
  simp only [hall, if_true]
  exact wpAny_pure (wpAny_pure h)
theorem oneLt_tuple {xs ys : List D} {a b : Value} {as bs : List Addr} {Q : Bool → Shared → Prop} (ra : Reads s.heap a (.tuple xs) as) (rb : Reads s.heap b (.tuple ys) bs) (h : W.alikeAll xs ys = true)
    (hu : A.units + min (PyData.depth (.tuple xs)) (PyData.depth (.tuple ys)) < cLine) (hq : Q (W.dataLt (.tuple xs) (.tuple ys)) s) : wpAny (model prog w) A (oneLt' true a b) Q E s := by
  cases ra with
  | @tuple l o vs n _ as₁ h1 h2 h3 h4 =>
    cases rb with
    | @tuple l' o' vs' n' _ bs₁ k1 k2 k3 k4 =>
      have n1 : vs.size = xs.length := by simpa using SeqAt.ReadsAll.length _ _ _ h4
      have n2 : vs'.size = ys.length := by simpa using SeqAt.ReadsAll.length _ _ _ k4
      rw [W.dataLt_tuple, ← W.firstLt_toks xs ys h, ← n1, ← n2] at hq
      rw [oneLt'_eq]
      simp only [if_true]
      refine wpAny_bind (wpAny_cRoomFor (SeqAt.room_here hu) ?_)
      obtain ⟨cls, dd, data, sl⟩ := o
      obtain ⟨cls', dd', data', sl'⟩ := o'
      simp only at h2 h3 k2 k3
      subst h2 h3 k2 k3
      refine wpAny_bind (wpAny_callSpecialIfBound?_slot (T := "tuple") ⟨_, h1, rfl⟩ F.slot_tuple_lt (call_meets F.slot_tuple_lt ⟨_, h1, rfl⟩ F.entry_tuple_lt (F.args_tuple_lt_2 _ _) (SeqAt.tuple_ltAt l l' vs vs' n n' dd dd' sl sl' (SeqAt.pairEq xs ys) fun j => W.dataLt (xs.getD j .none) (ys.getD j .none))
        ⟨h1, k1, fun j j1 j2 => ?_, fun j j1 j2 hj => ?_, ?_⟩))
      · have := W.eqAt_alikeAll xs ys A.in1 s vs.toList vs'.toList _ _ h4 k4 h (SeqAt.room_in hu) j (by simpa using j1) (by simpa using j2)
        simpa using this
      · have := W.rcLt_alikeAll xs ys A.in1 s vs.toList vs'.toList _ _ h4 k4 h (SeqAt.room_in hu) j (by simpa using j1) (by simpa using j2) hj
        simpa using this
      · exact wpAny_truthy_bool hq
end

section
variable {prog : Program} {w : World} {A : Around} {s : Shared}
/-- tuples, the first an empty one -/
def FirstEmpty (ds : List D) : Prop := (∃ r, ds = .tuple [] :: r) ∧ ∀ d ∈ ds, ∃ xs, d = .tuple xs
theorem sorts_empty {vs : List Value} {ds : List D} (e : EachIs (fun v d => ∃ as, Reads s.heap v d as) vs ds) (hal : AllAlike ds) (hk : FirstEmpty ds) (hu : ∀ d, d ∈ ds → A.units + d.depth < cLine) : SortsAt prog w A s (dataKind s.heap ds) vs := by
  refine ⟨fun v hv => ?_, oneType', ?_, fun h2 E Q hq => ?_⟩
  · obtain ⟨d, hd, as, r⟩ := e.left v hv
    exact ⟨_, dataKind_some hal hd r⟩
  · intro E x y a b Q ha hb hq
    obtain ⟨d, as, hd, ra, rfl⟩ := dataKind_inv ha
    obtain ⟨d', as', hd', rb, rfl⟩ := dataKind_inv hb
    obtain ⟨xs, rfl⟩ := hk.2 d hd
    obtain ⟨ys, rfl⟩ := hk.2 d' hd'
    rw [keyLt'_oneType]
    exact oneLt_tuple ra rb (by have := hal _ hd _ hd'; simpa [W.alike] using this) (Nat.lt_of_le_of_lt (Nat.add_le_add_left (Nat.min_le_left _ _) _) (hu _ hd)) hq
  · obtain ⟨r, er⟩ := hk.1
    subst er
    cases e with
    | @cons v _ vs _ e1 e2 =>
      have go : ∀ {us : List Value} {es : List D}, EachIs (fun v d => ∃ as, Reads s.heap v d as) us es → (∀ d ∈ es, ∃ xs, d = .tuple xs) → ∃ xss, EachIs (fun v xs => ∃ a o n, v = Value.ref a ∧ s.heap.get? a = some o ∧ o.cls = .type "tuple" ∧ o.data = .seq (List.toArray xs) n) us xss := by
        intro us es h
        induction h with
        | nil => intro _; exact ⟨[], .nil⟩
        | cons h1 _ ih =>
          intro ht
          obtain ⟨xss, t⟩ := ih fun d hd => ht d (List.mem_cons_of_mem _ hd)
          obtain ⟨xs, rfl⟩ := ht _ (List.mem_cons_self ..)
          obtain ⟨as, r⟩ := h1
          cases r with
          | @tuple l o vs n _ _ k1 k2 k3 k4 =>
            exact ⟨vs.toList :: xss, .cons ⟨l, o, n, rfl, k1, k2, by simpa using k3⟩ t⟩
      obtain ⟨xss, t⟩ := go e2 fun d hd => hk.2 d (List.mem_cons_of_mem _ hd)
      obtain ⟨as, r1⟩ := e1
      cases r1 with
      | @tuple l o vs0 n _ _ k1 k2 k3 k4 =>
        have k5 : vs0.toList = [] := by
          have := SeqAt.ReadsAll.length _ _ _ k4
          exact List.eq_nil_of_length_eq_zero this
        refine kind_empty (.cons ⟨l, o, n, rfl, k1, k2, ?_⟩ t) hq
        have : vs0 = List.toArray [] := by
          apply Array.toList_inj.mp
          rw [k5]
        rw [this] at k3
        exact k3
def isTup1 : D → Bool
  | .tuple (_ :: _) => true
  | _ => false
def isTupD : D → Bool
  | .tuple _ => true
  | _ => false
def srtOk (ds : List D) : Bool := alls ds && (ds.all isTup1 || ds.all (fun d => !isTupD d) || (match ds with | .tuple [] :: _ => ds.all isTupD | _ => false))
theorem srtOk_of {ds : List D} (h : srtOk ds = true) : alls ds = true ∧ (Sortable ds ∨ FirstEmpty ds) := by
  unfold srtOk at h
  rw [Bool.and_eq_true, Bool.or_eq_true, Bool.or_eq_true] at h
  refine ⟨h.1, ?_⟩
  obtain ⟨ha, hb⟩ := h
  rcases hb with (hb | hb) | hb
  · refine .inl (.inl fun d hd => ?_)
    have := List.all_eq_true.mp hb d hd
    unfold isTup1 at this
    split at this
    · exact ⟨_, _, rfl⟩
    · cases this
  · refine .inl (.inr fun d hd => ⟨(alls_of ha).1.2 d hd, fun xs e => ?_⟩)
    have := List.all_eq_true.mp hb d hd
    rw [e] at this
    cases this
  · refine .inr ?_
    split at hb
    · refine ⟨⟨_, rfl⟩, fun d hd => ?_⟩
      have := List.all_eq_true.mp hb d hd
      unfold isTupD at this
      split at this
      · exact ⟨_, rfl⟩
      · cases this
    · cases hb
theorem sorts_any {vs : List Value} {ds : List D} (e : EachIs (fun v d => ∃ as, Reads s.heap v d as) vs ds) (h : srtOk ds = true) (hu : A.units + 65 < cLine) : SortsAt prog w A s (dataKind s.heap ds) vs := by
  obtain ⟨ha, hk⟩ := srtOk_of h
  obtain ⟨⟨h1, _⟩, _, _, h2⟩ := alls_of ha
  rcases hk with hk | hk
  · exact SortsAt.data e h1 hk fun d hd => by have := h2 d hd; omega
  · exact sorts_empty e h1 hk fun d hd => by have := h2 d hd; omega
end

section
variable {X : Cx}
def leD : D → D → Bool := dataLe false id
/-- the items with their data, sorted by these -/
def rSortD (K : PySem.W.Frag) : List V → Hp → VK → Prop := fun xs H Q => ∃ a vs ds, xs = [.ref a] ∧ SqL K H a vs ∧ DpAll K H vs ds ∧ srtOk ds = true ∧ ∀ p, H p = none → Q (.ref p) (upd H p (.lst (((vs.zip ds).mergeSort fun x y => leD x.2 y.2).map (·.1))))
theorem zip_each {R : Value → V × D → Prop} : ∀ {its : List Value} {vs : List V} {ds : List D}, Vals vs its → vs.length = ds.length → (∀ v u d, RelV v u → (v, d) ∈ vs.zip ds → R u (v, d)) → EachIs R its (vs.zip ds)
  | _, _, [], .nil, _, _ => .nil
  | _, _, d :: ds, .cons r t, hl, h => .cons (h _ _ _ r (by simp)) (zip_each t (by simpa using hl) fun v u e r' hm => h v u e r' (by simp [hm]))
theorem each_vals : ∀ {its : List Value} {bs : List (V × D)}, EachIs (fun u b => RelV b.1 u) its bs → Vals (bs.map (·.1)) its
  | _, _, .nil => .nil
  | _, _, .cons r t => .cons r (each_vals t)
theorem DpAll.len {K : PySem.W.Frag} {H : Hp} : ∀ {vs : List V} {ds : List D}, DpAll K H vs ds → vs.length = ds.length
  | _, _, .nil => rfl
  | _, _, .cons _ t => congrArg (· + 1) (DpAll.len t)
theorem cr_sortD (hu : X.A.units + 67 < cLine) : CallR X (.builtin "sorted") (rSortD X.K) := by
  intro pins s σ H xs us Q I r h
  obtain ⟨a, vs, ds, rfl, hs, hd, ok, q⟩ := h
  rw [Vals.ref1 r]
  obtain ⟨its, rv, hl, hz⟩ := I.list hs
  have hl2 := DpAll.len hd
  have rds : ∀ v u d, RelV v u → (v, d) ∈ vs.zip ds → ∃ as, Reads s.heap u d as := fun v u d rr hm => by
    obtain ⟨i, hi, e⟩ := List.getElem_of_mem hm
    have e1 : vs[i]? = some v := by
      have := congrArg Prod.fst e
      simp at this
      rw [← this]
      simp
    obtain ⟨d', e2, dp⟩ := Dp.at' hd e1
    have e3 : ds[i]? = some d := by
      have := congrArg Prod.snd e
      simp at this
      rw [← this]
      simp
    rw [e3] at e2
    cases e2
    exact Dp.reads I d v u dp rr
  have er : EachIs (fun v (b : V × D) => ∃ as, Reads s.heap v b.2 as) its (vs.zip ds) := zip_each rv hl2 fun v u d rr hm => rds v u d rr hm
  have ev : EachIs (fun u (b : V × D) => RelV b.1 u) its (vs.zip ds) := zip_each rv hl2 fun v u d rr hm => rr
  have em : (vs.zip ds).map (·.2) = ds := by
    rw [List.map_snd_zip]
    omega
  have er' : EachIs (fun v (b : V × D) => ∃ as, Reads (sortingHeap (copyHeap s.heap its) (s.heap.objs.size + 1) its) v b.2 as) its (vs.zip ds) := er.mono fun _ _ ⟨as, r⟩ => ⟨as, PyProof.Rows.Reads.keeps (fun _ _ => W.sorting_copy_old) r⟩
  have hal : AllAlike ((vs.zip ds).map fun b => b.2) := by
    rw [em]
    exact (alls_of (srtOk_of ok).1).1.1
  have S : SortsAt X.prog X.w X.A.in1.in1 { s with heap := sortingHeap (copyHeap s.heap its) (s.heap.objs.size + 1) its } (dataKind (sortingHeap (copyHeap s.heap its) (s.heap.objs.size + 1) its) ((vs.zip ds).map fun b => b.2)) its := by
    have e1 : srtOk ((vs.zip ds).map fun b => b.2) = true := by rw [em]; exact ok
    exact sorts_any (s := { s with heap := sortingHeap (copyHeap s.heap its) (s.heap.objs.size + 1) its }) (W.each_map (R := fun v d => ∃ as, Reads (sortingHeap (copyHeap s.heap its) (s.heap.objs.size + 1) its) v d as) (fun b : V × D => b.2) er') e1 (by show X.A.units + 1 + 1 + 65 < cLine; omega)
  have hout := sortVals_data (enc := fun b : V × D => b.2) (R := fun u (b : V × D) => RelV b.1 u) false ev er' hal
  refine sorted_vals hl.isList S (by rw [← rv.length]; exact hz) ?_
  generalize W.sortVals (dataKind (sortingHeap (copyHeap s.heap its) (s.heap.objs.size + 1) its) ((vs.zip ds).map fun b => b.2)) false its its = out at hout ⊢
  have hv := each_vals hout
  have hm : (vs.zip ds).mergeSort (dataLe false fun b : V × D => b.2) = (vs.zip ds).mergeSort fun x y => leD x.2 y.2 := rfl
  rw [hm] at hv
  have hlen : (((vs.zip ds).mergeSort fun x y => leD x.2 y.2).map (·.1)).length ≤ sizeLine := by
    rw [List.length_map, List.length_mergeSort, List.length_zip]
    exact Nat.le_trans (Nat.min_le_left _ _) hz
  generalize (((vs.zip ds).mergeSort fun x y => leD x.2 y.2).map (·.1)) = ws at hv hlen q
  obtain ⟨ep, he'⟩ := PyProof.Rows.sortedAll_at s.heap its (List.toArray out)
  exact ⟨.ref _, upd H (s.heap.objs.size + 1) (.lst ws), I.laid (t' := s.toks) (fun _ _ => PyProof.Rows.sortedAll_old) (Nat.le_succ _) ⟨hlen, out, ep, hv, he'⟩, rfl, q _ (I.hok.fresh (Nat.le_succ _))⟩
end
end Py
namespace Py
open PySem L2 StX PySem.Spec PyProof.Rows PySem.Calls
open PySem.AutoSeq1 (wpAny_loadPart')
theorem tuple_mul1 (l : Addr) (items : Array Value) (n : Nat) (dd : Option Addr) (sl : Array (Option Value)) (u : Tok) :
    Meets (Builtin.«tuple.__mul__» ⟨[.ref l, .int 1 u], []⟩) (fun _ R s => s.heap.get? l = some { cls := .type "tuple", dict := dd, data := .seq items n, slots := sl } ∧
      R (.ok (.ret (Value.ref l))) s) :=
  .of_wp fun prog w A R s h => by
    obtain ⟨hp, g, d, tk, os⟩ := s
    obtain ⟨hl, h⟩ := h
    have f1 := AutoSeq1.idx_int
    have c1 : (items.isEmpty || (1 : Int) == 1) = true := by simp
    wp_walk using wpAny_loadPart' hl
    repeat (first
      | (refine wpAny_ite_false (decide_eq_false (by decide)) ?_; wp_walk using wpAny_loadPart' hl)
      | (refine wpAny_ite_true (decide_eq_true c1) ?_; wp_walk using wpAny_loadPart' hl))
    exact ⟨_, rfl, h⟩
def rRep1 (K : PySem.W.Frag) : R2 := fun x y H Q => ∃ l xs, x = .ref l ∧ y = .int 1 ∧ SqT K H l xs ∧ Q x H
theorem op_rep1 {X : Cx} : OpR X (binaryOp .Mult) (rRep1 X.K) := by
  intro pins s σ H x y v u Q I rx ry h
  obtain ⟨l, xs, rfl, rfl, hT, q⟩ := h
  cases rx
  obtain ⟨t, rfl⟩ := ry
  obtain ⟨its, r, ⟨⟨cls, dd, data, sl⟩, ho, hc, n, hd⟩, hs⟩ := I.tuple hT
  simp only at hc hd
  subst hc hd
  exact wpAny_binaryOp_repeat_ref (T := "tuple") (U := "int") (by decide) ⟨_, ho, rfl⟩ (fun s' => typeIs_int s' 1 t) noFill_tuple_mul F.fills_int_mul F.slot_int_rmul repeat_tuple F.slot_int_index.lookup
    (call_meets F.slot_int_rmul (typeIs_int s 1 t) F.entry_int_rmul (F.args_int_rmul_2 _ _) (int_rmul_tuple 1 t l its.toArray n dd sl)
      ⟨ho, rfl, ⟨_, ho, rfl⟩, call_meets F.slot_tuple_mul ⟨_, ho, rfl⟩ F.entry_tuple_mul (F.args_tuple_mul_2 _ _) (tuple_mul1 l its.toArray n dd sl t) ⟨ho, ⟨.ref l, H, I, rfl, q⟩⟩⟩)
def rMulX (K : PySem.W.Frag) : R2 := fun x y H Q => rMulA K x y H Q ∨ (rRepT K x y H Q ∨ rRep1 K x y H Q)
theorem op_mulX {X : Cx} : OpR X (binaryOp .Mult) (rMulX X.K) := op_mulA.or (op_repT.or op_rep1)
def gMulX : D → D → M D := fun x y => match x, y with
  | .tuple a, .int n => if decide (1 ≤ n ∧ n ≤ 1000 ∧ a ≠ [] ∧ a.length ≤ 100) = true then ret (.tuple (repD n.toNat a)) else stuck
  | x, y => gMul x y
theorem repD_one (a : List D) : repD 1 a = a := by simp [repD]
theorem oe_mulX {s : Sx} {K : PySem.W.Frag} : OpE s (rMulX K) gMulX := by
  intro c ps H x y u v Q P hc G hx hy q k
  unfold gMulX at q
  split at q
  · split at q
    · rename_i a n hl
      have hb := of_decide_eq_true hl
      obtain ⟨p1, vs, rfl, h1, dn1, n1⟩ := hx.tup
      have hv : vs.length ≤ 100 := by rw [dn1.length]; exact hb.2.2.2
      have hne : vs ≠ [] := fun e => hb.2.2.1 (dn1.nil_iff.mp e)
      by_cases e1 : n = 1
      · subst e1
        refine .inr (.inr ⟨p1, vs, rfl, hy.int, SqT.of h1, ?_⟩)
        have q' : P (.tuple (repD 1 a)) := q
        rw [repD_one] at q'
        exact k _ _ H q' (Stp.refl c H) (.tup h1 n1 dn1)
      · refine .inr (.inl ⟨p1, n, vs, rfl, hy.int, SqT.of h1, hne, by omega, hb.2.1, by omega, fun p hp => ?_⟩)
        have h3 : vs.length * n.toNat ≤ 100 * 1000 := Nat.mul_le_mul hv (by omega)
        have e := Stp.tup G.ok (xs := (List.replicate n.toNat vs).flatten) hp (by rw [List.length_flatten, List.map_replicate, List.sum_replicate_nat, Nat.mul_comm]; exact Nat.le_trans h3 (by decide))
        exact k _ _ _ q e (.tup upd_same (G.new hp) ((dn1.stp G.ok e).rep _))
    · cases q
  · exact .inl (oe_mul c ps H x y u v Q P hc G hx hy q k)
end Py
end
section
set_option maxHeartbeats 1000000
/-! PyM: builtin functions over data. -/
namespace Py
open PySem L2 StX
open PySem.W (minD maxD)
/-- r reckons G of the arguments: a datum -/
def CaE (s : Sx) (r : List V → Hp → VK → Prop) (g : List D → M D) : Prop := ∀ c ps H vs ds Q P, c.s = s → Gd c ps H → Views c ps H vs ds → g ds P → (∀ d w H', P d → Stp c H H' → Den H' (c.U ps) w d → Q w H') → r vs H Q
def CaL (s : Sx) (r : List V → Hp → VK → Prop) (g : List D → M (List D)) : Prop := ∀ c ps H vs ds Q P, c.s = s → Gd c ps H → Views c ps H vs ds → g ds P →
  (∀ es p ws H', P es → Stp c H H' → H p = none → H' p = some (.lst ws) → DenL H' (fun a => c.U ps a ∨ a = p) ws es → Q (.ref p) H') → r vs H Q
section
variable {s : Sx} {Γ : List Md} {K : PySem.W.Frag}
def cal (g : List D → M D) (f : Env → M (List D)) : Env → M D := fun ρ => bnd (f ρ) g
def calL (g : List D → M (List D)) (f : Env → M (List D)) : Env → M (List D) := fun ρ => bnd (f ρ) g
theorem sem_cb {r : List V → Hp → VK → Prop} {g : List D → M D} {t : TA} {f : Env → M (List D)} (o : CaE s r g) (h : SemAV s Γ t f) : SemE s Γ (tCB r t) (cal g f) := by
  intro c ρ ps σ H Q P hc r0 q k
  refine h c ρ ps σ H _ _ hc r0 q fun ds vs H1 q1 e1 d1 => ?_
  exact o c ps H1 vs ds Q P hc (r0.stp e1).gd d1 q1 fun d w H2 p e2 dn => k d w H2 p (e1.trans e2) dn
theorem sem_cbL {r : List V → Hp → VK → Prop} {g : List D → M (List D)} {t : TA} {f : Env → M (List D)} (o : CaL s r g) (h : SemAV s Γ t f) : SemL s Γ (tCB r t) (calL g f) := by
  intro c ρ ps σ H Q P hc r0 q k
  refine h c ρ ps σ H _ _ hc r0 q fun ds vs H1 q1 e1 d1 => ?_
  exact o c ps H1 vs ds Q P hc (r0.stp e1).gd d1 q1 fun es p ws H2 pp e2 hn hp dn => k es p ws H2 pp (e1.trans e2) (e1.fresh hn) hp dn
theorem View.seqK {c : Fx} {ps : List Addr} {H : Hp} {v : V} {d : D} {ds : List D} (h : View c ps H v d) (e : d = .list ds ∨ d = .tuple ds) : ∃ a vs, v = .ref a ∧ SqAny K H a vs ∧ DenL H (c.U ps) vs ds ∧ vs.length = ds.length := by
  obtain ⟨a, vs, rfl, h1, dn⟩ := h.seq e
  refine ⟨a, vs, rfl, ?_, dn, dn.length⟩
  rcases h1 with ⟨_, h1⟩ | ⟨_, h1⟩
  · exact .inl (SqL.of h1)
  · exact .inr (SqT.of h1)
/-- len -/
def cLen : List D → M D
  | [.list ds] => ret (.int ds.length)
  | [.tuple ds] => ret (.int ds.length)
  | _ => stuck
def rLenA (K : PySem.W.Frag) : List V → Hp → VK → Prop := fun xs H Q => ∃ p ys, xs = [.ref p] ∧ (SqL K H p ys ∨ SqT K H p ys) ∧ Q (.int ys.length) H
theorem ca_len : CaE s (rLenA K) cLen := by
  intro c ps H vs ds Q P hc G hv q k
  unfold cLen at q
  split at q
  · obtain ⟨v, rfl, hw⟩ := hv.one
    obtain ⟨a, ws, rfl, hs, dn, hl⟩ := hw.seqK (K := K) (.inl rfl)
    exact ⟨a, ws, rfl, hs, by rw [hl]; exact k _ _ H q (Stp.refl c H) (.int _)⟩
  · obtain ⟨v, rfl, hw⟩ := hv.one
    obtain ⟨a, ws, rfl, hs, dn, hl⟩ := hw.seqK (K := K) (.inr rfl)
    exact ⟨a, ws, rfl, hs, by rw [hl]; exact k _ _ H q (Stp.refl c H) (.int _)⟩
  · cases q
/-- abs, int, min and max of two -/
def cAbs : List D → M D
  | [.int i] => ret (.int (if i < 0 then -i else i))
  | _ => stuck
def rAbs : List V → Hp → VK → Prop := fun xs H Q => ∃ i, xs = [.int i] ∧ Q (.int (if i < 0 then -i else i)) H
theorem ca_abs : CaE s rAbs cAbs := by
  intro c ps H vs ds Q P hc G hv q k
  unfold cAbs at q
  split at q
  · obtain ⟨v, rfl, hw⟩ := hv.one
    exact ⟨_, by rw [hw.int], k _ _ H q (Stp.refl c H) (.int _)⟩
  · cases q
def cInt : List D → M D
  | [.int i] => ret (.int i)
  | [.bool b] => ret (.int (if b then 1 else 0))
  | _ => stuck
def rInt1 : List V → Hp → VK → Prop := fun xs H Q => (∃ i, xs = [.int i] ∧ Q (.int i) H) ∨ ∃ k, xs = [.bl k] ∧ Q (.int (if k then 1 else 0)) H
theorem ca_int : CaE s rInt1 cInt := by
  intro c ps H vs ds Q P hc G hv q k
  unfold cInt at q
  split at q
  · obtain ⟨v, rfl, hw⟩ := hv.one
    exact .inl ⟨_, by rw [hw.int], k _ _ H q (Stp.refl c H) (.int _)⟩
  · obtain ⟨v, rfl, hw⟩ := hv.one
    exact .inr ⟨_, by rw [hw.bl], k _ _ H q (Stp.refl c H) (.int _)⟩
  · cases q
def cMax2 : List D → M D
  | [.int i, .int j] => ret (.int (if j > i then j else i))
  | _ => stuck
def cMin2 : List D → M D
  | [.int i, .int j] => ret (.int (if j < i then j else i))
  | _ => stuck
abbrev rMx2 : List V → Hp → VK → Prop := fun xs H Q => ∃ i j, xs = [.int i, .int j] ∧ Q (.int (if j > i then j else i)) H
abbrev rMn2 : List V → Hp → VK → Prop := fun xs H Q => ∃ i j, xs = [.int i, .int j] ∧ Q (.int (if j < i then j else i)) H
theorem ca_max2 : CaE s rMx2 cMax2 := by
  intro c ps H vs ds Q P hc G hv q k
  unfold cMax2 at q
  split at q
  · obtain ⟨v, w, rfl, h1, h2⟩ := hv.two
    exact ⟨_, _, by rw [h1.int, h2.int], k _ _ H q (Stp.refl c H) (.int _)⟩
  · cases q
theorem ca_min2 : CaE s rMn2 cMin2 := by
  intro c ps H vs ds Q P hc G hv q k
  unfold cMin2 at q
  split at q
  · obtain ⟨v, w, rfl, h1, h2⟩ := hv.two
    exact ⟨_, _, by rw [h1.int, h2.int], k _ _ H q (Stp.refl c H) (.int _)⟩
  · cases q
def cGcd : List D → M D
  | [.int i, .int j] => ret (.int ((Nat.gcd i.natAbs j.natAbs : Nat) : Int))
  | _ => stuck
theorem ca_gcd : CaE s rGcd cGcd := by
  intro c ps H vs ds Q P hc G hv q k
  unfold cGcd at q
  split at q
  · obtain ⟨v, w, rfl, h1, h2⟩ := hv.two
    exact ⟨_, _, by rw [h1.int, h2.int], k _ _ H q (Stp.refl c H) (.int _)⟩
  · cases q
/-- lists of ints, of bools -/
def intsD : List D → Option (List Int)
  | [] => some []
  | .int i :: r => (intsD r).map (i :: ·)
  | _ => none
def boolsD : List D → Option (List Bool)
  | [] => some []
  | .bool i :: r => (boolsD r).map (i :: ·)
  | _ => none
theorem DenL.ints {H : Hp} {U : AS} : ∀ {ds : List D} {vs : List V} {ns : List Int}, DenL H U vs ds → intsD ds = some ns → vs = ns.map V.int
  | [], _, ns, h, e => by cases h; cases e; rfl
  | d :: ds, _, ns, h, e => by
    cases h with
    | cons h1 h2 =>
      unfold intsD at e
      split at e
      · rename_i he; cases he
      · rename_i i r he
        cases he
        obtain ⟨ms, e1, rfl⟩ := Option.map_eq_some_iff.mp e
        cases h1
        rw [h2.ints e1]; rfl
      · cases e
theorem DenL.bools {H : Hp} {U : AS} : ∀ {ds : List D} {vs : List V} {ns : List Bool}, DenL H U vs ds → boolsD ds = some ns → vs = ns.map V.bl
  | [], _, ns, h, e => by cases h; cases e; rfl
  | d :: ds, _, ns, h, e => by
    cases h with
    | cons h1 h2 =>
      unfold boolsD at e
      split at e
      · rename_i he; cases he
      · rename_i i r he
        cases he
        obtain ⟨ms, e1, rfl⟩ := Option.map_eq_some_iff.mp e
        cases h1
        rw [h2.bools e1]; rfl
      · cases e
def cSum : List D → M D
  | [.list ds] => match intsD ds with | some ns => ret (.int ns.sum) | none => stuck
  | _ => stuck
theorem ca_sum : CaE s (rSum K) cSum := by
  intro c ps H vs ds Q P hc G hv q k
  unfold cSum at q
  split at q
  · cases e : intsD _ with
    | none => rw [e] at q; cases q
    | some ns =>
      rw [e] at q
      obtain ⟨v, rfl, hw⟩ := hv.one
      obtain ⟨a, ws, rfl, h1, dn⟩ := hw.lst
      exact ⟨a, ns, rfl, by rw [← dn.ints e]; exact SqL.of h1, k _ _ H q (Stp.refl c H) (.int _)⟩
  · cases q
def cAll : List D → M D
  | [.list ds] => match boolsD ds with | some ns => ret (.bool (ns.all id)) | none => stuck
  | _ => stuck
def cAny : List D → M D
  | [.list ds] => match boolsD ds with | some ns => ret (.bool (ns.any id)) | none => stuck
  | _ => stuck
theorem ca_all : CaE s (rAll K) cAll := by
  intro c ps H vs ds Q P hc G hv q k
  unfold cAll at q
  split at q
  · cases e : boolsD _ with
    | none => rw [e] at q; cases q
    | some ns =>
      rw [e] at q
      obtain ⟨v, rfl, hw⟩ := hv.one
      obtain ⟨a, ws, rfl, h1, dn⟩ := hw.lst
      exact ⟨a, ns, rfl, by rw [← dn.bools e]; exact SqL.of h1, k _ _ H q (Stp.refl c H) (.bl _)⟩
  · cases q
theorem ca_any : CaE s (rAny K) cAny := by
  intro c ps H vs ds Q P hc G hv q k
  unfold cAny at q
  split at q
  · cases e : boolsD _ with
    | none => rw [e] at q; cases q
    | some ns =>
      rw [e] at q
      obtain ⟨v, rfl, hw⟩ := hv.one
      obtain ⟨a, ws, rfl, h1, dn⟩ := hw.lst
      exact ⟨a, ns, rfl, by rw [← dn.bools e]; exact SqL.of h1, k _ _ H q (Stp.refl c H) (.bl _)⟩
  · cases q
/-- min, max of a sequence of alike data -/
def cBest (f : D → List D → D) : List D → M D
  | [.list (d :: ds)] => if alls (d :: ds) = true then ret (f d ds) else stuck
  | [.tuple (d :: ds)] => if alls (d :: ds) = true then ret (f d ds) else stuck
  | _ => stuck
theorem ca_best {f : D → List D → D} : CaE s (rBest f K) (cBest f) := by
  intro c ps H vs ds Q P hc G hv q k
  have fin : ∀ (x : D) d es, (x = .list (d :: es) ∨ x = .tuple (d :: es)) → ds = [x] → alls (d :: es) = true → ret (f d es) P → rBest f K vs H Q := fun x d es hx e ok q' => by
    subst e
    obtain ⟨v, rfl, hw⟩ := hv.one
    obtain ⟨a, ws, rfl, hs, dn, _⟩ := hw.seqK (K := K) hx
    refine ⟨a, ws, d, es, rfl, hs, dn.dp (alls_of ok).2.2.1, ok, fun i w e1 e2 => ?_⟩
    obtain ⟨w', e3, dw⟩ := dn.get e2
    rw [e1] at e3
    cases e3
    exact k _ w H q' (Stp.refl c H) dw
  unfold cBest at q
  split at q
  · split at q
    · exact fin _ _ _ (.inl rfl) rfl (by assumption) q
    · cases q
  · split at q
    · exact fin _ _ _ (.inr rfl) rfl (by assumption) q
    · cases q
  · cases q
/-- tuple(x) -/
def cTup : List D → M D
  | [.list ds] => ret (.tuple ds)
  | [.tuple ds] => ret (.tuple ds)
  | _ => stuck
def rTupOf (K : PySem.W.Frag) : List V → Hp → VK → Prop := fun xs H Q => ∃ p ys, xs = [.ref p] ∧ ((SqL K H p ys ∧ ∀ l, H l = none → Q (.ref l) (upd H l (.tup ys))) ∨ (SqT K H p ys ∧ Q (.ref p) H))
theorem ca_tup : CaE s (rTupOf K) cTup := by
  intro c ps H vs ds Q P hc G hv q k
  unfold cTup at q
  split at q
  · obtain ⟨v, rfl, hw⟩ := hv.one
    obtain ⟨a, ws, rfl, h1, dn⟩ := hw.lst
    refine ⟨a, ws, rfl, .inl ⟨SqL.of h1, fun l hl => ?_⟩⟩
    have e := Stp.tup G.ok (xs := ws) hl (G.sz a ws (.inl h1))
    exact k _ _ _ q e (.tup upd_same (G.new hl) (dn.stp G.ok e))
  · obtain ⟨v, rfl, hw⟩ := hv.one
    obtain ⟨a, ws, rfl, h1, dn, hn⟩ := hw.tup
    exact ⟨a, ws, rfl, .inr ⟨SqT.of h1, k _ _ H q (Stp.refl c H) (.tup h1 hn dn)⟩⟩
  · cases q
/-- list(x) -/
def cLst : List D → M (List D)
  | [.list ds] => ret ds
  | [.tuple ds] => ret ds
  | _ => stuck
def rLstOf (K : PySem.W.Frag) : List V → Hp → VK → Prop := fun xs H Q => ∃ p ys, xs = [.ref p] ∧ (SqL K H p ys ∨ SqT K H p ys) ∧ ∀ l, H l = none → Q (.ref l) (upd H l (.lst ys))
theorem DenL.plus' {H : Hp} {U : AS} {p : Addr} {vs : List V} {ds : List D} {o : HO} (hp : H p = none) (h : DenL H U vs ds) : DenL (upd H p o) (fun a => U a ∨ a = p) vs ds := h.plus hp
theorem ca_lst : CaL s (rLstOf K) cLst := by
  intro c ps H vs ds Q P hc G hv q k
  have fin : ∀ (x : D) es, (x = .list es ∨ x = .tuple es) → ds = [x] → ret es P → rLstOf K vs H Q := fun x es hx e q' => by
    subst e
    obtain ⟨v, rfl, hw⟩ := hv.one
    obtain ⟨a, ws, rfl, h1, dn⟩ := hw.seq hx
    have hz : ws.length ≤ sizeLine := by
      rcases h1 with ⟨_, h1⟩ | ⟨_, h1⟩
      · exact G.sz a ws (.inl h1)
      · exact G.sz a ws (.inr h1)
    refine ⟨a, ws, rfl, ?_, fun l hl => ?_⟩
    · rcases h1 with ⟨_, h1⟩ | ⟨_, h1⟩
      · exact .inl (SqL.of h1)
      · exact .inr (SqT.of h1)
    · exact k es l ws _ q' (Stp.lst G.ok (xs := ws) hl hz) hl upd_same (dn.plus hl)
  unfold cLst at q
  split at q
  · exact fin _ _ (.inl rfl) rfl q
  · exact fin _ _ (.inr rfl) rfl q
  · cases q
/-- sorted(list) -/
def cSrt : List D → M (List D)
  | [.list ds] => if srtOk ds = true then ret (ds.mergeSort leD) else stuck
  | _ => stuck
theorem DenL.mem {H : Hp} {U : AS} : ∀ {vs : List V} {ds : List D}, DenL H U vs ds → ∀ b ∈ vs.zip ds, Den H U b.1 b.2
  | _, _, .nil, b, h => by simp at h
  | _, _, .cons h t, b, hb => by
    rcases List.mem_cons.mp hb with rfl | hb
    · exact h
    · exact t.mem b hb
theorem denL_of {H : Hp} {U : AS} : ∀ {bs : List (V × D)}, (∀ b ∈ bs, Den H U b.1 b.2) → DenL H U (bs.map (·.1)) (bs.map (·.2))
  | [], _ => .nil
  | b :: bs, h => .cons (h b (by simp)) (denL_of fun x hx => h x (by simp [hx]))
theorem DenL.srt {H : Hp} {U : AS} {vs : List V} {ds : List D} (h : DenL H U vs ds) : DenL H U (((vs.zip ds).mergeSort fun x y => leD x.2 y.2).map (·.1)) (ds.mergeSort leD) := by
  have e : ((vs.zip ds).mergeSort fun x y => leD x.2 y.2).map (·.2) = ds.mergeSort leD := by
    have := List.map_mergeSort (r := fun x y : V × D => leD x.2 y.2) (s := leD) (f := fun x : V × D => x.2) (l := vs.zip ds) (fun a _ b _ => rfl)
    rw [this, List.map_snd_zip]
    have := h.length
    omega
  rw [← e]
  exact denL_of fun b hb => h.mem b ((List.mergeSort_perm _ _).mem_iff.mp hb)
theorem ca_srt : CaL s (rSortD K) cSrt := by
  intro c ps H vs ds Q P hc G hv q k
  unfold cSrt at q
  split at q
  · split at q
    · rename_i es ok
      obtain ⟨v, rfl, hw⟩ := hv.one
      obtain ⟨a, ws, rfl, h1, dn⟩ := hw.lst
      have d2 := dn.srt
      refine ⟨a, ws, es, rfl, SqL.of h1, dn.dp (alls_of (srtOk_of ok).1).2.2.1, ok, fun p hp => ?_⟩
      have hz : (((ws.zip es).mergeSort fun x y => leD x.2 y.2).map (·.1)).length ≤ sizeLine := by
        rw [List.length_map, List.length_mergeSort, List.length_zip]
        exact Nat.le_trans (Nat.min_le_left _ _) (G.sz a ws (.inl h1))
      exact k _ p _ _ q (Stp.lst G.ok hp hz) hp upd_same (d2.plus hp)
    · cases q
  · cases q
/-- repr -/
def cRepr : List D → M D
  | [d] => if rpOk d = true then ret (.str d.shown) else stuck
  | _ => stuck
theorem ca_repr : CaE s (rRepr K) cRepr := by
  intro c ps H vs ds Q P hc G hv q k
  unfold cRepr at q
  split at q
  · split at q
    · rename_i d ok
      obtain ⟨v, rfl, hw⟩ := hv.one
      have lay : d.canLay0 = true := by
        have ok' := ok
        unfold rpOk at ok'
        simp only [Bool.and_eq_true] at ok'
        exact ok'.1.1.2
      exact ⟨v, d, rfl, hw.dp lay, ok, k _ _ H q (Stp.refl c H) (.str _)⟩
    · cases q
  · cases q
/-- in, not in -/
def gIn (neg : Bool) : D → D → M D
  | d, .list ds => if (shp d && PyData.canLayAll0 ds) = true then ret (.bool (xor neg (ds.any fun z => PyData.eqv z d))) else stuck
  | d, .tuple ds => if (shp d && PyData.canLayAll0 ds) = true then ret (.bool (xor neg (ds.any fun z => PyData.eqv z d))) else stuck
  | _, _ => stuck
theorem oe_in {neg : Bool} : OpE s (rInX neg K) (gIn neg) := by
  intro c ps H x y u v Q P hc G hx hy q k
  unfold gIn at q
  split at q
  · split at q
    · rename_i ds z
      rw [Bool.and_eq_true] at z
      exact ⟨_, ds, hx.dp (shp_lay z.1), .inl (hy.dp (by simpa [PyData.canLay0] using z.2)), z.1, z.2, k _ _ H q (Stp.refl c H) (.bl _)⟩
    · cases q
  · split at q
    · rename_i ds z
      rw [Bool.and_eq_true] at z
      exact ⟨_, ds, hx.dp (shp_lay z.1), .inr (hy.dp (by simpa [PyData.canLay0] using z.2)), z.1, z.2, k _ _ H q (Stp.refl c H) (.bl _)⟩
    · cases q
  · cases q
/-- < of tuples -/
def gLtD : D → D → M D := fun x y => if (cmpOk x y && shp y) = true then ret (.bool (W.dataLt x y)) else stuck
theorem oe_ltD : OpE s (rLtD K) gLtD := by
  intro c ps H x y u v Q P hc G hx hy q k
  unfold gLtD at q
  split at q
  · rename_i z
    rw [Bool.and_eq_true] at z
    have z1 := z.1
    unfold cmpOk at z1
    simp only [Bool.and_eq_true] at z1
    exact ⟨x, y, hx.dp (shp_lay z1.1.2), hy.dp (shp_lay z.2), z.1, k _ _ H q (Stp.refl c H) (.bl _)⟩
  · cases q
/-- isinstance -/
def tyD : D → String
  | .none => "NoneType"
  | .bool _ => "bool"
  | .int _ => "int"
  | .str _ => "str"
  | .list _ => "list"
  | .tuple _ => "tuple"
  | .dict _ => "dict"
def tIsi (K : PySem.W.Frag) (t : TE) (n : String) : TE := tCB (rIsi K) (tCons t (tCons (tC (.ty n)) tNil))
def gIsi (n : String) : D → M D := fun d => match kitB (tyD d) n with | some b => ret (.bool b) | none => stuck
theorem View.tyx {c : Fx} {ps : List Addr} {H : Hp} {v : V} {d : D} (h : View c ps H v d) : TyX K H v (.type (tyD d)) := by
  cases h with
  | den h =>
    cases h with
    | non => exact .base .non
    | bl b => exact .base (.bl b)
    | int i => exact .base (.int i)
    | str x => exact .base (.str x)
    | lst h1 => exact .base (.lst h1)
    | tup h1 => exact .base (.tup h1)
    | dct h1 => exact .base (.dK h1)
  | own h1 => exact .base (.lst h1)
theorem sem_isi {t : TE} {e : Env → M D} {n : String} (h : SemV s Γ t e) : SemE s Γ (tIsi K t n) (una (gIsi n) e) := by
  intro c ρ ps σ H Q P hc r0 q k
  refine h c ρ ps σ H _ _ hc r0 q fun d v H1 q1 e1 d1 => ?_
  unfold gIsi at q1
  cases hb : kitB (tyD d) n with
  | none => rw [hb] at q1; cases q1
  | some b =>
    rw [hb] at q1
    exact ⟨v, .ty n, _, _, b, rfl, .ty n, d1.tyx, kit_ty hb, k _ _ H1 q1 e1 (.bl _)⟩
end
end Py
end
section
set_option maxHeartbeats 1000000
/-! PyN: small things for printed walks. -/
namespace Py
open PySem L2 StX
theorem bt_len : bootBuiltins "len" = some (.builtin "len") := PySem.boot_len
theorem bt_abs : bootBuiltins "abs" = some (.builtin "abs") := by decide +kernel
theorem bt_max : bootBuiltins "max" = some (.builtin "max") := by decide +kernel
theorem bt_min : bootBuiltins "min" = some (.builtin "min") := by decide +kernel
theorem bt_sum : bootBuiltins "sum" = some (.builtin "sum") := by decide +kernel
theorem bt_all : bootBuiltins "all" = some (.builtin "all") := by decide +kernel
theorem bt_any : bootBuiltins "any" = some (.builtin "any") := by decide +kernel
theorem bt_repr : bootBuiltins "repr" = some (.builtin "repr") := by decide +kernel
theorem bt_sorted : bootBuiltins "sorted" = some (.builtin "sorted") := by decide +kernel
theorem bt_isinstance : bootBuiltins "isinstance" = some (.builtin "isinstance") := by decide +kernel
theorem bt_int : bootBuiltins "int" = some (.type "int") := by decide +kernel
theorem bt_bool : bootBuiltins "bool" = some (.type "bool") := by decide +kernel
theorem bt_str : bootBuiltins "str" = some (.type "str") := by decide +kernel
theorem bt_list : bootBuiltins "list" = some (.type "list") := by decide +kernel
theorem bt_tuple : bootBuiltins "tuple" = some (.type "tuple") := by decide +kernel
theorem bt_dict : bootBuiltins "dict" = some (.type "dict") := by decide +kernel
theorem _root_.L2.Room.u65 {k : Nat} {A : Around} (r : Room k A) : A.units + 65 < cLine := by have := r.un; omega
theorem _root_.L2.Room.u66 {k : Nat} {A : Around} (r : Room k A) : A.units + 66 < cLine := by have := r.un; omega
theorem _root_.L2.Room.u67 {k : Nat} {A : Around} (r : Room k A) : A.units + 67 < cLine := by have := r.un; omega
def froAt (Γ : List Md) (i : Nat) : Bool := match Γ[i]? with | some .fro => true | _ => false
theorem allFro {Γ : List Md} {vs : List Nat} (h : vs.all (froAt Γ) = true) : ∀ i ∈ vs, Γ[i]? = some .fro := fun i hi => by
  have := List.all_eq_true.mp h i hi
  unfold froAt at this
  split at this
  · assumption
  · cases this
section
variable {s : Sx} {Γ : List Md}
theorem DenL.rg {H : Hp} {U : AS} (a b : Int) : DenL H U (rgV a b) (rangeD a (b - a).toNat) := by
  unfold rgV rangeD
  generalize (b - a).toNat = n
  induction n with
  | zero => exact .nil
  | succ n ih =>
    rw [List.range_succ, List.map_append, List.map_append]
    exact ih.append (.cons (.int _) .nil)
def eTupRg (e : Env → M D) : Env → M D := fun ρ => bnd (e ρ) fun d => match d with
  | .int n => if rngOk n = true then ret (.tuple (rangeD 0 (n - 0).toNat)) else stuck
  | _ => stuck
theorem sem_tupRg {t : TE} {e : Env → M D} (h : SemV s Γ t e) : SemE s Γ (tTupRg (tRg1 t)) (eTupRg e) := by
  intro c ρ ps σ H Q P hc r0 q k
  refine h c ρ ps σ H _ _ hc r0 q fun d v H1 q1 e1 d1 => ?_
  dsimp only at q1
  split at q1
  · split at q1
    · rename_i n hr
      have hb := rngOk_b hr
      refine ⟨n, d1.int, (⟨by omega, by omega, by omega, by omega, by omega⟩ : RgOk 0 n), fun p hp => ?_⟩
      have r1 := r0.stp e1
      have e := Stp.tup r1.ok (xs := rgV 0 n) hp (by rw [rgV_length]; exact sz_1e5 (by omega))
      exact k _ _ _ q1 (e1.trans e) (.tup upd_same (r1.new hp) (DenL.rg 0 n))
    · cases q1
  · cases q1
end

/-! ### the walk's rules with K said -/
section
variable {X : Cx} {K : PySem.W.Frag}
theorem kIx (h : X.K = K := by rfl) : IxR X (rIx K) := by subst h; exact ix_seq
theorem kSl (h : X.K = K := by rfl) : SlR X (rSlLT K) := by subst h; exact sl_any
theorem kAdd (h : X.K = K := by rfl) : OpR X (binaryOp .Add) (rAddA K) := by subst h; exact op_addA
theorem kMul (h : X.K = K := by rfl) : OpR X (binaryOp .Mult) (rMulX K) := by subst h; exact op_mulX
theorem kEq {k : Nat} (r : Room k X.A) (h : X.K = K := by rfl) : OpR X (compareOp .Eq) (rEqD K) := by subst h; exact op_eqD r.units
theorem kNe {k : Nat} (r : Room k X.A) (h : X.K = K := by rfl) : OpR X (compareOp .NotEq) (rNeD K) := by subst h; exact op_neD r.units
theorem kIn {k : Nat} (r : Room k X.A) (h : X.K = K := by rfl) : OpR X (compareOp .In) (rInX false K) := by subst h; exact op_inX r.u65
theorem kNotIn {k : Nat} (r : Room k X.A) (h : X.K = K := by rfl) : OpR X (compareOp .NotIn) (rInX true K) := by subst h; exact op_notInX r.u65
theorem kLtD {k : Nat} (r : Room k X.A) (h : X.K = K := by rfl) : OpR X (compareOp .Lt) (rLtD K) := by subst h; exact op_ltD r.u65
theorem kLen (h : X.K = K := by rfl) : CallR X (.builtin "len") (rLenA K) := by subst h; exact call_len_seq
theorem kSum (hc : X.calm = true) (h : X.K = K := by rfl) : CallR X (.builtin "sum") (rSum K) := by subst h; exact cr_sum hc
theorem kAll (hc : X.calm = true) (h : X.K = K := by rfl) : CallR X (.builtin "all") (rAll K) := by subst h; exact cr_all hc
theorem kAny (hc : X.calm = true) (h : X.K = K := by rfl) : CallR X (.builtin "any") (rAny K) := by subst h; exact cr_any hc
theorem kTup (h : X.K = K := by rfl) : CallR X (.type "tuple") (rTupOf K) := by subst h; exact call_tuple_of
theorem kLst (h : X.K = K := by rfl) : CallR X (.type "list") (rLstOf K) := by subst h; exact call_list_of
theorem kMin {k : Nat} (hc : X.calm = true) (r : Room k X.A) (h : X.K = K := by rfl) : CallR X (.builtin "min") (rBest PySem.W.minD K) := by subst h; exact cr_minD hc r.u66
theorem kMax {k : Nat} (hc : X.calm = true) (r : Room k X.A) (h : X.K = K := by rfl) : CallR X (.builtin "max") (rBest PySem.W.maxD K) := by subst h; exact cr_maxD hc r.u66
theorem kSrt {k : Nat} (r : Room k X.A) (h : X.K = K := by rfl) : CallR X (.builtin "sorted") (rSortD K) := by subst h; exact cr_sortD r.u67
theorem kRepr {k : Nat} (hg : X.A.guards = some []) (r : Room k X.A) (h : X.K = K := by rfl) : CallR X (.builtin "repr") (rRepr K) := by subst h; exact cr_repr hg r.u66
theorem kIsi (h : X.K = K := by rfl) : CallR X (.builtin "isinstance") (rIsi K) := by subst h; exact call_isi
theorem piSeq {tg l : Expr} {tl : TE} (hl : PE X l tl) (h : X.K = K := by rfl) : PI X tg l (iSeq K tl) := by subst h; exact pi_seq hl
theorem paStar {e : Expr} {es : List Expr} {te : TE} {t : TA} {p : Pos} (he : PE X e te) (hr : PA X es t) (h : X.K = K := by rfl) (hs : starEach (.Starred e p :: es) X.env = (true, eval e X.env) :: starEach es X.env := by rfl) : PA X (.Starred e p :: es) (tStar K te t) := by
  subst h; exact pa_star he hr hs
theorem piZip {e e2 : Expr} {ta : TA} {p pos tpos : Pos} {elts : List Expr} {kk : Nat} (hg : Gl X "zip") (hm : X.mg "zip" = none) (ha : PA X [e, e2] ta) (h : X.K = K := by rfl)
    (hs : starEach [e, e2] X.env = (false, eval e X.env) :: starEach [e2] X.env := by rfl) (hs2 : (backTo pos (starEach [e2] X.env)).any (·.1) = false := by rfl) :
    PI X (.Tuple elts kk tpos) (.Call (.Name "zip" p) [e, e2] [] pos) (iZipB K ta) := by subst h; exact pi_zipB hg hm ha hs hs2
theorem piEnum {e : Expr} {ta : TA} {p pos tpos : Pos} {elts : List Expr} {kk : Nat} (hg : Gl X "enumerate") (hm : X.mg "enumerate" = none) (ha : PA X [e] ta) (h : X.K = K := by rfl) (hs : starEach [e] X.env = [(false, eval e X.env)] := by rfl) :
    PI X (.Tuple elts kk tpos) (.Call (.Name "enumerate" p) [e] [] pos) (iEnumB K ta) := by subst h; exact pi_enumB hg hm ha hs
theorem pgTup {es : List Expr} {k : Nat} {t : TGs} {n : Nat} {pos : Pos} (hc : X.calm = true) (hp : PGs X es t) (h : X.K = K := by rfl) (hn : (assignEach es X.env).length = n := by rfl) (hst : (assignEach es X.env).findIdx? (·.1) = none := by rfl) :
    PG X (.Tuple es k pos) (gTup K n t) := by subst h; exact pg_tup hc hp hn hst
theorem ptTru {a : Expr} {ta : TE} (ha : PE X a ta) (he : ∀ whole, isTrue a X.env whole = (do let v ← whole; standAt a.pos; holding [v] (truthy v)) := by intro _; rfl) (h : X.K = K := by rfl) :
    PT X a (fun σ H Q => ta σ H fun x H' => ∃ k, TruV K x H' k ∧ Q k H') := by subst h; exact pt_truth ha he
end
end Py
end
section
set_option maxHeartbeats 1000000
/-! PyP: the laws' own source of numbers: a dict with a list of cells. -/
namespace Py
open PySem L2 StX
/-- the dict at src, its cells at cl -/
def kCells : Key := .inr "cells"
def kLeft : Key := .inr "left"
def kMixed : Key := .inr "mixed"
def kTurn : Key := .inr "turn"
def srcKv (cl : Addr) (l m t : Int) : List (Key × V) := [(kCells, .ref cl), (kLeft, .int l), (kMixed, .int m), (kTurn, .int t)]
structure Src (src cl : Addr) (H : Hp) (ns : List Int) (l m t : Int) : Prop where
  d : H src = some (.dK (srcKv cl l m t))
  c : H cl = some (.lst (ns.map V.int))
theorem k_lc : kLeft ≠ kCells := by decide +kernel
theorem k_mc : kMixed ≠ kCells := by decide +kernel
theorem k_tc : kTurn ≠ kCells := by decide +kernel
theorem k_ml : kMixed ≠ kLeft := by decide +kernel
theorem k_tl : kTurn ≠ kLeft := by decide +kernel
theorem k_tm : kTurn ≠ kMixed := by decide +kernel
section
variable {cl : Addr} {l m t : Int}
theorem src_cells : valV (srcKv cl l m t) kCells = some (.ref cl) := by
  simp [valV, srcKv]
theorem src_left : valV (srcKv cl l m t) kLeft = some (.int l) := by
  simp [valV, srcKv, k_lc.symm]
theorem src_mixed : valV (srcKv cl l m t) kMixed = some (.int m) := by
  simp [valV, srcKv, k_mc.symm, k_ml.symm]
theorem src_turn : valV (srcKv cl l m t) kTurn = some (.int t) := by
  simp [valV, srcKv, k_tc.symm, k_tl.symm, k_tm.symm]
theorem put_left (x : Int) : putK (srcKv cl l m t) kLeft (.int x) = srcKv cl x m t := by
  simp [putK, srcKv, k_lc.symm, k_ml, k_tl]
theorem put_turn (x : Int) : putK (srcKv cl l m t) kTurn (.int x) = srcKv cl l m x := by
  simp [putK, srcKv, k_tc.symm, k_tl.symm, k_tm.symm]
theorem put_mixed (x : Int) : putK (srcKv cl l m t) kMixed (.int x) = srcKv cl l x t := by
  simp [putK, srcKv, k_mc.symm, k_ml.symm, k_tm]
end
def sxOf (src cl : Addr) : Sx := ⟨fun a => a = src ∨ a = cl, fun H => src ≠ cl ∧ ∃ ns l m t, Src src cl H ns l m t, src⟩
theorem sxOk (src cl : Addr) : SxOk (sxOf src cl) := ⟨fun H H' ⟨h0, ns, l, m, t, h⟩ e => ⟨h0, ns, l, m, t, e _ _ (.inl rfl) h.d, e _ _ (.inr rfl) h.c⟩⟩
/-- what pick gives: any number below -/
def anyBelow (n : Int) : M D := fun P => ∀ k : Int, 0 ≤ k → k < n → P (.int k)
def F_pick : List D → M D := fun ds => match ds with
  | [.int n] => if n < 2 then ret (.int 0) else if n < 1073741824 then anyBelow n else stuck
  | _ => stuck
theorem Src.stp {src cl : Addr} {U : AS} {H H' : Hp} {ns ns' : List Int} {l m t l' m' t' : Int} (ne : src ≠ cl) (h : Src src cl H ns l m t) (h' : Src src cl H' ns' l' m' t') (o : ∀ a, a ≠ src → a ≠ cl → H' a = H a) (hl : ns'.length ≤ ns.length) : Stp ⟨sxOf src cl, U, H⟩ H H' where
  keep := fun a x q n => by rw [o a (fun e => n (.inl e)) (fun e => n (.inr e))]; exact q
  there := fun a x q => by
    by_cases e1 : a = src
    · subst e1; exact ⟨_, h'.d⟩
    · by_cases e2 : a = cl
      · subst e2; exact ⟨_, h'.c⟩
      · exact ⟨x, by rw [o a e1 e2]; exact q⟩
  inv := fun _ => ⟨ne, _, _, _, _, h'⟩
  al := fun lo a u => by
    by_cases e1 : a = src
    · subst e1; exact ⟨_, h'.d, fun xs z => by cases z⟩
    · by_cases e2 : a = cl
      · subst e2; exact ⟨_, h'.c, fun xs z => by cases z⟩
      · rw [o a e1 e2]; exact lo a u
  sz := fun z a xs q => by
    by_cases e1 : a = src
    · subst e1; rw [h'.d] at q; rcases q with q | q <;> cases q
    · by_cases e2 : a = cl
      · subst e2
        rw [h'.c] at q
        rcases q with q | q <;> cases q
        have := z a _ (.inl h.c)
        simp only [List.length_map] at this ⊢
        omega
      · rw [o a e1 e2] at q; exact z a xs q
theorem Src.put {src cl : Addr} {H : Hp} {ns : List Int} {l m t l' m' t' : Int} (ne : src ≠ cl) (h : Src src cl H ns l m t) : Src src cl (upd H src (.dK (srcKv cl l' m' t'))) ns l' m' t' :=
  ⟨upd_same, by rw [upd_ne ne.symm]; exact h.c⟩
def cStr (x : Str) : TE := tC (.str x)
def tPick (K : PySem.W.Frag) : TS :=
  tSeq (tIfS (tTest (tOp (rI0 fun i j => .bl (decide (i < j))) (tVar 1) (tC (.int 2)))) (tRet (tC (.int 0))) tNext)
  (tSeq (tAsg (tDGet (tVar 0) (tC (.str "cells"))) (gName 2))
  (tSeq (tWhile (tAnd (tTest (tOp (rI0 fun i j => .bl (decide (i < j))) (tDGet (tVar 0) (tC (.str "left"))) (tC (.int 2)))) (tTest (tOp (rI0 fun i j => .bl (decide (j < i))) (tCB (rLenA K) (tCons (tVar 2) tNil)) (tC (.int 0)))))
    (sDPut (tVar 0) (tC (.str "left")) (tBM0 K "list" rPop (tVar 2))))
  (tSeq (tAsg (tDGet (tVar 0) (tC (.str "left"))) (gName 3))
  (tSeq (tIfS (tTest (tOp (rI0 fun i j => .bl (decide (j < i))) (tVar 3) (tC (.int 1)))) (tSeq (sDPut (tVar 0) (tC (.str "left")) (tOp (rI CDiv fun i j => .int (i / j)) (tVar 3) (tVar 1))) (tRet (tOp (rI (fun _ j => 0 < j) fun i j => .int (i % j)) (tCB rInt1 (tCons (tVar 3) tNil)) (tVar 1)))) tNext)
  (tSeq (sDPut (tVar 0) (tC (.str "turn")) (tOp (rI0 fun i j => .int (i + j)) (tDGet (tVar 0) (tC (.str "turn"))) (tC (.int 1))))
  (tSeq (tAsg (tDGet (tVar 0) (tC (.str "turn"))) (gName 4))
  (tSeq (tAsg (tOp (rI (fun _ j => 0 < j) fun i j => .int (i % j)) (tCB rInt1 (tCons (tOp (rI0 fun i j => .int (i + j)) (tDGet (tVar 0) (tC (.str "mixed"))) (tOp (rI CMul fun i j => .int (i * j)) (tVar 4) (tC (.int 104729)))) tNil)) (tC (.int 998244353))) (gName 5))
  (tSeq (tAsg (tOp (rI (fun _ j => 0 < j) fun i j => .int (i % j)) (tCB rInt1 (tCons (tOp (rI0 fun i j => .int (i + j)) (tOp (rI CMul fun i j => .int (i * j)) (tVar 5) (tVar 5)) (tOp (rI CMul fun i j => .int (i * j)) (tVar 4) (tC (.int 17)))) tNil)) (tC (.int 2147483647))) (gName 5))
  (tRet (tOp (rI (fun _ j => 0 < j) fun i j => .int (i % j)) (tCB rInt1 (tCons (tOp (rI CDiv fun i j => .int (i / j)) (tVar 5) (tC (.int 16))) tNil)) (tVar 1)))))))))))
theorem last_map {α β : Type} (f : α → β) (xs : List α) (h : xs ≠ []) : (xs.map f)[(xs.map f).length - 1]? = some (f (xs.getLast h)) := by
  rw [List.getElem?_map, List.length_map, ← List.getLast?_eq_getElem?, List.getLast?_eq_some_getLast h]; rfl
theorem pick_body {K : PySem.W.Frag} {src cl : Addr} {N : List Str} {vs : List V} {H : Hp} {Q : VK} {E : XK} (hN : N.length = 6) (h : spS (sxOf src cl) 1 F_pick vs H Q E) : tPick K { nx := fun _ H' => Q .non H', rt := Q } (L2.start N vs) H := by
  obtain ⟨hl, ws, rfl, ds, U, P, C⟩ := h
  obtain ⟨ne, ns, l, m, t, hs⟩ := C.inv
  have run := C.run
  unfold F_pick at run
  split at run
  · rename_i n
    have e0 := C.den
    cases e0 with
    | cons d1 d2 =>
      cases d2
      cases d1
      have est : L2.start N [V.ref src, .int n] = [some (.ref src), some (.int n), none, none, none, none] := by
        unfold L2.start
        rw [hN]; rfl
      show tPick K _ (L2.start N [V.ref src, .int n]) H
      rw [est]
      by_cases h2 : n < 2
      · rw [if_pos h2] at run
        refine ⟨_, rfl, n, 2, rfl, rfl, true, congrArg V.bl (decide_eq_true h2), iteT ?_⟩
        exact C.out _ _ H run (Stp.refl _ H) (.int 0)
      · rw [if_neg h2] at run
        by_cases h3 : n < 1073741824
        · rw [if_pos h3] at run
          have fin : ∀ k : Int, ∀ H' ns' l' m' t', 0 ≤ k → k < n → Src src cl H' ns' l' m' t' → (∀ a, a ≠ src → a ≠ cl → H' a = H a) → ns'.length ≤ ns.length → Q (.int k) H' := fun k H' ns' l' m' t' k0 k1 s' o hl' =>
            C.out _ _ H' (run k k0 k1) (hs.stp ne s' o hl') (.int k)
          refine ⟨_, rfl, n, 2, rfl, rfl, false, congrArg V.bl (decide_eq_false h2), iteF ?_⟩
          -- cells
          refine ⟨_, rfl, src, .ref cl, rfl, ?_, ?_⟩
          · have := DGet.k (k := kCells) hs.d
            rw [src_cells] at this; exact this
          -- while
          refine ⟨fun k σ H' => ∃ ns' l', σ = [some (.ref src), some (.int n), some (.ref cl), none, none, none] ∧ k = ns'.length ∧ Src src cl H' ns' l' m t ∧ (∀ a, a ≠ src → a ≠ cl → H' a = H a) ∧ ns'.length ≤ ns.length, ⟨ns.length, ns, l, rfl, rfl, hs, fun _ _ _ => rfl, Nat.le_refl _⟩, ?_⟩
          rintro k σ H' ⟨ns', l', rfl, rfl, s', o', hl'⟩
          have g1 : ∀ {H' ns' l' m' t'}, Src src cl H' ns' l' m' t' → DGet H' src (.str "left") (some (.int l')) := fun s => by
            have := DGet.k (k := kLeft) s.d
            rw [src_left] at this; exact this
          have g2 : ∀ {H' ns' l' m' t'}, Src src cl H' ns' l' m' t' → DGet H' src (.str "turn") (some (.int t')) := fun s => by
            have := DGet.k (k := kTurn) s.d
            rw [src_turn] at this; exact this
          have g3 : ∀ {H' ns' l' m' t'}, Src src cl H' ns' l' m' t' → DGet H' src (.str "mixed") (some (.int m')) := fun s => by
            have := DGet.k (k := kMixed) s.d
            rw [src_mixed] at this; exact this
          have p1 : ∀ {H' ns' l' m' t'} (x : Int), Src src cl H' ns' l' m' t' → DPut H' src (.str "left") (.int x) (upd H' src (.dK (srcKv cl x m' t'))) := fun x s => by
            have := DPut.k (k := kLeft) (v := .int x) s.d (by show 4 < sizeLine; decide)
            rw [put_left] at this; exact this
          have p2 : ∀ {H' ns' l' m' t'} (x : Int), Src src cl H' ns' l' m' t' → DPut H' src (.str "turn") (.int x) (upd H' src (.dK (srcKv cl l' m' x))) := fun x s => by
            have := DPut.k (k := kTurn) (v := .int x) s.d (by show 4 < sizeLine; decide)
            rw [put_turn] at this; exact this
          have oput : ∀ {H' : Hp} {o : HO}, (∀ a, a ≠ src → a ≠ cl → H' a = H a) → ∀ a, a ≠ src → a ≠ cl → (upd H' src o) a = H a := fun o' a a1 a2 => by rw [upd_ne a1]; exact o' a a1 a2
          -- behind the loop
          have after : ∀ ns' l' H', Src src cl H' ns' l' m t → (∀ a, a ≠ src → a ≠ cl → H' a = H a) → ns'.length ≤ ns.length → ∀ D : Ends, D.rt = Q → (tSeq (tAsg (tDGet (tVar 0) (tC (.str "left"))) (gName 3))
            (tSeq (tIfS (tTest (tOp (rI0 fun i j => .bl (decide (j < i))) (tVar 3) (tC (.int 1)))) (tSeq (sDPut (tVar 0) (tC (.str "left")) (tOp (rI CDiv fun i j => .int (i / j)) (tVar 3) (tVar 1))) (tRet (tOp (rI (fun _ j => 0 < j) fun i j => .int (i % j)) (tCB rInt1 (tCons (tVar 3) tNil)) (tVar 1)))) tNext)
            (tSeq (sDPut (tVar 0) (tC (.str "turn")) (tOp (rI0 fun i j => .int (i + j)) (tDGet (tVar 0) (tC (.str "turn"))) (tC (.int 1))))
            (tSeq (tAsg (tDGet (tVar 0) (tC (.str "turn"))) (gName 4))
            (tSeq (tAsg (tOp (rI (fun _ j => 0 < j) fun i j => .int (i % j)) (tCB rInt1 (tCons (tOp (rI0 fun i j => .int (i + j)) (tDGet (tVar 0) (tC (.str "mixed"))) (tOp (rI CMul fun i j => .int (i * j)) (tVar 4) (tC (.int 104729)))) tNil)) (tC (.int 998244353))) (gName 5))
            (tSeq (tAsg (tOp (rI (fun _ j => 0 < j) fun i j => .int (i % j)) (tCB rInt1 (tCons (tOp (rI0 fun i j => .int (i + j)) (tOp (rI CMul fun i j => .int (i * j)) (tVar 5) (tVar 5)) (tOp (rI CMul fun i j => .int (i * j)) (tVar 4) (tC (.int 17)))) tNil)) (tC (.int 2147483647))) (gName 5))
            (tRet (tOp (rI (fun _ j => 0 < j) fun i j => .int (i % j)) (tCB rInt1 (tCons (tOp (rI CDiv fun i j => .int (i / j)) (tVar 5) (tC (.int 16))) tNil)) (tVar 1)))))))))
              D [some (.ref src), some (.int n), some (.ref cl), none, none, none] H' := by
            intro ns' l' H' s' o' hl' D hD
            refine ⟨_, rfl, src, .int l', rfl, g1 s', ?_⟩
            by_cases h5 : 1 < l'
            · refine ⟨_, rfl, l', 1, rfl, rfl, true, congrArg V.bl (decide_eq_true h5), iteT ?_⟩
              refine ⟨_, rfl, _, rfl, l', n, rfl, rfl, ⟨by omega, h3⟩, _, rfl, src, _, rfl, p1 (l' / n) s', ?_⟩
              refine ⟨_, rfl, .inl ⟨l', rfl, _, rfl, l', n, rfl, rfl, by omega, ?_⟩⟩
              show D.rt (.int (l' % n)) _
              rw [hD]
              exact fin (l' % n) _ ns' _ m t (Int.emod_nonneg _ (by omega)) (Int.emod_lt_of_pos _ (by omega)) (s'.put ne) (oput o') hl'
            · refine ⟨_, rfl, l', 1, rfl, rfl, false, congrArg V.bl (decide_eq_false h5), iteF ?_⟩
              refine ⟨_, rfl, src, .int t, rfl, g2 s', t, 1, rfl, rfl, _, rfl, src, _, rfl, p2 (t + 1) s', ?_⟩
              have s2 : Src src cl (upd H' src (.dK (srcKv cl l' m (t + 1)))) ns' l' m (t + 1) := s'.put ne
              refine ⟨_, rfl, src, .int (t + 1), rfl, g2 s2, ?_⟩
              have b1 : 0 ≤ (m + (t + 1) * 104729) % 998244353 ∧ (m + (t + 1) * 104729) % 998244353 < 998244353 := by omega
              have c1 : CMul ((m + (t + 1) * 104729) % 998244353) ((m + (t + 1) * 104729) % 998244353) := .inl (by omega)
              have c2 : CMul (t + 1) 104729 := .inr (by decide)
              have c3 : CMul (t + 1) 17 := .inr (by decide)
              have c4 : ∀ i : Int, CDiv i 16 := fun i => by unfold CDiv; decide
              refine ⟨_, rfl, src, .int m, rfl, g3 s2, _, rfl, t + 1, 104729, rfl, rfl, c2, m, _, rfl, rfl, .inl ⟨_, rfl, _, 998244353, rfl, rfl, (show (0 : Int) < 998244353 by decide), ?_⟩⟩
              refine ⟨_, rfl, _, rfl, _, _, rfl, rfl, c1, _, rfl, t + 1, 17, rfl, rfl, c3, _, _, rfl, rfl, .inl ⟨_, rfl, _, 2147483647, rfl, rfl, (show (0 : Int) < 2147483647 by decide), ?_⟩⟩
              refine ⟨_, rfl, _, 16, rfl, rfl, c4 _, .inl ⟨_, rfl, _, rfl, _, n, rfl, rfl, (show (0 : Int) < n by omega), ?_⟩⟩
              show D.rt (.int (_ % n)) _
              rw [hD]
              exact fin _ _ ns' l' m (t + 1) (Int.emod_nonneg _ (by omega)) (Int.emod_lt_of_pos _ (by omega)) s2 (oput o') hl'
          refine ⟨_, rfl, src, .int l', rfl, g1 s', l', 2, rfl, rfl, ?_⟩
          by_cases h6 : l' < 2
          · refine ⟨true, congrArg V.bl (decide_eq_true h6), iteT ?_⟩
            refine ⟨_, rfl, cl, ns'.map V.int, rfl, .inl (SqL.of s'.c), _, 0, rfl, rfl, ?_⟩
            by_cases h7 : ns' = []
            · subst h7
              refine ⟨false, rfl, iteF ?_⟩
              exact after [] l' H' s' o' hl' _ rfl
            · have hp : 0 < ns'.length := List.length_pos_iff.mpr h7
              refine ⟨true, congrArg V.bl (decide_eq_true (show (0 : Int) < ((ns'.map V.int).length : Int) by rw [List.length_map]; omega)), iteT ?_⟩
              refine ⟨fun σ2 H2 => ∃ ns2 l2, σ2 = [some (.ref src), some (.int n), some (.ref cl), none, none, none] ∧ ns2.length < ns'.length ∧ Src src cl H2 ns2 l2 m t ∧ (∀ a, a ≠ src → a ≠ cl → H2 a = H a) ∧ ns2.length ≤ ns.length,
                fun σ2 H2 ⟨ns2, l2, a, b, c, d, e⟩ => ⟨ns2.length, b, ns2, l2, a, rfl, c, d, e⟩, ?_⟩
              refine ⟨_, rfl, .inl ⟨rfl, _, SqL.of s'.c⟩, cl, ns'.map V.int, _, rfl, rfl, s'.c, last_map V.int ns' h7, ?_⟩
              have s2 : Src src cl (upd H' cl (.lst (ns'.map V.int).dropLast)) ns'.dropLast l' m t := ⟨by rw [upd_ne ne]; exact s'.d, by rw [upd_same, List.map_dropLast]⟩
              refine ⟨_, rfl, src, _, rfl, p1 _ s2, ns'.dropLast, _, rfl, by rw [List.length_dropLast]; omega, s2.put ne, fun a a1 a2 => ?_, by rw [List.length_dropLast]; omega⟩
              rw [upd_ne a1, upd_ne a2]
              exact o' a a1 a2
          · refine ⟨false, congrArg V.bl (decide_eq_false h6), iteF ?_⟩
            refine iteF ?_
            exact after ns' l' H' s' o' hl' _ rfl
        · rw [if_neg h3] at run
          exact False.elim run
  · exact False.elim run

/-! ### how it is opened -/
/-- all that stood stands; a new source -/
def spOpen (K : PySem.W.Frag) : Sp := fun vs H Q _ => ∃ (a : Addr) (ns : List Int), vs = [.ref a] ∧ SqL K H a (ns.map V.int) ∧ ns.length ≤ 100000 ∧ Sz H ∧ ∀ H' src cl, (∀ b o, H b = some o → H' b = some o) → src ≠ cl → (∃ ns l m t, Src src cl H' ns l m t) → Sz H' → Q (.ref src) H'
def tOpen (K : PySem.W.Frag) : TS :=
  tSeq (tAsg (tC (.int 11)) (gName 1))
  (tSeq (tFor (iList K (tVar 0)) (gName 2) (tAsg (tOp (rI (fun _ j => 0 < j) fun i j => .int (i % j)) (tCB rInt1 (tCons (tOp (rI0 fun i j => .int (i + j)) (tOp (rI0 fun i j => .int (i + j)) (tOp (rI CMul fun i j => .int (i * j)) (tVar 1) (tC (.int 69069))) (tOp (rI CMul fun i j => .int (i * j)) (tVar 2) (tC (.int 31)))) (tC (.int 5))) tNil)) (tC (.int 2147483629))) (gName 1)))
  (tSeq (tAsg (tLc (iList K (tVar 0)) (gName 2) tYes (tCB rAbs (tCons (tVar 2) tNil)) [2]) (gName 3))
  (tRet (tDisp [(tC (.str "cells"), tRevL K (tVar 3)), (tC (.str "left"), tC (.int 1)), (tC (.str "mixed"), tVar 1), (tC (.str "turn"), tC (.int 0))]))))
theorem seq_up {K : PySem.W.Frag} {H H' : Hp} {a : Addr} {xs : List V} (e : ∀ b o, H b = some o → H' b = some o) (h : SqL K H a xs) : SqL K H' a xs := Evl.ex_l e h
def absI (i : Int) : Int := if i < 0 then -i else i
theorem merge_src {cl : Addr} {l m t : Int} : mergeK [] (srcKv cl l m t) = srcKv cl l m t := by
  simp [mergeK, putK, srcKv, k_lc.symm, k_mc.symm, k_tc.symm, k_ml.symm, k_tl.symm, k_tm.symm]
theorem open_body {K : PySem.W.Frag} {N : List Str} {vs : List V} {H : Hp} {Q : VK} {E : XK} (hN : N.length = 4) (h : spOpen K vs H Q E) : tOpen K { nx := fun _ H' => Q .non H', rt := Q } (L2.start N vs) H := by
  obtain ⟨a, ns, rfl, hS, hlen, hz, q⟩ := h
  have est : L2.start N [V.ref a] = [some (.ref a), none, none, none] := by
    unfold L2.start
    rw [hN]; rfl
  show tOpen K _ (L2.start N [V.ref a]) H
  rw [est]
  have lz : (ns.map V.int).length < sizeLine := by rw [List.length_map]; exact Nat.lt_of_le_of_lt hlen (by decide)
  refine ⟨_, rfl, a, rfl, ⟨_, hS⟩, for_list (K := K) (a := a) (xs := ns.map V.int) (fun i σ H' => ∃ x2 st, σ = [some (.ref a), some (.int st), x2, none] ∧ H' = H) ⟨none, 11, rfl, rfl⟩ (fun i σ H' _ ⟨_, _, _, e⟩ => by rw [e]; exact hS) (fun i x σ H' hx ⟨x2, st, e1, e2⟩ => ?_) (fun σ H' ⟨x2, st, e1, e2⟩ => ?_)⟩
  · subst e1 e2
    rw [List.getElem?_map, Option.map_eq_some_iff] at hx
    obtain ⟨n, hn, rfl⟩ := hx
    exact ⟨_, rfl, st, 69069, rfl, rfl, .inr (by decide), _, rfl, n, 31, rfl, rfl, .inr (by decide), _, _, rfl, rfl, _, _, rfl, rfl, .inl ⟨_, rfl, _, 2147483629, rfl, rfl, (show (0 : Int) < 2147483629 by decide), some (.int n), _, rfl, rfl⟩⟩
  · subst e1 e2
    refine ⟨_, rfl, a, rfl, ⟨_, hS⟩, fun Dd hD => ?_⟩
    have up1 : ∀ zs b o, H' b = some o → (upd H' Dd (.lst zs)) b = some o := fun zs b o e => by rw [upd_ne (ne_of_none e hD)]; exact e
    refine lc_list (K := K) (a := a) (xs := ns.map V.int) (fun i H2 => H2 = upd H' Dd (.lst (((ns.take i).map absI).map V.int))) rfl (fun i H2 _ e => by rw [e]; exact seq_up (up1 _) hS) (fun i x H2 hx e => ?_) (fun H2 e => ?_)
    · subst e
      rw [List.getElem?_map, Option.map_eq_some_iff] at hx
      obtain ⟨n, hn, rfl⟩ := hx
      refine ⟨rfl, ?_⟩
      refine iteT (B := False) ?_
      refine ⟨_, rfl, n, rfl, _, upd_same, ?_, ?_⟩
      · rw [List.length_map, List.length_map, List.length_take]
        exact Nat.lt_of_le_of_lt (Nat.min_le_right _ _) (by rw [List.length_map] at lz; exact lz)
      · rw [upd_upd]
        congr 2
        rw [List.take_add_one, hn]
        simp [absI]
    · subst e
      rw [List.length_map, List.take_length]
      intro p hp
      have hDp : Dd ≠ p := fun e => by rw [e, upd_same] at hp; cases hp
      refine ⟨_, rfl, Dd, _, rfl, SqL.of (by rw [upd_ne hDp, upd_same]), fun c hc => ?_⟩
      have hcp : c ≠ p := fun e => by rw [e, upd_same] at hc; cases hc
      refine ⟨_, rfl, by rw [upd_ne hcp.symm, upd_same], srcKv c 1 st 0, rfl, by show 4 ≤ 15; decide, ?_⟩
      rw [merge_src]
      have hHp : H' p = none := by rw [upd_ne hDp.symm] at hp; exact hp
      have hHc : H' c = none := by
        rw [upd_ne hcp] at hc
        by_cases e : c = Dd
        · rw [e, upd_same] at hc; cases hc
        · rw [upd_ne e] at hc; exact hc
      have e1 : ∀ ys : List Int, ((ys.map V.int).reverse) = (ys.reverse).map V.int := fun ys => by rw [List.map_reverse]
      refine q _ p c (fun b o e => ?_) hcp.symm ⟨_, 1, st, 0, upd_same, by rw [upd_ne hcp, upd_same, e1]⟩ ?_
      · rw [upd_ne (ne_of_none e hHp), upd_ne (ne_of_none e hHc), upd_ne (ne_of_none e hHp), upd_ne (ne_of_none e hD)]; exact e
      · have lz2 : ∀ ys : List V, ys.length = ns.length → ys.length ≤ sizeLine := fun ys e => by rw [e]; exact Nat.le_trans hlen (by decide)
        refine Sz.upd (Sz.upd (Sz.upd (Sz.upd hz ?_) ?_) ?_) ?_
        · intro xs e; rcases e with e | e <;> cases e; exact lz2 _ (by simp)
        · intro xs e; rcases e with e | e <;> cases e
        · intro xs e; rcases e with e | e <;> cases e; exact lz2 _ (by simp)
        · intro xs e; rcases e with e | e <;> cases e
end Py
end
section
set_option maxHeartbeats 1000000
/-! PyQ: calls with the source, the law's own body, the head. -/
namespace Py
open PySem PySem.Spec PyProof.Rows L2 StX
/-- the first argument is some source -/
def spX (n : Nat) (F : List D → M D) : Sp := fun vs H Q E => ∃ src cl, spS (sxOf src cl) n F vs H Q E
theorem spX_len {n : Nat} {F : List D → M D} {vs : List V} {H : Hp} {Q : VK} {E : XK} (h : spX n F vs H Q E) : vs.length = n + 1 := by
  obtain ⟨_, _, h⟩ := h
  exact h.1
section
variable {src cl : Addr} {Γ : List Md}
theorem sem_callX {i n : Nat} {F : List D → M D} {t : TA} {f : Py.Env → M (List D)} (hi : Γ[i]? = some .src) (h : SemA (sxOf src cl) Γ t f) : SemE (sxOf src cl) Γ (tCallG (spX n F) (tCons (tVar i) t)) (eCallS i n F f) := by
  intro c ρ ps σ H Q P hc r q k
  obtain ⟨d0, hd, q⟩ := eVar_get q
  obtain ⟨o, qs, ho, hs, _⟩ := r.sl.get hi hd
  cases hs with
  | src =>
    refine ⟨_, ho, ?_⟩
    refine h c ρ ps σ H _ _ hc r q fun ds vs H1 q1 e1 dn => ?_
    have r1 := r.stp e1
    dsimp only at q1
    split at q1
    · rename_i hl
      have hs : c.src = src := by show c.s.src = src; rw [hc]; rfl
      have hA : ∀ a, (sxOf src cl).A a → c.U ps a := fun a z => .inl (r.ok.sub a (by show c.s.A a; rw [hc]; exact z))
      refine ⟨src, cl, congrArg (· + 1) (dn.length.trans hl), vs, by rw [hs]; rfl, ds, c.U ps, P, dn, hA, r1.loose, r1.sz, by have := r1.inv; unfold Fx.J at this; rw [hc] at this; exact this, q1, fun d v H2 p e2 d2 => ?_⟩
      refine k d v H2 p (e1.trans ⟨fun a o q n => e2.keep a o q fun z => n (by show c.s.A a; rw [hc]; exact z), e2.there, fun z => by show c.s.J H2; rw [hc]; exact e2.inv (by have z' : c.s.J H1 := z; rw [hc] at z'; exact z'), fun _ a u => e2.al r1.loose a (.inl u), e2.sz⟩) d2
    · exact False.elim q1
end
/-- the body of a def with the source in its first place -/
theorem body_x {n m : Nat} {N : List Str} {Γr Γ' Γl : List Md} {t : TS} {f : Py.Env → M Out} {vs : List V} {H : Hp} {Q : VK} {E : XK} (h : ∀ src cl, SemS (sxOf src cl) Γl (.src :: (List.replicate n .fro ++ Γr)) Γ' t f) (hN : N.length = n + 1 + m) (hm : Γr.length = m)
    (hs : spX n (fnS m f) vs H Q E) : t { nx := fun _ H' => Q .non H', rt := Q } (L2.start N vs) H := by
  obtain ⟨src, cl, hs⟩ := hs
  exact body_s (sxOk src cl) (h src cl) hN hm hs
theorem pick_x {K : PySem.W.Frag} {N : List Str} {vs : List V} {H : Hp} {Q : VK} {E : XK} (hN : N.length = 6) (h : spX 1 F_pick vs H Q E) : tPick K { nx := fun _ H' => Q .non H', rt := Q } (L2.start N vs) H := by
  obtain ⟨src, cl, h⟩ := h
  exact pick_body hN h

/-! ### the law's own body -/
def spLaw (K : PySem.W.Frag) : Sp := fun vs H Q _ => ∃ (a : Addr) (ns : List Int), vs = [.ref a] ∧ SqL K H a (ns.map V.int) ∧ ns.length ≤ 63 ∧ Sz H ∧ ∀ H', Q (.bl true) H'
/-- behind source = open(script) -/
theorem law_rest {K : PySem.W.Frag} {N : List Str} {to : TA} {Γr Γ' : List Md} {t : TS} {f : Py.Env → M Out} {vs : List V} {H : Hp} {Q : VK} {E : XK} (h : ∀ src cl, SemS (sxOf src cl) [] (.fro :: .src :: Γr) Γ' t f) (hN : N.length = Γr.length + 2)
    (hf : f (none :: some .none :: List.replicate Γr.length none) fun o => o = .rt (.bool true)) (hs : spLaw K vs H Q E) :
    tSeq (tAsg (tCallG (spOpen K) (tCons (tVar 0) tNil)) (gName 1)) t { nx := fun _ H' => Q .non H', rt := Q } (L2.start N vs) H := by
  obtain ⟨a, ns, rfl, hS, hl, hz, q⟩ := hs
  have est : L2.start N [V.ref a] = some (.ref a) :: none :: List.replicate Γr.length none := by
    unfold L2.start
    rw [hN]; rfl
  rw [est]
  refine ⟨_, rfl, a, ns, rfl, hS, by omega, hz, fun H' src cl up ne inv hz' => ?_⟩
  obtain ⟨xs, l, m, tt, hsrc⟩ := inv
  have ok : Fx.Ok ⟨sxOf src cl, fun z => z = src ∨ z = cl, H'⟩ := ⟨fun z q => q, (sxOk src cl).st⟩
  have slots : ∀ Γ : List Md, Slots ⟨sxOf src cl, fun z => z = src ∨ z = cl, H'⟩ H' (Fx.U ⟨sxOf src cl, fun z => z = src ∨ z = cl, H'⟩ []) Γ (List.replicate Γ.length none) (List.replicate Γ.length none) [] := by
    intro Γ
    induction Γ with
    | nil => exact .nil
    | cons m Γ ih => exact Slots.cons (SlotR.no (m := m) (o := none)) ih
  have r0 : R ⟨sxOf src cl, fun z => z = src ∨ z = cl, H'⟩ (.fro :: .src :: Γr) (none :: some .none :: List.replicate Γr.length none) [] (some (.ref a) :: some (.ref src) :: List.replicate Γr.length none) H' := by
    refine ⟨ok, fun z o q _ => q, fun z o q => ⟨o, q⟩, ⟨ne, xs, l, m, tt, hsrc⟩, fun z u => ?_, hz', ?_, List.nodup_nil, fun p hp => absurd hp (by simp)⟩
    · rcases u with rfl | rfl
      · exact ⟨_, hsrc.d, fun xs z => by cases z⟩
      · exact ⟨_, hsrc.c, fun xs z => by cases z⟩
    · exact Slots.cons (SlotR.no (m := .fro) (o := some (.ref a))) (Slots.cons (SlotR.src (c := ⟨sxOf src cl, fun z => z = src ∨ z = cl, H'⟩) (d := .none)) (slots Γr))
  show t _ (some (.ref a) :: some (.ref src) :: List.replicate Γr.length none) H'
  refine h src cl _ _ [] _ H' _ _ rfl r0 hf ⟨(fun ρ ps σ H2 p r => nomatch p), (fun d v H2 p fi dn => ?_), (fun ρ ps σ H2 p r => nomatch p), (fun ρ ps σ H2 p r => nomatch p)⟩
  cases p
  cases dn
  exact q H2

/-! ### the head: as L2.law_call, for a def that may ask for texts of values (no repr is under way) -/
theorem sz_only {H : Hp} (h : Only H) : Sz H := fun a xs q => by
  rcases h a with z | ⟨o, ys, z⟩
  · rw [z] at q; rcases q with q | q <;> cases q
  · rw [z] at q; rcases q with q | q <;> cases q
theorem heap_of {P : Program} {w : World} {K : PySem.W.Frag} {sh : Shared} {a : Addr} {us : List Value} {ns : List Int} (kin : K.In sh.heap) (ob : sh.heap.get? a = some { cls := .type "list", data := .seq us.toArray }) (hi : IntsAre us ns) (hl : ns.length ≤ sizeLine) :
    ∃ H : Hp, Only H ∧ SqL K H a (ns.map V.int) ∧ HOk P w H sh.heap ∧ (∀ b, H b ≠ none → b = a) ∧ (H a ≠ none → K.lookup a = none) := by
  have rel : Vals (ns.map V.int) us := vals_ints hi
  have ln := hi.length
  cases hk : K.lookup a with
  | some o =>
    have eo := kin a o hk
    rw [ob] at eo
    cases eo
    refine ⟨fun _ => none, fun _ => .inl rfl, .inr ⟨_, us.toArray, _, hk, rfl, rfl, rfl, ?_, ?_⟩, fun b u z => ?_, fun b z => absurd rfl z, fun z => absurd rfl z⟩
    · rw [List.size_toArray, ln]; exact hl
    · simpa using rel
    · have z' : (none : Option HO) = some u := z
      cases z'
  | none =>
    let ho : HO := .frz { cls := .type "list", data := .seq us.toArray } (.lst (ns.map V.int))
    let H : Hp := fun b => if b = a then some ho else none
    have at_a : H a = some ho := if_pos rfl
    have off : ∀ {b}, b ≠ a → H b = none := fun e => if_neg e
    refine ⟨H, fun b => ?_, .inl (.inr ⟨_, at_a⟩), fun b u z => ?_, fun b z => ?_, fun _ => rfl⟩
    · by_cases e : b = a
      · subst e; exact .inr ⟨_, _, at_a⟩
      · exact .inl (off e)
    · by_cases e : b = a
      · subst e
        rw [at_a] at z
        cases z
        exact ⟨ob, by rw [List.length_map]; exact hl, us, _, rel, ob⟩
      · rw [off e] at z; cases z
    · by_cases e : b = a
      · exact e
      · exact absurd (off e) z
theorem callG {P : Program} {w : World} {K : PySem.W.Frag} {mg mb : Str → Option Value} {k : Nat} {fa a : Addr} {fd : FuncData} {x : Str} {sp : Sp} {sh : Shared} {us : List Value} {ns : List Int}
    (kin : K.In sh.heap) (gl : sh.heap.Ns mainGlobals mg) (bl : sh.heap.Ns builtinsNs mb) (bo : ∀ y : Str, y ≠ "__name__" → mb y = bootBuiltins y) (lim : sh.heap.NoLimit) (gn : sh.gens = #[])
    (ob : sh.heap.get? a = some { cls := .type "list", data := .seq us.toArray }) (hi : IntsAre us ns) (hl : ns.length ≤ sizeLine) (hr : Room k callerA)
    (F : ∀ base : Heap, K.In base → base.Ns mainGlobals mg → FnG P w K mg base k fa fd [x] sp) (bind : ∀ (z : Shared) (u : Value), BindsTo z fd ⟨[u], []⟩ [(x, u)])
    (hsp : ∀ H : Hp, Only H → SqL K H a (ns.map V.int) → sp [.ref a] H (fun v _ => v = .bl true) fun _ _ _ => False) :
    codeAny (model P w) callerA (.call (.ref fa) ⟨[.ref a], []⟩) (fun r z => r = .ok (.ret (.bool true)) ∧ OldK sh.heap z.heap ∧ z.os = sh.os ∧ AllBare z.gens) sh := by
  obtain ⟨H, only, seq, hok, hA, hK⟩ := heap_of (P := P) (w := w) kin ob hi hl
  have hid : ∀ {b : Addr} {o : Obj}, sh.heap.get? b = some o → H b = none → (hidT sh.heap H).get? b = some o := fun e n => hidT_get e n
  have notA : ∀ {b : Addr} {o : Obj}, sh.heap.get? b = some o → (∀ es ep, o.data = .dict es ep → H b = none) := fun {b o} e es ep d => by
    cases q : H b with
    | none => rfl
    | some u =>
      have eb : b = a := hA b (by rw [q]; simp)
      rw [eb, ob] at e
      cases e
      have d' : Data.seq us.toArray _ = Data.dict es ep := d
      cases d'
  have ns' : ∀ {b : Addr} {g : Str → Option Value}, sh.heap.Ns b g → (hidT sh.heap H).Ns b g := fun {b g} ⟨o, es, ep, e, d, r⟩ => ⟨o, es, ep, hid e (notA e es ep d), d, r⟩
  have kin' : K.In (hidT sh.heap H) := fun b o e => hid (kin b o e) (by
    cases q : H b with
    | none => rfl
    | some u =>
      have eb : b = a := hA b (by rw [q]; simp)
      rw [eb] at e q
      rw [hK (by rw [q]; simp)] at e
      cases e)
  have md : Mod K mg (hidT sh.heap H) := ⟨kin', ns' gl, ⟨mb, ns' bl, bo⟩, let ⟨mc, h1, h2⟩ := lim; ⟨mc, ns' h1, h2⟩⟩
  have en : Env0 P w K mg (hidT sh.heap H) callerA [] sh H := ⟨rfl, md, fun b o e => of_hidT e, Nat.le_of_eq (hidT_size _ _), trivial, fun b hb => absurd (show b ∈ ([] : List Addr) from hb) (by simp), hok, .of_eq gn⟩
  refine codeAny_mono ((F _ kin' (ns' gl)).run callerA [] sh H ⟨[.ref a], []⟩ [.ref a] [.ref a] _ _ rfl hr en (bind sh (.ref a)) (.cons rfl .nil) (hsp H only seq)) fun r z h => ?_
  cases r with
  | error e => exact (show False from h).elim
  | ok fl =>
    cases fl with
    | ret u =>
      obtain ⟨v, H', os, bare, un, hok', r', q⟩ := h
      have q' : v = .bl true := q
      subst q'
      obtain rfl : u = Value.bool true := r'
      refine ⟨rfl, OldK.of_keep fun b o e => ?_, os, bare⟩
      cases q : H b with
      | none => exact un.keep b o e q (by intro z; exact absurd (show b ∈ ([] : List Addr) from z) (by simp)) (by simp)
      | some y =>
        rcases only b with z | ⟨ob2, xs, z⟩
        · rw [q] at z; cases z
        · have z2 := un.frzs b ob2 _ z
          obtain ⟨e1, _⟩ := hok b _ z
          obtain ⟨e2, _⟩ := hok' b _ z2
          rw [e] at e1
          cases e1
          exact e2
    | _ => exact (show False from h).elim
theorem walkG {l : PySem.W.OpenLaw} {n k : Nat} {q : Program} {loose : List Str} {XP : (Str → Option Value) → Heap → Prop} {YP : World → Heap → Prop} {d : DefRec} {K : Params → PySem.W.Frag} {x : Str}
    (hn : l.most = some n) (hn2 : n ≤ 63) (hdf : d.params.defaults = []) (hr : Room k callerA) (hY : ∀ (w : World) (h : Heap), YP w h → (K w.params).In h)
    (F : ∀ (w : World) (mg : Str → Option Value) (fa : Addr) (h : Heap), (K w.params).In h → h.Ns mainGlobals mg → mg d.name = some (.ref fa) →
      ∃ fd : FuncData, (∀ (z : Shared) (u : Value), BindsTo z fd ⟨[u], []⟩ [(x, u)]) ∧ ∀ base : Heap, (K w.params).In base → base.Ns mainGlobals mg → FnG l.prog w (K w.params) mg base k fa fd [x] (spLaw (K w.params))) :
    PySem.W.WalkO q loose XP YP l.row.toRowW d [] (fun f vs => PySem.call f vs) := by
  refine Att.attach_call hn hdf fun w z0 z1 mg mb fa o pm cd doc a us ns G Y ho hd hcd hmg hobj hints hlen hg => ?_
  have kin := hY w _ Y
  obtain ⟨fd, bd, hF⟩ := F w mg fa _ kin G.T.g hmg
  exact callG kin G.T.g G.T.b G.T.builtins G.T.nolimit hg hobj hints (Nat.le_trans (Nat.le_trans hlen hn2) (by decide)) hr hF bd fun H on seq => ⟨a, ns, rfl, seq, Nat.le_trans hlen hn2, sz_only on, fun _ => rfl⟩
end Py
end
section
set_option maxHeartbeats 1000000
/-! PyV: a list of lists of one's own; a list times an int. -/
namespace Py
open PySem L2 StX
section
variable {s : Sx} {Γ Γ' Γl : List Md} {K : PySem.W.Frag}
/-! ### [x] * n -/
def repL (a b : Env → M D) : Env → M (List D) := fun ρ => bnd (a ρ) fun x => bnd (b ρ) fun y => match x, y with
  | .list ds, .int n => if decide (0 ≤ n ∧ n ≤ 1000 ∧ ds.length ≤ 100) = true then ret (repD n.toNat ds) else stuck
  | _, _ => stuck
theorem sem_repL {ta tb : TE} {a b : Env → M D} (ha : SemV s Γ ta a) (hb : SemV s Γ tb b) : SemL s Γ (tOp (rMulX K) ta tb) (repL a b) := by
  intro c ρ ps σ H Q P hc r0 q k
  refine ha c ρ ps σ H _ _ hc r0 q fun x u H1 q1 e1 d1 => ?_
  refine hb c ρ ps σ H1 _ _ hc (r0.stp e1) q1 fun y v H2 q2 e2 d2 => ?_
  have r2 := (r0.stp e1).stp e2
  have d1 := d1.stp r0.ok r2.gd.nA e2
  dsimp only at q2
  split at q2
  · split at q2
    · rename_i ds n _ hl
      have hb := of_decide_eq_true hl
      obtain ⟨p1, vs, rfl, h1, dn1⟩ := d1.lst
      have hv : vs.length ≤ 100 := by rw [dn1.length]; exact hb.2.2
      have h3 : vs.length * n.toNat ≤ 100 * 1000 := Nat.mul_le_mul hv (by omega)
      have hz : vs.length * n.toNat ≤ sizeLine := Nat.le_trans h3 (by decide)
      refine .inl (.inr ⟨p1, n, vs, rfl, d2.int, h1, by omega, by omega, hz, fun p hp => ?_⟩)
      have hz2 : (List.replicate n.toNat vs).flatten.length ≤ sizeLine := by rw [List.length_flatten, List.map_replicate, List.sum_replicate_nat, Nat.mul_comm]; exact hz
      have e := Stp.lst r0.ok (xs := (List.replicate n.toNat vs).flatten) hp hz2
      exact k _ p _ _ q2 ((e1.trans e2).trans e) ((e1.trans e2).fresh hp) upd_same ((dn1.rep _).plus hp)
    · cases q2
  · cases q2

/-! ### rows of one's own -/
theorem Rows.len {H : Hp} {U : AS} : ∀ {qs : List Addr} {dss : List (List D)}, Rows H U qs dss → qs.length = dss.length
  | _, _, .nil => rfl
  | _, _, .cons _ _ t => congrArg (· + 1) t.len
theorem Rows.get {H : Hp} {U : AS} : ∀ {qs : List Addr} {dss : List (List D)} {j : Nat} {ds : List D}, Rows H U qs dss → dss[j]? = some ds → ∃ q vs, qs[j]? = some q ∧ H q = some (.lst vs) ∧ DenL H U vs ds
  | _, _, _, _, .nil, e => by simp at e
  | _, _, 0, _, .cons h1 h2 _, e => by simp at e; subst e; exact ⟨_, _, rfl, h1, h2⟩
  | _, _, j + 1, _, .cons _ _ t, e => by
    obtain ⟨q, vs, a, b, c⟩ := t.get (j := j) (by simpa using e)
    exact ⟨q, vs, by simpa using a, b, c⟩
theorem Rows.set {H : Hp} {U : AS} {q : Addr} {vs : List V} {ds : List D} (h1 : H q = some (.lst vs)) (h2 : DenL H U vs ds) : ∀ {qs : List Addr} {dss : List (List D)} (j : Nat), Rows H U qs dss → Rows H U (qs.set j q) (dss.set j ds)
  | _, _, _, .nil => .nil
  | _, _, 0, .cons _ _ t => .cons h1 h2 t
  | _, _, j + 1, .cons a b t => .cons a b (Rows.set h1 h2 j t)
theorem Slots.updP {c : Fx} {H H' : Hp} {U : AS} {Γ : List Md} {ρ : Env} {σ : St} {ps : List Addr} (h : Slots c H U Γ ρ σ ps) {q : Addr} (hU : U q) (same : ∀ a o, a ≠ q → H a = some o → H' a = some o) {m : Md} {d d' : Option D} {o : Option V} {qs0 qs' : List Addr} (hq : q ∈ qs0) (new : SlotR c H' U m d' o qs') (pm : qs'.Perm qs0) :
    ∀ {i : Nat}, ps.Nodup → (∀ qs, SlotR c H U m d o qs → qs = qs0) → Γ[i]? = some m → ρ[i]? = some d → σ[i]? = some o → ∃ ps', Slots c H' U Γ (ρ.set i d') σ ps' ∧ ps'.Perm ps := by
  have e : ∀ a u, H a = some u → ¬ U a → H' a = some u := fun a u q1 n => same a u (fun z => n (by rw [z]; exact hU)) q1
  induction h with
  | nil => intro i _ _ hm; simp at hm
  | @cons m1 d1 o1 p1 q1 Γ1 ρ1 σ1 h1 h2 ih =>
    intro i nd un hm hd ho
    have nd' := List.nodup_append.mp nd
    cases i with
    | zero =>
      simp at hm hd ho
      subst hm hd ho
      have ep := un _ h1
      subst ep
      refine ⟨qs' ++ q1, .cons new (h2.mono (fun a ha u w => same a u (fun z => ?_) w) e fun _ _ _ w => w), pm.append_right _⟩
      rw [z] at ha
      exact nd'.2.2 q hq q ha rfl
    | succ i =>
      have hm' : Γ1[i]? = some m := by simpa using hm
      have hd' : ρ1[i]? = some d := by simpa using hd
      have ho' : σ1[i]? = some o := by simpa using ho
      obtain ⟨ps', s', p'⟩ := ih (i := i) nd'.2.1 un hm' hd' ho'
      obtain ⟨o2, qs2, e1, e2, e3⟩ := h2.get hm' hd'
      rw [ho'] at e1; cases e1
      have eq2 := un _ e2
      subst eq2
      refine ⟨p1 ++ ps', .cons (h1.mono (fun a ha u w => same a u (fun z => ?_) w) e fun _ _ _ w => w) s', p'.append_left _⟩
      rw [z] at ha
      exact nd'.2.2 q ha q (e3 q hq) rfl
/-- own places in another order -/
theorem R.perm {c : Fx} {ρ : Env} {ps ps' : List Addr} {σ : St} {H : Hp} (r : R c Γ ρ ps σ H) {ρ' : Env} {H' : Hp} (keep : ∀ a o, a ∉ ps → H a = some o → H' a = some o) (there : ∀ a, a ∈ ps → ∃ xs, H' a = some (.lst xs)) (sz : Sz H') (sl : Slots c H' (c.U ps) Γ ρ' σ ps') (pm : ps'.Perm ps) : R c Γ ρ' ps' σ H' where
  ok := r.ok
  keep := fun a o q n => keep a o (fun z => by rw [(r.own a z).1] at q; cases q) (r.keep a o q n)
  there := fun a o q => let ⟨o', q'⟩ := r.there a o q; ⟨o', keep a o' (fun z => by rw [(r.own a z).1] at q; cases q) q'⟩
  inv := r.ok.st H _ r.inv fun a o u q => keep a o (fun z => r.ownA z u) q
  al := fun a u => let ⟨o, h1, h2⟩ := r.al a u; ⟨o, keep a o (fun z => (r.own a z).2 u) h1, h2⟩
  sz := sz
  sl := sl.mono (fun _ _ _ q => q) (fun _ _ q _ => q) fun a o q u => u.imp id fun z => pm.mem_iff.mp z
  nd := pm.nodup_iff.mpr r.nd
  own := fun a ha => r.own a (pm.mem_iff.mp ha)
theorem R.own2At {c : Fx} {ρ : Env} {ps : List Addr} {σ : St} {H : Hp} (r : R c Γ ρ ps σ H) {i : Nat} {d : D} (hm : Γ[i]? = some .own2) (hd : ρ[i]? = some (some d)) :
    ∃ p qs dss, σ[i]? = some (some (.ref p)) ∧ d = .list (dss.map .list) ∧ H p = some (.lst (qs.map V.ref)) ∧ Rows H (c.U ps) qs dss ∧ (∀ a ∈ p :: qs, a ∈ ps) ∧ (p :: qs).Nodup := by
  have key : ∀ {Γ : List Md} {ρ : Env} {σ : St} {ps : List Addr} {U : AS}, Slots c H U Γ ρ σ ps → ps.Nodup → ∀ {i : Nat}, Γ[i]? = some .own2 → ρ[i]? = some (some d) →
      ∃ p qs dss, σ[i]? = some (some (.ref p)) ∧ d = .list (dss.map .list) ∧ H p = some (.lst (qs.map V.ref)) ∧ Rows H U qs dss ∧ (∀ a ∈ p :: qs, a ∈ ps) ∧ (p :: qs).Nodup := by
    intro Γ ρ σ ps U h
    induction h with
    | nil => intro _ i hm; simp at hm
    | @cons m1 d1 o1 p1 q1 Γ1 ρ1 σ1 h1 h2 ih =>
      intro nd i hm hd
      have nd' := List.nodup_append.mp nd
      cases i with
      | zero =>
        simp at hm hd
        subst hm hd
        cases h1 with
        | @own2 p qs dss a1 a2 => exact ⟨p, qs, dss, rfl, rfl, a1, a2, fun a ha => List.mem_append_left _ ha, nd'.1⟩
      | succ i =>
        obtain ⟨p, qs, dss, a, b, c1, d1, e1, f1⟩ := ih nd'.2.1 (i := i) (by simpa using hm) (by simpa using hd)
        exact ⟨p, qs, dss, by simpa using a, b, c1, d1, fun x hx => List.mem_append_right _ (e1 x hx), f1⟩
  exact key r.sl r.nd hm hd
theorem atI_map {α β : Type} (f : α → β) (xs : List α) (i : Int) : L2.atI (xs.map f) i = (L2.atI xs i).map f := by
  unfold L2.atI
  rw [List.length_map]
  cases ixN xs.length i with
  | none => rfl
  | some j => simp
/-- rows[a][b] -/
theorem sem_ix2 {i : Nat} {ta tb : TE} {a b : Env → M D} (hm : Γ[i]? = some .own2) (ha : SemV s Γ ta a) (hb : SemV s Γ tb b) : SemE s Γ (tOp (rIx K) (tOp (rIx K) (tVar i) ta) tb) (bin gIx (bin gIx (eVar i) a) b) := by
  intro c ρ ps σ H Q P hc r q k
  obtain ⟨d, hd, q⟩ := eVar_get q
  obtain ⟨p, qs, dss, ho, rfl, hp, rw0, sub, nd⟩ := r.own2At hm hd
  refine ⟨_, ho, ?_⟩
  refine ha c ρ ps σ H _ _ hc r q fun x u H1 q1 e1 d1 => ?_
  have r1 := r.stp e1
  have hp1 : H1 p = some (.lst (qs.map V.ref)) := e1.keep _ _ hp (r.ownA (sub p (by simp)))
  have rw1 : Rows H1 (c.U ps) qs dss := rw0.monoOn (fun z o q n => e1.keep z o q (r.nA n)) (fun _ _ _ q => q) fun z hz o q => e1.keep z o q (r.ownA (sub z (by simp [hz])))
  cases x with
  | int n =>
    have q1 : (match L2.atI (dss.map PyData.list) n with | some d => ret d | none => (stuck : M D)) (fun y => bnd (b ρ) (fun z => gIx y z) P) := q1
    rw [atI_map] at q1
    cases hz : L2.atI dss n with
    | none => rw [hz] at q1; exact False.elim q1
    | some row =>
      rw [hz] at q1
      have q2 : bnd (b ρ) (fun z => gIx (.list row) z) P := q1
      have hj : ∃ j, ixN dss.length n = some j ∧ dss[j]? = some row := by
        unfold L2.atI at hz
        cases zz : ixN dss.length n with
        | none => rw [zz] at hz; cases hz
        | some j => rw [zz] at hz; exact ⟨j, rfl, hz⟩
      obtain ⟨j, j1, j2⟩ := hj
      obtain ⟨qa, vs, g1, g2, g3⟩ := rw1.get j2
      have hat : L2.atI (qs.map V.ref) n = some (.ref qa) := by
        rw [atI_map]
        unfold L2.atI
        rw [rw1.len, j1]
        simp [g1]
      refine .inl ⟨p, _, n, _, rfl, d1.int, SqL.of hp1, hat, ?_⟩
      refine hb c ρ ps σ H1 _ _ hc r1 q2 fun y v H2 q3 e2 d2 => ?_
      have qin : qa ∈ ps := sub qa (by simp [List.mem_of_getElem? g1])
      have g2' : H2 qa = some (.lst vs) := e2.keep _ _ g2 (r.ownA qin)
      have dn2 := g3.stp r.ok e2
      cases y with
      | int m =>
        have q3 : (match L2.atI row m with | some d => ret d | none => (stuck : M D)) P := q3
        cases z : L2.atI row m with
        | none => rw [z] at q3; exact False.elim q3
        | some d =>
          rw [z] at q3
          obtain ⟨w, w1, w2⟩ := dn2.atI z
          exact .inl ⟨qa, vs, m, w, rfl, d2.int, SqL.of g2', w1, k _ _ H2 q3 (e1.trans e2) w2⟩
      | _ => exact False.elim q3
  | _ => exact False.elim q1
/-- len(rows) -/
theorem sem_len2 {i : Nat} (hm : Γ[i]? = some .own2) : SemE s Γ (tCB (rLenA K) (tCons (tVar i) tNil)) (cal cLen (aCons (eVar i) aNil)) := by
  intro c ρ ps σ H Q P hc r q k
  obtain ⟨d, hd, q⟩ := eVar_get q
  obtain ⟨p, qs, dss, ho, rfl, hp, rw0, sub, nd⟩ := r.own2At hm hd
  have q' : P (.int ((dss.map PyData.list).length : Nat)) := q
  refine ⟨_, ho, p, _, rfl, .inl (SqL.of hp), ?_⟩
  have e : (qs.map V.ref).length = (dss.map PyData.list).length := by rw [List.length_map, List.length_map, rw0.len]
  rw [e]
  exact k _ _ H q' (Stp.refl c H) (.int _)
/-- rows[a][b] = e -/
def putRow (i : Nat) (l x row y d : D) (ρ : Env) : M Out := match l, x, row, y with
  | .list rows, .int n, .list r, .int m => match ixN rows.length n with
    | some j => match ixN r.length m with
      | some k => ret (.nx (ρ.set i (some (.list (rows.set j (.list (r.set k d)))))))
      | none => stuck
    | none => stuck
  | _, _, _, _ => stuck
def sSet2 (i : Nat) (a b e : Env → M D) : Env → M Out := fun ρ => bnd (e ρ) fun d => bnd (eVar i ρ) fun l => bnd (a ρ) fun x => bnd (gIx l x) fun row => bnd (b ρ) fun y => putRow i l x row y d ρ
theorem own2_uniq {c : Fx} {H : Hp} {U : AS} {p : Addr} {qs : List Addr} {d : D} (hp : H p = some (.lst (qs.map V.ref))) : ∀ qs', SlotR c H U .own2 (some d) (some (.ref p)) qs' → qs' = p :: qs := by
  intro qs' h
  cases h with
  | @own2 _ qs2 dss a1 a2 =>
    rw [hp] at a1
    have e : qs.map V.ref = qs2.map V.ref := by injection a1 with a1; injection a1
    have inj : ∀ x y : List Addr, x.map V.ref = y.map V.ref → x = y := by
      intro x
      induction x with
      | nil => intro y e; cases y with | nil => rfl | cons _ _ => simp at e
      | cons a x ih =>
        intro y e
        cases y with
        | nil => simp at e
        | cons b y =>
          simp only [List.map_cons, List.cons.injEq, V.ref.injEq] at e
          rw [e.1, ih y e.2]
    rw [inj _ _ e]
theorem sem_set2 {i : Nat} {t u w : TE} {e a b : Env → M D} (hm : Γ[i]? = some .own2) (he : SemE s Γ t e) (ha : SemV s Γ u a) (hb : SemV s Γ w b) : SemS s Γl Γ Γ (tAsg t (L2.gSub (tOp (rIx K) (tVar i) u) w rSetL)) (sSet2 i a b e) := by
  intro c ρ ps σ H E P hc r q k
  refine he c ρ ps σ H _ _ hc r q fun d v H0 q0 e0 d0 => ?_
  have r0 := r.stp e0
  obtain ⟨l, hl, q0⟩ := eVar_get q0
  obtain ⟨p, qs, dss, ho, rfl, hp, rw0, sub, nd⟩ := r0.own2At hm hl
  refine ⟨_, ho, ?_⟩
  refine ha c ρ ps σ H0 _ _ hc r0 q0 fun x ux H1 q1 e1 d1 => ?_
  have r1 := r0.stp e1
  have hp1 : H1 p = some (.lst (qs.map V.ref)) := e1.keep _ _ hp (r.ownA (sub p (by simp)))
  have rw1 : Rows H1 (c.U ps) qs dss := rw0.monoOn (fun z o q n => e1.keep z o q (r0.nA n)) (fun _ _ _ q => q) fun z hz o q => e1.keep z o q (r.ownA (sub z (by simp [hz])))
  cases x with
  | int n =>
    have q1 : (match L2.atI (dss.map PyData.list) n with | some d => ret d | none => (stuck : M D)) (fun row => bnd (b ρ) (fun y => putRow i (.list (dss.map .list)) (.int n) row y d ρ) P) := q1
    rw [atI_map] at q1
    cases hz : L2.atI dss n with
    | none => rw [hz] at q1; exact False.elim q1
    | some row =>
      rw [hz] at q1
      have q2 : bnd (b ρ) (fun y => putRow i (.list (dss.map .list)) (.int n) (.list row) y d ρ) P := q1
      obtain ⟨j, j1, j2⟩ : ∃ j, ixN dss.length n = some j ∧ dss[j]? = some row := by
        unfold L2.atI at hz
        cases zz : ixN dss.length n with
        | none => rw [zz] at hz; cases hz
        | some j => rw [zz] at hz; exact ⟨j, rfl, hz⟩
      obtain ⟨qa, vs, g1, g2, g3⟩ := rw1.get j2
      have hat : L2.atI (qs.map V.ref) n = some (.ref qa) := by
        rw [atI_map]
        unfold L2.atI
        rw [rw1.len, j1]
        simp [g1]
      refine .inl ⟨p, _, n, _, rfl, d1.int, SqL.of hp1, hat, ?_⟩
      refine hb c ρ ps σ H1 _ _ hc r1 q2 fun y v2 H2 q3 e2 d2 => ?_
      have qin : qa ∈ ps := sub qa (by simp [List.mem_of_getElem? g1])
      have r2 := r1.stp e2
      have g2' : H2 qa = some (.lst vs) := e2.keep _ _ g2 (r.ownA qin)
      have dn2 := g3.stp r.ok e2
      have hp2 : H2 p = some (.lst (qs.map V.ref)) := e2.keep _ _ hp1 (r.ownA (sub p (by simp)))
      have rw2 : Rows H2 (c.U ps) qs dss := rw1.monoOn (fun z o q n => e2.keep z o q (r1.nA n)) (fun _ _ _ q => q) fun z hz o q => e2.keep z o q (r.ownA (sub z (by simp [hz])))
      cases y with
      | int m =>
        have q3 : (match ixN (dss.map PyData.list).length n with
          | some j => match ixN row.length m with
            | some k => ret (Out.nx (ρ.set i (some (.list ((dss.map PyData.list).set j (.list (row.set k d)))))))
            | none => stuck
          | none => (stuck : M Out)) P := q3
        rw [List.length_map, j1] at q3
        cases z : ixN row.length m with
        | none => rw [z] at q3; exact False.elim q3
        | some kk =>
          rw [z] at q3
          have q4 : P (Out.nx (ρ.set i (some (.list ((dss.map PyData.list).set j (.list (row.set kk d))))))) := q3
          have dv : Den H2 (c.U ps) v d := (d0.stp r.ok e1).stp r.ok e2
          refine ⟨qa, vs, m, kk, rfl, d2.int, g2', by rw [g3.length]; exact z, ?_⟩
          -- the new heap
          have pq : p ≠ qa := fun e => (List.nodup_cons.mp nd).1 (by rw [e]; exact List.mem_of_getElem? g1)
          have hU : c.U ps qa := .inr qin
          have same : ∀ a o, a ≠ qa → H2 a = some o → (upd H2 qa (.lst (vs.set kk v))) a = some o := fun a o n e => by rw [upd_ne n]; exact e
          have off : ∀ a o, H2 a = some o → ¬ c.U ps a → (upd H2 qa (.lst (vs.set kk v))) a = some o := fun a o e n => same a o (fun z => n (by rw [z]; exact hU)) e
          have d3 : DenL (upd H2 qa (.lst (vs.set kk v))) (c.U ps) (vs.set kk v) (row.set kk d) := (DenL.set dv kk dn2).mono off fun _ _ _ q => q
          have rw3 : Rows (upd H2 qa (.lst (vs.set kk v))) (c.U ps) qs (dss.set j (row.set kk d)) := by
            have nq : qs.Nodup := (List.nodup_cons.mp nd).2
            have go : ∀ {qs : List Addr} {dss : List (List D)} {j : Nat}, Rows H2 (c.U ps) qs dss → qs.Nodup → qs[j]? = some qa → Rows (upd H2 qa (.lst (vs.set kk v))) (c.U ps) qs (dss.set j (row.set kk d)) := by
              intro qs dss j h
              induction h generalizing j with
              | nil => intro _ e; simp at e
              | @cons q0 qs0 vs0 ds0 dss0 a1 a2 a3 ih =>
                intro nq0 e
                have nq1 := List.nodup_cons.mp nq0
                cases j with
                | zero =>
                  simp at e
                  subst e
                  exact .cons upd_same d3 (a3.monoOn off (fun _ _ _ q => q) fun z hz o q => same z o (fun e => nq1.1 (by rw [← e]; exact hz)) q)
                | succ j =>
                  have e' : qs0[j]? = some qa := by simpa using e
                  have nz : q0 ≠ qa := fun e2 => nq1.1 (by rw [e2]; exact List.mem_of_getElem? e')
                  exact .cons (same _ _ nz a1) (a2.mono off fun _ _ _ q => q) (ih nq1.2 e')
            exact go rw2 nq g1
          have hp3 : (upd H2 qa (.lst (vs.set kk v))) p = some (.lst (qs.map V.ref)) := same _ _ pq hp2
          have eset : (dss.map PyData.list).set j (.list (row.set kk d)) = (dss.set j (row.set kk d)).map PyData.list := by rw [List.map_set]
          rw [eset] at q4
          obtain ⟨ps', sl, pm⟩ := r2.sl.updP (q := qa) (H' := upd H2 qa (.lst (vs.set kk v))) hU same (qs0 := p :: qs) (qs' := p :: qs) (by simp [List.mem_of_getElem? g1]) (SlotR.own2 hp3 rw3) (List.Perm.refl _) r2.nd (own2_uniq hp2) hm hl ho
          refine k.nx _ ps' σ _ q4 (r2.perm (fun a o n e => same a o (fun z => n (by rw [z]; exact qin)) e) (fun a ha => ?_) (r2.sz.upd fun zs q => ?_) sl pm)
          · by_cases e : a = qa
            · subst e; exact ⟨_, upd_same⟩
            · obtain ⟨xs, hx⟩ := r2.sl.loose a ha
              exact ⟨xs, same a _ e hx⟩
          · rcases q with q | q <;> cases q
            rw [List.length_set]
            exact r2.sz qa vs (.inl g2')
      | _ => exact False.elim q3
  | _ => exact False.elim q1

/-- rows[k], rows[some[0]] = rows[some[0]], rows[k] -/
def swapR (i : Nat) (l s x : D) (ρ : Env) : M Out := match l, s, x with
  | .list rows, .list (.int m :: _), .int n => match ixN rows.length n with
    | some a => match ixN rows.length m with
      | some b => match rows[a]? with
        | some ra => match rows[b]? with
          | some rb => ret (.nx (ρ.set i (some (.list ((rows.set a rb).set b ra)))))
          | none => stuck
        | none => stuck
      | none => stuck
    | none => stuck
  | _, _, _ => stuck
def sSwap (i ik is : Nat) : Env → M Out := fun ρ => bnd (eVar i ρ) fun l => bnd (eVar is ρ) fun s => bnd (eVar ik ρ) fun x => swapR i l s x ρ
theorem swapR_get {i : Nat} {rows : List D} {s x : D} {ρ : Env} {P : Out → Prop} (h : swapR i (.list rows) s x ρ P) : ∃ m tl n a b ra rb, s = .list (.int m :: tl) ∧ x = .int n ∧ ixN rows.length n = some a ∧ ixN rows.length m = some b ∧ rows[a]? = some ra ∧ rows[b]? = some rb ∧ P (.nx (ρ.set i (some (.list ((rows.set a rb).set b ra))))) := by
  cases s with
  | list ss =>
    cases ss with
    | nil => exact False.elim h
    | cons hd tl =>
      cases hd with
      | int m =>
        cases x with
        | int n =>
          have h : (match ixN rows.length n with
            | some a => match ixN rows.length m with
              | some b => match rows[a]? with
                | some ra => match rows[b]? with
                  | some rb => ret (Out.nx (ρ.set i (some (.list ((rows.set a rb).set b ra)))))
                  | none => stuck
                | none => stuck
              | none => stuck
            | none => (stuck : M Out)) P := h
          cases ea : ixN rows.length n with
          | none => rw [ea] at h; exact False.elim h
          | some a =>
            rw [ea] at h
            cases eb : ixN rows.length m with
            | none => rw [eb] at h; exact False.elim h
            | some b =>
              rw [eb] at h
              dsimp only at h
              cases ra : rows[a]? with
              | none => rw [ra] at h; exact False.elim h
              | some x =>
                rw [ra] at h
                cases rb : rows[b]? with
                | none => rw [rb] at h; exact False.elim h
                | some y =>
                  rw [rb] at h
                  exact ⟨m, tl, n, a, b, x, y, rfl, rfl, ea, eb, ra, rb, h⟩
        | _ => exact False.elim h
      | _ => cases x <;> exact False.elim h
  | _ => cases x <;> exact False.elim h
theorem perm_swap {α : Type} : ∀ {xs : List α} {a b : Nat} {x y : α}, xs[a]? = some x → xs[b]? = some y → ((xs.set a y).set b x).Perm xs := by
  intro xs a b x y ha hb
  obtain ⟨la, ea⟩ := List.getElem?_eq_some_iff.mp ha
  obtain ⟨lb, eb⟩ := List.getElem?_eq_some_iff.mp hb
  subst ea eb
  exact List.set_set_perm la lb
theorem sem_swap {i ik is : Nat} (hm : Γ[i]? = some .own2) (hk : Γ[ik]? = some .fro) (hs : Γ[is]? = some .fro) :
    SemS s Γl Γ Γ (tAsg (tTup (tCons (tOp (rIx K) (tVar i) (tOp (rIx K) (tVar is) (tC (.int 0)))) (tCons (tOp (rIx K) (tVar i) (tVar ik)) tNil)))
      (gTup K 2 (gCons (L2.gSub (tVar i) (tVar ik) rSetL) (gCons (L2.gSub (tVar i) (tOp (rIx K) (tVar is) (tC (.int 0))) rSetL) gNil)))) (sSwap i ik is) := by
  intro c ρ ps σ H E P hc r q k
  obtain ⟨l, hl, q⟩ := eVar_get q
  obtain ⟨sd, hsd, q⟩ := eVar_get q
  obtain ⟨xd, hxd, q⟩ := eVar_get q
  obtain ⟨p, qs, dss, ho, rfl, hp, rw0, sub, nd⟩ := r.own2At hm hl
  obtain ⟨m, tl, n, a, b, ra, rb, rfl, rfl, ea, eb, eRa, eRb, q⟩ := swapR_get q
  rw [List.length_map] at ea eb
  rw [List.getElem?_map, Option.map_eq_some_iff] at eRa eRb
  obtain ⟨da, hda, rfl⟩ := eRa
  obtain ⟨db, hdb, rfl⟩ := eRb
  obtain ⟨qa, va, ga, _, _⟩ := rw0.get hda
  obtain ⟨qb, vb, gb, _, _⟩ := rw0.get hdb
  obtain ⟨os, _, hos, sls, _⟩ := r.sl.get hs hsd
  obtain ⟨ok, _, hok, slk, _⟩ := r.sl.get hk hxd
  cases sls with
  | fro ds =>
    cases slk with
    | fro dk =>
      cases dk
      cases ds with
      | @lst sa xs _ h1 h2 h3 =>
        cases h3 with
        | @cons v0 xs0 _ _ d1 d2 =>
          cases d1
          have pin : p ∈ ps := sub p (by simp)
          have lq : qs.length = dss.length := rw0.len
          have at0 : ∀ H', H' sa = some (.lst (.int m :: xs0)) → ∀ Q : VK, Q (.int m) H' → tOp (rIx K) (tVar is) (tC (.int 0)) σ H' Q := fun H' e Q q => ⟨_, hos, .inl ⟨sa, _, 0, .int m, rfl, rfl, SqL.of e, atI_nat (j := 0) rfl, q⟩⟩
          have ixA : L2.atI (qs.map V.ref) n = some (.ref qa) := by
            rw [atI_map]; unfold L2.atI; rw [lq, ea]; simp [ga]
          have ixB : L2.atI (qs.map V.ref) m = some (.ref qb) := by
            rw [atI_map]; unfold L2.atI; rw [lq, eb]; simp [gb]
          refine ⟨_, ho, at0 H h1 _ ?_⟩
          refine .inl ⟨p, _, m, _, rfl, rfl, SqL.of hp, ixB, ?_⟩
          refine ⟨_, ho, _, hok, .inl ⟨p, _, n, _, rfl, rfl, SqL.of hp, ixA, ?_⟩⟩
          refine ⟨by show 2 ≤ sizeLine; decide, fun T hT => ?_⟩
          have sT : ∀ z o, H z = some o → (upd H T (.tup [.ref qb, .ref qa])) z = some o := fun z o e => upd_keep hT z o e
          have hpT := sT p _ hp
          refine ⟨T, _, rfl, SqT.of upd_same, rfl, _, _, rfl, ?_⟩
          refine ⟨_, ho, _, hok, p, _, n, a, rfl, rfl, hpT, by rw [List.length_map, lq]; exact ea, ?_⟩
          have psa : sa ≠ p := fun e => h2 (.inr (by rw [e]; exact pin))
          refine ⟨_, _, rfl, _, ho, at0 _ (by rw [upd_ne psa]; exact sT sa _ h1) _ ?_⟩
          refine ⟨p, _, m, b, rfl, rfl, upd_same, by rw [List.length_set, List.length_map, lq]; exact eb, ?_⟩
          refine ⟨rfl, ?_⟩
          rw [upd_upd]
          have eq1 : (((qs.map V.ref).set a (.ref qb)).set b (.ref qa)) = ((qs.set a qb).set b qa).map V.ref := by rw [List.map_set, List.map_set]
          rw [eq1]
          have eq2 : (((dss.map PyData.list).set a (.list db)).set b (.list da)) = ((dss.set a db).set b da).map PyData.list := by rw [List.map_set, List.map_set]
          rw [eq2] at q
          have pmq : ((qs.set a qb).set b qa).Perm qs := perm_swap ga gb
          have hU : c.U ps p := .inr pin
          have rT : R c Γ ρ ps σ (upd H T (.tup [.ref qb, .ref qa])) := r.stp (Stp.tup r.ok hT (by show 2 ≤ sizeLine; decide))
          have rowsT : Rows (upd H T (.tup [.ref qb, .ref qa])) (c.U ps) qs dss := rw0.monoOn (fun z o q _ => sT z o q) (fun _ _ _ q => q) fun z hz o q => sT z o q
          have same : ∀ z o, z ≠ p → (upd H T (.tup [.ref qb, .ref qa])) z = some o → (upd (upd H T (.tup [.ref qb, .ref qa])) p (.lst (((qs.set a qb).set b qa).map V.ref))) z = some o := fun z o n e => by rw [upd_ne n]; exact e
          have off : ∀ z o, (upd H T (.tup [.ref qb, .ref qa])) z = some o → ¬ c.U ps z → (upd (upd H T (.tup [.ref qb, .ref qa])) p (.lst (((qs.set a qb).set b qa).map V.ref))) z = some o := fun z o e n => same z o (fun w => n (by rw [w]; exact hU)) e
          have nq := List.nodup_cons.mp nd
          have rows2 : Rows (upd (upd H T (.tup [.ref qb, .ref qa])) p (.lst (((qs.set a qb).set b qa).map V.ref))) (c.U ps) qs dss := rowsT.monoOn off (fun _ _ _ q => q) fun z hz o q => same z o (fun e => nq.1 (by rw [← e]; exact hz)) q
          obtain ⟨qa', va', ga', ha1, ha2⟩ := rows2.get hda
          obtain ⟨qb', vb', gb', hb1, hb2⟩ := rows2.get hdb
          rw [ga] at ga'; cases ga'
          rw [gb] at gb'; cases gb'
          have rows3 := Rows.set ha1 ha2 b (Rows.set hb1 hb2 a rows2)
          obtain ⟨ps', sl, pm⟩ := rT.sl.updP (q := p) hU same (qs0 := p :: qs) (qs' := p :: ((qs.set a qb).set b qa)) (by simp) (SlotR.own2 upd_same rows3) (pmq.cons p) rT.nd (own2_uniq hpT) hm hl ho
          refine k.nx _ ps' σ _ q (rT.perm (fun z o n e => same z o (fun w => n (by rw [w]; exact pin)) e) (fun z hz => ?_) (rT.sz.upd fun zs q => ?_) sl pm)
          · by_cases e : z = p
            · subst e; exact ⟨_, upd_same⟩
            · obtain ⟨xs, hx⟩ := rT.sl.loose z hz
              exact ⟨xs, same z _ e hx⟩
          · rcases q with q | q <;> cases q
            have := rT.sz p _ (.inl hpT)
            rw [List.length_map] at this ⊢
            rw [pmq.length_eq]; exact this

/-- rows, u, w = [list(row) for row in rows], 1, 1 -/
def rowsD : List D → Option (List (List D))
  | [] => some []
  | .list r :: t => (rowsD t).map (r :: ·)
  | .tuple r :: t => (rowsD t).map (r :: ·)
  | _ => none
def sMk2 (i j l : Nat) (x y : Int) : Env → M Out := fun ρ => bnd (eVar i ρ) fun d => bnd (seqD d) fun ds => match rowsD ds with
  | some dss => ret (.nx (((ρ.set i (some (.list (dss.map .list)))).set j (some (.int x))).set l (some (.int y))))
  | none => stuck
theorem rowsD_get : ∀ {ds : List D} {dss : List (List D)}, rowsD ds = some dss → ∀ {k : Nat} {d : D}, ds[k]? = some d → ∃ r, dss[k]? = some r ∧ (d = .list r ∨ d = .tuple r)
  | [], _, h, k, d, e => by simp at e
  | .list r :: t, _, h, k, d, e => by
    simp only [rowsD, Option.map_eq_some_iff] at h
    obtain ⟨u, hu, rfl⟩ := h
    cases k with
    | zero => simp at e; subst e; exact ⟨r, rfl, .inl rfl⟩
    | succ k =>
      obtain ⟨r', e1, e2⟩ := rowsD_get hu (k := k) (by simpa using e)
      exact ⟨r', by simpa using e1, e2⟩
  | .tuple r :: t, _, h, k, d, e => by
    simp only [rowsD, Option.map_eq_some_iff] at h
    obtain ⟨u, hu, rfl⟩ := h
    cases k with
    | zero => simp at e; subst e; exact ⟨r, rfl, .inr rfl⟩
    | succ k =>
      obtain ⟨r', e1, e2⟩ := rowsD_get hu (k := k) (by simpa using e)
      exact ⟨r', by simpa using e1, e2⟩
  | .none :: _, _, h, _, _, _ => by simp [rowsD] at h
  | .bool _ :: _, _, h, _, _, _ => by simp [rowsD] at h
  | .int _ :: _, _, h, _, _, _ => by simp [rowsD] at h
  | .str _ :: _, _, h, _, _, _ => by simp [rowsD] at h
  | .dict _ :: _, _, h, _, _, _ => by simp [rowsD] at h
theorem rowsD_len : ∀ {ds : List D} {dss : List (List D)}, rowsD ds = some dss → dss.length = ds.length
  | [], _, h => by simp [rowsD] at h; subst h; rfl
  | .list r :: t, _, h => by
    simp only [rowsD, Option.map_eq_some_iff] at h
    obtain ⟨u, hu, rfl⟩ := h
    simp [rowsD_len hu]
  | .tuple r :: t, _, h => by
    simp only [rowsD, Option.map_eq_some_iff] at h
    obtain ⟨u, hu, rfl⟩ := h
    simp [rowsD_len hu]
  | .none :: _, _, h => by simp [rowsD] at h
  | .bool _ :: _, _, h => by simp [rowsD] at h
  | .int _ :: _, _, h => by simp [rowsD] at h
  | .str _ :: _, _, h => by simp [rowsD] at h
  | .dict _ :: _, _, h => by simp [rowsD] at h
/-- lists that H2 holds at qs, of what H1 knows -/
inductive RowsF (H1 H2 : Hp) (U : AS) : List Addr → List (List D) → Prop
  | nil : RowsF H1 H2 U [] []
  | snoc {q : Addr} {qs : List Addr} {vs : List V} {ds : List D} {dss : List (List D)} : RowsF H1 H2 U qs dss → H2 q = some (.lst vs) → DenL H1 U vs ds → RowsF H1 H2 U (qs ++ [q]) (dss ++ [ds])
theorem Rows.snoc {H : Hp} {U : AS} {q : Addr} {vs : List V} {ds : List D} (h1 : H q = some (.lst vs)) (h2 : DenL H U vs ds) : ∀ {qs : List Addr} {dss : List (List D)}, Rows H U qs dss → Rows H U (qs ++ [q]) (dss ++ [ds])
  | _, _, .nil => .cons h1 h2 .nil
  | _, _, .cons a b t => .cons a b (Rows.snoc h1 h2 t)
theorem RowsF.rows {H1 H2 : Hp} {U U' : AS} (e : ∀ a o, H1 a = some o → H2 a = some o) (u : ∀ a o, H1 a = some o → U' a → U a) {qs : List Addr} {dss : List (List D)} (h : RowsF H1 H2 U qs dss) : Rows H2 U' qs dss := by
  induction h with
  | nil => exact .nil
  | snoc _ h1 h2 ih => exact ih.snoc h1 (h2.mono (fun a o q _ => e a o q) u)
theorem RowsF.keep {H1 H2 H3 : Hp} {U : AS} {qs : List Addr} {dss : List (List D)} (h : RowsF H1 H2 U qs dss) (e : ∀ q ∈ qs, ∀ o, H2 q = some o → H3 q = some o) : RowsF H1 H3 U qs dss := by
  induction h with
  | nil => exact .nil
  | snoc _ h1 h2 ih => exact .snoc (ih fun q hq => e q (List.mem_append_left _ hq)) (e _ (by simp) _ h1) h2
theorem sem_mk2 {i j l r : Nat} {x y : Int} (hi : Γ[i]? = some .fro) (hj : Γ[j]? = some .fro) (hl : Γ[l]? = some .fro) (hij : i ≠ j) (hil : i ≠ l) (hr : Γ[r]? = some .fro) (hri : r ≠ i) :
    SemS s Γl Γ (Γ.set i .own2) (tAsg (tTup (tCons (tLc (iSeq K (tVar i)) (gName r) tYes (tCB (rLstOf K) (tCons (tVar r) tNil)) [r]) (tCons (tC (.int x)) (tCons (tC (.int y)) tNil))))
      (gTup K 3 (gCons (gName i) (gCons (gName j) (gCons (gName l) gNil))))) (sMk2 i j l x y) := by
  intro c ρ ps σ H E P hc r0 q k
  obtain ⟨d, hd, q⟩ := eVar_get q
  obtain ⟨ds, ed, q⟩ := seqD_get q
  obtain ⟨o, _, ho, sl, _⟩ := r0.sl.get hi hd
  cases hrw : rowsD ds with
  | none => rw [hrw] at q; exact False.elim q
  | some dss =>
    rw [hrw] at q
    have q : P (Out.nx (((ρ.set i (some (.list (dss.map .list)))).set j (some (.int x))).set l (some (.int y)))) := q
    cases sl with
    | @fro d0 v dn0 =>
      obtain ⟨a, xs, b, rfl, _, dn, nu, hh⟩ := dn0.seqU (K := K) ed
      have len := dn.length
      have lrs := rowsD_len hrw
      have main : ∀ J : It, (∀ n H', (∀ a o, H a = some o → H' a = some o) → n < ds.length → J.go n H') → (∀ H', (∀ a o, H a = some o → H' a = some o) → J.stop ds.length H') →
          (∀ n xv H' H'', (∀ a o, H a = some o → H' a = some o) → J.yld n H' xv H'' → H'' = H' ∧ xs[n]? = some xv) → ∀ Dd, H Dd = none → ∀ Qd : Hp → Prop, (∀ H2 qs, (∀ a o, H a = some o → H2 a = some o) → Sz H2 → H2 Dd = some (.lst (qs.map V.ref)) → RowsF H H2 (c.U ps) qs dss → (Dd :: qs).Nodup → (∀ z ∈ qs, H z = none) → Qd H2) →
          ∃ W : Nat → Nat → Hp → Prop, (∃ m, W 0 m (upd H Dd (.lst []))) ∧ ∀ i m H', W i m H' → (J.stop i H' ∧ Qd H') ∨ (J.go i H' ∧ ∃ Nx : Hp → Prop, (∀ H', Nx H' → ∃ m', m' < m ∧ W (i + 1) m' H') ∧ ∀ x H'', J.yld i H' x H'' → gName r x (wipe σ [r]) H'' fun σ2 H2 => wipe σ2 [r] = wipe σ [r] ∧ tYes σ2 H2 fun b H3 =>
            if b = true then tCB (rLstOf K) (tCons (tVar r) tNil) σ2 H3 fun y H4 => ∃ acc, H4 Dd = some (.lst acc) ∧ acc.length < sizeLine ∧ Nx (upd H4 Dd (.lst (acc ++ [y]))) else Nx H3) := by
        intro J hgo hstop hyld Dd hD Qd fin
        have lz : ds.length ≤ sizeLine := by rw [← len]; exact sz_seq r0.sz hh
        refine ⟨fun n m H' => m = ds.length - n ∧ n ≤ ds.length ∧ ∃ qs, (∀ a o, H a = some o → H' a = some o) ∧ Sz H' ∧ H' Dd = some (.lst (qs.map V.ref)) ∧ RowsF H H' (c.U ps) qs (dss.take n) ∧ (Dd :: qs).Nodup ∧ (∀ z ∈ qs, H z = none) ∧ qs.length = n,
          ⟨ds.length, by simp, Nat.zero_le _, [], fun a o e => upd_keep hD a o e, r0.sz.upd fun zs q => by rcases q with q | q <;> cases q; exact Nat.zero_le _, upd_same, .nil, by simp, fun z hz => absurd hz (by simp), rfl⟩, ?_⟩
        rintro n m H' ⟨rfl, hle, qs, up, sz, hDd, rf, nd, fr, lq⟩
        by_cases hlt : n < ds.length
        · refine .inr ⟨hgo n H' up hlt, fun H'' => n + 1 ≤ ds.length ∧ ∃ qs, (∀ a o, H a = some o → H'' a = some o) ∧ Sz H'' ∧ H'' Dd = some (.lst (qs.map V.ref)) ∧ RowsF H H'' (c.U ps) qs (dss.take (n + 1)) ∧ (Dd :: qs).Nodup ∧ (∀ z ∈ qs, H z = none) ∧ qs.length = n + 1,
            fun H'' h => ⟨ds.length - (n + 1), by omega, rfl, h⟩, fun xv H'' yl => ?_⟩
          obtain ⟨rfl, hxv⟩ := hyld n xv H' H'' up yl
          have hdn : ds[n]? = some ds[n] := by simp [hlt]
          obtain ⟨row, er, ekind⟩ := rowsD_get hrw hdn
          obtain ⟨w, ew, dw⟩ := dn.get hdn
          rw [hxv] at ew
          cases ew
          obtain ⟨ra, ys, rb, rfl, _, dny, nuy, hhy⟩ := dw.seqU (K := K) ekind
          have hrs : r < σ.length := by have h1 := (List.getElem?_eq_some_iff.mp hr).1; have := r0.sl.len; omega
          have hget : ((wipe σ [r]).set r (some (.ref ra)))[r]? = some (some (.ref ra)) := by
            rw [List.getElem?_set_self (by show r < (wipe σ [r]).length; rw [wipe_length]; exact hrs)]
          refine ⟨by show ((σ.set r none).set r _).set r none = σ.set r none; simp, ?_⟩
          refine iteT (B := False) ?_
          have hys : SqL K H'' ra ys ∨ SqT K H'' ra ys := by
            rcases hhy with ⟨h1, _⟩ | ⟨h1, _⟩
            · exact .inl (SqL.of (up _ _ h1))
            · exact .inr (SqT.of (up _ _ h1))
          refine ⟨_, hget, ra, ys, rfl, hys, fun lq' hlq => ?_⟩
          have ne : Dd ≠ lq' := ne_of_none hDd hlq
          refine ⟨_, by rw [upd_ne ne]; exact hDd, by rw [List.length_map, lq]; omega, hlt, qs ++ [lq'], fun z o e => ?_, ?_, ?_, ?_, ?_, ?_, by rw [List.length_append, lq]; rfl⟩
          · rw [upd_ne (ne_of_none e hD)]; exact upd_keep hlq z o (up z o e)
          · refine Sz.upd (Sz.upd sz ?_) ?_
            · intro zs q; rcases q with q | q <;> cases q; exact sz_seq r0.sz hhy
            · intro zs q; rcases q with q | q <;> cases q
              rw [List.length_append, List.length_map, lq]; show n + 1 ≤ sizeLine; omega
          · rw [upd_same, List.map_append]; rfl
          · rw [List.take_add_one, er]
            refine RowsF.snoc (rf.keep fun z hz o e => ?_) (vs := ys) ?_ dny
            · have zn : z ≠ Dd := fun w => (List.nodup_cons.mp nd).1 (by rw [← w]; exact hz)
              rw [upd_ne zn]; exact upd_keep hlq z o e
            · rw [upd_ne ne.symm, upd_same]
          · have nd' := List.nodup_cons.mp nd
            have nq : lq' ∉ qs := fun z => by
              have key : ∀ {qs : List Addr} {dss : List (List D)}, RowsF H H'' (c.U ps) qs dss → ∀ z ∈ qs, ∃ vs, H'' z = some (.lst vs) := by
                intro qs dss h
                induction h with
                | nil => intro z hz; simp at hz
                | snoc _ h1 _ ih =>
                  intro z hz
                  rcases List.mem_append.mp hz with hz | hz
                  · exact ih z hz
                  · rw [List.mem_singleton.mp hz]; exact ⟨_, h1⟩
              obtain ⟨vs, hv⟩ := key rf _ z
              rw [hlq] at hv; cases hv
            refine List.nodup_cons.mpr ⟨fun z => ?_, List.nodup_append.mpr ⟨nd'.2, by simp, fun x hx y hy e => ?_⟩⟩
            · rcases List.mem_append.mp z with z | z
              · exact nd'.1 z
              · exact ne (List.mem_singleton.mp z)
            · rw [List.mem_singleton.mp hy] at e; rw [e] at hx; exact nq hx
          · intro z hz
            rcases List.mem_append.mp hz with hz | hz
            · exact fr z hz
            · rw [List.mem_singleton.mp hz]
              cases q : H lq' with
              | none => rfl
              | some o => rw [up _ _ q] at hlq; cases hlq
        · have e : n = ds.length := by omega
          subst e
          rw [← lrs, List.take_length] at rf
          exact .inl ⟨hstop H' up, fin H' qs up sz hDd rf nd fr⟩
      have Up : ∀ {b : Addr} {o : HO} {H' : Hp}, (∀ a o, H a = some o → H' a = some o) → H b = some o → H' b = some o := fun u e => u _ _ e
      -- behind the comprehension
      have after : ∀ Dd, H Dd = none → ∀ H2 qs, (∀ a o, H a = some o → H2 a = some o) → Sz H2 → H2 Dd = some (.lst (qs.map V.ref)) → RowsF H H2 (c.U ps) qs dss → (Dd :: qs).Nodup → (∀ z ∈ qs, H z = none) →
          ([V.ref Dd, V.int x, V.int y].length ≤ sizeLine ∧ ∀ T, H2 T = none → (gTup K 3 (gCons (gName i) (gCons (gName j) (gCons (gName l) gNil)))) (.ref T) σ (upd H2 T (.tup [V.ref Dd, V.int x, V.int y])) E.nx) := by
        intro Dd hD H2 qs up sz hDd rf nd fr
        refine ⟨by show 3 ≤ sizeLine; decide, fun T hT => ⟨T, _, rfl, SqT.of upd_same, rfl, _, _, rfl, _, _, rfl, _, _, rfl, rfl, ?_⟩⟩
        have e2 : Stp c H H2 := Stp.same r0.ok up fun _ => sz
        have eT : Stp c H2 (upd H2 T (.tup [V.ref Dd, V.int x, V.int y])) := Stp.tup r0.ok hT (by show 3 ≤ sizeLine; decide)
        have rT := (r0.stp e2).stp eT
        have upT : ∀ a o, H a = some o → (upd H2 T (.tup [V.ref Dd, V.int x, V.int y])) a = some o := fun a o e => upd_keep hT a o (up a o e)
        have frA : ∀ z ∈ Dd :: qs, H z = none := fun z hz => by
          rcases List.mem_cons.mp hz with rfl | hz
          · exact hD
          · exact fr z hz
        have rows : Rows (upd H2 T (.tup [V.ref Dd, V.int x, V.int y])) (fun a => c.U ps a ∨ a ∈ Dd :: qs) qs dss := by
          have rfT : RowsF H (upd H2 T (.tup [V.ref Dd, V.int x, V.int y])) (c.U ps) qs dss := rf.keep fun z hz o e => upd_keep hT z o e
          exact rfT.rows upT fun a o e u => u.elim id fun z => by rw [frA a z] at e; cases e
        have hDT : (upd H2 T (.tup [V.ref Dd, V.int x, V.int y])) Dd = some (.lst (qs.map V.ref)) := upd_keep hT _ _ hDd
        have slT : Slots c (upd H2 T (.tup [V.ref Dd, V.int x, V.int y])) (fun a => c.U ps a ∨ a ∈ Dd :: qs) Γ ρ σ ps := r0.sl.mono (fun a ha o e => upT a o e) (fun a o e _ => upT a o e) fun a o e u => u.elim id fun z => by rw [frA a z] at e; cases e
        have hilt : i < Γ.length := (List.getElem?_eq_some_iff.mp hi).1
        obtain ⟨ps', s1, n1, m1⟩ := slT.put (SlotR.own2 hDT rows) r0.nd nd (fun a ha z => by
          obtain ⟨xs, e⟩ := r0.sl.loose a z
          rw [frA a ha] at e; cases e) hilt
        have rN : R c (Γ.set i .own2) (ρ.set i (some (.list (dss.map .list)))) ps' (σ.set i (some (.ref Dd))) _ := rT.ofSlots (qs := Dd :: qs) s1 n1 m1 fun a ha => ⟨r0.fresh0 (frA a ha), r0.nU0 (frA a ha)⟩
        have gj : (Γ.set i .own2)[j]? = some .fro := by rw [List.getElem?_set_ne hij]; exact hj
        have gl : (Γ.set i .own2)[l]? = some .fro := by rw [List.getElem?_set_ne hil]; exact hl
        exact k.nx _ ps' _ _ q ((rN.setFro (Den.int x) gj).setFro (Den.int y) gl)
      rcases hh with ⟨h1, _⟩ | ⟨h1, _⟩
      · refine ⟨_, ho, .inl ⟨a, rfl, ⟨xs, SqL.of h1⟩, fun Dd hD => main (Itl K a) (fun n H' up hn => ⟨xs, xs[n]'(by rw [len]; exact hn), SqL.of (up _ _ h1), by simp [len, hn]⟩) (fun H' up => ⟨xs, SqL.of (up _ _ h1), by rw [len]; exact Nat.le_refl _⟩) (fun n xv H' H'' up yl => ⟨yl.1, yl.2 xs (SqL.of (up _ _ h1))⟩) Dd hD _ fun H2 qs a1 a2 a3 a4 a5 a6 => after Dd hD H2 qs a1 a2 a3 a4 a5 a6⟩⟩
      · refine ⟨_, ho, .inr ⟨a, rfl, ⟨xs, SqT.of h1⟩, fun Dd hD => main (Itt K a) (fun n H' up hn => ⟨xs, xs[n]'(by rw [len]; exact hn), SqT.of (up _ _ h1), by simp [len, hn]⟩) (fun H' up => ⟨xs, SqT.of (up _ _ h1), by rw [len]; exact Nat.le_refl _⟩) (fun n xv H' H'' up yl => ⟨yl.1, yl.2 xs (SqT.of (up _ _ h1))⟩) Dd hD _ fun H2 qs a1 a2 a3 a4 a5 a6 => after Dd hD H2 qs a1 a2 a3 a4 a5 a6⟩⟩
end
end Py
end
section
set_option maxHeartbeats 1000000
/-! PyO: enumerate(zip(a, b)): the inner pair stays within the outer one. -/
namespace Py
open PySem PySem.Spec PyProof.Rows L2 StX
open PySem.W (kdx_alive)

/-- a zip's record, whatever became of the tuple that it gave last -/
abbrev ZipR (h : Heap) (z TI TO : Addr) (g : Value) (f : Bool) : Prop := h.get? z = some { cls := .type "zip", dict := none, data := .fields #[g, .bool f, .bool false, .ref TI, .ref TO], slots := #[] }
def LastOk (g : Value) : Prop := g = .none ∨ ∃ T : Addr, g = rawInt T
section
variable {prog : Program} {w : World} {A : Around} {E : Value → Shared → Prop} {s : Shared} {z TI TO i1 i2 : Addr} {l1 l2 : List Addr} {n1 n2 i : Nat} {P1 P2 : Nat → Value → Prop} {S1 S2 : Nat → Heap → Prop} {g : Value} {f : Bool}
theorem free_or {Q : Bool → Shared → Prop} (zr : ZipR s.heap z TI TO g f) (lk : LastOk g) (yes : Q true s) (no : ∀ h', ZipR h' z TI TO g true → Heap.SameBut z s.heap h' → Q false { s with heap := h' }) :
    wpAny (model prog w) A (Builtin.SmallTypes.ownedTupleIsFree (.ref z)) Q E s := by
  unfold Builtin.SmallTypes.ownedTupleIsFree
  rcases lk with e | ⟨T, e⟩
  · subst e
    exact wpAny_bind (wpAny_field zr rfl (x := .none) rfl (wpAny_pure yes))
  · subst e
    refine wpAny_bind (wpAny_field zr rfl (x := rawInt T) rfl ?_)
    show wpAny _ _ (loadIfAlive ((T : Int).toNat) >>= _) _ _ s
    rw [Int.toNat_natCast]
    cases q : s.heap.get? T with
    | some o =>
      refine wpAny_bind (kdx_alive q ?_)
      simp only [Option.isNone_some, Bool.false_eq_true, if_false]
      refine wpAny_bind (wpAny_field zr rfl (x := .bool f) rfl ?_)
      cases f with
      | true =>
        rw [if_neg (show ¬ ((Value.bool true != Value.bool true) = true) from Bool.false_ne_true)]
        exact wpAny_pure (no s.heap zr (Heap.SameBut.refl _ _))
      | false =>
        rw [if_pos (show (Value.bool false != Value.bool true) = true from rfl)]
        exact wpAny_bind (wpAny_setField_rec zr (by simp) fun h1 r1 k1 => wpAny_pure (no h1 r1 k1))
    | none =>
      have gone : ∀ {R : Option Obj → Shared → Prop}, R none s → wpAny (model prog w) A (loadIfAlive T) R E s := fun {R} r => by
        have r' : R (s.heap.get? T) s := by rw [q]; exact r
        exact fun _ _ _ => r'
      refine wpAny_bind (gone ?_)
      simp only [Option.isNone_none, if_true]
      exact wpAny_pure yes
/-- the cells of such a zip lie apart -/
theorem put2 {T : Addr} {a1 a2 x : Value} {k : Nat} {Q : Unit → Shared → Prop} (t : IsTupOf2 s.heap T a1 a2) (h : ∀ h', h'.get? T = some { cls := .type "tuple", data := .seq ((#[a1, a2] : Array Value).setIfInBounds k x) } → Heap.SameBut T s.heap h' → Q () { s with heap := h' }) :
    wpAny (model prog w) A (updateSeq T (·.setIfInBounds k x)) Q E s := updateSeq_IsTupOf2 t h
/-- what a draw leaves -/
structure Drew (z TI TO i1 i2 : Addr) (S1 S2 : Nat → Heap → Prop) (i : Nat) (h h' : Heap) : Prop where
  rcd : ∃ g f, ZipR h' z TI TO g f ∧ LastOk g
  out : ∃ a1 a2, IsTupOf2 h' TO a1 a2
  st1 : S1 (i + 1) h'
  st2 : S2 (i + 1) h'
  big : h.objs.size ≤ h'.objs.size
  keep : ∀ c o, c ≠ z → c ≠ TO → c ≠ i1 → c ≠ i2 → h.get? c = some o → h'.get? c = some o
theorem zip_item (Z : ZipSep2 z TI TO i1 i2 l1 l2) (U1 : Draws prog w A i1 l1 n1 P1 S1) (U2 : Draws prog w A i2 l2 n2 P2 S2) {b1 b2 : Value} (zr : ZipR s.heap z TI TO g f) (lk : LastOk g)
    (tI : IsTupOf2 s.heap TI (.ref i1) (.ref i2)) (tO : IsTupOf2 s.heap TO b1 b2) (q1 : S1 i s.heap) (q2 : S2 i s.heap) (c1 : i < n1) (c2 : i < n2) {Q : Value → Shared → Prop}
    (fin : ∀ T x y h' tk, P1 i x → P2 i y → s.heap.objs.size ≤ T → IsTupOf2 h' T x y → Drew z TI TO i1 i2 S1 S2 i s.heap h' → Q (.ref T) { s with heap := h', toks := tk }) :
    wpAny (model prog w) A (Builtin.«zip.__next__» ⟨[.ref z], []⟩) (fun r s' => ∃ v, r = .done (.ret v) ∧ Q v s') E s := by
  obtain ⟨hp, gs, dr, tk0, os⟩ := s
  show wpAny _ _ (field (.ref z) 2 >>= _) _ _ _
  refine wpAny_bind (wpAny_field zr rfl (x := .bool false) rfl ?_)
  show wpAny _ _ (field (.ref z) 3 >>= _) _ _ _
  refine wpAny_bind (wpAny_field zr rfl (x := .ref TI) rfl ?_)
  refine wpAny_bind (wpAny_seqItems tI rfl ?_)
  show wpAny _ _ (Builtin.SmallTypes.ownedTupleIsFree (.ref z) >>= _) _ _ _
  refine wpAny_bind (free_or zr lk ?_ fun h1 r1 k1 => ?_)
  · simp only [if_true]
    refine wpAny_bind (wpAny_rule ?_)
    refine wpAny_bind (wpAny_field zr rfl (x := .ref TO) rfl ?_)
    refine wpAny_bind (wpAny_setField_rec zr (by simp) fun m0 zr0 k0 => ?_)
    replace zr0 : ZipR m0 z TI TO .ellipsis f := zr0
    replace k0 : Heap.SameBut z hp m0 := k0
    refine wpAny_bind ?_
    simp only [List.zipIdx_cons, List.zipIdx_nil, List.forIn_cons, List.forIn_nil]
    refine wpAny_bind (wpAny_bind (wpAny_onRaise ?_))
    show wpAny _ _ (Builtin.SmallTypes.nextOf (.ref i1) >>= _) _ _ ⟨m0, gs, dr, tk0, os⟩
    refine wpAny_bind (U1.item i _ _ _ c1 (U1.over q1 k0 Z.zf1) fun x m1 tk1 px sx j1 => wpAny_pure ?_)
    replace j1 : Heap.SameBut i1 m0 m1 := j1
    have t1 : IsTupOf2 m1 TO b1 b2 := j1.extBut _ _ Z.Ti1 (k0.extBut _ _ Z.TOz tO)
    refine wpAny_bind (wpAny_seqItems (s := ⟨m1, gs, dr, tk1, os⟩) t1 rfl ?_)
    refine wpAny_bind (put2 (s := ⟨m1, gs, dr, tk1, os⟩) t1 fun m2 t2 j2 => ?_)
    replace t2 : IsTupOf2 m2 TO x b2 := t2
    replace j2 : Heap.SameBut TO m1 m2 := j2
    refine wpAny_bind (wpAny_letGo (wpAny_pure ?_))
    refine wpAny_bind (wpAny_bind (wpAny_onRaise ?_))
    show wpAny _ _ (Builtin.SmallTypes.nextOf (.ref i2) >>= _) _ _ ⟨m2, gs, dr, tk1, os⟩
    refine wpAny_bind (U2.item i _ _ _ c2 (U2.over (U2.over (U2.over q2 k0 Z.zf2) j1 Z.sep1_2) j2 Z.Tf2) fun y m3 tk2 py sy j3 => wpAny_pure ?_)
    replace j3 : Heap.SameBut i2 m2 m3 := j3
    have t3 : IsTupOf2 m3 TO x b2 := j3.extBut _ _ Z.Ti2 t2
    refine wpAny_bind (wpAny_seqItems (s := ⟨m3, gs, dr, tk2, os⟩) t3 rfl ?_)
    refine wpAny_bind (put2 (s := ⟨m3, gs, dr, tk2, os⟩) t3 fun m4 t4 j4 => ?_)
    replace t4 : IsTupOf2 m4 TO x y := t4
    replace j4 : Heap.SameBut TO m3 m4 := j4
    refine wpAny_bind (wpAny_letGo (wpAny_pure (wpAny_pure ?_)))
    refine wpAny_bind (wpAny_seqItems (s := ⟨m4, gs, dr, tk2, os⟩) t4 rfl ?_)
    refine wpAny_bind (wpAny_newTuple ?_)
    have sz4 : m4.objs.size = hp.objs.size := by rw [j4.1, j3.1, j2.1, j1.1, k0.1]
    have zr4 : ZipR m4 z TI TO .ellipsis f := j4.extBut _ _ Z.TOz.symm (j3.extBut _ _ Z.zi2 (j2.extBut _ _ Z.TOz.symm (j1.extBut _ _ Z.zi1 zr0)))
    have kp : ∀ c o, c ≠ z → c ≠ TO → c ≠ i1 → c ≠ i2 → hp.get? c = some o → m4.get? c = some o := fun c o cz ct d1 d2 e => j4.extBut _ _ ct (j3.extBut _ _ d2 (j2.extBut _ _ ct (j1.extBut _ _ d1 (k0.extBut _ _ cz e))))
    have s1 : S1 (i + 1) m4 := U1.over (U1.over (U1.over sx j2 Z.Tf1) j3 Z.sep2_1) j4 Z.Tf1
    have s2 : S2 (i + 1) m4 := U2.over sy j4 Z.Tf2
    have zlt : z < m4.objs.size := Heap.lt_size zr4
    show wpAny _ _ (Builtin.SmallTypes.ownedTupleHandOut (.ref z) (.ref m4.objs.size) >>= _) _ _ ⟨m4.push { cls := .type "tuple", data := .seq #[x, y] }, gs, dr, tk2, os⟩
    refine wpAny_bind ?_
    unfold Builtin.SmallTypes.ownedTupleHandOut
    have zr5 : ZipR (m4.push { cls := .type "tuple", data := .seq #[x, y] }) z TI TO .ellipsis f := Heap.get?_push_of_some _ zr4
    refine wpAny_bind (wpAny_setField_rec zr5 (by simp) fun m6 zr6 j6 => ?_)
    replace zr6 : ZipR m6 z TI TO (rawInt m4.objs.size) f := zr6
    refine wpAny_setField_rec zr6 (by simp) fun m7 zr7 j7 => ?_
    replace zr7 : ZipR m7 z TI TO (rawInt m4.objs.size) false := zr7
    replace j6 : Heap.SameBut z (m4.push { cls := .type "tuple", data := .seq #[x, y] }) m6 := j6
    replace j7 : Heap.SameBut z m6 m7 := j7
    have up : ∀ c o, c ≠ z → m4.get? c = some o → m7.get? c = some o := fun c o n e => j7.extBut _ _ n (j6.extBut _ _ n (Heap.get?_push_of_some _ e))
    have tN : IsTupOf2 m7 m4.objs.size x y := j7.extBut _ _ (Nat.ne_of_gt zlt) (j6.extBut _ _ (Nat.ne_of_gt zlt) (Heap.get?_push_size _ rfl))
    have sz7 : m7.objs.size = m4.objs.size + 1 := by rw [j7.1, j6.1, Heap.size_push]
    refine wpAny_pure ⟨_, rfl, ?_⟩
    show Q (.ref m4.objs.size) ⟨m7, gs, dr, tk2, os⟩
    refine fin m4.objs.size x y m7 tk2 px py (by show hp.objs.size ≤ _; omega) tN ⟨⟨_, _, zr7, .inr ⟨_, rfl⟩⟩, ⟨_, _, up _ _ Z.TOz t4⟩, U1.frame _ _ _ s1 fun b hb o e => up b o (fun w => Z.zf1 (w ▸ hb)) e, U2.frame _ _ _ s2 fun b hb o e => up b o (fun w => Z.zf2 (w ▸ hb)) e, ?_, fun c o cz ct d1 d2 e => up c o cz (kp c o cz ct d1 d2 e)⟩
    show hp.objs.size ≤ m7.objs.size
    omega
  · replace k1 : Heap.SameBut z hp h1 := k1
    simp only [Bool.false_eq_true, if_false]
    refine wpAny_bind ?_
    rw [← Array.forIn_toList]
    simp only [List.forIn_cons, List.forIn_nil]
    refine wpAny_bind (wpAny_bind (wpAny_holding ?_))
    show wpAny _ _ (Builtin.SmallTypes.nextOf (.ref i1) >>= _) _ _ ⟨h1, gs, dr, tk0, os⟩
    refine wpAny_bind (U1.item i _ _ _ c1 (U1.over q1 k1 Z.zf1) fun x m1 tk1 px sx j1 => wpAny_pure ?_)
    replace j1 : Heap.SameBut i1 h1 m1 := j1
    refine wpAny_pure ?_
    refine wpAny_bind (wpAny_bind (wpAny_holding ?_))
    show wpAny _ _ (Builtin.SmallTypes.nextOf (.ref i2) >>= _) _ _ ⟨m1, gs, dr, tk1, os⟩
    refine wpAny_bind (U2.item i _ _ _ c2 (U2.over (U2.over q2 k1 Z.zf2) j1 Z.sep1_2) fun y m2 tk2 py sy j2 => wpAny_pure ?_)
    replace j2 : Heap.SameBut i2 m1 m2 := j2
    refine wpAny_pure (wpAny_pure ?_)
    show wpAny _ _ (newTuple [x, y] >>= _) _ _ ⟨m2, gs, dr, tk2, os⟩
    refine wpAny_bind (wpAny_newTuple ?_)
    have sz2 : m2.objs.size = hp.objs.size := by rw [j2.1, j1.1, k1.1]
    have zr2 : ZipR m2 z TI TO g true := j2.extBut _ _ Z.zi2 (j1.extBut _ _ Z.zi1 r1)
    have kp : ∀ c o, c ≠ z → c ≠ i1 → c ≠ i2 → hp.get? c = some o → m2.get? c = some o := fun c o cz d1 d2 e => j2.extBut _ _ d2 (j1.extBut _ _ d1 (k1.extBut _ _ cz e))
    have up : ∀ c o, m2.get? c = some o → (m2.push { cls := .type "tuple", data := .seq #[x, y] }).get? c = some o := fun c o e => Heap.get?_push_of_some _ e
    refine wpAny_pure ⟨_, rfl, ?_⟩
    show Q (.ref m2.objs.size) ⟨m2.push { cls := .type "tuple", data := .seq #[x, y] }, gs, dr, tk2, os⟩
    refine fin m2.objs.size x y _ tk2 px py (by show hp.objs.size ≤ _; omega) (Heap.get?_push_size _ rfl) ⟨⟨_, _, up _ _ zr2, lk⟩, ⟨_, _, up _ _ (kp _ _ Z.TOz Z.Ti1 Z.Ti2 tO)⟩, U1.frame _ _ _ (U1.over sx j2 Z.sep2_1) fun b _ o e => up b o e, U2.frame _ _ _ sy fun b _ o e => up b o e, ?_, fun c o cz _ d1 d2 e => up c o (kp c o cz d1 d2 e)⟩
    show hp.objs.size ≤ (m2.push _).objs.size
    rw [Heap.size_push]; omega
theorem zip_stop (Z : ZipSep2 z TI TO i1 i2 l1 l2) (U1 : Draws prog w A i1 l1 n1 P1 S1) (U2 : Draws prog w A i2 l2 n2 P2 S2) {b1 b2 : Value} (zr : ZipR s.heap z TI TO g f) (lk : LastOk g)
    (tI : IsTupOf2 s.heap TI (.ref i1) (.ref i2)) (tO : IsTupOf2 s.heap TO b1 b2) (q1 : S1 i s.heap) (q2 : S2 i s.heap) (c1 : i ≤ n1) (c2 : i ≤ n2) (over : i = n1 ∨ i = n2) {Q : PySem.Fin → Shared → Prop}
    (fin : ∀ h' tk e, (∀ c o, c ≠ z → c ≠ TO → c ≠ i1 → c ≠ i2 → s.heap.get? c = some o → h'.get? c = some o) → (∃ o, h'.get? e = some o ∧ o.cls = .type "StopIteration") → E (.ref e) { s with heap := h', toks := tk }) :
    wpAny (model prog w) A (Builtin.«zip.__next__» ⟨[.ref z], []⟩) Q E s := by
  obtain ⟨hp, gs, dr, tk0, os⟩ := s
  show wpAny _ _ (field (.ref z) 2 >>= _) _ _ _
  refine wpAny_bind (wpAny_field zr rfl (x := .bool false) rfl ?_)
  show wpAny _ _ (field (.ref z) 3 >>= _) _ _ _
  refine wpAny_bind (wpAny_field zr rfl (x := .ref TI) rfl ?_)
  refine wpAny_bind (wpAny_seqItems tI rfl ?_)
  show wpAny _ _ (Builtin.SmallTypes.ownedTupleIsFree (.ref z) >>= _) _ _ _
  refine wpAny_bind (free_or zr lk ?_ fun h1 r1 k1 => ?_)
  · simp only [if_true]
    refine wpAny_bind (wpAny_rule ?_)
    refine wpAny_bind (wpAny_field zr rfl (x := .ref TO) rfl ?_)
    refine wpAny_bind (wpAny_setField_rec zr (by simp) fun m0 zr0 k0 => ?_)
    replace zr0 : ZipR m0 z TI TO .ellipsis f := zr0
    replace k0 : Heap.SameBut z hp m0 := k0
    refine wpAny_bind ?_
    simp only [List.zipIdx_cons, List.zipIdx_nil, List.forIn_cons, List.forIn_nil]
    refine wpAny_bind (wpAny_bind (wpAny_onRaise ?_))
    show wpAny _ _ (Builtin.SmallTypes.nextOf (.ref i1) >>= _) _ _ ⟨m0, gs, dr, tk0, os⟩
    by_cases lt : i < n1
    · refine wpAny_bind (U1.item i _ _ _ lt (U1.over q1 k0 Z.zf1) fun x m1 tk1 px sx j1 => wpAny_pure ?_)
      replace j1 : Heap.SameBut i1 m0 m1 := j1
      have t1 : IsTupOf2 m1 TO b1 b2 := j1.extBut _ _ Z.Ti1 (k0.extBut _ _ Z.TOz tO)
      refine wpAny_bind (wpAny_seqItems (s := ⟨m1, gs, dr, tk1, os⟩) t1 rfl ?_)
      refine wpAny_bind (put2 (s := ⟨m1, gs, dr, tk1, os⟩) t1 fun m2 t2 j2 => ?_)
      replace j2 : Heap.SameBut TO m1 m2 := j2
      refine wpAny_bind (wpAny_letGo (wpAny_pure ?_))
      have ei : i = n2 := by omega
      refine wpAny_bind (wpAny_bind (wpAny_onRaise ?_))
      show wpAny _ _ (Builtin.SmallTypes.nextOf (.ref i2) >>= _) _ _ ⟨m2, gs, dr, tk1, os⟩
      refine wpAny_bind (U2.done ⟨m2, gs, dr, tk1, os⟩ _ _ (by rw [← ei]; exact U2.over (U2.over (U2.over q2 k0 Z.zf2) j1 Z.sep1_2) j2 Z.Tf2) fun m3 e j3 he => ?_)
      replace j3 : Heap.ExtBut i2 m2 m3 := j3
      obtain ⟨oe, ho, hc⟩ := he
      replace ho : m3.get? e = some oe := ho
      have zr3 : ZipR m3 z TI TO .ellipsis f := j3 _ _ Z.zi2 (j2.extBut _ _ Z.TOz.symm (j1.extBut _ _ Z.zi1 zr0))
      have ne : e ≠ z := fun x => by subst x; rw [zr3] at ho; cases ho; simp at hc
      refine wpAny_setField_rec (s := ⟨m3, gs, dr, tk1, os⟩) zr3 (by simp) fun m4 _ j4 => ?_
      replace j4 : Heap.SameBut z m3 m4 := j4
      exact fin m4 tk1 e (fun c o cz ct d1 d2 x => j4.extBut _ _ cz (j3 _ _ d2 (j2.extBut _ _ ct (j1.extBut _ _ d1 (k0.extBut _ _ cz x))))) ⟨oe, j4.extBut _ _ ne ho, hc⟩
    · have ei : i = n1 := by omega
      refine wpAny_bind (U1.done ⟨m0, gs, dr, tk0, os⟩ _ _ (by rw [← ei]; exact U1.over q1 k0 Z.zf1) fun m3 e j3 he => ?_)
      replace j3 : Heap.ExtBut i1 m0 m3 := j3
      obtain ⟨oe, ho, hc⟩ := he
      replace ho : m3.get? e = some oe := ho
      have zr3 : ZipR m3 z TI TO .ellipsis f := j3 _ _ Z.zi1 zr0
      have ne : e ≠ z := fun x => by subst x; rw [zr3] at ho; cases ho; simp at hc
      refine wpAny_setField_rec (s := ⟨m3, gs, dr, tk0, os⟩) zr3 (by simp) fun m4 _ j4 => ?_
      replace j4 : Heap.SameBut z m3 m4 := j4
      exact fin m4 tk0 e (fun c o cz ct d1 d2 x => j4.extBut _ _ cz (j3 _ _ d1 (k0.extBut _ _ cz x))) ⟨oe, j4.extBut _ _ ne ho, hc⟩
  · replace k1 : Heap.SameBut z hp h1 := k1
    simp only [Bool.false_eq_true, if_false]
    refine wpAny_bind ?_
    rw [← Array.forIn_toList]
    simp only [List.forIn_cons, List.forIn_nil]
    refine wpAny_bind (wpAny_bind (wpAny_holding ?_))
    show wpAny _ _ (Builtin.SmallTypes.nextOf (.ref i1) >>= _) _ _ ⟨h1, gs, dr, tk0, os⟩
    by_cases lt : i < n1
    · refine wpAny_bind (U1.item i _ _ _ lt (U1.over q1 k1 Z.zf1) fun x m1 tk1 px sx j1 => wpAny_pure ?_)
      replace j1 : Heap.SameBut i1 h1 m1 := j1
      refine wpAny_pure ?_
      have ei : i = n2 := by omega
      refine wpAny_bind (wpAny_bind (wpAny_holding ?_))
      show wpAny _ _ (Builtin.SmallTypes.nextOf (.ref i2) >>= _) _ _ ⟨m1, gs, dr, tk1, os⟩
      refine wpAny_bind (U2.done ⟨m1, gs, dr, tk1, os⟩ _ _ (by rw [← ei]; exact U2.over (U2.over q2 k1 Z.zf2) j1 Z.sep1_2) fun m3 e j3 he => ?_)
      replace j3 : Heap.ExtBut i2 m1 m3 := j3
      exact fin m3 tk1 e (fun c o cz ct d1 d2 x => j3 _ _ d2 (j1.extBut _ _ d1 (k1.extBut _ _ cz x))) he
    · have ei : i = n1 := by omega
      refine wpAny_bind (U1.done ⟨h1, gs, dr, tk0, os⟩ _ _ (by rw [← ei]; exact U1.over q1 k1 Z.zf1) fun m3 e j3 he => ?_)
      replace j3 : Heap.ExtBut i1 h1 m3 := j3
      exact fin m3 tk0 e (fun c o cz ct d1 d2 x => j3 _ _ d1 (k1.extBut _ _ cz x)) he
end

/-! ### two new objects at once -/
theorem turned2 {X : Cx} {pins : List (Addr × Obj)} {σ : L2.St} {H : Hp} {s : Shared} {h' : Heap} {t' : Nat} {ch : List Addr} {T1 T2 : Addr} {o1 o2 : HO} (I : Inv X pins σ H s) (k : ∀ b o, b ∉ ch → s.heap.get? b = some o → h'.get? b = some o) (hf : ∀ b ∈ ch, FpOk X pins H b)
    (g1 : s.heap.objs.size ≤ T1) (g2 : s.heap.objs.size ≤ T2) (new1 : ObjOk X.prog X.w (upd (upd H T1 o1) T2 o2) h' T1 o1) (new2 : ObjOk X.prog X.w (upd (upd H T1 o1) T2 o2) h' T2 o2) (ne : T1 ≠ T2) : Inv X pins σ (upd (upd H T1 o1) T2 o2) { s with heap := h', toks := t' } := by
  have f1 : H T1 = none := I.hok.fresh g1
  have f2 : H T2 = none := I.hok.fresh g2
  have same : ∀ b u, H b = some u → (upd (upd H T1 o1) T2 o2) b = some u := fun b u e => by rw [upd_ne (ne_of_none e f2), upd_ne (ne_of_none e f1)]; exact e
  have nit : ∀ b u, H b = some u → b ∉ ch := fun b u e z => by
    have q := (hf b z).1
    rw [q] at e; cases e
  refine I.step (g' := s.gens) (d' := s.drawn) (ch := ch) (fun b hb => let ⟨_, a2, _, a4, a5, a6⟩ := hf b hb; ⟨a4, a2, a5, a6⟩) (fun b o _ _ hc e _ => k b o hc e) (fun b o _ _ hc e _ => ⟨_, k b o hc e⟩)
    (fun b o _ e n => ?_) (fun b o hc e => ⟨_, k b o hc e⟩) (fun b xs e => same b _ e) (fun b o u e => same b _ e) (fun b ps e => ⟨#[], ?_⟩) (fun m hm => ?_) (fun b u e => ?_) I.bare
  · have lt := Heap.lt_size e
    rw [upd_ne (Nat.ne_of_lt (Nat.lt_of_lt_of_le lt g2)), upd_ne (Nat.ne_of_lt (Nat.lt_of_lt_of_le lt g1))]; exact n
  · rw [same b _ e]; simp
  · obtain ⟨o, es, ep, ho, r⟩ := hm
    exact ⟨o, es, ep, k _ o (fun z => (hf _ z).2.1 rfl) ho, r⟩
  · by_cases b2 : b = T2
    · subst b2
      rw [upd_same] at e
      cases e
      exact new2
    · rw [upd_ne b2] at e
      by_cases b1 : b = T1
      · subst b1
        rw [upd_same] at e
        cases e
        exact new1
      · rw [upd_ne b1] at e
        exact (I.hok b u e).stay (fun c v hc q => k c v (hc.elim (fun w => by rw [w]; exact nit b u e) fun w => nit c _ w) q) (fun c q => same c _ q) fun c xs q => same c _ q

/-! ### enumerate over such a zip -/
def itEZ (K : PySem.W.Frag) (b1 b2 : Bool) (a b : Addr) : It :=
  ⟨goZ K b1 b2 a b, fun i H v H' => ∃ T1 T2 x y, v = .ref T2 ∧ H T1 = none ∧ H T2 = none ∧ T1 ≠ T2 ∧ H' = upd (upd H T1 (.tup [x, y])) T2 (.tup [.int (i : Nat), .ref T1]) ∧ valZ K b1 b2 a b i H [x, y], stopZ K b1 b2 a b⟩
def tnEZ (b1 b2 : Bool) (e z TI TO i1 i2 a b : Addr) : Nat → Heap → Prop := fun i h => (∃ old, IsEnum h e z (0 + ((i : Nat) : Int)) old) ∧ (∃ g f, ZipR h z TI TO g f ∧ LastOk g) ∧ IsTupOf2 h TI (.ref i1) (.ref i2) ∧ (∃ a1 a2, IsTupOf2 h TO a1 a2) ∧ ItB b1 h i1 a i ∧ ItB b2 h i2 b i
theorem next_zip {prog : Program} {w : World} {A : Around} {E : Value → Shared → Prop} {s : Shared} {z TI TO : Addr} {g : Value} {f : Bool} {Q : Value → Shared → Prop} (zr : ZipR s.heap z TI TO g f)
    (h : wpAny (model prog w) A.in1 (Builtin.«zip.__next__» ⟨[.ref z], []⟩) (fun r s' => ∃ v, r = .done (.ret v) ∧ Q v s') E s) : wpAny (model prog w) A (Builtin.SmallTypes.nextOf (.ref z)) Q E s := by
  have ty : s.TypeIs (.ref z) "zip" := ⟨_, zr, rfl⟩
  unfold Builtin.SmallTypes.nextOf
  refine wpAny_bind (wpAny_callSpecial?_slot (name := Str.ofString "__next__") ty F.slot_zip_next (wpAny_call_entry F.slot_zip_next ty F.entry_zip_next ?_ (F.args_zip_next_1 _)))
  refine wpAny_mono h (fun r s' hr => ?_) fun _ _ q => q
  obtain ⟨v, e, q⟩ := hr
  subst e
  exact ⟨_, rfl, wpAny_pure q⟩

section
variable {prog : Program} {w : World} {A : Around} {E : Value → Shared → Prop} {s : Shared} {e z TI TO i1 i2 : Addr} {l1 l2 : List Addr} {n1 n2 i : Nat} {P1 P2 : Nat → Value → Prop} {S1 S2 : Nat → Heap → Prop} {g : Value} {f : Bool} {c : Int} {old : Value}
theorem ez_item (Z : ZipSep2 z TI TO i1 i2 l1 l2) (U1 : Draws prog w A.in1 i1 l1 n1 P1 S1) (U2 : Draws prog w A.in1 i2 l2 n2 P2 S2) (he : IsEnum s.heap e z c old) {b1 b2 : Value} (zr : ZipR s.heap z TI TO g f) (lk : LastOk g)
    (tI : IsTupOf2 s.heap TI (.ref i1) (.ref i2)) (tO : IsTupOf2 s.heap TO b1 b2) (q1 : S1 i s.heap) (q2 : S2 i s.heap) (c1 : i < n1) (c2 : i < n2) (ez : e ≠ z) (eO : e ≠ TO) (e1 : e ∉ l1) (e2 : e ∉ l2) {Q : Value → Shared → Prop}
    (fin : ∀ T1 T2 x y t h' tk, P1 i x → P2 i y → s.heap.objs.size ≤ T1 → s.heap.objs.size ≤ T2 → T1 ≠ T2 → IsTupOf2 h' T1 x y → h'.get? T2 = some { cls := .type "tuple", data := .seq #[.int c t, .ref T1] } → IsEnumOut h' e z (c + 1) (.ref T1) T2 → Drew z TI TO i1 i2 S1 S2 i s.heap h'  ∨ True →
      (∃ g f, ZipR h' z TI TO g f ∧ LastOk g) → (∃ a1 a2, IsTupOf2 h' TO a1 a2) → S1 (i + 1) h' → S2 (i + 1) h' → (∀ c o, c ≠ e → c ≠ z → c ≠ TO → c ≠ i1 → c ≠ i2 → s.heap.get? c = some o → h'.get? c = some o) → Q (.ref T2) { s with heap := h', toks := tk }) :
    wpAny (model prog w) A (Builtin.«enumerate.__next__» ⟨[.ref e], []⟩) (fun r s' => ∃ v, r = .done (.ret v) ∧ Q v s') E s := by
  obtain ⟨hp, gs, dr, tk0, os⟩ := s
  have ne1 : e ≠ i1 := fun w => e1 (by rw [w]; exact Z.mem1)
  have ne2 : e ≠ i2 := fun w => e2 (by rw [w]; exact Z.mem2)
  show wpAny _ _ (field (.ref e) 2 >>= _) _ _ _
  refine wpAny_bind (wpAny_field he rfl (x := .ref z) rfl ?_)
  refine wpAny_bind (next_zip zr (zip_item Z U1 U2 zr lk tI tO q1 q2 c1 c2 fun T1 x y m1 tk1 px py g1 tN dw => ?_))
  replace g1 : hp.objs.size ≤ T1 := g1
  have big1 : hp.objs.size ≤ m1.objs.size := dw.big
  have he1 : IsEnum m1 e z c old := dw.keep _ _ ez eO ne1 ne2 he
  have l1 : T1 < m1.objs.size := Heap.lt_size tN
  have eT : e ≠ T1 := Nat.ne_of_lt (Nat.lt_of_lt_of_le (Heap.lt_size (show hp.get? e = _ from he)) g1)
  show wpAny _ _ (field (.ref e) 3 >>= _) _ _ ⟨m1, gs, dr, tk1, os⟩
  refine wpAny_bind (wpAny_field he1 rfl (x := rawInt c) rfl ?_)
  show wpAny _ _ (field (.ref e) 4 >>= _) _ _ ⟨m1, gs, dr, tk1, os⟩
  refine wpAny_bind (wpAny_field he1 rfl (x := .none) rfl ?_)
  show wpAny _ _ (mkInt c >>= _) _ _ ⟨m1, gs, dr, tk1, os⟩
  refine wpAny_bind (wpAny_mkInt ?_)
  show wpAny _ _ (setField (.ref e) 3 (rawInt (c + 1)) >>= _) _ _ ⟨m1, gs, dr, tk1 + 1, os⟩
  refine wpAny_bind (wpAny_setField_rec he1 (by simp) fun m2 he2 k2 => ?_)
  replace k2 : Heap.SameBut e m1 m2 := k2
  replace he2 : IsEnum m2 e z (c + 1) old := he2
  show wpAny _ _ (setField (.ref e) 4 .none >>= _) _ _ ⟨m2, gs, dr, tk1 + 1, os⟩
  refine wpAny_bind (wpAny_setField_rec he2 (by simp) fun m3 he3 k3 => ?_)
  replace k3 : Heap.SameBut e m2 m3 := k3
  replace he3 : IsEnum m3 e z (c + 1) old := he3
  show wpAny _ _ (newTuple [.int c tk1, .ref T1] >>= _) _ _ ⟨m3, gs, dr, tk1 + 1, os⟩
  refine wpAny_bind (wpAny_newTuple ?_)
  have sz3 : m3.objs.size = m1.objs.size := by rw [k3.1, k2.1]
  have he4 : IsEnum (m3.push { cls := .type "tuple", data := .seq #[.int c tk1, .ref T1] }) e z (c + 1) old := Heap.get?_push_of_some _ he3
  have t4 : (m3.push { cls := .type "tuple", data := .seq #[.int c tk1, .ref T1] }).get? m3.objs.size = some { cls := .type "tuple", data := .seq #[.int c tk1, .ref T1] } := Heap.get?_push_size _ rfl
  have up4 : ∀ b o, b ≠ e → m1.get? b = some o → (m3.push { cls := .type "tuple", data := .seq #[.int c tk1, .ref T1] }).get? b = some o := fun b o n q => Heap.get?_push_of_some _ (k3.extBut _ _ n (k2.extBut _ _ n q))
  have neT : e ≠ m3.objs.size := Nat.ne_of_lt (Heap.lt_size he3)
  generalize (m3.push { cls := .type "tuple", data := .seq #[.int c tk1, .ref T1] }) = m4 at he4 t4 up4
  show wpAny _ _ (Builtin.SmallTypes.ownedTupleIsFree (.ref e) >>= _) _ _ ⟨m4, gs, dr, tk1 + 1, os⟩
  refine wpAny_bind ?_
  unfold Builtin.SmallTypes.ownedTupleIsFree
  refine wpAny_bind (wpAny_field he4 rfl (x := .none) rfl (wpAny_pure ?_))
  simp only [if_true]
  refine wpAny_bind (wpAny_rule ?_)
  refine wpAny_bind (wpAny_field he4 rfl (x := old) rfl ?_)
  refine wpAny_bind (wpAny_setField_rec he4 (by simp) fun m5 he5 k5 => ?_)
  replace k5 : Heap.SameBut e m4 m5 := k5
  replace he5 : IsEnum m5 e z (c + 1) (.ref T1) := he5
  show wpAny _ _ (Builtin.SmallTypes.ownedTupleHandOut (.ref e) (.ref m3.objs.size) >>= _) _ _ ⟨m5, gs, dr, tk1 + 1, os⟩
  refine wpAny_bind ?_
  unfold Builtin.SmallTypes.ownedTupleHandOut
  refine wpAny_bind (wpAny_setField_rec he5 (by simp) fun m6 he6 k6 => ?_)
  replace k6 : Heap.SameBut e m5 m6 := k6
  replace he6 : IsEnumOut m6 e z (c + 1) (.ref T1) m3.objs.size := he6
  refine wpAny_setField_rec he6 (by simp) fun m7 he7 k7 => ?_
  replace k7 : Heap.SameBut e m6 m7 := k7
  replace he7 : IsEnumOut m7 e z (c + 1) (.ref T1) m3.objs.size := he7
  have up7 : ∀ b o, b ≠ e → m4.get? b = some o → m7.get? b = some o := fun b o n q => k7.extBut _ _ n (k6.extBut _ _ n (k5.extBut _ _ n q))
  have up : ∀ b o, b ≠ e → m1.get? b = some o → m7.get? b = some o := fun b o n q => up7 b o n (up4 b o n q)
  obtain ⟨gg, ff, zr1, lk1⟩ := dw.rcd
  obtain ⟨a1, a2, tO1⟩ := dw.out
  refine wpAny_bind (wpAny_letGo (wpAny_pure ⟨_, rfl, ?_⟩))
  refine fin T1 m3.objs.size x y tk1 m7 (tk1 + 1) px py g1 (by show hp.objs.size ≤ _; omega) (Nat.ne_of_lt (by omega)) (up _ _ eT.symm tN) (up7 _ _ neT.symm t4) he7 (.inr trivial) ⟨gg, ff, up _ _ ez.symm zr1, lk1⟩ ⟨a1, a2, up _ _ eO.symm tO1⟩
    (U1.frame _ _ _ dw.st1 fun b hb o q => up b o (fun w => e1 (w ▸ hb)) q) (U2.frame _ _ _ dw.st2 fun b hb o q => up b o (fun w => e2 (w ▸ hb)) q) fun b o ne nz nO n1 n2 q => up b o ne (dw.keep b o nz nO n1 n2 q)
end
theorem turn_ez {P : Program} {w : World} {K : PySem.W.Frag} {b1 b2 : Bool} {e z TI TO i1 i2 a b : Addr} {elts : List Expr} {k : Nat} {pos : Pos} (Z : ZipSep2 z TI TO i1 i2 [i1, a] [i2, b]) (ha : a ≠ i1) (hb : b ≠ i2) (ez : e ≠ z) (eI : e ≠ TI) (eO : e ≠ TO) (e1 : e ∉ [i1, a]) (e2 : e ∉ [i2, b]) :
    Turn P w K (.Tuple elts k pos) (itEZ K b1 b2 a b) [e, z, TI, TO, i1, i2] e (tnEZ b1 b2 e z TI TO i1 i2 a b) where
  mem := by simp
  obj := fun i h st c hc => by
    obtain ⟨⟨old, he⟩, ⟨g, f, zr, _⟩, tI, ⟨x, y, tO⟩, h1, h2⟩ := st
    have e' : c = e ∨ c = z ∨ c = TI ∨ c = TO ∨ c = i1 ∨ c = i2 := by simpa using hc
    rcases e' with q | q | q | q | q | q
    · rw [q]; exact ⟨_, he, fun v q => nomatch q⟩
    · rw [q]; exact ⟨_, zr, fun v q => nomatch q⟩
    · rw [q]; exact ⟨_, tI, fun v q => nomatch q⟩
    · rw [q]; exact ⟨_, tO, fun v q => nomatch q⟩
    · rw [q]; exact h1.obj
    · rw [q]; exact h2.obj
  keep := fun i h h' st kp => by
    obtain ⟨⟨old, he⟩, ⟨g, f, zr, lk⟩, tI, ⟨x, y, tO⟩, h1, h2⟩ := st
    exact ⟨⟨old, kp e (by simp) _ he⟩, ⟨g, f, kp z (by simp) _ zr, lk⟩, kp TI (by simp) _ tI, ⟨x, y, kp TO (by simp) _ tO⟩, h1.at fun o q => kp i1 (by simp) o q, h2.at fun o q => kp i2 (by simp) o q⟩
  item := by
    intro X hP hw hK hc i pins s σ H E Iv hf st hg
    have hh := Iv.ok.hd hc
    subst hP hw hK
    obtain ⟨⟨old, he⟩, ⟨g, f, zr, lk⟩, tI, ⟨x0, y0, tO⟩, h1, h2⟩ := st
    obtain ⟨xs, ys, x, y, hqx, hqy, hx, hy⟩ := hg
    obtain ⟨its, rv, p, la⟩ := hqx.raw Iv
    obtain ⟨its2, rv2, p2, lb⟩ := hqy.raw Iv
    have hi1 : i < xs.length := (List.getElem?_eq_some_iff.mp hx).1
    have hi2 : i < ys.length := (List.getElem?_eq_some_iff.mp hy).1
    have l1 := rv.length
    have l2 := rv2.length
    have ty : s.TypeIs (.ref e) "enumerate" := ⟨_, he, rfl⟩
    unfold pyNext
    refine wpAny_bind (wpAny_attempt (wpAny_callSpecial?_slot (name := Str.ofString "__next__") ty F.slot_enumerate_next (wpAny_call_entry F.slot_enumerate_next ty F.entry_enumerate_next ?_ (F.args_enumerate_next_1 _))))
    refine ez_item Z (draws_b (A := X.A.in1.in1) hh b1 i1 a ha its.toArray) (draws_b (A := X.A.in1.in1) hh b2 i2 b hb its2.toArray) he zr lk tI tO ⟨h1, p⟩ ⟨h2, p2⟩ (by simp only [List.size_toArray]; omega) (by simp only [List.size_toArray]; omega) ez eO e1 e2 fun T1 T2 u1 u2 t h' tk px py g1 g2 ne12 tN t2 eo _ zr' tO' s1 s2 kp => ?_
    refine wpAny_pure ⟨_, rfl, ?_⟩
    refine wpAny_letOwnedTupleGo_enum eo fun h'' he' k2 => ?_
    replace k2 : Heap.SameBut e h' h'' := k2
    obtain ⟨v1, hv1, r1⟩ := rv.get hx
    obtain ⟨v2, hv2, r2⟩ := rv2.get hy
    have q1 : v1 = u1 := Option.some.inj (hv1.symm.trans (by simpa using px))
    have q2 : v2 = u2 := Option.some.inj (hv2.symm.trans (by simpa using py))
    subst q1 q2
    have lte : e < s.heap.objs.size := Heap.lt_size he
    have tN' : IsTupOf2 h'' T1 v1 v2 := k2.extBut _ _ (Nat.ne_of_gt (Nat.lt_of_lt_of_le lte g1)) tN
    have t2' := k2.extBut _ _ (Nat.ne_of_gt (Nat.lt_of_lt_of_le lte g2)) t2
    obtain ⟨gg, ff, zr1, lk1⟩ := zr'
    obtain ⟨a1, a2, tO1⟩ := tO'
    have f1 : H T1 = none := Iv.hok.fresh g1
    have f2 : H T2 = none := Iv.hok.fresh g2
    have ltTI : TI ≠ i1 ∧ TI ≠ i2 ∧ TI ≠ TO ∧ TI ≠ z := ⟨Z.TIi1, Z.TIi2, Z.TITO, Z.TIz⟩
    refine ⟨.ref T2, _, turned2 (s := s) (h' := h'') (t' := tk) (ch := [e, z, TI, TO, i1, i2]) (o1 := .tup [x, y]) (o2 := .tup [.int (i : Nat), .ref T1]) Iv (fun c o hc q => ?_) hf g1 g2 ?_ ?_ ne12, rfl, ⟨T1, T2, x, y, rfl, f1, f2, ne12, rfl, x, y, rfl, fun l hl => by rw [hl.inj Iv hqx]; exact hx, fun l hl => by rw [hl.inj Iv hqy]; exact hy⟩, ?_, fun c hc => ?_⟩
    · have n : c ≠ e ∧ c ≠ z ∧ c ≠ TI ∧ c ≠ TO ∧ c ≠ i1 ∧ c ≠ i2 := by simpa using hc
      exact k2.extBut _ _ n.1 (kp c o n.1 n.2.1 n.2.2.2.1 n.2.2.2.2.1 n.2.2.2.2.2 q)
    · exact ⟨by show 2 ≤ sizeLine; decide, [v1, v2], .cons r1 (.cons r2 .nil), ⟨_, tN', rfl, _, rfl⟩⟩
    · exact ⟨by show 2 ≤ sizeLine; decide, [.int (0 + (i : Int)) t, .ref T1], .cons ⟨t, by rw [Int.zero_add]⟩ (.cons rfl .nil), ⟨_, t2', rfl, _, rfl⟩⟩
    · have nx : (0 : Int) + ((i + 1 : Nat) : Int) = 0 + (i : Int) + 1 := by omega
      refine ⟨⟨.ref T1, by rw [nx]; exact he'⟩, ⟨gg, ff, k2.extBut _ _ ez.symm zr1, lk1⟩, k2.extBut _ _ eI.symm (kp TI _ eI.symm ltTI.2.2.2 ltTI.2.2.1 ltTI.1 ltTI.2.1 tI), ⟨a1, a2, k2.extBut _ _ eO.symm tO1⟩, s1.1.at fun o q => k2.extBut _ _ (fun w => e1 (by rw [w]; simp)) q, s2.1.at fun o q => k2.extBut _ _ (fun w => e2 (by rw [w]; simp)) q⟩
    · have hc' : c = e ∨ c = z ∨ c = TI ∨ c = TO ∨ c = i1 ∨ c = i2 := by simpa using hc
      have ex : ∃ o, s.heap.get? c = some o := by
        rcases hc' with q | q | q | q | q | q
        · rw [q]; exact ⟨_, he⟩
        · rw [q]; exact ⟨_, zr⟩
        · rw [q]; exact ⟨_, tI⟩
        · rw [q]; exact ⟨_, tO⟩
        · rw [q]; obtain ⟨o, ho, _⟩ := h1.obj; exact ⟨o, ho⟩
        · rw [q]; obtain ⟨o, ho, _⟩ := h2.obj; exact ⟨o, ho⟩
      obtain ⟨o, ho⟩ := ex
      have lt := Heap.lt_size ho
      rw [upd_ne (Nat.ne_of_lt (Nat.lt_of_lt_of_le lt g2)), upd_ne (Nat.ne_of_lt (Nat.lt_of_lt_of_le lt g1))]
      exact (hf c hc).1
  done := by
    intro X hP hw hK hc i pins s σ H E Iv hf st hg
    have hh := Iv.ok.hd hc
    subst hP hw hK
    obtain ⟨⟨old, he⟩, ⟨g, f, zr, lk⟩, tI, ⟨x0, y0, tO⟩, h1, h2⟩ := st
    obtain ⟨xs, ys, hqx, hqy, hi⟩ := hg
    obtain ⟨its, rv, p, la⟩ := hqx.raw Iv
    obtain ⟨its2, rv2, p2, lb⟩ := hqy.raw Iv
    have l1 := rv.length
    have l2 := rv2.length
    have ty : s.TypeIs (.ref e) "enumerate" := ⟨_, he, rfl⟩
    unfold pyNext
    refine wpAny_bind (wpAny_attempt (wpAny_callSpecial?_slot (name := Str.ofString "__next__") ty F.slot_enumerate_next (wpAny_call_entry F.slot_enumerate_next ty F.entry_enumerate_next ?_ (F.args_enumerate_next_1 _))))
    show wpAny _ _ (field (.ref e) 2 >>= _) _ _ _
    refine wpAny_bind (wpAny_field he rfl (x := .ref z) rfl ?_)
    refine wpAny_bind (next_zip zr (zip_stop Z (draws_b (A := X.A.in1.in1) hh b1 i1 a ha its.toArray) (draws_b (A := X.A.in1.in1) hh b2 i2 b hb its2.toArray) zr lk tI tO ⟨h1, p⟩ ⟨h2, p2⟩ (by simp only [List.size_toArray]; omega) (by simp only [List.size_toArray]; omega) (by simp only [List.size_toArray]; omega) fun h' tk e' kp hx => ?_))
    obtain ⟨o, ho, hc'⟩ := hx
    refine wpAny_bind (wpAny_isInstance (T := "StopIteration") (b := true) ⟨o, ho, hc'⟩ isSubtype_stop ?_)
    refine wpAny_pure ⟨rfl, ?_⟩
    exact Iv.turnedL (ch := [e, z, TI, TO, i1, i2]) (fun c o hc q => by
      have n : c ≠ e ∧ c ≠ z ∧ c ≠ TI ∧ c ≠ TO ∧ c ≠ i1 ∧ c ≠ i2 := by simpa using hc
      exact kp c o n.2.1 n.2.2.2.1 n.2.2.2.2.1 n.2.2.2.2.2 q) hf
  self := fun A i s Q E st h => let ⟨⟨_, he⟩, _⟩ := st; wpAny_pyIter_enum he h

theorem meets_enumZ {z TI TO : Addr} :
    Meets (Builtin.«enumerate.__new__» ⟨[.type "enumerate", .ref z], []⟩) (fun _ R s => IsZip s.heap z TI TO .none ∧
      R (.ok (.ret (.ref s.heap.objs.size))) { s with heap := s.heap.push { cls := .type "enumerate", data := .fields #[.none, .bool false, .ref z, rawInt 0, .none, .none] } }) :=
  .of_wp fun prog w A R s h => by
    obtain ⟨hp, g, d, tk, os⟩ := s; obtain ⟨hl, h⟩ := h
    have hsub := sub_enumerate
    have q1 : ∀ {A' : Around} {E : Value → Shared → Prop} {Q : Value → Shared → Prop}, Q (.ref z) ⟨hp, g, d, tk, os⟩ → wpAny (model prog w) A' (pyIter (.ref z)) Q E ⟨hp, g, d, tk, os⟩ :=
      fun q => wpAny_pyIter_zip (s := ⟨hp, g, d, tk, os⟩) hl q
    wp_walk
    refine wpAny_stack_any fun st => wpAny_pure ?_
    split
    · rename_i c _ _ _ _ _
      cases (c == Value.type "enumerate")
      · wp_walk using q1
        exact ⟨_, rfl, h⟩
      · wp_walk using q1
        exact ⟨_, rfl, h⟩
    · wp_walk using q1
      exact ⟨_, rfl, h⟩
theorem enum_zip {prog : Program} {w : World} {A : Around} {E : Value → Shared → Prop} {s : Shared} {z TI TO : Addr} {Q : Value → Shared → Prop} (hz : IsZip s.heap z TI TO .none)
    (h : ∀ h', IsEnum h' s.heap.objs.size z 0 .none → (∀ b u, s.heap.get? b = some u → h'.get? b = some u) → Q (.ref s.heap.objs.size) { s with heap := h' }) :
    wpAny (model prog w) A (call (.type "enumerate") [.ref z]) Q E s := by
  refine callType_new F.called_enumerate (by decide) (F.typeCall_enumerate_1 _) (F.newCall_enumerate_1 _) (fun obj => F.args_object_init_2 obj _) F.entry_enumerate_new (meets_enumZ (TI := TI) (TO := TO)) ⟨hz, ?_⟩
  have he : IsEnum (s.heap.push { cls := .type "enumerate", data := .fields #[.none, .bool false, .ref z, rawInt 0, .none, .none] }) s.heap.objs.size z 0 .none := Heap.get?_push_size _ rfl
  exact ⟨⟨_, he, rfl⟩, h _ he fun b u x => Heap.get?_push_of_some _ x⟩
def iEZ (K : PySem.W.Frag) (ta : TA) : TI := fun σ H R => ta σ H fun vs H1 => ∃ a b b1 b2 xs ys, vs = [.ref a, .ref b] ∧ SqB K b1 H1 a xs ∧ SqB K b2 H1 b ys ∧ R (itEZ K b1 b2 a b) H1
theorem pi_ez {X : Cx} {e e2 : Expr} {ta : TA} {p pos p2 pos2 tpos : Pos} {elts : List Expr} {kk : Nat} (hg0 : Gl X "enumerate") (hm0 : X.mg "enumerate" = none) (hg : Gl X "zip") (hm : X.mg "zip" = none) (ha : PA X [e, e2] ta)
    (hs0 : starEach [.Call (.Name "zip" p2) [e, e2] [] pos2] X.env = (false, eval (.Call (.Name "zip" p2) [e, e2] [] pos2) X.env) :: starEach [] X.env := by rfl)
    (hs : starEach [e, e2] X.env = (false, eval e X.env) :: starEach [e2] X.env := by rfl) (hpl : (backTo pos2 (starEach [e2] X.env)).any (·.1) = false := by rfl) :
    PI X (.Tuple elts kk tpos) (.Call (.Name "enumerate" p) [.Call (.Name "zip" p2) [e, e2] [] pos2] [] pos) (iEZ X.K ta) := by
  refine ⟨fun pn st sg Hh Rr In hw => ?_⟩
  refine Call_ (ld_blt In hg0 hm0 boot_enumerate ?_)
  refine PyProof.Rows.callWith_type1 (PyProof.Rows.args_cons ?_ hs0) hs0 rfl
  refine Call_ (ld_blt In hg hm PyProof.Rows.boot_zip (PyProof.Rows.callWith_type1 (thn (ha.run pos2 pn st sg Hh _ In hw) fun us s1 ⟨vs, H1, I1, r1, q1⟩ => ?_) hs hpl))
  obtain ⟨a, b, b1, b2, xs, ys, ex, hqx, hqy, q⟩ := q1
  subst ex
  cases r1 with
  | cons r rr =>
    cases rr with
    | cons r' rr =>
      cases rr
      cases r
      cases r'
      obtain ⟨its, rv, p1, la⟩ := hqx.raw I1
      obtain ⟨its2, rv2, p2', lb⟩ := hqy.raw I1
      refine zip_begins2 (begins_b b1 a its.toArray) (begins_b b2 b its2.toArray) p1 p2' fun h' hz hTI hTO h1 h2 hsz hk => PyProof.Rows.args_nil ?_
      refine enum_zip (s := { s1 with heap := h' }) hz fun h3 he hk3 => wpAny_pyIter_enum (s := { s1 with heap := h3 }) he ?_
      have I2 : Inv X pn sg H1 { s1 with heap := h3 } := I1.kept (t' := s1.toks) fun b o q => hk3 b o (hk b o q)
      have S := zip_sep2 (N := s1.heap.objs.size) (fp1 := [a]) (fp2 := [b]) (by simpa using la) (by simpa using lb)
      have big : s1.heap.objs.size + 5 ≤ h'.objs.size := by rw [hsz]; exact Nat.le_refl _
      have ez : h'.objs.size ≠ s1.heap.objs.size + 4 := by omega
      have eI : h'.objs.size ≠ s1.heap.objs.size + 2 := by omega
      have eO : h'.objs.size ≠ s1.heap.objs.size + 3 := by omega
      have ea : h'.objs.size ≠ a := Nat.ne_of_gt (Nat.lt_of_lt_of_le la (by omega))
      have eb : h'.objs.size ≠ b := Nat.ne_of_gt (Nat.lt_of_lt_of_le lb (by omega))
      have ef1 : h'.objs.size ∉ [s1.heap.objs.size, a] := fun w => by
        rcases List.mem_cons.mp w with w | w
        · omega
        · exact ea (List.mem_singleton.mp w)
      have ef2 : h'.objs.size ∉ [s1.heap.objs.size + 1, b] := fun w => by
        rcases List.mem_cons.mp w with w | w
        · omega
        · exact eb (List.mem_singleton.mp w)
      refine ⟨h'.objs.size, [h'.objs.size, s1.heap.objs.size + 4, s1.heap.objs.size + 2, s1.heap.objs.size + 3, s1.heap.objs.size, s1.heap.objs.size + 1], _, _, H1, rfl, I2,
        turn_ez (b1 := b1) (b2 := b2) S (Nat.ne_of_lt la) (Nat.ne_of_lt (Nat.lt_succ_of_lt lb)) ez eI eO ef1 ef2,
        ⟨⟨.none, he⟩, ⟨.none, false, hk3 _ _ hz, .inl rfl⟩, hk3 _ _ hTI, ⟨_, _, hk3 _ _ hTO⟩, ItB.start (hk3 _ _ h1), ItB.start (hk3 _ _ h2)⟩, fun c hcm => ?_, q⟩
      have e' : c = h'.objs.size ∨ c = s1.heap.objs.size + 4 ∨ c = s1.heap.objs.size + 2 ∨ c = s1.heap.objs.size + 3 ∨ c = s1.heap.objs.size ∨ c = s1.heap.objs.size + 1 := by simpa using hcm
      have hle : s1.heap.objs.size ≤ c := by
        rcases e' with z | z | z | z | z | z <;> rw [z] <;> omega
      exact I1.fpOk hle (I1.hok.fresh hle)
theorem piEZ {X : Cx} {K : PySem.W.Frag} {e e2 : Expr} {ta : TA} {p pos p2 pos2 tpos : Pos} {elts : List Expr} {kk : Nat} (hg0 : Gl X "enumerate") (hm0 : X.mg "enumerate" = none) (hg : Gl X "zip") (hm : X.mg "zip" = none) (ha : PA X [e, e2] ta) (h : X.K = K := by rfl)
    (hs0 : starEach [.Call (.Name "zip" p2) [e, e2] [] pos2] X.env = (false, eval (.Call (.Name "zip" p2) [e, e2] [] pos2) X.env) :: starEach [] X.env := by rfl)
    (hs : starEach [e, e2] X.env = (false, eval e X.env) :: starEach [e2] X.env := by rfl) (hpl : (backTo pos2 (starEach [e2] X.env)).any (·.1) = false := by rfl) :
    PI X (.Tuple elts kk tpos) (.Call (.Name "enumerate" p) [.Call (.Name "zip" p2) [e, e2] [] pos2] [] pos) (iEZ K ta) := by subst h; exact pi_ez hg0 hm0 hg hm ha hs0 hs hpl

section
variable {s : Sx} {Γ : List Md} {K : PySem.W.Frag}
theorem items_ez {H : Hp} {S U : AS} {a b : Addr} {b1 b2 : Bool} {vs ws : List V} {ds es : List D} (h1 : H a = some (.lst vs) ∧ b1 = true ∨ H a = some (.tup vs) ∧ b1 = false) (h2 : H b = some (.lst ws) ∧ b2 = true ∨ H b = some (.tup ws) ∧ b2 = false)
    (n1 : ¬ S a) (n2 : ¬ S b) (d1 : DenL H U vs ds) (d2 : DenL H U ws es) (z : Sz H) : Items (itEZ K b1 b2 a b) S U H (enumD 0 (zipD ds es)) where
  len := by rw [enumD_len, zipD_len, ← d1.length]; exact Nat.le_trans (Nat.min_le_left _ _) (sz_seq z h1)
  go := fun i H' l hi => by
    rw [enumD_len, zipD_len] at hi
    have i1 : i < vs.length := by rw [d1.length]; omega
    have i2 : i < ws.length := by rw [d2.length]; omega
    exact ⟨vs, ws, vs[i], ws[i], seq_later h1 n1 l, seq_later h2 n2 l, by simp [i1], by simp [i2]⟩
  stop := fun H' l => ⟨vs, ws, seq_later h1 n1 l, seq_later h2 n2 l, by rw [enumD_len, zipD_len, d1.length, d2.length]⟩
  yld := fun i x H' v H'' l lu hd y => by
    obtain ⟨T1, T2, x1, y1, rfl, k1, k2, ne, rfl, _, _, ev, f1, f2⟩ := y
    cases ev
    obtain ⟨dd, g0, rfl⟩ := enumD_get hd
    obtain ⟨d, e, g1, g2, rfl⟩ := zipD_get g0
    obtain ⟨u1, a1, a2⟩ := d1.get g1
    obtain ⟨u2, c1, c2⟩ := d2.get g2
    have p1 := f1 vs (seq_later h1 n1 l)
    have p2 := f2 ws (seq_later h2 n2 l)
    rw [a1] at p1; cases p1
    rw [c1] at p2; cases p2
    have kk : (upd H' T1 (.tup [x1, y1])) T2 = none := by rw [upd_ne ne.symm]; exact k2
    have up0 : ∀ aa o, H' aa = some o → (upd (upd H' T1 (.tup [x1, y1])) T2 (.tup [.int (i : Nat), .ref T1])) aa = some o := fun aa o q => upd_keep kk aa o (upd_keep k1 aa o q)
    have up : ∀ aa o, H aa = some o → ¬ U aa → (upd (upd H' T1 (.tup [x1, y1])) T2 (.tup [.int (i : Nat), .ref T1])) aa = some o := fun aa o q nn => up0 aa o (lu aa o q nn)
    refine ⟨up0, fun zz => Sz.upd (Sz.upd zz fun xs q => ?_) fun xs q => ?_, fun U' hu nu => .tup upd_same (nu T2 k2) (.cons (by rw [Nat.zero_add]; exact .int _) (.cons (.tup (by rw [upd_ne ne, upd_same]) (nu T1 k1) (.cons (a2.mono up hu) (.cons (c2.mono up hu) .nil))) .nil))⟩
    · rcases q with q | q <;> cases q
      show 2 ≤ sizeLine
      decide
    · rcases q with q | q <;> cases q
      show 2 ≤ sizeLine
      decide
def itEZip (f : Py.Env → M (List D)) : Py.Env → M (List D) := fun ρ => bnd (f ρ) fun l => match l with
  | [x, y] => bnd (seqD x) fun ds => bnd (seqD y) fun es => ret (enumD 0 (zipD ds es))
  | _ => stuck
theorem semIc_ez {t : TA} {f : Py.Env → M (List D)} (h : SemAV s Γ t f) : SemIc s Γ (iEZ K t) (itEZip f) := by
  intro c ρ ps σ H R' P hc r0 q k
  refine h c ρ ps σ H _ _ hc r0 q fun ds vs H1 q1 e1 d1 => ?_
  dsimp only at q1
  split at q1
  · rename_i x y
    obtain ⟨l1, z1, q1⟩ := seqD_get q1
    obtain ⟨l2, z2, q1⟩ := seqD_get q1
    obtain ⟨v, w, rfl, dx, dy⟩ := d1.two
    have g := (r0.stp e1).gd
    obtain ⟨a, us, b1, rfl, hs1, dn1, nu1, hh1⟩ := dx.seqA (K := K) g.ok g.nA z1
    obtain ⟨b, ws, b2, rfl, hs2, dn2, nu2, hh2⟩ := dy.seqA (K := K) g.ok g.nA z2
    exact ⟨a, b, b1, b2, us, ws, rfl, hs1, hs2, k _ _ H1 q1 e1 (items_ez hh1 hh2 nu1 nu2 dn1 dn2 g.sz)⟩
  · cases q1
theorem semI_ez {t : TA} {f : Py.Env → M (List D)} (h : SemA s Γ t f) : SemI s Γ (iEZ K t) (itEZip f) := by
  intro c ρ ps σ H R' P hc r0 q k
  refine h c ρ ps σ H _ _ hc r0 q fun ds vs H1 q1 e1 d1 => ?_
  dsimp only at q1
  split at q1
  · rename_i x y
    obtain ⟨l1, z1, q1⟩ := seqD_get q1
    obtain ⟨l2, z2, q1⟩ := seqD_get q1
    cases d1 with
    | cons dx dr =>
      cases dr with
      | cons dy dr =>
        cases dr
        obtain ⟨a, us, b1, rfl, hs1, dn1, nu1, hh1⟩ := dx.seqU (K := K) z1
        obtain ⟨b, ws, b2, rfl, hs2, dn2, nu2, hh2⟩ := dy.seqU (K := K) z2
        exact ⟨a, b, b1, b2, us, ws, rfl, hs1, hs2, k _ _ H1 q1 e1 (items_ez hh1 hh2 nu1 nu2 dn1 dn2 (r0.stp e1).sz)⟩
  · cases q1
end
end Py
end
/-! PyE: combinators reckoned: equations f ρ = ret x. -/
namespace Py
open PySem L2 StX
@[simp] theorem bnd_ret' {α β : Type} (a : α) (k : α → M β) : bnd (ret a) k = k a := (rfl)
@[simp] theorem bnd_stuck' {α β : Type} (k : α → M β) : bnd stuck k = (stuck : M β) := (rfl)
@[simp] theorem oThen_nx (ρ : Env) (k : Env → M Out) : oThen (.nx ρ) k = k ρ := (rfl)
@[simp] theorem oThen_rt (d : D) (k : Env → M Out) : oThen (.rt d) k = ret (.rt d) := (rfl)
@[simp] theorem oLoop_nx (ρ : Env) (k : Env → M Out) : oLoop (.nx ρ) k = k ρ := (rfl)
@[simp] theorem oLoop_rt (d : D) (k : Env → M Out) : oLoop (.rt d) k = ret (.rt d) := (rfl)
@[simp] theorem outD_rt (d : D) : outD (.rt d) = ret d := (rfl)
@[simp] theorem outD_nx (ρ : Env) : outD (.nx ρ) = ret .none := (rfl)
@[simp] theorem lenOk_def (n : Nat) : (lenOk n = true) = (n ≤ 100000) := by simp [lenOk]
theorem ite_t {α : Type} {c : Prop} [Decidable c] {a b : α} (h : c) : (if c then a else b) = a := if_pos h

/-! ### data -/
def dInts (xs : List Int) : List D := xs.map .int
def tupI (xs : List Int) : D := .tuple (dInts xs)
def lstI (xs : List Int) : D := .list (dInts xs)
/-- a table: a tuple of tuples; a list of lists -/
def dT (M : List (List Int)) : D := .tuple (M.map tupI)
def dL (M : List (List Int)) : D := .list (M.map lstI)
@[simp] theorem dInts_len (xs : List Int) : (dInts xs).length = xs.length := by simp [dInts]
theorem intsD_dInts : ∀ xs : List Int, intsD (dInts xs) = some xs
  | [] => rfl
  | x :: xs => by
    show (intsD (dInts xs)).map (x :: ·) = some (x :: xs)
    rw [intsD_dInts xs]; rfl
theorem boolsD_bools : ∀ xs : List Bool, boolsD (xs.map .bool) = some xs
  | [] => rfl
  | x :: xs => by
    show (boolsD (xs.map .bool)).map (x :: ·) = some (x :: xs)
    rw [boolsD_bools xs]; rfl

/-! ### comprehensions -/
theorem lcW_map {α : Type} {tg : D → Env → M Env} {cond : Env → M Bool} {elt : Env → M D} {ρ : Env} (f : α → D) (c : α → Bool) (e : α → D) : ∀ (xs : List α), (∀ x ∈ xs, ∃ ρ', tg (f x) ρ = ret ρ' ∧ cond ρ' = ret (c x) ∧ (c x = true → elt ρ' = ret (e x))) →
    lcW tg cond elt ρ (xs.map f) = ret ((xs.filter c).map e)
  | [], _ => rfl
  | x :: xs, h => by
    obtain ⟨ρ', h1, h2, h3⟩ := h x (by simp)
    have ih := lcW_map f c e xs fun y hy => h y (by simp [hy])
    show bnd (tg (f x) ρ) (fun ρ' => bnd (cond ρ') fun b => if b = true then bnd (elt ρ') fun y => bnd (lcW tg cond elt ρ (xs.map f)) fun ys => ret (y :: ys) else lcW tg cond elt ρ (xs.map f)) = _
    rw [h1, ih]
    simp only [bnd_ret', h2]
    cases hc : c x with
    | true => simp [h3 hc, hc]
    | false => simp [hc]
theorem lcW_all {α : Type} {tg : D → Env → M Env} {elt : Env → M D} {ρ : Env} (f : α → D) (e : α → D) (xs : List α) (h : ∀ x ∈ xs, ∃ ρ', tg (f x) ρ = ret ρ' ∧ elt ρ' = ret (e x)) : lcW tg cYes elt ρ (xs.map f) = ret (xs.map e) := by
  have := lcW_map (tg := tg) (cond := cYes) (elt := elt) (ρ := ρ) f (fun _ => true) e xs fun x hx => by
    obtain ⟨ρ', h1, h2⟩ := h x hx
    exact ⟨ρ', h1, rfl, fun _ => h2⟩
  rw [List.filter_eq_self.mpr (by simp)] at this
  exact this
theorem lcW_allL {α : Type} {tg : D → Env → M Env} {elt : Env → M D} {ρ : Env} {ds : List D} (f : α → D) (e : α → D) (xs : List α) (hd : ds = xs.map f) (h : ∀ x ∈ xs, ∃ ρ', tg (f x) ρ = ret ρ' ∧ elt ρ' = ret (e x)) : lcW tg cYes elt ρ ds = ret (xs.map e) := by
  rw [hd]; exact lcW_all f e xs h
theorem rangeD_eq (lo : Int) (n : Nat) : rangeD lo n = (List.range n).map fun i => .int (lo + (i : Nat)) := rfl

/-! ### loops: each turn leads from one state to the next -/
theorem forW_fold {α : Type} {tg : D → Env → M Env} {body : Env → M Out} (f : α → D) (St : List α → Env) : ∀ (done xs : List α), (∀ done x rest, done ++ x :: rest = done ++ x :: rest → ∃ ρ', tg (f x) (St done) = ret ρ' ∧ body ρ' = ret (.nx (St (done ++ [x])))) → forW tg body (xs.map f) (St done) = ret (.nx (St (done ++ xs)))
  | done, [], _ => by rw [List.append_nil]; rfl
  | done, x :: xs, h => by
    obtain ⟨ρ', h1, h2⟩ := h done x xs rfl
    show bnd (tg (f x) (St done)) (fun ρ' => bnd (body ρ') fun o => oLoop o (forW tg body (xs.map f))) = _
    rw [h1]
    simp only [bnd_ret', h2, oLoop_nx]
    rw [forW_fold f St (done ++ [x]) xs h, List.append_assoc]
    rfl

/-! ### what the combinators do, as equations -/
def toB : D → M Bool
  | .bool b => ret b
  | _ => stuck
@[simp] theorem toB_b (b : Bool) : toB (.bool b) = ret b := (rfl)
def toI : D → M (Option Int)
  | .int i => ret (some i)
  | _ => stuck
@[simp] theorem toI_i (i : Int) : toI (.int i) = ret (some i) := (rfl)
def optM : Option D → M D
  | some d => ret d
  | none => stuck
@[simp] theorem optM_some (d : D) : optM (some d) = ret d := (rfl)
@[simp] theorem x_eVar (i : Nat) (ρ : Env) : eVar i ρ = optM ((ρ[i]?).getD none) := by
  unfold eVar
  cases h : ρ[i]? with
  | none => rfl
  | some o => cases o <;> rfl
@[simp] theorem x_tst (e : Env → M D) (ρ : Env) : tst e ρ = bnd (e ρ) toB := by
  unfold tst
  congr 1
@[simp] theorem x_tru (e : Env → M D) (ρ : Env) : tru e ρ = bnd (e ρ) truD := (rfl)
@[simp] theorem x_oPart (e : Env → M D) (ρ : Env) : oPart e ρ = bnd (e ρ) toI := by
  unfold oPart
  congr 1
@[simp] theorem x_tupRg (e : Env → M D) (ρ : Env) (n : Int) (h : e ρ = ret (.int n)) (hn : rngOk n = true) : eTupRg e ρ = ret (.tuple (rangeD 0 (n - 0).toNat)) := by
  unfold eTupRg
  rw [h]
  show (if rngOk n = true then ret (PyData.tuple (rangeD 0 (n - 0).toNat)) else stuck) = _
  rw [if_pos hn]
def zip2 : List D → M (List D)
  | [x, y] => bnd (seqD x) fun ds => bnd (seqD y) fun es => ret (zipD ds es)
  | _ => stuck
@[simp] theorem zip2_2 (x y : D) : zip2 [x, y] = bnd (seqD x) fun ds => bnd (seqD y) fun es => ret (zipD ds es) := (rfl)
@[simp] theorem x_itZip (f : Env → M (List D)) (ρ : Env) : itZip f ρ = bnd (f ρ) zip2 := by
  unfold itZip
  congr 1
@[simp] theorem x_itEZip (f : Env → M (List D)) (ρ : Env) : itEZip f ρ = bnd (f ρ) fun l => bnd (zip2 l) fun ds => ret (enumD 0 ds) := by
  unfold itEZip
  congr 1
  funext l
  match l with
  | [] => rfl
  | [x] => rfl
  | [x, y] =>
    show bnd (seqD x) _ = bnd (bnd (seqD x) fun ds => bnd (seqD y) fun es => ret (zipD ds es)) _
    rfl
  | x :: y :: z :: r => rfl
def enum1 : List D → M (List D)
  | [x] => bnd (seqD x) fun ds => ret (enumD 0 ds)
  | _ => stuck
@[simp] theorem enum1_1 (x : D) : enum1 [x] = bnd (seqD x) fun ds => ret (enumD 0 ds) := (rfl)
@[simp] theorem x_itEnum (f : Env → M (List D)) (ρ : Env) : itEnum f ρ = bnd (f ρ) enum1 := by
  unfold itEnum
  congr 1
def rng1 : List D → M (List D)
  | [.int n] => if rngOk n = true then ret (rangeD 0 n.toNat) else stuck
  | _ => stuck
@[simp] theorem rng1_i (n : Int) : rng1 [.int n] = if rngOk n = true then ret (rangeD 0 n.toNat) else stuck := (rfl)
@[simp] theorem x_itRng1 (f : Env → M (List D)) (ρ : Env) : itRng1 f ρ = bnd (f ρ) rng1 := by
  unfold itRng1
  congr 1
def rng2 : List D → M (List D)
  | [.int m, .int n] => if (rngOk m && rngOk n) = true then ret (rangeD m (n - m).toNat) else stuck
  | _ => stuck
@[simp] theorem rng2_i (m n : Int) : rng2 [.int m, .int n] = if (rngOk m && rngOk n) = true then ret (rangeD m (n - m).toNat) else stuck := (rfl)
@[simp] theorem x_itRng2 (f : Env → M (List D)) (ρ : Env) : itRng2 f ρ = bnd (f ρ) rng2 := by
  unfold itRng2
  congr 1
def par2 (i j : Nat) (ρ : Env) : List D → M Out
  | [x, y] => ret (.nx ((ρ.set i (some x)).set j (some y)))
  | _ => stuck
@[simp] theorem par2_2 (i j : Nat) (ρ : Env) (x y : D) : par2 i j ρ [x, y] = ret (.nx ((ρ.set i (some x)).set j (some y))) := (rfl)
@[simp] theorem x_sPar (i j : Nat) (f : Env → M (List D)) (ρ : Env) : sPar i j f ρ = bnd (f ρ) (par2 i j ρ) := by
  unfold sPar
  congr 1
def par3 (i j l : Nat) (ρ : Env) : List D → M Out
  | [x, y, z] => ret (.nx (((ρ.set i (some x)).set j (some y)).set l (some z)))
  | _ => stuck
@[simp] theorem par3_3 (i j l : Nat) (ρ : Env) (x y z : D) : par3 i j l ρ [x, y, z] = ret (.nx (((ρ.set i (some x)).set j (some y)).set l (some z))) := (rfl)
@[simp] theorem x_sPar3 (i j k : Nat) (f : Env → M (List D)) (ρ : Env) : sPar3 i j k f ρ = bnd (f ρ) (par3 i j k ρ) := by
  unfold sPar3
  congr 1
theorem cSum_dInts (xs : List Int) : cSum [.list (dInts xs)] = ret (.int xs.sum) := by
  show (match intsD (dInts xs) with | some ns => ret (PyData.int ns.sum) | none => stuck) = _
  rw [intsD_dInts]
theorem cAll_bools (xs : List Bool) : cAll [.list (xs.map .bool)] = ret (.bool (xs.all id)) := by
  show (match boolsD (xs.map .bool) with | some ns => ret (PyData.bool (ns.all id)) | none => stuck) = _
  rw [boolsD_bools]
theorem cAny_bools (xs : List Bool) : cAny [.list (xs.map .bool)] = ret (.bool (xs.any id)) := by
  show (match boolsD (xs.map .bool) with | some ns => ret (PyData.bool (ns.any id)) | none => stuck) = _
  rw [boolsD_bools]
theorem gIx_l {ds : List D} {i : Int} {d : D} (h : L2.atI ds i = some d) : gIx (.list ds) (.int i) = ret d := by
  show (match L2.atI ds i with | some d => ret d | none => (stuck : M D)) = _
  rw [h]
theorem gIx_t {ds : List D} {i : Int} {d : D} (h : L2.atI ds i = some d) : gIx (.tuple ds) (.int i) = ret d := by
  show (match L2.atI ds i with | some d => ret d | none => (stuck : M D)) = _
  rw [h]
@[simp] theorem x_eC (d : D) (ρ : Env) : eC d ρ = ret d := (rfl)
@[simp] theorem x_bin (g : D → D → M D) (a b : Env → M D) (ρ : Env) : bin g a b ρ = bnd (a ρ) fun x => bnd (b ρ) fun y => g x y := (rfl)
@[simp] theorem x_una (g : D → M D) (a : Env → M D) (ρ : Env) : una g a ρ = bnd (a ρ) g := (rfl)
@[simp] theorem x_bAnd (a b : Env → M Bool) (ρ : Env) : bAnd a b ρ = bnd (a ρ) fun x => if x = true then b ρ else ret false := (rfl)
@[simp] theorem x_bOr (a b : Env → M Bool) (ρ : Env) : bOr a b ρ = bnd (a ρ) fun x => if x = true then ret true else b ρ := (rfl)
@[simp] theorem x_bNot (a : Env → M Bool) (ρ : Env) : bNot a ρ = bnd (a ρ) fun x => ret (!x) := (rfl)
@[simp] theorem x_eAnd (a b : Env → M D) (ρ : Env) : eAnd a b ρ = bnd (tst a ρ) fun x => if x = true then b ρ else ret (.bool false) := (rfl)
@[simp] theorem x_eOr (a b : Env → M D) (ρ : Env) : eOr a b ρ = bnd (tst a ρ) fun x => if x = true then ret (.bool true) else b ρ := (rfl)
@[simp] theorem x_eNot (a : Env → M D) (ρ : Env) : eNot a ρ = bnd (tst a ρ) fun x => ret (.bool (!x)) := (rfl)
@[simp] theorem x_eIf (g : Env → M Bool) (a b : Env → M D) (ρ : Env) : eIf g a b ρ = bnd (g ρ) fun x => if x = true then a ρ else b ρ := (rfl)
@[simp] theorem x_eChain (g g' : D → D → M D) (a b e : Env → M D) (ρ : Env) : eChain g g' a b e ρ = bnd (a ρ) fun x => bnd (b ρ) fun y => bnd (g x y) fun z => bnd (toB z) fun k => if k = true then bnd (e ρ) fun w => g' y w else ret (.bool false) := by
  unfold eChain
  congr 1; funext x; congr 1; funext y; congr 1; funext z
  cases z <;> rfl
@[simp] theorem x_eSl (e : Env → M D) (lo hi : Env → M (Option Int)) (ρ : Env) : eSl e lo hi ρ = bnd (e ρ) fun d => bnd (lo ρ) fun l => bnd (hi ρ) fun h => gSl d l h := (rfl)
@[simp] theorem x_oNo (ρ : Env) : oNo ρ = ret none := (rfl)
@[simp] theorem x_aNil (ρ : Env) : aNil ρ = ret [] := (rfl)
@[simp] theorem x_aCons (a : Env → M D) (r : Env → M (List D)) (ρ : Env) : aCons a r ρ = bnd (a ρ) fun d => bnd (r ρ) fun ds => ret (d :: ds) := (rfl)
@[simp] theorem x_aStar (a : Env → M D) (r : Env → M (List D)) (ρ : Env) : aStar a r ρ = bnd (a ρ) fun d => bnd (seqD d) fun xs => bnd (r ρ) fun ds => ret (xs ++ ds) := (rfl)
@[simp] theorem x_eTup (f : Env → M (List D)) (ρ : Env) : eTup f ρ = bnd (f ρ) fun ds => if lenOk ds.length = true then ret (.tuple ds) else stuck := (rfl)
@[simp] theorem x_lDisp (f : Env → M (List D)) (ρ : Env) : lDisp f ρ = bnd (f ρ) fun ds => if lenOk ds.length = true then ret ds else stuck := (rfl)
@[simp] theorem x_tgN (i : Nat) (d : D) (ρ : Env) : tgN i d ρ = ret (ρ.set i (some d)) := (rfl)
@[simp] theorem x_tgsNil (ρ : Env) : tgsNil [] ρ = ret ρ := (rfl)
@[simp] theorem x_tgsCons (g : D → Env → M Env) (r : List D → Env → M Env) (d : D) (ds : List D) (ρ : Env) : tgsCons g r (d :: ds) ρ = bnd (g d ρ) fun ρ' => r ds ρ' := (rfl)
@[simp] theorem x_tgTup (n : Nat) (g : List D → Env → M Env) (ds : List D) (ρ : Env) : tgTup n g (.tuple ds) ρ = if ds.length = n then g ds ρ else stuck := (rfl)
@[simp] theorem x_itSeq (e : Env → M D) (ρ : Env) : itSeq e ρ = bnd (e ρ) seqD := (rfl)
@[simp] theorem x_eLc (its : Env → M (List D)) (tg : D → Env → M Env) (cond : Env → M Bool) (elt : Env → M D) (vs : List Nat) (ρ : Env) : eLc its tg cond elt vs ρ = bnd (its ρ) fun ds => lcW tg cond elt (wipeD ρ vs) ds := (rfl)
@[simp] theorem x_cYes (ρ : Env) : cYes ρ = ret true := (rfl)
@[simp] theorem x_mkL (f : Env → M (List D)) (ρ : Env) : mkL f ρ = bnd (f ρ) fun ds => ret (.list ds) := (rfl)
@[simp] theorem x_sSeq (f g : Env → M Out) (ρ : Env) : sSeq f g ρ = bnd (f ρ) fun o => oThen o g := (rfl)
@[simp] theorem x_sNx (ρ : Env) : sNx ρ = ret (.nx ρ) := (rfl)
@[simp] theorem x_sAsg (i : Nat) (e : Env → M D) (ρ : Env) : sAsg i e ρ = bnd (e ρ) fun d => ret (.nx (ρ.set i (some d))) := (rfl)
@[simp] theorem x_sOwn (i : Nat) (e : Env → M (List D)) (ρ : Env) : sOwn i e ρ = bnd (e ρ) fun ds => ret (.nx (ρ.set i (some (.list ds)))) := (rfl)
@[simp] theorem x_sTgt (e : Env → M D) (g : D → Env → M Env) (ρ : Env) : sTgt e g ρ = bnd (e ρ) fun d => bnd (g d ρ) fun ρ' => ret (.nx ρ') := (rfl)
@[simp] theorem x_sRet (e : Env → M D) (ρ : Env) : sRet e ρ = bnd (e ρ) fun d => ret (.rt d) := (rfl)
@[simp] theorem x_sRetN (ρ : Env) : sRetN ρ = ret (.rt .none) := (rfl)
@[simp] theorem x_sIf (g : Env → M Bool) (f f' : Env → M Out) (ρ : Env) : sIf g f f' ρ = bnd (g ρ) fun b => if b = true then f ρ else f' ρ := (rfl)
@[simp] theorem x_sFor (its : Env → M (List D)) (tg : D → Env → M Env) (body : Env → M Out) (ρ : Env) : sFor its tg body ρ = bnd (its ρ) fun ds => forW tg body ds ρ := (rfl)
@[simp] theorem x_sRetOwn (i : Nat) (ρ : Env) : sRetOwn i ρ = bnd (eVar i ρ) fun d => ret (.rt d) := (rfl)
@[simp] theorem x_cal (g : List D → M D) (f : Env → M (List D)) (ρ : Env) : cal g f ρ = bnd (f ρ) g := (rfl)
@[simp] theorem x_calL (g : List D → M (List D)) (f : Env → M (List D)) (ρ : Env) : calL g f ρ = bnd (f ρ) g := (rfl)
@[simp] theorem x_eCall (n : Nat) (F : List D → M D) (f : Env → M (List D)) (ρ : Env) : eCall n F f ρ = bnd (f ρ) fun ds => if ds.length = n then F ds else stuck := (rfl)
@[simp] theorem x_eCallS (i n : Nat) (F : List D → M D) (f : Env → M (List D)) (ρ : Env) : eCallS i n F f ρ = bnd (eVar i ρ) fun _ => bnd (f ρ) fun ds => if ds.length = n then F ds else stuck := (rfl)
@[simp] theorem x_fnD (m : Nat) (f : Env → M Out) (ds : List D) : fnD m f ds = bnd (f (ds.map some ++ List.replicate m none)) outD := (rfl)
@[simp] theorem x_fnS (m : Nat) (f : Env → M Out) (ds : List D) : fnS m f ds = bnd (f (some .none :: (ds.map some ++ List.replicate m none))) outD := (rfl)
@[simp] theorem x_seqD_l (ds : List D) : seqD (.list ds) = ret ds := (rfl)
@[simp] theorem x_seqD_t (ds : List D) : seqD (.tuple ds) = ret ds := (rfl)
@[simp] theorem x_gI_i (f : Int → Int → D) (i j : Int) : gI f (.int i) (.int j) = ret (f i j) := (rfl)
@[simp] theorem x_gIc_i (p : Int → Int → Bool) (f : Int → Int → D) (i j : Int) : gIc p f (.int i) (.int j) = if p i j = true then ret (f i j) else stuck := (rfl)
@[simp] theorem x_gNeg_i (i : Int) : gNeg (.int i) = ret (.int (-i)) := (rfl)
@[simp] theorem x_gAdd_i (i j : Int) : gAdd (.int i) (.int j) = ret (.int (i + j)) := (rfl)
@[simp] theorem x_gAdd_t (a b : List D) : gAdd (.tuple a) (.tuple b) = if lenOk (a.length + b.length) = true then ret (.tuple (a ++ b)) else stuck := (rfl)
@[simp] theorem x_gAdd_l (a b : List D) : gAdd (.list a) (.list b) = if lenOk (a.length + b.length) = true then ret (.list (a ++ b)) else stuck := (rfl)
@[simp] theorem x_gMulX_i (i j : Int) : gMulX (.int i) (.int j) = if mulOk i j = true then ret (.int (i * j)) else stuck := (rfl)
@[simp] theorem x_cTup_l (ds : List D) : cTup [.list ds] = ret (.tuple ds) := (rfl)
@[simp] theorem x_cTup_t (ds : List D) : cTup [.tuple ds] = ret (.tuple ds) := (rfl)
@[simp] theorem x_cLst_l (ds : List D) : cLst [.list ds] = ret ds := (rfl)
@[simp] theorem x_cLst_t (ds : List D) : cLst [.tuple ds] = ret ds := (rfl)
@[simp] theorem x_cLen_l (ds : List D) : cLen [.list ds] = ret (.int ds.length) := (rfl)
@[simp] theorem x_cLen_t (ds : List D) : cLen [.tuple ds] = ret (.int ds.length) := (rfl)
@[simp] theorem x_cInt_b (b : Bool) : cInt [.bool b] = ret (.int (if b then 1 else 0)) := (rfl)
@[simp] theorem x_cInt_i (i : Int) : cInt [.int i] = ret (.int i) := (rfl)
@[simp] theorem x_cAbs_i (i : Int) : cAbs [.int i] = ret (.int (if i < 0 then -i else i)) := (rfl)
@[simp] theorem x_gIsN_ (d e : D) : gIsN d e = ret (.bool (isNonD d)) := (rfl)
@[simp] theorem x_wipeD_nil (ρ : Env) : wipeD ρ [] = ρ := (rfl)
@[simp] theorem x_wipeD_cons (ρ : Env) (v : Nat) (vs : List Nat) : wipeD ρ (v :: vs) = (wipeD ρ vs).set v none := (rfl)
end Py
/-! PyR: what repr shows of nested data, its length and its letters. -/
namespace Py
open PySem hiding ret
open PyData (strOk)
theorem strOk_def (x : Str) : strOk x = true ↔ ∀ c ∈ x.cps, c < 0x110000 := by
  unfold strOk
  rw [Array.all_eq_true]
  constructor
  · intro h c hc
    obtain ⟨i, hi, e⟩ := Array.mem_iff_getElem.mp hc
    rw [← e]
    simpa using h i hi
  · intro h i hi
    simpa using h _ (Array.getElem_mem hi)
theorem ok_ofString (s : String) : strOk (Str.ofString s) = true := by
  rw [strOk_def, Str.ofString_eq_toList]
  intro c hc
  have : c ∈ s.toList.map Char.toNat := by simpa using hc
  obtain ⟨x, -, rfl⟩ := List.mem_map.mp this
  rcases x.valid with h | h
  · exact Nat.lt_trans h (by decide)
  · exact h.2
theorem ok_app {a b : Str} (ha : strOk a = true) (hb : strOk b = true) : strOk (a ++ b) = true := by
  rw [strOk_def] at *
  intro c hc
  have : c ∈ a.cps ++ b.cps := hc
  rcases Array.mem_append.mp this with h | h
  · exact ha c h
  · exact hb c h
theorem ok_joins {sep : Str} (hs : strOk sep = true) : ∀ ts : List Str, (∀ t ∈ ts, strOk t = true) → strOk (Str.join sep ts) = true
  | [], _ => by
    show strOk Str.empty = true
    decide +kernel
  | [x], h => h x (by simp)
  | x :: y :: rest, h => ok_app (ok_app (h x (by simp)) hs) (ok_joins hs (y :: rest) fun t ht => h t (by simp [List.mem_cons.mp ht] ))
theorem ok_tupleText {ts : List Str} (h : ∀ t ∈ ts, strOk t = true) : strOk (tupleText ts) = true := by
  unfold tupleText
  refine ok_app (ok_app (ok_ofString _) (ok_joins (ok_ofString _) ts h)) ?_
  split <;> exact ok_ofString _
theorem ok_textFrom : ∀ (ts : List Str) (k : Nat) (acc : Str), strOk acc = true → (∀ t ∈ ts, strOk t = true) → strOk (textFrom k acc ts) = true
  | [], _, acc, ha, _ => ha
  | t :: ts, k, acc, ha, h => ok_textFrom ts (k + 1) _ (ok_app (ok_app ha (ok_ofString _)) (h t (by simp))) fun x hx => h x (List.mem_cons_of_mem _ hx)
theorem ok_listText {ts : List Str} (h : ∀ t ∈ ts, strOk t = true) : strOk (listText ts) = true := ok_app (ok_textFrom ts 0 _ (ok_ofString _) h) (ok_ofString _)
mutual
def sz : D → Nat
  | .none => 4
  | .bool _ => 5
  | .int i => i.natAbs.log2 + 2
  | .str x => (reprText x).length
  | .list xs => szAll xs + 3
  | .tuple xs => szAll xs + 3
  | .dict _ => 0
def szAll : List D → Nat
  | [] => 0
  | x :: xs => sz x + 2 + szAll xs
end
mutual
def ptx : D → Bool
  | .none => true
  | .bool _ => true
  | .int i => decide (i.natAbs.log2 < 1920)
  | .str x => strOk (reprText x) && strOk x
  | .list xs => ptxAll xs
  | .tuple xs => ptxAll xs
  | .dict _ => false
def ptxAll : List D → Bool
  | [] => true
  | x :: xs => ptx x && ptxAll xs
end
mutual
theorem ptx_shown : ∀ d : D, ptx d = true → strOk d.shown = true ∧ d.shown.length ≤ sz d ∧ d.showable = true ∧ d.canLay0 = true
  | .none, _ => ⟨ok_ofString _, by decide +kernel, by simp [PyData.showable], by simp [PyData.canLay0]⟩
  | .bool b, _ => ⟨by cases b <;> exact ok_ofString _, by cases b <;> decide +kernel, by simp [PyData.showable], by simp [PyData.canLay0]⟩
  | .int i, h => by
    have h' : i.natAbs.log2 < 1920 := by simpa [ptx] using h
    refine ⟨ok_ofString _, ?_, by simpa [PyData.showable] using h', by simp [PyData.canLay0]⟩
    show (Str.ofString (toString i)).length ≤ i.natAbs.log2 + 2
    have := int_text_length_le (a := i) (k := i.natAbs.log2 + 1) (by omega) (by omega)
    rw [show (Str.ofString (toString i)).length = (toString i).length by rw [Str.ofString_eq_toList]; simp [Str.length, String.length]]
    omega
  | .str x, h => by
    have h' : strOk (reprText x) = true ∧ strOk x = true := by simpa [ptx] using h
    exact ⟨by simpa [PyData.shown] using h'.1, by simp [PyData.shown, sz], by simp [PyData.showable], by simpa [PyData.canLay0] using h'.2⟩
  | .list xs, h => by
    obtain ⟨h1, h2, h3, h4⟩ := ptx_all xs (by simpa [ptx] using h)
    refine ⟨by simpa [PyData.shown] using ok_listText h1, ?_, by simpa [PyData.showable] using h3, by simpa [PyData.canLay0] using h4⟩
    have := listText_len_le (PyData.shownAll xs)
    simp only [PyData.shown, sz]
    omega
  | .tuple xs, h => by
    obtain ⟨h1, h2, h3, h4⟩ := ptx_all xs (by simpa [ptx] using h)
    refine ⟨by simpa [PyData.shown] using ok_tupleText h1, ?_, by simpa [PyData.showable] using h3, by simpa [PyData.canLay0] using h4⟩
    have := tupleText_len_le (PyData.shownAll xs)
    simp only [PyData.shown, sz]
    omega
  | .dict _, h => by simp [ptx] at h
theorem ptx_all : ∀ xs : List D, ptxAll xs = true → (∀ t ∈ PyData.shownAll xs, strOk t = true) ∧ ((PyData.shownAll xs).map (·.length)).sum + 2 * (PyData.shownAll xs).length ≤ szAll xs ∧ PyData.showableAll xs = true ∧ PyData.canLayAll0 xs = true
  | [], _ => ⟨by simp [PyData.shownAll], by simp [PyData.shownAll, szAll], by simp [PyData.showableAll], by simp [PyData.canLayAll0]⟩
  | x :: xs, h => by
    have h' : ptx x = true ∧ ptxAll xs = true := by simpa [ptxAll] using h
    obtain ⟨a1, a2, a3, a4⟩ := ptx_shown x h'.1
    obtain ⟨b1, b2, b3, b4⟩ := ptx_all xs h'.2
    refine ⟨?_, ?_, by simp [PyData.showableAll, a3, b3], by simp [PyData.canLayAll0, a4, b4]⟩
    · intro t ht
      rcases List.mem_cons.mp (by simpa [PyData.shownAll] using ht) with rfl | h
      · exact a1
      · exact b1 t h
    · simp only [PyData.shownAll, List.map_cons, List.sum_cons, List.length_cons, szAll]
      omega
end
/-- what repr and the comparing of two texts want -/
def rok (d : D) : Prop := ptx d = true ∧ d.depth ≤ 64 ∧ sz d ≤ 16777216
theorem rok.rp {d : D} (h : rok d) : rpOk d = true := by
  obtain ⟨h1, h2, h3⟩ := h
  obtain ⟨a1, a2, a3, a4⟩ := ptx_shown d h1
  unfold rpOk
  simp only [Bool.and_eq_true, decide_eq_true_eq, a3, a4, PyData.hasDict_of_canLay d a4, h2]
  exact ⟨by simp, Nat.le_trans a2 (Nat.le_trans h3 (by decide))⟩
theorem rok.shp {d : D} (h : rok d) : shp (.str d.shown) = true := by
  have := (ptx_shown d h.1).1
  show SeqAt.shaped _ = true
  unfold SeqAt.shaped
  simp [PyData.canLay0, this, PyData.depth]
theorem cRepr_ok {d : D} (h : rok d) : cRepr [d] = ret (.str d.shown) := if_pos h.rp
theorem gNe_rep {d : D} (h : rok d) : gNe (.str d.shown) (.str d.shown) = ret (.bool false) := by
  show (if (Py.shp (.str d.shown) && Py.shp (.str d.shown)) = true then ret (PyData.bool (!PyData.eqv (.str d.shown) (.str d.shown))) else stuck) = _
  rw [h.shp, Bool.and_self, if_pos rfl]
  simp [PyData.eqv]
theorem rep_ne {a b : Py.Env → M D} {ρ : Py.Env} {d : D} (ha : a ρ = ret d) (hb : b ρ = ret d) (h : rok d) : bin gNe (cal cRepr (aCons a aNil)) (cal cRepr (aCons b aNil)) ρ = ret (.bool false) := by
  simp only [x_bin, x_cal, x_aCons, x_aNil, ha, hb, bnd_ret', cRepr_ok h, gNe_rep h]
/-- the same with bounds of depth and of size kept apart -/
def rk (m s : Nat) (d : D) : Prop := ptx d = true ∧ d.depth ≤ m ∧ sz d ≤ s
theorem rk.mono {m s m' s' : Nat} {d : D} (h : rk m s d) (hm : m ≤ m') (hs : s ≤ s') : rk m' s' d := ⟨h.1, Nat.le_trans h.2.1 hm, Nat.le_trans h.2.2 hs⟩
theorem rk.ok {m s : Nat} {d : D} (h : rk m s d) (hm : m ≤ 64 := by decide) (hs : s ≤ 16777216 := by decide) : rok d := ⟨h.1, Nat.le_trans h.2.1 hm, Nat.le_trans h.2.2 hs⟩
theorem rk_int {k : Nat} {i : Int} (h : i.natAbs ≤ 2 ^ k) (hk : k < 1919) : rk 0 (k + 3) (.int i) := by
  have l : i.natAbs.log2 < k + 1 := by
    by_cases z : i.natAbs = 0
    · rw [z, show Nat.log2 0 = 0 from by decide]; omega
    · rw [Nat.log2_lt z]
      exact Nat.lt_of_le_of_lt h (Nat.pow_lt_pow_right (by decide) (by omega))
  refine ⟨?_, ?_, ?_⟩
  · simp only [ptx, decide_eq_true_eq]; omega
  · simp [PyData.depth]
  · simp only [sz]; omega
theorem rk_bool (b : Bool) : rk 0 5 (.bool b) := ⟨by simp [ptx], by simp [PyData.depth], by simp [sz]⟩
theorem rk_none : rk 0 4 (.none : D) := ⟨by simp [ptx], by simp [PyData.depth], by simp [sz]⟩
theorem rkAll {m s : Nat} : ∀ {ds : List D}, (∀ d ∈ ds, rk m s d) → ptxAll ds = true ∧ PyData.depthAll ds ≤ m ∧ szAll ds ≤ ds.length * (s + 2)
  | [], _ => ⟨by simp [ptxAll], by simp [PyData.depthAll], by simp [szAll]⟩
  | d :: ds, h => by
    obtain ⟨a1, a2, a3⟩ := h d (by simp)
    obtain ⟨b1, b2, b3⟩ := rkAll (ds := ds) fun x hx => h x (List.mem_cons_of_mem _ hx)
    refine ⟨by simp [ptxAll, a1, b1], by simp only [PyData.depthAll]; omega, ?_⟩
    simp only [szAll, List.length_cons, Nat.succ_mul]; omega
theorem rk_tuple {m s n : Nat} {ds : List D} (h : ∀ d ∈ ds, rk m s d) (hn : ds.length ≤ n) : rk (m + 1) (n * (s + 2) + 3) (.tuple ds) := by
  obtain ⟨b1, b2, b3⟩ := rkAll h
  have := Nat.mul_le_mul_right (s + 2) hn
  refine ⟨by simpa [ptx] using b1, by simp only [PyData.depth]; omega, by simp only [sz]; omega⟩
theorem rk_list {m s n : Nat} {ds : List D} (h : ∀ d ∈ ds, rk m s d) (hn : ds.length ≤ n) : rk (m + 1) (n * (s + 2) + 3) (.list ds) := by
  obtain ⟨b1, b2, b3⟩ := rkAll h
  have := Nat.mul_le_mul_right (s + 2) hn
  refine ⟨by simpa [ptx] using b1, by simp only [PyData.depth]; omega, by simp only [sz]; omega⟩
theorem rk_ints {k n : Nat} {xs : List Int} (h : ∀ x ∈ xs, x.natAbs ≤ 2 ^ k) (hk : k < 1919) (hn : xs.length ≤ n) : rk 1 (n * (k + 5) + 3) (tupI xs) :=
  rk_tuple (m := 0) (s := k + 3) (fun d hd => by
    obtain ⟨x, hx, rfl⟩ := List.mem_map.mp hd
    exact rk_int (h x hx) hk) (by rw [dInts_len]; exact hn)
/-- a comprehension over mapped values -/
theorem comp_all {α : Type} {its : Env → M (List D)} {tg : D → Env → M Env} {elt : Env → M D} {vs : List Nat} {ρ : Env} (f : α → D) (e : α → D) (xs : List α) (hi : its ρ = ret (xs.map f)) (h : ∀ x ∈ xs, ∃ ρ', tg (f x) (wipeD ρ vs) = ret ρ' ∧ elt ρ' = ret (e x)) : mkL (eLc its tg cYes elt vs) ρ = ret (.list (xs.map e)) := by
  rw [x_mkL, x_eLc, hi, bnd_ret', lcW_all f e xs h, bnd_ret']
theorem comp_map {α : Type} {its : Env → M (List D)} {tg : D → Env → M Env} {cond : Env → M Bool} {elt : Env → M D} {vs : List Nat} {ρ : Env} (f : α → D) (c : α → Bool) (e : α → D) (xs : List α) (hi : its ρ = ret (xs.map f)) (h : ∀ x ∈ xs, ∃ ρ', tg (f x) (wipeD ρ vs) = ret ρ' ∧ cond ρ' = ret (c x) ∧ (c x = true → elt ρ' = ret (e x))) : mkL (eLc its tg cond elt vs) ρ = ret (.list ((xs.filter c).map e)) := by
  rw [x_mkL, x_eLc, hi, bnd_ret', lcW_map f c e xs h, bnd_ret']
/-- one statement after another -/
theorem seq_nx {f g : Env → M Out} {ρ ρ' : Env} (h : f ρ = ret (.nx ρ')) : sSeq f g ρ = g ρ' := by rw [x_sSeq, h, bnd_ret', oThen_nx]
theorem asg_nx {i : Nat} {e : Env → M D} {g : Env → M Out} {ρ : Env} {d : D} (h : e ρ = ret d) : sSeq (sAsg i e) g ρ = g (ρ.set i (some d)) := by rw [x_sSeq, x_sAsg, h, bnd_ret', bnd_ret', oThen_nx]
theorem if_no {c : Env → M Bool} {f g : Env → M Out} {ρ : Env} (h : c ρ = ret false) : sSeq (sIf c f sNx) g ρ = g ρ := by rw [x_sSeq, x_sIf, h, bnd_ret', if_neg (by decide), x_sNx, bnd_ret', oThen_nx]
theorem or_no {a b : Env → M Bool} {ρ : Env} (h : a ρ = ret false) (h' : b ρ = ret false) : bOr a b ρ = ret false := by rw [x_bOr, h, bnd_ret', if_neg (by decide), h']
theorem tst_b {e : Env → M D} {ρ : Env} {b : Bool} (h : e ρ = ret (.bool b)) : tst e ρ = ret b := by rw [x_tst, h, bnd_ret', toB_b]
theorem var_eq {i : Nat} {ρ : Env} {d : D} (h : ρ[i]? = some (some d)) : eVar i ρ = ret d := by rw [x_eVar, h]; rfl
end Py
namespace L94
open PySem PySem.Spec PyProof.Rows L2 Py StX
def b_whole_determinant : Py.Env → M Out := (sSeq (sMk2 0 1 2 1 1)
  (sSeq (sAsg 3 (cal cLen (aCons (eVar 0) aNil)))
  (sSeq (sFor (itRng1 (aCons (bin gSub (eVar 3) (eC (.int 1))) aNil)) (tgN 4)
  (sSeq (sAsg 5 (mkL (eLc (itRng2 (aCons (eVar 4) (aCons (eVar 3) aNil))) (tgN 6) (tst (bin gNe (bin gIx (bin gIx (eVar 0) (eVar 6)) (eVar 4)) (eC (.int 0)))) (eVar 6) [6])))
  (sSeq (sIf (tst (bin gEq (eVar 5) (mkL (lDisp aNil)))) (sRet (eC (.int 0))) sNx)
  (sSeq (sIf (tst (bin gNe (bin gIx (eVar 5) (eC (.int 0))) (eVar 4))) (sSeq (sSwap 0 4 5)
  (sAsg 1 (bin gSub (eC (.int 0)) (eVar 1)))) sNx)
  (sSeq (sFor (itRng2 (aCons (bin gAdd (eVar 4) (eC (.int 1))) (aCons (eVar 3) aNil))) (tgN 6)
  (sFor (itRng2 (aCons (bin gAdd (eVar 4) (eC (.int 1))) (aCons (eVar 3) aNil))) (tgN 7)
  (sSet2 0 (eVar 6) (eVar 7) (bin gFdiv (bin gSub (bin gMulX (bin gIx (bin gIx (eVar 0) (eVar 6)) (eVar 7)) (bin gIx (bin gIx (eVar 0) (eVar 4)) (eVar 4))) (bin gMulX (bin gIx (bin gIx (eVar 0) (eVar 6)) (eVar 4)) (bin gIx (bin gIx (eVar 0) (eVar 4)) (eVar 7)))) (eVar 2)))))
  (sAsg 2 (bin gIx (bin gIx (eVar 0) (eVar 4)) (eVar 4))))))))
  (sRet (eIf (tst (bin gGt (eVar 3) (eC (.int 0)))) (bin gMulX (eVar 1) (bin gIx (bin gIx (eVar 0) (bin gSub (eVar 3) (eC (.int 1)))) (bin gSub (eVar 3) (eC (.int 1))))) (eC (.int 1)))))))
def F_whole_determinant : List D → M D := fnD 8 b_whole_determinant
def b_within : Py.Env → M Out := (sRet (mkL (eLc (itSeq (eVar 1)) (tgN 2) cYes (mkL (eLc (itSeq (eVar 1)) (tgN 3) cYes (bin gIx (bin gIx (eVar 0) (eVar 2)) (eVar 3)) [3])) [2])))
def F_within : List D → M D := fnD 2 b_within
def b_determinant_within : Py.Env → M Out := (sRet (eCall 1 F_whole_determinant (aCons (eCall 2 F_within (aCons (eVar 0) (aCons (eVar 1) aNil))) aNil)))
def F_determinant_within : List D → M D := fnD 0 b_determinant_within
def b_lots_below : Py.Env → M Out := (sSeq (sAsg 1 (mkL (lDisp (aCons (eTup aNil) aNil))))
  (sSeq (sFor (itRng1 (aCons (eVar 0) aNil)) (tgN 2)
  (sAsg 1 (bin gAdd (eVar 1) (mkL (eLc (itSeq (eVar 1)) (tgN 3) cYes (bin gAdd (eVar 3) (eTup (aCons (eVar 2) aNil))) [3])))))
  (sRet (mkL (calL cSrt (aCons (eVar 1) aNil))))))
def F_lots_below : List D → M D := fnD 3 b_lots_below
def b_determinants_within : Py.Env → M Out := (sRet (cal cTup (aCons (mkL (eLc (itSeq (eCall 1 F_lots_below (aCons (cal cLen (aCons (eVar 0) aNil)) aNil))) (tgN 1) cYes (eTup (aCons (eVar 1) (aCons (eCall 2 F_determinant_within (aCons (eVar 0) (aCons (eVar 1) aNil))) aNil))) [1])) aNil)))
def F_determinants_within : List D → M D := fnD 1 b_determinants_within
def b_is_above : Py.Env → M Out := (sRet (cal cAll (aCons (mkL (eLc (itSeq (eCall 1 F_determinants_within (aCons (eVar 0) aNil))) (tgTup 2 (tgsCons (tgN 1) (tgsCons (tgN 2) tgsNil))) cYes (bin gGt (eVar 2) (eC (.int 0))) [1, 2])) aNil)))
def F_is_above : List D → M D := fnD 2 b_is_above
def b_led_row : Py.Env → M Out := (sRet (cal cTup (aCons (mkL (eLc (itSeq (eVar 0)) (tgN 2) cYes (cal cSum (aCons (mkL (eLc (itZip (aCons (eVar 2) (aCons (eVar 1) aNil))) (tgTup 2 (tgsCons (tgN 3) (tgsCons (tgN 4) tgsNil))) cYes (bin gMulX (eVar 3) (eVar 4)) [3, 4])) aNil)) [2])) aNil)))
def F_led_row : List D → M D := fnD 3 b_led_row
def b_first_wrong_lot : Py.Env → M Out := (sSeq (sAsg 1 (mkL (eLc (itSeq (eCall 1 F_determinants_within (aCons (eVar 0) aNil))) (tgTup 2 (tgsCons (tgN 2) (tgsCons (tgN 3) tgsNil))) (tst (bin gLe (eVar 3) (eC (.int 0)))) (eTup (aCons (cal cLen (aCons (eVar 2) aNil)) (aCons (eVar 2) aNil))) [2, 3])))
  (sRet (eIf (tst (bin gNe (eVar 1) (mkL (lDisp aNil)))) (bin gIx (cal (cBest PySem.W.minD) (aCons (eVar 1) aNil)) (eC (.int 1))) (eC .none))))
def F_first_wrong_lot : List D → M D := fnD 3 b_first_wrong_lot
def b_first_minors : Py.Env → M Out := (sSeq (sOwn 2 (repL (mkL (lDisp (aCons (eC (.int 0)) aNil))) (cal cLen (aCons (eVar 0) aNil))))
  (sSeq (sFor (itEnum (aCons (eVar 1) aNil)) (tgTup 2 (tgsCons (tgN 3) (tgsCons (tgN 4) tgsNil)))
  (sSeq (sAsg 5 (mkL (eLc (itSeq (eSl (eVar 1) (oPart (eC (.int 1))) oNo)) (tgN 6) cYes (mkL (eLc (itSeq (eVar 1)) (tgN 7) (tst (bin gNe (eVar 7) (eVar 4))) (bin gIx (bin gIx (eVar 0) (eVar 6)) (eVar 7)) [7])) [6])))
  (sSetI 2 (eVar 4) (bin gMulX (bin gSub (eC (.int 1)) (bin gMulX (eC (.int 2)) (bin gMod (eVar 3) (eC (.int 2))))) (eCall 1 F_whole_determinant (aCons (eVar 5) aNil))))))
  (sRet (cal cTup (aCons (eVar 2) aNil)))))
def F_first_minors : List D → M D := fnD 6 b_first_minors
def b_turned_paper : Py.Env → M Out := (sSeq (sAsg 1 (eCall 1 F_first_wrong_lot (aCons (eVar 0) aNil)))
  (sRet (eIf (tst (bin gIsN (eVar 1) (eC .none))) (eTup (aCons (eC (.str "above")) aNil)) (eTup (aCons (eC (.str "turned")) (aCons (eVar 1) (aCons (eCall 2 F_first_minors (aCons (eVar 0) (aCons (eVar 1) aNil))) aNil)))))))
def F_turned_paper : List D → M D := fnD 1 b_turned_paper
def b_is_whole_number : Py.Env → M Out := (sRet (eAnd (una (gIsi "int") (eVar 0)) (eNot (una (gIsi "bool") (eVar 0)))))
def F_is_whole_number : List D → M D := fnD 0 b_is_whole_number
def b_is_lot_below : Py.Env → M Out := (sSeq (sIf (bOr (bNot (tst (una (gIsi "tuple") (eVar 1)))) (bNot (tst (cal cAll (aCons (mkL (eLc (itSeq (eVar 1)) (tgN 2) cYes (eAnd (eCall 1 F_is_whole_number (aCons (eVar 2) aNil)) (eChain gLe gLt (eC (.int 0)) (eVar 2) (eVar 0))) [2])) aNil))))) (sRet (eC (.bool false))) sNx)
  (sRet (cal cAll (aCons (mkL (eLc (itZip (aCons (eVar 1) (aCons (eSl (eVar 1) (oPart (eC (.int 1))) oNo) aNil))) (tgTup 2 (tgsCons (tgN 2) (tgsCons (tgN 3) tgsNil))) cYes (bin gLt (eVar 2) (eVar 3)) [2, 3])) aNil))))
def F_is_lot_below : List D → M D := fnD 2 b_is_lot_below
def b_is_turned_form : Py.Env → M Out := (sSeq (sIf (bOr (bNot (tst (una (gIsi "tuple") (eVar 1)))) (bOr (tst (bin gNe (cal cLen (aCons (eVar 1) aNil)) (eC (.int 3)))) (bOr (tst (bin gNe (bin gIx (eVar 1) (eC (.int 0))) (eC (.str "turned")))) (bNot (tst (eCall 2 F_is_lot_below (aCons (eVar 0) (aCons (bin gIx (eVar 1) (eC (.int 1))) aNil)))))))) (sRet (eC (.bool false))) sNx)
  (sRet (eAnd (una (gIsi "tuple") (bin gIx (eVar 1) (eC (.int 2)))) (eAnd (bin gEq (cal cLen (aCons (bin gIx (eVar 1) (eC (.int 2))) aNil)) (eVar 0)) (cal cAll (aCons (mkL (eLc (itSeq (bin gIx (eVar 1) (eC (.int 2)))) (tgN 2) cYes (eCall 1 F_is_whole_number (aCons (eVar 2) aNil)) [2])) aNil))))))
def F_is_turned_form : List D → M D := fnD 1 b_is_turned_form
def b_judge_turned : Py.Env → M Out := (sSeq (sIf (bAnd (tst (una (gIsi "tuple") (eVar 1))) (bAnd (tst (bin gEq (cal cLen (aCons (eVar 1) aNil)) (eC (.int 1)))) (tst (bin gEq (bin gIx (eVar 1) (eC (.int 0))) (eC (.str "above")))))) (sRet (eIf (tst (eCall 1 F_is_above (aCons (eVar 0) aNil))) (eC .none) (eTup (aCons (eC (.str "above")) aNil)))) sNx)
  (sSeq (sIf (bNot (tst (eCall 2 F_is_turned_form (aCons (cal cLen (aCons (eVar 0) aNil)) (aCons (eVar 1) aNil))))) (sRet (eTup (aCons (eC (.str "form")) aNil))) sNx)
  (sSeq (sTgt (eTup (aCons (bin gIx (eVar 1) (eC (.int 1))) (aCons (bin gIx (eVar 1) (eC (.int 2))) aNil))) (tgTup 2 (tgsCons (tgN 2) (tgsCons (tgN 3) tgsNil))))
  (sSeq (sIf (tst (cal cAll (aCons (mkL (eLc (itSeq (eVar 3)) (tgN 6) cYes (bin gEq (eVar 6) (eC (.int 0))) [6])) aNil))) (sRet (eTup (aCons (eC (.str "nought")) aNil))) sNx)
  (sSeq (sAsg 4 (mkL (eLc (itEnum (aCons (eVar 3) aNil)) (tgTup 2 (tgsCons (tgN 7) (tgsCons (tgN 6) tgsNil))) (bAnd (tst (bin gNe (eVar 6) (eC (.int 0)))) (tst (bin (gIn true) (eVar 7) (eVar 2)))) (eVar 7) [7, 6])))
  (sSeq (sIf (tst (bin gNe (eVar 4) (mkL (lDisp aNil)))) (sRet (eTup (aCons (eC (.str "outside")) (aCons (bin gIx (eVar 4) (eC (.int 0))) aNil)))) sNx)
  (sSeq (sAsg 5 (mkL (eLc (itEZip (aCons (eVar 3) (aCons (eCall 2 F_led_row (aCons (eVar 0) (aCons (eVar 3) aNil))) aNil))) (tgTup 2 (tgsCons (tgN 7) (tgsCons (tgTup 2 (tgsCons (tgN 6) (tgsCons (tgN 8) tgsNil))) tgsNil))) (tst (bin gGt (bin gMulX (eVar 6) (eVar 8)) (eC (.int 0)))) (eVar 7) [7, 6, 8])))
  (sRet (eIf (tst (bin gEq (eVar 5) (mkL (lDisp aNil)))) (eC .none) (eTup (aCons (eC (.str "sign")) (aCons (bin gIx (eVar 5) (eC (.int 0))) aNil))))))))))))
def F_judge_turned : List D → M D := fnD 7 b_judge_turned

def F__law_pick : List D → M D := F_pick
def b__law_draw_table : Py.Env → M Out := (sSeq (sAsg 2 (bin gAdd (eC (.int 1)) (eCallS 0 1 F__law_pick (aCons (eIf (tru (eVar 1)) (eC (.int 4)) (eC (.int 3))) aNil))))
  (sSeq (sAsg 3 (mkL (eLc (itRng1 (aCons (eVar 2) aNil)) (tgN 4) cYes (mkL (eLc (itRng1 (aCons (eVar 2) aNil)) (tgN 5) cYes (bin gSub (eCallS 0 1 F__law_pick (aCons (eC (.int 7)) aNil)) (eC (.int 3))) [5])) [4])))
  (sSeq (sIf (tst (bin gEq (eVar 1) (eC (.int 1)))) (sAsg 3 (mkL (eLc (itEnum (aCons (eVar 3) aNil)) (tgTup 2 (tgsCons (tgN 4) (tgsCons (tgN 6) tgsNil))) cYes (mkL (eLc (itEnum (aCons (eVar 6) aNil)) (tgTup 2 (tgsCons (tgN 5) (tgsCons (tgN 7) tgsNil))) cYes (bin gAdd (eVar 7) (bin gMulX (cal cInt (aCons (bin gEq (eVar 4) (eVar 5)) aNil)) (bin gAdd (eC (.int 1)) (cal cSum (aCons (mkL (eLc (itSeq (eVar 6)) (tgN 8) cYes (cal cAbs (aCons (eVar 8) aNil)) [8])) aNil))))) [5, 7])) [4, 6]))) sNx)
  (sSeq (sIf (tst (bin gEq (eVar 1) (eC (.int 2)))) (sAsg 3 (mkL (eLc (itRng1 (aCons (eVar 2) aNil)) (tgN 4) cYes (mkL (eLc (itRng1 (aCons (eVar 2) aNil)) (tgN 5) cYes (bin gAdd (cal cSum (aCons (mkL (eLc (itZip (aCons (bin gIx (eVar 3) (eVar 4)) (aCons (bin gIx (eVar 3) (eVar 5)) aNil))) (tgTup 2 (tgsCons (tgN 9) (tgsCons (tgN 10) tgsNil))) cYes (bin gMulX (eVar 9) (eVar 10)) [9, 10])) aNil)) (cal cInt (aCons (bin gEq (eVar 4) (eVar 5)) aNil))) [5])) [4]))) sNx)
  (sRet (cal cTup (aCons (mkL (eLc (itSeq (eVar 3)) (tgN 6) cYes (cal cTup (aCons (eVar 6) aNil)) [6])) aNil)))))))
def F__law_draw_table : List D → M D := fnS 9 b__law_draw_table
def b__law_determinant (G__law_determinant : List D → M D) : Py.Env → M Out := (sSeq (sIf (tst (bin gEq (eVar 0) (mkL (lDisp aNil)))) (sRet (eC (.int 1))) sNx)
  (sSeq (sAsg 1 (eC (.int 0)))
  (sSeq (sFor (itRng1 (aCons (cal cLen (aCons (eVar 0) aNil)) aNil)) (tgN 2)
  (sSeq (sAsg 3 (mkL (eLc (itSeq (eSl (eVar 0) (oPart (eC (.int 1))) oNo)) (tgN 4) cYes (bin gAdd (eSl (eVar 4) oNo (oPart (eVar 2))) (eSl (eVar 4) (oPart (bin gAdd (eVar 2) (eC (.int 1)))) oNo)) [4])))
  (sAsg 1 (bin gAdd (eVar 1) (bin gMulX (bin gMulX (bin gSub (eC (.int 1)) (bin gMulX (eC (.int 2)) (bin gMod (eVar 2) (eC (.int 2))))) (bin gIx (bin gIx (eVar 0) (eC (.int 0))) (eVar 2))) (eCall 1 G__law_determinant (aCons (eVar 3) aNil)))))))
  (sRet (eVar 1)))))
def R__law_determinant : Nat → List D → M D
  | 0 => fun _ => stuck
  | n + 1 => fnD 4 (b__law_determinant (R__law_determinant n))
def F__law_determinant : List D → M D := R__law_determinant 5
def b__law_within : Py.Env → M Out := (sRet (eCall 1 F__law_determinant (aCons (mkL (eLc (itSeq (eVar 1)) (tgN 2) cYes (mkL (eLc (itSeq (eVar 1)) (tgN 3) cYes (bin gIx (bin gIx (eVar 0) (eVar 2)) (eVar 3)) [3])) [2])) aNil)))
def F__law_within : List D → M D := fnD 2 b__law_within
def b__law_lots : Py.Env → M Out := (sSeq (sAsg 1 (mkL (lDisp (aCons (eTup aNil) aNil))))
  (sSeq (sFor (itRng1 (aCons (eVar 0) aNil)) (tgN 2)
  (sAsg 1 (bin gAdd (eVar 1) (mkL (eLc (itSeq (eVar 1)) (tgN 3) cYes (bin gAdd (eVar 3) (eTup (aCons (eVar 2) aNil))) [3])))))
  (sRet (mkL (calL cSrt (aCons (eVar 1) aNil))))))
def F__law_lots : List D → M D := fnD 3 b__law_lots
def b_law : Py.Env → M Out := (sSeq (sFor (itRng1 (aCons (eC (.int 3)) aNil)) (tgN 2)
  (sSeq (sAsg 3 (eCallS 1 1 F__law_draw_table (aCons (eCallS 1 1 F__law_pick (aCons (eC (.int 3)) aNil)) aNil)))
  (sSeq (sPar3 4 5 6 (aCons (cal cLen (aCons (eVar 3) aNil)) (aCons (eCall 1 F__law_lots (aCons (cal cLen (aCons (eVar 3) aNil)) aNil)) (aCons (cal cRepr (aCons (eVar 3) aNil)) aNil))))
  (sSeq (sAsg 7 (mkL (eLc (itSeq (eVar 5)) (tgN 8) cYes (eTup (aCons (eVar 8) (aCons (eCall 2 F__law_within (aCons (eVar 3) (aCons (eVar 8) aNil))) aNil))) [8])))
  (sSeq (sIf (bOr (tst (bin gNe (cal cRepr (aCons (eCall 1 F_determinants_within (aCons (eVar 3) aNil)) aNil)) (cal cRepr (aCons (cal cTup (aCons (eVar 7) aNil)) aNil)))) (tst (bin gNe (cal cRepr (aCons (eVar 3) aNil)) (eVar 6)))) (sRet (eC (.bool false))) sNx)
  (sSeq (sTgt (bin gIx (eVar 7) (eCallS 1 1 F__law_pick (aCons (cal cLen (aCons (eVar 7) aNil)) aNil))) (tgTup 2 (tgsCons (tgN 8) (tgsCons (tgN 9) tgsNil))))
  (sSeq (sAsg 10 (cal cAll (aCons (mkL (eLc (itSeq (eVar 7)) (tgTup 2 (tgsCons (tgN 16) (tgsCons (tgN 15) tgsNil))) cYes (bin gGt (eVar 15) (eC (.int 0))) [16, 15])) aNil)))
  (sSeq (sIf (bOr (tst (bin gNe (cal cRepr (aCons (eCall 2 F_determinant_within (aCons (eVar 3) (aCons (eVar 8) aNil))) aNil)) (cal cRepr (aCons (eVar 9) aNil)))) (tst (bin gNe (cal cRepr (aCons (eCall 1 F_is_above (aCons (eVar 3) aNil)) aNil)) (cal cRepr (aCons (eVar 10) aNil))))) (sRet (eC (.bool false))) sNx)
  (sSeq (sAsg 11 (cal cTup (aCons (mkL (eLc (itRng1 (aCons (eVar 4) aNil)) (tgN 17) cYes (bin gSub (eCallS 1 1 F__law_pick (aCons (eC (.int 7)) aNil)) (eC (.int 3))) [17])) aNil)))
  (sSeq (sAsg 12 (cal cTup (aCons (mkL (eLc (itSeq (eVar 3)) (tgN 18) cYes (cal cSum (aCons (mkL (eLc (itZip (aCons (eVar 18) (aCons (eVar 11) aNil))) (tgTup 2 (tgsCons (tgN 19) (tgsCons (tgN 20) tgsNil))) cYes (bin gMulX (eVar 19) (eVar 20)) [19, 20])) aNil)) [18])) aNil)))
  (sSeq (sIf (tst (bin gNe (cal cRepr (aCons (eCall 2 F_led_row (aCons (eVar 3) (aCons (eVar 11) aNil))) aNil)) (cal cRepr (aCons (eVar 12) aNil)))) (sRet (eC (.bool false))) sNx)
  (sSeq (sIf (bAnd (tru (eVar 10)) (bAnd (tst (cal cAny (aCons (mkL (eLc (itSeq (eVar 11)) (tgN 16) cYes (bin gNe (eVar 16) (eC (.int 0))) [16])) aNil))) (tst (cal cAll (aCons (mkL (eLc (itZip (aCons (eVar 11) (aCons (eVar 12) aNil))) (tgTup 2 (tgsCons (tgN 16) (tgsCons (tgN 15) tgsNil))) cYes (bin gLe (bin gMulX (eVar 16) (eVar 15)) (eC (.int 0))) [16, 15])) aNil))))) (sRet (eC (.bool false))) sNx)
  (sSeq (sAsg 13 (eCall 1 F_turned_paper (aCons (eVar 3) aNil)))
  (sSeq (sIf (tru (eVar 10)) (sIf (tst (bin gNe (cal cRepr (aCons (eVar 13) aNil)) (cal cRepr (aCons (eTup (aCons (eC (.str "above")) aNil)) aNil)))) (sRet (eC (.bool false))) sNx) (sSeq (sAsg 14 (bin gIx (cal (cBest PySem.W.minD) (aCons (mkL (eLc (itSeq (eVar 7)) (tgTup 2 (tgsCons (tgN 16) (tgsCons (tgN 15) tgsNil))) (tst (bin gLe (eVar 15) (eC (.int 0)))) (eTup (aCons (cal cLen (aCons (eVar 16) aNil)) (aCons (eVar 16) aNil))) [16, 15])) aNil)) (eC (.int 1))))
  (sSeq (sIf (bOr (tst (bin gNe (eSl (eVar 13) oNo (oPart (eC (.int 2)))) (eTup (aCons (eC (.str "turned")) (aCons (eVar 14) aNil))))) (tst (cal cAll (aCons (mkL (eLc (itSeq (bin gIx (eVar 13) (eC (.int 2)))) (tgN 16) cYes (bin gEq (eVar 16) (eC (.int 0))) [16])) aNil)))) (sRet (eC (.bool false))) sNx)
  (sSeq (sAsg 15 (cal cTup (aCons (mkL (eLc (itSeq (eVar 3)) (tgN 18) cYes (cal cSum (aCons (mkL (eLc (itZip (aCons (eVar 18) (aCons (bin gIx (eVar 13) (eC (.int 2))) aNil))) (tgTup 2 (tgsCons (tgN 19) (tgsCons (tgN 20) tgsNil))) cYes (bin gMulX (eVar 19) (eVar 20)) [19, 20])) aNil)) [18])) aNil)))
  (sSeq (sIf (bOr (tst (cal cAny (aCons (mkL (eLc (itZip (aCons (bin gIx (eVar 13) (eC (.int 2))) (aCons (eVar 15) aNil))) (tgTup 2 (tgsCons (tgN 16) (tgsCons (tgN 21) tgsNil))) cYes (bin gGt (bin gMulX (eVar 16) (eVar 21)) (eC (.int 0))) [16, 21])) aNil))) (tst (bin gLe (bin gIx (bin gIx (eVar 13) (eC (.int 2))) (bin gIx (eVar 14) (eC (.int 0)))) (eC (.int 0))))) (sRet (eC (.bool false))) sNx)
  (sIf (bOr (tst (cal cAny (aCons (mkL (eLc (itSeq (eSl (eVar 14) (oPart (eC (.int 1))) oNo)) (tgN 17) cYes (bin gNe (bin gIx (eVar 15) (eVar 17)) (eC (.int 0))) [17])) aNil))) (tst (cal cAny (aCons (mkL (eLc (itRng1 (aCons (eVar 4) aNil)) (tgN 17) (tst (bin (gIn true) (eVar 17) (eVar 14))) (bin gNe (bin gIx (bin gIx (eVar 13) (eC (.int 2))) (eVar 17)) (eC (.int 0))) [17])) aNil)))) (sRet (eC (.bool false))) sNx))))))
  (sIf (tst (bin gNotN (eCall 2 F_judge_turned (aCons (eVar 3) (aCons (eVar 13) aNil))) (eC .none))) (sRet (eC (.bool false))) sNx)))))))))))))))
  (sRet (eC (.bool true))))
end L94
namespace L94
open PySem hiding ret
open Py L2
def cellS : Py.Env → M Out := sSet2 0 (eVar 6) (eVar 7) (bin gFdiv (bin gSub (bin gMulX (bin gIx (bin gIx (eVar 0) (eVar 6)) (eVar 7)) (bin gIx (bin gIx (eVar 0) (eVar 4)) (eVar 4))) (bin gMulX (bin gIx (bin gIx (eVar 0) (eVar 6)) (eVar 4)) (bin gIx (bin gIx (eVar 0) (eVar 4)) (eVar 7)))) (eVar 2))
def rowS : Py.Env → M Out := sFor (itRng2 (aCons (bin gAdd (eVar 4) (eC (.int 1))) (aCons (eVar 3) aNil))) (tgN 7) cellS
def elimS : Py.Env → M Out := sFor (itRng2 (aCons (bin gAdd (eVar 4) (eC (.int 1))) (aCons (eVar 3) aNil))) (tgN 6) rowS
def Bd (x : Int) : Prop := x.natAbs < 2^1000
theorem mulB {x y : Int} (hx : Bd x) (hy : Bd y) : mulOk x y = true := by
  have h : ∀ z : Int, Bd z → z.natAbs.log2 < 1001 := by
    intro z hz
    by_cases h0 : z.natAbs = 0
    · rw [h0]; decide
    · exact Nat.lt_succ_of_lt ((Nat.log2_lt h0).mpr hz)
  have a := h x hx
  have b := h y hy
  simp only [mulOk, decide_eq_true_eq]; omega
theorem divB {x y : Int} (hy : Bd y) (h0 : y ≠ 0) : divOk x y = true := by
  have : y.natAbs.log2 < 1000 := (Nat.log2_lt (by omega)).mpr hy
  simp only [divOk, decide_eq_true_eq]; exact ⟨h0, by omega⟩
theorem ixN_nat {n i : Nat} (h : i < n) : ixN n (i : Int) = some i := by
  unfold ixN
  simp [h]
theorem atI_nat {α : Type} {xs : List α} {i : Nat} {x : α} (h : xs[i]? = some x) : L2.atI xs (i : Int) = some x := by
  have hi : i < xs.length := (List.getElem?_eq_some_iff.mp h).1
  unfold L2.atI
  rw [ixN_nat hi]; exact h
/-- one cell -/
theorem cell {rows : List D} {i j k : Nat} {ri rk : List Int} {x y z t p : Int} {w n q : Option D} (hi : rows[i]? = some (.list (dInts ri))) (hk : rows[k]? = some (.list (dInts rk))) (hx : ri[j]? = some x) (hy : ri[k]? = some y) (hz : rk[k]? = some z) (ht : rk[j]? = some t) (b1 : mulOk x z = true) (b2 : mulOk y t = true) (b3 : divOk (x * z - y * t) p = true) :
    cellS [some (.list rows), w, some (.int p), n, some (.int k), q, some (.int i), some (.int j), none] = ret (.nx [some (.list (rows.set i (.list (dInts (ri.set j ((x * z - y * t).fdiv p)))))), w, some (.int p), n, some (.int k), q, some (.int i), some (.int j), none]) := by
  have g : ∀ {xs : List Int} {i : Nat} {x : Int}, xs[i]? = some x → gIx (.list (dInts xs)) (.int i) = ret (.int x) := fun h => gIx_l (atI_nat (by simp [dInts, h]))
  have e1 := gIx_l (atI_nat hi)
  have e2 := gIx_l (atI_nat hk)
  have li : i < rows.length := (List.getElem?_eq_some_iff.mp hi).1
  have lj : j < ri.length := (List.getElem?_eq_some_iff.mp hx).1
  simp only [cellS, sSet2, x_bin, x_eVar, List.getElem?_cons_succ, List.getElem?_cons_zero, Option.getD_some, optM_some, bnd_ret', e1, e2, g hx, g hy, g hz, g ht, x_gMulX_i, if_pos b1, if_pos b2, x_gI_i, x_gIc_i, if_pos b3, putRow, dInts_len, ixN_nat li, ixN_nat lj]
  simp [dInts, List.map_set]
def gC (y z p : Int) (x t : Int) : Int := (x * z - y * t).fdiv p
theorem rangeD_succ (lo : Nat) (m : Nat) : rangeD lo (m + 1) = .int lo :: rangeD (lo + 1 : Nat) m := by
  simp only [rangeD, List.range_succ_eq_map, List.map_cons, List.map_map]
  congr 1
  simp
  intro a _; omega
theorem rowLoop {rows : List D} {i k : Nat} {rk : List Int} {y z p : Int} {w n q : Option D} (hik : i ≠ k) (hk : rows[k]? = some (.list (dInts rk))) (li : i < rows.length) (hz : rk[k]? = some z) (bz : Bd z) (by' : Bd y) (hp : Bd p) (hp0 : p ≠ 0) : ∀ (tail pre : List Int) (rp rt : List Int) (v : Option D), rk = rp ++ rt → rp.length = pre.length → rt.length = tail.length → pre[k]? = some y → (∀ x ∈ tail, Bd x) → (∀ x ∈ rt, Bd x) →
    ∃ v', forW (tgN 7) cellS (rangeD (pre.length : Nat) tail.length) [some (.list (rows.set i (.list (dInts (pre ++ tail))))), w, some (.int p), n, some (.int k), q, some (.int i), v, none] = ret (.nx [some (.list (rows.set i (.list (dInts (pre ++ List.zipWith (gC y z p) tail rt))))), w, some (.int p), n, some (.int k), q, some (.int i), v', none])
  | [], pre, rp, rt, v, e, l1, l2, hy, bx, bt => by
    have : rt = [] := List.length_eq_zero_iff.mp l2
    subst this
    exact ⟨v, rfl⟩
  | x :: tail, pre, rp, t :: rt, v, e, l1, l2, hy, bx, bt => by
    have kl : k < pre.length := (List.getElem?_eq_some_iff.mp hy).1
    have c := cell (rows := rows.set i (.list (dInts (pre ++ x :: tail)))) (i := i) (j := pre.length) (k := k) (ri := pre ++ x :: tail) (rk := rk) (x := x) (y := y) (z := z) (t := t) (p := p) (w := w) (n := n) (q := q)
      (by simp [li]) (by rw [List.getElem?_set_ne hik]; exact hk) (by simp) (by rw [List.getElem?_append_left kl]; exact hy) hz (by rw [e, ← l1]; simp) (mulB (bx x (by simp)) bz) (mulB by' (bt t (by simp))) (divB hp hp0)
    obtain ⟨v', ih⟩ := rowLoop (w := w) (n := n) (q := q) hik hk li hz bz by' hp hp0 tail (pre ++ [gC y z p x t]) (rp ++ [t]) rt (some (.int pre.length)) (by rw [e]; simp) (by simp [l1]) (by simpa using l2) (by rw [List.getElem?_append_left kl]; exact hy) (fun a ha => bx a (by simp [ha])) (fun a ha => bt a (by simp [ha]))
    refine ⟨v', ?_⟩
    rw [List.length_cons, rangeD_succ]
    show bnd (cellS [some (.list (rows.set i (.list (dInts (pre ++ x :: tail))))), w, some (.int p), n, some (.int k), q, some (.int i), some (.int pre.length), none]) (fun o => oLoop o (forW (tgN 7) cellS (rangeD (pre.length + 1 : Nat) tail.length))) = _
    rw [c, bnd_ret', oLoop_nx]
    have e2 : (rows.set i (.list (dInts (pre ++ x :: tail)))).set i (.list (dInts ((pre ++ x :: tail).set pre.length ((x * z - y * t).fdiv p)))) = rows.set i (.list (dInts ((pre ++ [gC y z p x t]) ++ tail))) := by
      rw [List.set_set]
      congr 3
      simp [gC]
    rw [e2]
    have e3 : (pre ++ [gC y z p x t]).length = pre.length + 1 := by simp
    rw [e3] at ih
    rw [ih]
    simp
/-- what a stage makes of one row beneath -/
def elimRow (k : Nat) (rk : List Int) (z p : Int) (r : List Int) : List Int := r.take (k + 1) ++ List.zipWith (gC (r.getD k 0) z p) (r.drop (k + 1)) (rk.drop (k + 1))
def BdL (r : List Int) : Prop := ∀ x ∈ r, Bd x
theorem rowOne {rows : List D} {i k N : Nat} {r rk : List Int} {z p : Int} {w q v : Option D} (hik : i ≠ k) (hk : rows[k]? = some (.list (dInts rk))) (hi : rows[i]? = some (.list (dInts r))) (hz : rk[k]? = some z) (lr : r.length = N) (lk : rk.length = N) (kN : k + 1 ≤ N) (N5 : N ≤ 1000) (br : BdL r) (bk : BdL rk) (hp : Bd p) (hp0 : p ≠ 0) :
    ∃ v', rowS [some (.list rows), w, some (.int p), some (.int N), some (.int k), q, some (.int i), v, none] = ret (.nx [some (.list (rows.set i (.list (dInts (elimRow k rk z p r))))), w, some (.int p), some (.int N), some (.int k), q, some (.int i), v', none]) := by
  have li : i < rows.length := (List.getElem?_eq_some_iff.mp hi).1
  have kr : k < r.length := by omega
  have hy : r[k]? = some (r.getD k 0) := by simp [kr]
  obtain ⟨v', h⟩ := rowLoop (rows := rows) (w := w) (n := some (.int N)) (q := q) (p := p) hik hk li hz (bk z (List.mem_of_getElem? hz)) (br (r.getD k 0) (List.mem_of_getElem? hy)) hp hp0 (r.drop (k + 1)) (r.take (k + 1)) (rk.take (k + 1)) (rk.drop (k + 1)) v (by simp) (by simp; omega) (by simp; omega) (by rw [List.getElem?_take]; simp [kr]) (fun a ha => br a (List.mem_of_mem_drop ha)) (fun a ha => bk a (List.mem_of_mem_drop ha))
  refine ⟨v', ?_⟩
  have e1 : rows.set i (.list (dInts (r.take (k + 1) ++ r.drop (k + 1)))) = rows := by
    rw [List.take_append_drop]
    apply List.ext_getElem?
    intro m
    by_cases e : i = m
    · subst e; simp [li, hi]
      exact (List.getElem?_eq_some_iff.mp hi).2.symm
    · rw [List.getElem?_set_ne e]
  rw [e1] at h
  have l1 : (r.take (k + 1)).length = k + 1 := by simp; omega
  have l2 : (r.drop (k + 1)).length = N - (k + 1) := by simp; omega
  rw [l1, l2] at h
  have r1 : rngOk ((k : Int) + 1) = true := by simp [rngOk]; omega
  have r2 : rngOk (N : Int) = true := by simp [rngOk]; omega
  simp only [rowS, x_sFor, x_itRng2, x_aCons, x_aNil, x_bin, x_eVar, x_eC, List.getElem?_cons_succ, List.getElem?_cons_zero, Option.getD_some, optM_some, bnd_ret', x_gAdd_i, rng2_i, r1, r2, Bool.and_self, if_true]
  have e4 : ((N : Int) - ((k : Int) + 1)).toNat = N - (k + 1) := by omega
  rw [e4]
  exact h
theorem forW_cons (tg : D → Py.Env → M Py.Env) (body : Py.Env → M Out) (d : D) (ds : List D) (ρ : Py.Env) : forW tg body (d :: ds) ρ = bnd (tg d ρ) fun ρ' => bnd (body ρ') fun o => oLoop o (forW tg body ds) := rfl
def elimD (k : Nat) (rk : List Int) (z p : Int) (M : List (List Int)) : List (List Int) := M.map (elimRow k rk z p)
theorem elimLoop {N k : Nat} {rk : List Int} {z p : Int} {w q : Option D} (hz : rk[k]? = some z) (lk : rk.length = N) (kN : k + 1 ≤ N) (N5 : N ≤ 1000) (bk : BdL rk) (hp : Bd p) (hp0 : p ≠ 0) : ∀ (rest done : List (List Int)) (u v : Option D), done[k]? = some rk → (∀ r ∈ rest, r.length = N ∧ BdL r) →
    ∃ u' v', forW (tgN 6) rowS (rangeD (done.length : Nat) rest.length) [some (dL (done ++ rest)), w, some (.int p), some (.int N), some (.int k), q, u, v, none] = ret (.nx [some (dL (done ++ elimD k rk z p rest)), w, some (.int p), some (.int N), some (.int k), q, u', v', none])
  | [], done, u, v, hd, _ => ⟨u, v, rfl⟩
  | r :: rest, done, u, v, hd, hr => by
    have kl : k < done.length := (List.getElem?_eq_some_iff.mp hd).1
    obtain ⟨v1, c⟩ := rowOne (rows := (done ++ r :: rest).map lstI) (i := done.length) (k := k) (N := N) (r := r) (rk := rk) (z := z) (p := p) (w := w) (q := q) (v := v) (by omega)
      (by rw [List.getElem?_map, List.getElem?_append_left kl, hd]; rfl) (by simp; rfl) hz (hr r (by simp)).1 lk kN N5 (hr r (by simp)).2 bk hp hp0
    obtain ⟨u', v', ih⟩ := elimLoop (w := w) (q := q) hz lk kN N5 bk hp hp0 rest (done ++ [elimRow k rk z p r]) (some (.int done.length)) v1 (by rw [List.getElem?_append_left kl]; exact hd) (fun a ha => hr a (by simp [ha]))
    refine ⟨u', v', ?_⟩
    rw [List.length_cons, rangeD_succ]
    rw [forW_cons, x_tgN, bnd_ret']
    simp only [List.set_cons_succ, List.set_cons_zero]
    rw [show dL (done ++ r :: rest) = .list ((done ++ r :: rest).map lstI) from rfl, c, bnd_ret', oLoop_nx]
    have e2 : PyData.list (((done ++ r :: rest).map lstI).set done.length (.list (dInts (elimRow k rk z p r)))) = dL ((done ++ [elimRow k rk z p r]) ++ rest) := by
      show PyData.list _ = PyData.list _
      congr 1
      rw [List.map_append, List.map_append, List.map_append, List.map_cons, List.set_append_right _ _ (by simp), List.length_map, Nat.sub_self, List.set_cons_zero]
      simp only [List.map_cons, List.map_nil, List.append_assoc, List.singleton_append, List.cons_append, List.nil_append, lstI]
    rw [e2]
    have e3 : (done ++ [elimRow k rk z p r]).length = done.length + 1 := by simp
    rw [e3] at ih
    rw [ih]
    simp [elimD]
theorem getD_some {α : Type} {xs : List α} {k : Nat} {d : α} (h : k < xs.length) : xs[k]? = some (xs.getD k d) := by
  rw [List.getD_eq_getElem?_getD, List.getElem?_eq_getElem h]; rfl
def pivE : Py.Env → M D := mkL (eLc (itRng2 (aCons (eVar 4) (aCons (eVar 3) aNil))) (tgN 6) (tst (bin gNe (bin gIx (bin gIx (eVar 0) (eVar 6)) (eVar 4)) (eC (.int 0)))) (eVar 6) [6])
def pivs (N k : Nat) (M : List (List Int)) : List Nat := ((List.range (N - k)).map (k + ·)).filter fun i => decide ((M.getD i []).getD k 0 ≠ 0)
theorem eqv_int (a b : Int) : PyData.eqv (.int a) (.int b) = decide (a = b) := by
  by_cases h : a = b <;> simp [PyData.eqv, h]
theorem shp_int (a : Int) : shp (.int a) = true := rfl
theorem pivE_eq {N k : Nat} {M : List (List Int)} {w p q u v : Option D} (hM : M.length = N) (hr : ∀ r ∈ M, r.length = N) (kN : k ≤ N) (N5 : N ≤ 1000) :
    pivE [some (dL M), w, p, some (.int N), some (.int k), q, u, v, none] = ret (.list ((pivs N k M).map fun i => .int (i : Nat))) := by
  have r1 : rngOk (k : Int) = true := by simp [rngOk]; omega
  have r2 : rngOk (N : Int) = true := by simp [rngOk]; omega
  have e4 : ((N : Int) - (k : Int)).toNat = N - k := by omega
  simp only [pivE, x_mkL, x_eLc, x_itRng2, x_aCons, x_aNil, x_eVar, List.getElem?_cons_succ, List.getElem?_cons_zero, Option.getD_some, optM_some, bnd_ret', rng2_i, r1, r2, Bool.and_self, if_true, e4]
  have e5 : rangeD (k : Int) (N - k) = ((List.range (N - k)).map (k + ·)).map fun i => .int (i : Nat) := by
    simp [rangeD]
  rw [e5, lcW_map (fun i : Nat => PyData.int (i : Nat)) (fun i => decide ((M.getD i []).getD k 0 ≠ 0)) (fun i => PyData.int (i : Nat))]
  · rfl
  · intro i hi
    simp only [List.mem_map, List.mem_range] at hi
    obtain ⟨j, hj, rfl⟩ := hi
    refine ⟨_, rfl, ?_, fun _ => rfl⟩
    have li : k + j < M.length := by omega
    have hrow : M[k + j]? = some (M.getD (k + j) []) := by simp [li]
    have lr : (M.getD (k + j) []).length = N := hr _ (List.mem_of_getElem? hrow)
    have kl : k < (M.getD (k + j) []).length := by omega
    have g1 : gIx (dL M) (.int ((k + j : Nat) : Int)) = ret (lstI (M.getD (k + j) [])) := gIx_l (atI_nat (by rw [List.getElem?_map, hrow]; rfl))
    have g2 : gIx (lstI (M.getD (k + j) [])) (.int (k : Int)) = ret (.int ((M.getD (k + j) []).getD k 0)) := gIx_l (atI_nat (by rw [dInts, List.getElem?_map, show (M.getD (k + j) [])[k]? = some ((M.getD (k + j) []).getD k 0) from getD_some kl]; rfl))
    simp only [x_wipeD_cons, x_wipeD_nil, List.set_cons_succ, List.set_cons_zero, x_tst, x_bin, x_eVar, x_eC, List.getElem?_cons_succ, List.getElem?_cons_zero, Option.getD_some, optM_some, bnd_ret', g1, g2, gNe, shp_int, Bool.and_self, if_true, eqv_int, toB_b]
    simp
theorem canLayAll_ints : ∀ xs : List Int, PyData.canLayAll0 (dInts xs) = true
  | [] => by simp [dInts, PyData.canLayAll0]
  | x :: xs => by
    show PyData.canLayAll0 (.int x :: dInts xs) = true
    simp [PyData.canLayAll0, PyData.canLay0, canLayAll_ints xs]
theorem depthAll_ints : ∀ xs : List Int, PyData.depthAll (dInts xs) = 0
  | [] => by simp [dInts, PyData.depthAll]
  | x :: xs => by
    show PyData.depthAll (.int x :: dInts xs) = 0
    simp [PyData.depthAll, PyData.depth, depthAll_ints xs]
theorem shp_ints (xs : List Int) : shp (.list (dInts xs)) = true := by
  show SeqAt.shaped _ = true
  simp [SeqAt.shaped, PyData.canLay0, PyData.depth, canLayAll_ints, depthAll_ints]
theorem shp_intsT (xs : List Int) : shp (tupI xs) = true := by
  show SeqAt.shaped (.tuple (dInts xs)) = true
  simp [SeqAt.shaped, PyData.canLay0, PyData.depth, canLayAll_ints, depthAll_ints]
theorem shp_nil : shp (.list []) = true := rfl
theorem eqv_ints_nil (xs : List D) : PyData.eqv (.list xs) (.list []) = xs.isEmpty := by
  cases xs <;> simp [PyData.eqv, PyData.eqvAll]
def bodyS : Py.Env → M Out := sSeq (sAsg 5 pivE)
  (sSeq (sIf (tst (bin gEq (eVar 5) (mkL (lDisp aNil)))) (sRet (eC (.int 0))) sNx)
  (sSeq (sIf (tst (bin gNe (bin gIx (eVar 5) (eC (.int 0))) (eVar 4))) (sSeq (sSwap 0 4 5)
  (sAsg 1 (bin gSub (eC (.int 0)) (eVar 1)))) sNx)
  (sSeq elimS
  (sAsg 2 (bin gIx (bin gIx (eVar 0) (eVar 4)) (eVar 4))))))
def swp (M : List (List Int)) (a b : Nat) : List (List Int) := (M.set a (M.getD b [])).set b (M.getD a [])
def stg (k : Nat) (p : Int) (M : List (List Int)) : List (List Int) := M.take (k + 1) ++ elimD k (M.getD k []) ((M.getD k []).getD k 0) p (M.drop (k + 1))
def MOk (N : Nat) (M : List (List Int)) : Prop := M.length = N ∧ ∀ r ∈ M, r.length = N ∧ BdL r
theorem elimS_eq {N k : Nat} {M : List (List Int)} {p : Int} {w q u v : Option D} (h : MOk N M) (kN : k + 1 ≤ N) (N5 : N ≤ 1000) (hp : Bd p) (hp0 : p ≠ 0) :
    ∃ u' v', elimS [some (dL M), w, some (.int p), some (.int N), some (.int k), q, u, v, none] = ret (.nx [some (dL (stg k p M)), w, some (.int p), some (.int N), some (.int k), q, u', v', none]) := by
  obtain ⟨h1, h2⟩ := h
  have r1 : rngOk ((k : Int) + 1) = true := by simp [rngOk]; omega
  have r2 : rngOk (N : Int) = true := by simp [rngOk]; omega
  have kM : k < M.length := by omega
  have hk : M[k]? = some (M.getD k []) := getD_some kM
  have hm := h2 _ (List.mem_of_getElem? hk)
  have kk : k < (M.getD k []).length := by omega
  obtain ⟨u', v', c⟩ := elimLoop (w := w) (q := q) (p := p) (getD_some (d := 0) kk) hm.1 kN N5 hm.2 hp hp0 (M.drop (k + 1)) (M.take (k + 1)) u v (by rw [List.getElem?_take_of_lt (by omega)]; exact hk) (fun r hr => h2 r (List.mem_of_mem_drop hr))
  refine ⟨u', v', ?_⟩
  have l1 : (M.take (k + 1)).length = k + 1 := by simp; omega
  have l2 : (M.drop (k + 1)).length = N - (k + 1) := by simp; omega
  rw [l1, l2, List.take_append_drop] at c
  have e4 : ((N : Int) - ((k : Int) + 1)).toNat = N - (k + 1) := by omega
  simp only [elimS, x_sFor, x_itRng2, x_aCons, x_aNil, x_bin, x_eVar, x_eC, List.getElem?_cons_succ, List.getElem?_cons_zero, Option.getD_some, optM_some, bnd_ret', x_gAdd_i, rng2_i, r1, r2, Bool.and_self, if_true, e4]
  exact c
/-- a stage where all is nought -/
theorem stage_none {N k : Nat} {M : List (List Int)} {w p q u v : Option D} (h : MOk N M) (kN : k ≤ N) (N5 : N ≤ 1000) (hv : pivs N k M = []) :
    bodyS [some (dL M), w, p, some (.int N), some (.int k), q, u, v, none] = ret (.rt (.int 0)) := by
  simp only [bodyS, x_sSeq, x_sAsg, pivE_eq h.1 (fun r hr => (h.2 r hr).1) kN N5, bnd_ret', oThen_nx, hv, List.map_nil, List.set_cons_succ, List.set_cons_zero, x_sIf, x_tst, x_bin, x_eVar, x_mkL, x_lDisp, x_aNil, x_sRet, x_eC, List.getElem?_cons_succ, List.getElem?_cons_zero, Option.getD_some, optM_some, bnd_ret', List.length_nil, gEq, shp_nil, Bool.and_self, if_true, eqv_ints_nil, List.isEmpty_nil, toB_b, oThen_rt]
  rfl
/-- a stage where s is the first that is not nought -/
theorem stage_some {N k s : Nat} {tl : List Nat} {M : List (List Int)} {w p : Int} {q u v : Option D} (h : MOk N M) (kN : k + 1 ≤ N) (N5 : N ≤ 1000) (hp : Bd p) (hp0 : p ≠ 0) (hv : pivs N k M = s :: tl) :
    ∃ q' u' v', bodyS [some (dL M), some (.int w), some (.int p), some (.int N), some (.int k), q, u, v, none] =
      ret (.nx [some (dL (stg k p (if s = k then M else swp M k s))), some (.int (if s = k then w else -w)), some (.int (((if s = k then M else swp M k s).getD k []).getD k 0)), some (.int N), some (.int k), q', u', v', none]) := by
  have hs : s ∈ pivs N k M := by rw [hv]; simp
  simp only [pivs, List.mem_filter, List.mem_map, List.mem_range] at hs
  obtain ⟨⟨j, hj, hjs⟩, -⟩ := hs
  have ls : s < M.length := by rw [h.1]; omega
  have lk : k < M.length := by rw [h.1]; omega
  have gs := getD_some (d := []) ls
  have gk := getD_some (d := []) lk
  obtain ⟨L, T, hL, c1⟩ : ∃ L T : List Int, L = (s : Int) :: T ∧ (PyData.list ((s :: tl).map fun i => .int (i : Nat))) = .list (dInts L) := ⟨_, tl.map fun (i : Nat) => (i : Int), rfl, by simp [dInts]⟩
  have g1 : ∀ (ds : List D) d, gIx (.list (d :: ds)) (.int 0) = ret d := fun ds d => by
    refine gIx_l ?_
    exact atI_nat (i := 0) rfl
  have fin : ∀ (w' : Int) (M' : List (List Int)) (q' u v : Option D), MOk N M' → ∃ u' v', (sSeq elimS (sAsg 2 (bin gIx (bin gIx (eVar 0) (eVar 4)) (eVar 4)))) [some (dL M'), some (.int w'), some (.int p), some (.int N), some (.int k), q', u, v, none] = ret (.nx [some (dL (stg k p M')), some (.int w'), some (.int ((M'.getD k []).getD k 0)), some (.int N), some (.int k), q', u', v', none]) := by
    intro w' M' q' u v h'
    obtain ⟨u', v', e⟩ := elimS_eq (w := some (.int w')) (q := q') (u := u) (v := v) h' kN N5 hp hp0
    refine ⟨u', v', ?_⟩
    have lk' : k < M'.length := by rw [h'.1]; omega
    have gk' := getD_some (d := []) lk'
    have lkk : k < (M'.getD k []).length := by rw [(h'.2 _ (List.mem_of_getElem? gk')).1]; omega
    have e1 : gIx (dL (stg k p M')) (.int (k : Int)) = ret (lstI (M'.getD k [])) := gIx_l (atI_nat (by
      rw [List.getElem?_map, stg, List.getElem?_append_left (by simp; omega), List.getElem?_take_of_lt (by omega), gk']; rfl))
    have e2 : gIx (lstI (M'.getD k [])) (.int (k : Int)) = ret (.int ((M'.getD k []).getD k 0)) := gIx_l (atI_nat (by rw [dInts, List.getElem?_map, getD_some (d := 0) lkk]; rfl))
    simp only [x_sSeq, e, bnd_ret', oThen_nx, x_sAsg, x_bin, x_eVar, List.getElem?_cons_succ, List.getElem?_cons_zero, Option.getD_some, optM_some, e1, e2, List.set_cons_succ, List.set_cons_zero]
  have pe : pivE [some (dL M), some (.int w), some (.int p), some (.int N), some (.int k), q, u, v, none] = ret (.list (dInts L)) := by
    rw [pivE_eq h.1 (fun r hr => (h.2 r hr).1) (by omega) N5, hv, c1]
  have g0 : gIx (.list (dInts L)) (.int 0) = ret (.int (s : Int)) := by rw [hL]; exact g1 _ _
  have gn : PyData.eqv (.list (dInts L)) (.list []) = false := by rw [eqv_ints_nil, hL]; rfl
  by_cases e : s = k
  · obtain ⟨u', v', c⟩ := fin w M (some (.list (dInts L))) u v h
    refine ⟨some (.list (dInts L)), u', v', ?_⟩
    rw [if_pos e, if_pos e, ← c]
    have e2 : ((s : Int) = (k : Int)) := by omega
    simp only [bodyS, x_sSeq, x_sAsg, pe, bnd_ret', oThen_nx, List.set_cons_succ, List.set_cons_zero, x_sIf, x_tst, x_bin, x_eVar, x_mkL, x_lDisp, x_aNil, x_sRet, x_sNx, x_eC, List.getElem?_cons_succ, List.getElem?_cons_zero, Option.getD_some, optM_some, bnd_ret', List.length_nil, gEq, gNe, shp_nil, shp_ints, Bool.and_self, if_true, List.isEmpty_nil, toB_b, oThen_rt, lenOk_def, Nat.zero_le, gn, g0, shp_int, eqv_int, Bool.false_eq_true, if_false, e2, decide_true, Bool.not_true]
  · obtain ⟨u', v', c⟩ := fin (-w) (swp M k (s)) (some (.list (dInts L))) u v (by
      refine ⟨by simp [swp, h.1], fun r hr => ?_⟩
      rcases List.mem_or_eq_of_mem_set hr with h1 | h1
      · rcases List.mem_or_eq_of_mem_set h1 with h2 | h2
        · exact h.2 r h2
        · exact h2 ▸ h.2 _ (List.mem_of_getElem? gs)
      · exact h1 ▸ h.2 _ (List.mem_of_getElem? gk))
    refine ⟨some (.list (dInts L)), u', v', ?_⟩
    rw [if_neg e, if_neg e, ← c]
    have sw : swapR 0 (dL M) (.list (dInts L)) (.int (k : Int)) [some (dL M), some (.int w), some (.int p), some (.int N), some (.int k), some (.list (dInts L)), u, v, none] = ret (.nx [some (dL (swp M k (s))), some (.int w), some (.int p), some (.int N), some (.int k), some (.list (dInts L)), u, v, none]) := by
      have i1 : ixN (M.map lstI).length (k : Int) = some k := ixN_nat (by simpa using lk)
      have i2 : ixN (M.map lstI).length (s : Int) = some (s) := ixN_nat (by simpa using ls)
      have j1 : (M.map lstI)[k]? = some (lstI (M.getD k [])) := by rw [List.getElem?_map, gk]; rfl
      have j2 : (M.map lstI)[s]? = some (lstI (M.getD (s) [])) := by rw [List.getElem?_map, gs]; rfl
      rw [hL]
      show (match ixN (M.map lstI).length (k : Int) with | some a => _ | none => stuck) = _
      rw [i1]
      show (match ixN (M.map lstI).length (s : Int) with | some b => _ | none => stuck) = _
      rw [i2]
      show (match (M.map lstI)[k]? with | some ra => _ | none => stuck) = _
      rw [j1]
      show (match (M.map lstI)[s]? with | some ra => _ | none => stuck) = _
      rw [j2]
      show ret _ = ret _
      simp [swp, dL, List.map_set]
    have e2 : ¬ ((s : Int) = (k : Int)) := by omega
    simp only [bodyS, x_sSeq, x_sAsg, pe, bnd_ret', oThen_nx, List.set_cons_succ, List.set_cons_zero, x_sIf, x_tst, x_bin, x_eVar, x_mkL, x_lDisp, x_aNil, x_sRet, x_sNx, x_eC, List.getElem?_cons_succ, List.getElem?_cons_zero, Option.getD_some, optM_some, bnd_ret', List.length_nil, gEq, gNe, shp_nil, shp_ints, Bool.and_self, if_true, List.isEmpty_nil, toB_b, oThen_rt, lenOk_def, Nat.zero_le, gn, g0, shp_int, eqv_int, Bool.false_eq_true, if_false, decide_false, Bool.not_false, sSwap, sw, e2, x_gI_i]
    rw [Int.zero_sub]
def finS : Py.Env → M Out := sRet (eIf (tst (bin gGt (eVar 3) (eC (.int 0)))) (bin gMulX (eVar 1) (bin gIx (bin gIx (eVar 0) (bin gSub (eVar 3) (eC (.int 1)))) (bin gSub (eVar 3) (eC (.int 1))))) (eC (.int 1)))
def Run (N k : Nat) (w p : Int) (T : List (List Int)) (r : Int) : Prop := ∀ x q u v, bnd (forW (tgN 4) bodyS (rangeD (k : Nat) (N - 1 - k)) [some (dL T), some (.int w), some (.int p), some (.int N), x, q, u, v, none]) (fun o => oThen o finS) = ret (.rt (.int r))
theorem run_end {N : Nat} {w p : Int} {T : List (List Int)} (h : MOk N T) (hN : 0 < N) (hw : Bd w) : Run N (N - 1) w p T (w * (T.getD (N - 1) []).getD (N - 1) 0) := by
  intro x q u v
  have lk : N - 1 < T.length := by rw [h.1]; omega
  have gk := getD_some (d := []) lk
  have hm := h.2 _ (List.mem_of_getElem? gk)
  have lkk : N - 1 < (T.getD (N - 1) []).length := by rw [hm.1]; omega
  have gkk := getD_some (d := 0) lkk
  have i1 : ((N : Int) - 1) = ((N - 1 : Nat) : Int) := by omega
  have e1 : gIx (dL T) (.int ((N - 1 : Nat) : Int)) = ret (lstI (T.getD (N - 1) [])) := gIx_l (atI_nat (by rw [List.getElem?_map, gk]; rfl))
  have e2 : gIx (lstI (T.getD (N - 1) [])) (.int ((N - 1 : Nat) : Int)) = ret (.int ((T.getD (N - 1) []).getD (N - 1) 0)) := gIx_l (atI_nat (by rw [dInts, List.getElem?_map, gkk]; rfl))
  have e3 : mulOk w ((T.getD (N - 1) []).getD (N - 1) 0) = true := mulB hw (hm.2 _ (List.mem_of_getElem? gkk))
  have e4 : decide ((0 : Int) < (N : Int)) = true := by simp; omega
  rw [Nat.sub_self, show rangeD ((N - 1 : Nat) : Int) 0 = [] from rfl]
  show bnd (ret (Out.nx _)) _ = _
  simp only [bnd_ret', oThen_nx, finS, x_sRet, x_eIf, x_tst, x_bin, x_eVar, x_eC, List.getElem?_cons_succ, List.getElem?_cons_zero, Option.getD_some, optM_some, x_gI_i, toB_b, e4, if_true, i1, e1, e2, x_gMulX_i, e3]
theorem run_none {N k : Nat} {w p : Int} {T : List (List Int)} (h : MOk N T) (N5 : N ≤ 1000) (hk : k + 1 < N) (hv : pivs N k T = []) : Run N k w p T 0 := by
  intro x q u v
  have e : N - 1 - k = (N - 1 - (k + 1)) + 1 := by omega
  rw [e, rangeD_succ, forW_cons, x_tgN, bnd_ret']
  simp only [List.set_cons_succ, List.set_cons_zero]
  rw [stage_none h (by omega) N5 hv, bnd_ret', oLoop_rt, bnd_ret', oThen_rt]
theorem run_some {N k s : Nat} {tl : List Nat} {w p r : Int} {T : List (List Int)} (h : MOk N T) (N5 : N ≤ 1000) (hk : k + 1 < N) (hp : Bd p) (hp0 : p ≠ 0) (hv : pivs N k T = s :: tl)
    (hr : Run N (k + 1) (if s = k then w else -w) (((if s = k then T else swp T k s).getD k []).getD k 0) (stg k p (if s = k then T else swp T k s)) r) : Run N k w p T r := by
  intro x q u v
  have e : N - 1 - k = (N - 1 - (k + 1)) + 1 := by omega
  rw [e, rangeD_succ, forW_cons, x_tgN, bnd_ret']
  simp only [List.set_cons_succ, List.set_cons_zero]
  obtain ⟨q', u', v', c⟩ := stage_some (w := w) (q := q) (u := u) (v := v) h (by omega) N5 hp hp0 hv
  rw [c, bnd_ret', oLoop_nx]
  exact hr _ _ _ _
theorem filter_first {p : Nat → Bool} : ∀ {l : List Nat} {s : Nat} {l1 l2 : List Nat}, l = l1 ++ s :: l2 → (∀ i ∈ l1, p i = false) → p s = true → l.filter p = s :: l2.filter p
  | _, s, [], l2, rfl, h1, h2 => by simp [h2]
  | _, s, x :: l1, l2, rfl, h1, h2 => by
    rw [List.cons_append, List.filter_cons, h1 x (by simp)]
    exact filter_first rfl (fun i hi => h1 i (by simp [hi])) h2
theorem pivs_none {N k : Nat} {T : List (List Int)} (h : ∀ i, k ≤ i → i < N → (T.getD i []).getD k 0 = 0) : pivs N k T = [] := by
  rw [pivs, List.filter_eq_nil_iff]
  intro i hi
  simp only [List.mem_map, List.mem_range] at hi
  obtain ⟨j, hj, rfl⟩ := hi
  simp only [h (k + j) (by omega) (by omega), ne_eq, not_true, decide_false, Bool.false_eq_true, not_false_eq_true]
theorem pivs_some {N k s : Nat} {T : List (List Int)} (hks : k ≤ s) (hs : s < N) (h0 : ∀ i, k ≤ i → i < s → (T.getD i []).getD k 0 = 0) (h : (T.getD s []).getD k 0 ≠ 0) : ∃ tl, pivs N k T = s :: tl := by
  have e : (List.range (N - k)).map (k + ·) = ((List.range (s - k)).map (k + ·)) ++ s :: ((List.range (N - s - 1)).map (s + 1 + ·)) := by
    apply List.ext_getElem?
    intro i
    simp only [List.getElem?_append, List.getElem?_map, List.length_map, List.length_range]
    by_cases h1 : i < s - k
    · rw [if_pos h1, List.getElem?_range (by omega), List.getElem?_range h1]
    · rw [if_neg h1]
      by_cases h2 : i = s - k
      · subst h2
        rw [Nat.sub_self, List.getElem?_range (by omega)]
        simp; omega
      · obtain ⟨m, hm⟩ : ∃ m, i - (s - k) = m + 1 := ⟨i - (s - k) - 1, by omega⟩
        rw [hm, List.getElem?_cons_succ, List.getElem?_map]
        by_cases h3 : i < N - k
        · rw [List.getElem?_range h3, List.getElem?_range (by omega)]
          simp; omega
        · rw [List.getElem?_eq_none (by simp; omega), List.getElem?_eq_none (by simp; omega)]
          rfl
  refine ⟨_, filter_first e (fun i hi => ?_) (by simpa using h)⟩
  simp only [List.mem_map, List.mem_range] at hi
  obtain ⟨j, hj, rfl⟩ := hi
  simp only [h0 (k + j) (by omega) (by omega), ne_eq, not_true, decide_false]
/-! bounds -/
def B (n : Nat) (x : Int) : Prop := x.natAbs ≤ 2 ^ n
theorem B.mono {n m : Nat} {x : Int} (h : B n x) (hm : n ≤ m) : B m x := Nat.le_trans h (Nat.pow_le_pow_right (by decide) hm)
theorem B.mul {n m : Nat} {x y : Int} (hx : B n x) (hy : B m y) : B (n + m) (x * y) := by
  unfold B at *
  rw [Int.natAbs_mul, Nat.pow_add]
  exact Nat.mul_le_mul hx hy
theorem B.sub {n : Nat} {x y : Int} (hx : B n x) (hy : B n y) : B (n + 1) (x - y) := by
  unfold B at *
  rw [Nat.pow_succ]; omega
theorem B.add {n : Nat} {x y : Int} (hx : B n x) (hy : B n y) : B (n + 1) (x + y) := by
  unfold B at *
  rw [Nat.pow_succ]; omega
theorem B.bd {n : Nat} {x : Int} (hx : B n x) (hn : n < 1000) : Bd x := Nat.lt_of_le_of_lt hx (Nat.pow_lt_pow_right (by decide) hn)
theorem B.neg {n : Nat} {x : Int} (hx : B n x) : B n (-x) := by unfold B at *; omega
def d2 (a b c d : Int) : Int := a * d - b * c
def d3 (a b c d e f g h i : Int) : Int := a * d2 e f h i - b * d2 d f g i + c * d2 d e g h
def d4 (a0 a1 a2 a3 b0 b1 b2 b3 c0 c1 c2 c3 e0 e1 e2 e3 : Int) : Int := a0 * d3 b1 b2 b3 c1 c2 c3 e1 e2 e3 - a1 * d3 b0 b2 b3 c0 c2 c3 e0 e2 e3 + a2 * d3 b0 b1 b3 c0 c1 c3 e0 e1 e3 - a3 * d3 b0 b1 b2 c0 c1 c2 e0 e1 e2
theorem B.d2 {a b c d : Int} (ha : B 60 a) (hb : B 60 b) (hc : B 60 c) (hd : B 60 d) : B 121 (d2 a b c d) := (ha.mul hd).sub (hb.mul hc)
theorem B.d3 {a b c d e f g h i : Int} (ha : B 60 a) (hb : B 60 b) (hc : B 60 c) (hd : B 60 d) (he : B 60 e) (hf : B 60 f) (hg : B 60 g) (hh : B 60 h) (hi : B 60 i) : B 183 (d3 a b c d e f g h i) :=
  ((ha.mul (he.d2 hf hh hi)).sub (hb.mul (hd.d2 hf hg hi))).add ((hc.mul (hd.d2 he hg hh)).mono (by decide))
theorem B.d4 {a0 a1 a2 a3 b0 b1 b2 b3 c0 c1 c2 c3 e0 e1 e2 e3 : Int} (ha0 : B 60 a0) (ha1 : B 60 a1) (ha2 : B 60 a2) (ha3 : B 60 a3) (hb0 : B 60 b0) (hb1 : B 60 b1) (hb2 : B 60 b2) (hb3 : B 60 b3) (hc0 : B 60 c0) (hc1 : B 60 c1) (hc2 : B 60 c2) (hc3 : B 60 c3) (he0 : B 60 e0) (he1 : B 60 e1) (he2 : B 60 e2) (he3 : B 60 e3) : B 246 (d4 a0 a1 a2 a3 b0 b1 b2 b3 c0 c1 c2 c3 e0 e1 e2 e3) :=
  ((((ha0.mul (hb1.d3 hb2 hb3 hc1 hc2 hc3 he1 he2 he3)).sub (ha1.mul (hb0.d3 hb2 hb3 hc0 hc2 hc3 he0 he2 he3))).add ((ha2.mul (hb0.d3 hb1 hb3 hc0 hc1 hc3 he0 he1 he3)).mono (by decide))).sub ((ha3.mul (hb0.d3 hb1 hb2 hc0 hc1 hc2 he0 he1 he2)).mono (by decide)))
/-! identities -/
theorem id2 (a0 a1 a2 b0 b1 b2 c0 c1 c2 : Int) : d2 a0 a2 c0 c2 * d2 a0 a1 b0 b1 - d2 a0 a1 c0 c1 * d2 a0 a2 b0 b2 = d3 a0 a1 a2 b0 b1 b2 c0 c1 c2 * a0 := by
  unfold d3 d2; grind
set_option maxHeartbeats 2000000 in
theorem id3 (a0 a1 a2 a3 b0 b1 b2 b3 c0 c1 c2 c3 e0 e1 e2 e3 : Int) : d3 a0 a1 a3 b0 b1 b3 e0 e1 e3 * d3 a0 a1 a2 b0 b1 b2 c0 c1 c2 - d3 a0 a1 a2 b0 b1 b2 e0 e1 e2 * d3 a0 a1 a3 b0 b1 b3 c0 c1 c3 = d4 a0 a1 a2 a3 b0 b1 b2 b3 c0 c1 c2 c3 e0 e1 e2 e3 * d2 a0 a1 b0 b1 := by
  unfold d4 d3 d2; grind
theorem mok4 {a0 a1 a2 a3 b0 b1 b2 b3 c0 c1 c2 c3 e0 e1 e2 e3 : Int} (ha0 : Bd a0) (ha1 : Bd a1) (ha2 : Bd a2) (ha3 : Bd a3) (hb0 : Bd b0) (hb1 : Bd b1) (hb2 : Bd b2) (hb3 : Bd b3) (hc0 : Bd c0) (hc1 : Bd c1) (hc2 : Bd c2) (hc3 : Bd c3) (he0 : Bd e0) (he1 : Bd e1) (he2 : Bd e2) (he3 : Bd e3) : MOk 4 [[a0, a1, a2, a3], [b0, b1, b2, b3], [c0, c1, c2, c3], [e0, e1, e2, e3]] := by
  refine ⟨rfl, ?_⟩
  simp only [List.forall_mem_cons, BdL]
  exact ⟨⟨rfl, ha0, ha1, ha2, ha3, by simp⟩, ⟨rfl, hb0, hb1, hb2, hb3, by simp⟩, ⟨rfl, hc0, hc1, hc2, hc3, by simp⟩, ⟨rfl, he0, he1, he2, he3, by simp⟩, by simp⟩
theorem mok3 {a0 a1 a2 b0 b1 b2 c0 c1 c2 : Int} (ha0 : Bd a0) (ha1 : Bd a1) (ha2 : Bd a2) (hb0 : Bd b0) (hb1 : Bd b1) (hb2 : Bd b2) (hc0 : Bd c0) (hc1 : Bd c1) (hc2 : Bd c2) : MOk 3 [[a0, a1, a2], [b0, b1, b2], [c0, c1, c2]] := by
  refine ⟨rfl, ?_⟩
  simp only [List.forall_mem_cons, BdL]
  exact ⟨⟨rfl, ha0, ha1, ha2, by simp⟩, ⟨rfl, hb0, hb1, hb2, by simp⟩, ⟨rfl, hc0, hc1, hc2, by simp⟩, by simp⟩
theorem mok2 {a0 a1 b0 b1 : Int} (ha0 : Bd a0) (ha1 : Bd a1) (hb0 : Bd b0) (hb1 : Bd b1) : MOk 2 [[a0, a1], [b0, b1]] := by
  refine ⟨rfl, ?_⟩
  simp only [List.forall_mem_cons, BdL]
  exact ⟨⟨rfl, ha0, ha1, by simp⟩, ⟨rfl, hb0, hb1, by simp⟩, by simp⟩
theorem mok1 {a0 : Int} (ha0 : Bd a0) : MOk 1 [[a0]] := by
  refine ⟨rfl, ?_⟩
  simp only [List.forall_mem_cons, BdL]
  exact ⟨⟨rfl, ha0, by simp⟩, by simp⟩
theorem Bd.neg {x : Int} (h : Bd x) : Bd (-x) := by unfold Bd at *; omega
theorem all2 {k N : Nat} {P : Nat → Prop} (h : ∀ j, j < N → P j) : ∀ i, k ≤ i → i < N → P i := fun i _ h2 => h i h2
/-- n = 4, the last stage -/
theorem p2 {w a0 a1 a2 a3 b0 b1 b2 b3 c0 c1 c2 c3 e0 e1 e2 e3 m f1 f2 f3 j1 j2 j3 j4 j5 g22 g23 g32 g33 : Int} (hw : Bd w)
    (ha0 : B 60 a0) (ha1 : B 60 a1) (ha2 : B 60 a2) (ha3 : B 60 a3) (hb0 : B 60 b0) (hb1 : B 60 b1) (hb2 : B 60 b2) (hb3 : B 60 b3) (hc0 : B 60 c0) (hc1 : B 60 c1) (hc2 : B 60 c2) (hc3 : B 60 c3) (he0 : B 60 e0) (he1 : B 60 e1) (he2 : B 60 e2) (he3 : B 60 e3)
    (hf1 : Bd f1) (hf2 : Bd f2) (hf3 : Bd f3) (hj1 : Bd j1) (hj2 : Bd j2) (hj3 : Bd j3) (hj4 : Bd j4) (hj5 : Bd j5)
    (em : m = d2 a0 a1 b0 b1) (m0 : m ≠ 0) (e22 : g22 = d3 a0 a1 a2 b0 b1 b2 c0 c1 c2) (e23 : g23 = d3 a0 a1 a3 b0 b1 b3 c0 c1 c3) (e32 : g32 = d3 a0 a1 a2 b0 b1 b2 e0 e1 e2) (e33 : g33 = d3 a0 a1 a3 b0 b1 b3 e0 e1 e3) :
    Run 4 2 w m [[a0, a1, a2, a3], [j1, f1, f2, f3], [j2, j3, g22, g23], [j4, j5, g32, g33]] (w * d4 a0 a1 a2 a3 b0 b1 b2 b3 c0 c1 c2 c3 e0 e1 e2 e3) := by
  have I : g33 * g22 - g32 * g23 = d4 a0 a1 a2 a3 b0 b1 b2 b3 c0 c1 c2 c3 e0 e1 e2 e3 * m := by subst e22 e23 e32 e33 em; exact id3 ..
  have hm : Bd m := em ▸ (ha0.d2 ha1 hb0 hb1).bd (by decide)
  have h22 : Bd g22 := e22 ▸ (ha0.d3 ha1 ha2 hb0 hb1 hb2 hc0 hc1 hc2).bd (by decide)
  have h23 : Bd g23 := e23 ▸ (ha0.d3 ha1 ha3 hb0 hb1 hb3 hc0 hc1 hc3).bd (by decide)
  have h32 : Bd g32 := e32 ▸ (ha0.d3 ha1 ha2 hb0 hb1 hb2 he0 he1 he2).bd (by decide)
  have h33 : Bd g33 := e33 ▸ (ha0.d3 ha1 ha3 hb0 hb1 hb3 he0 he1 he3).bd (by decide)
  have hD : Bd (d4 a0 a1 a2 a3 b0 b1 b2 b3 c0 c1 c2 c3 e0 e1 e2 e3) := (ha0.d4 ha1 ha2 ha3 hb0 hb1 hb2 hb3 hc0 hc1 hc2 hc3 he0 he1 he2 he3).bd (by decide)
  generalize d4 a0 a1 a2 a3 b0 b1 b2 b3 c0 c1 c2 c3 e0 e1 e2 e3 = X at I hD ⊢
  have ok := mok4 (ha0.bd (by decide)) (ha1.bd (by decide)) (ha2.bd (by decide)) (ha3.bd (by decide)) hj1 hf1 hf2 hf3 hj2 hj3 h22 h23 hj4 hj5 h32 h33
  by_cases z : g22 = 0
  · by_cases z' : g32 = 0
    · have : X = 0 := by
        rw [z, z'] at I
        rcases Int.mul_eq_zero.mp (by omega : X * m = 0) with h | h
        · exact h
        · exact absurd h m0
      rw [this, Int.mul_zero]
      refine run_none ok (by decide) (by decide) (pivs_none fun i h1 h2 => ?_)
      match i, h1, h2 with
      | 2, _, _ => exact z
      | 3, _, _ => exact z'
    · obtain ⟨tl, ht⟩ := pivs_some (N := 4) (k := 2) (s := 3) (T := [[a0, a1, a2, a3], [j1, f1, f2, f3], [j2, j3, g22, g23], [j4, j5, g32, g33]]) (by decide) (by decide) (fun i h1 h2 => match i, h1, h2 with | 2, _, _ => z) z'
      refine run_some ok (by decide) (by decide) hm m0 ht ?_
      have e : (g23 * g32 - g22 * g33).fdiv m = -X := by
        rw [show g23 * g32 - g22 * g33 = (-X) * m by grind, Int.mul_fdiv_cancel _ m0]
      have := run_end (N := 4) (w := -w) (p := g32) (mok4 (ha0.bd (by decide)) (ha1.bd (by decide)) (ha2.bd (by decide)) (ha3.bd (by decide)) hj1 hf1 hf2 hf3 hj4 hj5 h32 h33 hj2 hj3 h22 hD.neg) (by decide) hw.neg
      have e2 : -w * -X = w * X := by grind
      simp only [List.getD_cons_succ, List.getD_cons_zero, e2] at this
      rw [← e] at this
      exact this
  · obtain ⟨tl, ht⟩ := pivs_some (N := 4) (k := 2) (s := 2) (T := [[a0, a1, a2, a3], [j1, f1, f2, f3], [j2, j3, g22, g23], [j4, j5, g32, g33]]) (by decide) (by decide) (fun i h1 h2 => absurd h1 (by omega)) z
    refine run_some ok (by decide) (by decide) hm m0 ht ?_
    have e : (g33 * g22 - g32 * g23).fdiv m = X := by rw [I, Int.mul_fdiv_cancel _ m0]
    have := run_end (N := 4) (w := w) (p := g22) (mok4 (ha0.bd (by decide)) (ha1.bd (by decide)) (ha2.bd (by decide)) (ha3.bd (by decide)) hj1 hf1 hf2 hf3 hj2 hj3 h22 h23 hj4 hj5 h32 hD) (by decide) hw
    simp only [List.getD_cons_succ, List.getD_cons_zero] at this
    rw [← e] at this
    rw [← e]
    exact this
set_option maxHeartbeats 2000000 in
theorem p1_4 {w a0 a1 a2 a3 b0 b1 b2 b3 c0 c1 c2 c3 e0 e1 e2 e3 jb jc je gb1 gb2 gb3 gc1 gc2 gc3 ge1 ge2 ge3 : Int} (hw : Bd w) (ha0 : B 60 a0) (ha1 : B 60 a1) (ha2 : B 60 a2) (ha3 : B 60 a3) (hb0 : B 60 b0) (hb1 : B 60 b1) (hb2 : B 60 b2) (hb3 : B 60 b3) (hc0 : B 60 c0) (hc1 : B 60 c1) (hc2 : B 60 c2) (hc3 : B 60 c3) (he0 : B 60 e0) (he1 : B 60 e1) (he2 : B 60 e2) (he3 : B 60 e3) (hjb : Bd jb) (hjc : Bd jc) (hje : Bd je) (m0 : a0 ≠ 0)
    (eb1 : gb1 = d2 a0 a1 b0 b1) (eb2 : gb2 = d2 a0 a2 b0 b2) (eb3 : gb3 = d2 a0 a3 b0 b3) (ec1 : gc1 = d2 a0 a1 c0 c1) (ec2 : gc2 = d2 a0 a2 c0 c2) (ec3 : gc3 = d2 a0 a3 c0 c3) (ee1 : ge1 = d2 a0 a1 e0 e1) (ee2 : ge2 = d2 a0 a2 e0 e2) (ee3 : ge3 = d2 a0 a3 e0 e3) :
    Run 4 1 w a0 [[a0, a1, a2, a3], [jb, gb1, gb2, gb3], [jc, gc1, gc2, gc3], [je, ge1, ge2, ge3]] (w * d4 a0 a1 a2 a3 b0 b1 b2 b3 c0 c1 c2 c3 e0 e1 e2 e3) := by
  have hgb1 : Bd gb1 := eb1 ▸ (ha0.d2 ha1 hb0 hb1).bd (by decide)
  have hgb2 : Bd gb2 := eb2 ▸ (ha0.d2 ha2 hb0 hb2).bd (by decide)
  have hgb3 : Bd gb3 := eb3 ▸ (ha0.d2 ha3 hb0 hb3).bd (by decide)
  have hgc1 : Bd gc1 := ec1 ▸ (ha0.d2 ha1 hc0 hc1).bd (by decide)
  have hgc2 : Bd gc2 := ec2 ▸ (ha0.d2 ha2 hc0 hc2).bd (by decide)
  have hgc3 : Bd gc3 := ec3 ▸ (ha0.d2 ha3 hc0 hc3).bd (by decide)
  have hge1 : Bd ge1 := ee1 ▸ (ha0.d2 ha1 he0 he1).bd (by decide)
  have hge2 : Bd ge2 := ee2 ▸ (ha0.d2 ha2 he0 he2).bd (by decide)
  have hge3 : Bd ge3 := ee3 ▸ (ha0.d2 ha3 he0 he3).bd (by decide)
  have ok := mok4 (ha0.bd (by decide)) (ha1.bd (by decide)) (ha2.bd (by decide)) (ha3.bd (by decide)) hjb hgb1 hgb2 hgb3 hjc hgc1 hgc2 hgc3 hje hge1 hge2 hge3
  have hp : Bd a0 := ha0.bd (by decide)
  have xbc2 : (gc2 * gb1 - gc1 * gb2).fdiv a0 = d3 a0 a1 a2 b0 b1 b2 c0 c1 c2 := by rw [ec2, eb1, ec1, eb2, id2, Int.mul_fdiv_cancel _ m0]
  have xbc3 : (gc3 * gb1 - gc1 * gb3).fdiv a0 = d3 a0 a1 a3 b0 b1 b3 c0 c1 c3 := by rw [ec3, eb1, ec1, eb3, id2, Int.mul_fdiv_cancel _ m0]
  have xbe2 : (ge2 * gb1 - ge1 * gb2).fdiv a0 = d3 a0 a1 a2 b0 b1 b2 e0 e1 e2 := by rw [ee2, eb1, ee1, eb2, id2, Int.mul_fdiv_cancel _ m0]
  have xbe3 : (ge3 * gb1 - ge1 * gb3).fdiv a0 = d3 a0 a1 a3 b0 b1 b3 e0 e1 e3 := by rw [ee3, eb1, ee1, eb3, id2, Int.mul_fdiv_cancel _ m0]
  have xcb2 : (gb2 * gc1 - gb1 * gc2).fdiv a0 = d3 a0 a1 a2 c0 c1 c2 b0 b1 b2 := by rw [eb2, ec1, eb1, ec2, id2, Int.mul_fdiv_cancel _ m0]
  have xcb3 : (gb3 * gc1 - gb1 * gc3).fdiv a0 = d3 a0 a1 a3 c0 c1 c3 b0 b1 b3 := by rw [eb3, ec1, eb1, ec3, id2, Int.mul_fdiv_cancel _ m0]
  have xce2 : (ge2 * gc1 - ge1 * gc2).fdiv a0 = d3 a0 a1 a2 c0 c1 c2 e0 e1 e2 := by rw [ee2, ec1, ee1, ec2, id2, Int.mul_fdiv_cancel _ m0]
  have xce3 : (ge3 * gc1 - ge1 * gc3).fdiv a0 = d3 a0 a1 a3 c0 c1 c3 e0 e1 e3 := by rw [ee3, ec1, ee1, ec3, id2, Int.mul_fdiv_cancel _ m0]
  have xeb2 : (gb2 * ge1 - gb1 * ge2).fdiv a0 = d3 a0 a1 a2 e0 e1 e2 b0 b1 b2 := by rw [eb2, ee1, eb1, ee2, id2, Int.mul_fdiv_cancel _ m0]
  have xeb3 : (gb3 * ge1 - gb1 * ge3).fdiv a0 = d3 a0 a1 a3 e0 e1 e3 b0 b1 b3 := by rw [eb3, ee1, eb1, ee3, id2, Int.mul_fdiv_cancel _ m0]
  have xec2 : (gc2 * ge1 - gc1 * ge2).fdiv a0 = d3 a0 a1 a2 e0 e1 e2 c0 c1 c2 := by rw [ec2, ee1, ec1, ee2, id2, Int.mul_fdiv_cancel _ m0]
  have xec3 : (gc3 * ge1 - gc1 * ge3).fdiv a0 = d3 a0 a1 a3 e0 e1 e3 c0 c1 c3 := by rw [ec3, ee1, ec1, ee3, id2, Int.mul_fdiv_cancel _ m0]
  have key : gb1 = 0 → gc1 = 0 → ge1 = 0 → d4 a0 a1 a2 a3 b0 b1 b2 b3 c0 c1 c2 c3 e0 e1 e2 e3 = 0 := by
    intro yb yc ye
    have h : d4 a0 a1 a2 a3 b0 b1 b2 b3 c0 c1 c2 c3 e0 e1 e2 e3 * (a0 * a0) = gb1 * (gc2 * ge3 - gc3 * ge2) - gc1 * (gb2 * ge3 - gb3 * ge2) + ge1 * (gb2 * gc3 - gb3 * gc2) := by rw [eb1, eb2, eb3, ec1, ec2, ec3, ee1, ee2, ee3]; unfold d4 d3 d2; grind
    rw [yb, yc, ye] at h
    rcases Int.mul_eq_zero.mp (by rw [h]; grind) with h | h
    · exact h
    · exact absurd h (Int.mul_ne_zero m0 m0)
  by_cases zb : gb1 = 0
  · by_cases zc : gc1 = 0
    · by_cases ze : ge1 = 0
      · rw [key zb zc ze, Int.mul_zero]
        exact run_none ok (by decide) (by decide) (pivs_none fun i h1 h2 => match i, h1, h2 with | 1, _, _ => zb | 2, _, _ => zc | 3, _, _ => ze)
      · obtain ⟨tl, ht⟩ := pivs_some (N := 4) (k := 1) (s := 3) (T := [[a0, a1, a2, a3], [jb, gb1, gb2, gb3], [jc, gc1, gc2, gc3], [je, ge1, ge2, ge3]]) (by decide) (by decide) (fun i h1 h2 => match i, h1, h2 with | 1, _, _ => zb | 2, _, _ => zc) ze
        refine run_some ok (by decide) (by decide) hp m0 ht ?_
        have r := p2 (w := (-w)) hw.neg ha0 ha1 ha2 ha3 he0 he1 he2 he3 hc0 hc1 hc2 hc3 hb0 hb1 hb2 hb3 hge1 hge2 hge3 hje hjc hgc1 hjb hgb1 ee1 ze xec2 xec3 xeb2 xeb3
        rw [show (-w) * d4 a0 a1 a2 a3 e0 e1 e2 e3 c0 c1 c2 c3 b0 b1 b2 b3 = w * d4 a0 a1 a2 a3 b0 b1 b2 b3 c0 c1 c2 c3 e0 e1 e2 e3 by unfold d4 d3 d2; grind] at r
        exact r
    · obtain ⟨tl, ht⟩ := pivs_some (N := 4) (k := 1) (s := 2) (T := [[a0, a1, a2, a3], [jb, gb1, gb2, gb3], [jc, gc1, gc2, gc3], [je, ge1, ge2, ge3]]) (by decide) (by decide) (fun i h1 h2 => match i, h1, h2 with | 1, _, _ => zb) zc
      refine run_some ok (by decide) (by decide) hp m0 ht ?_
      have r := p2 (w := (-w)) hw.neg ha0 ha1 ha2 ha3 hc0 hc1 hc2 hc3 hb0 hb1 hb2 hb3 he0 he1 he2 he3 hgc1 hgc2 hgc3 hjc hjb hgb1 hje hge1 ec1 zc xcb2 xcb3 xce2 xce3
      rw [show (-w) * d4 a0 a1 a2 a3 c0 c1 c2 c3 b0 b1 b2 b3 e0 e1 e2 e3 = w * d4 a0 a1 a2 a3 b0 b1 b2 b3 c0 c1 c2 c3 e0 e1 e2 e3 by unfold d4 d3 d2; grind] at r
      exact r
  · obtain ⟨tl, ht⟩ := pivs_some (N := 4) (k := 1) (s := 1) (T := [[a0, a1, a2, a3], [jb, gb1, gb2, gb3], [jc, gc1, gc2, gc3], [je, ge1, ge2, ge3]]) (by decide) (by decide) (fun i h1 h2 => absurd h1 (by omega)) zb
    refine run_some ok (by decide) (by decide) hp m0 ht ?_
    have r := p2 (w := w) hw ha0 ha1 ha2 ha3 hb0 hb1 hb2 hb3 hc0 hc1 hc2 hc3 he0 he1 he2 he3 hgb1 hgb2 hgb3 hjb hjc hgc1 hje hge1 eb1 zb xbc2 xbc3 xbe2 xbe3
    exact r
set_option maxHeartbeats 2000000 in
theorem p1_3 {w a0 a1 a2 b0 b1 b2 c0 c1 c2 jb jc gb1 gb2 gc1 gc2 : Int} (hw : Bd w) (ha0 : B 60 a0) (ha1 : B 60 a1) (ha2 : B 60 a2) (hb0 : B 60 b0) (hb1 : B 60 b1) (hb2 : B 60 b2) (hc0 : B 60 c0) (hc1 : B 60 c1) (hc2 : B 60 c2) (hjb : Bd jb) (hjc : Bd jc) (m0 : a0 ≠ 0)
    (eb1 : gb1 = d2 a0 a1 b0 b1) (eb2 : gb2 = d2 a0 a2 b0 b2) (ec1 : gc1 = d2 a0 a1 c0 c1) (ec2 : gc2 = d2 a0 a2 c0 c2) :
    Run 3 1 w a0 [[a0, a1, a2], [jb, gb1, gb2], [jc, gc1, gc2]] (w * d3 a0 a1 a2 b0 b1 b2 c0 c1 c2) := by
  have hgb1 : Bd gb1 := eb1 ▸ (ha0.d2 ha1 hb0 hb1).bd (by decide)
  have hgb2 : Bd gb2 := eb2 ▸ (ha0.d2 ha2 hb0 hb2).bd (by decide)
  have hgc1 : Bd gc1 := ec1 ▸ (ha0.d2 ha1 hc0 hc1).bd (by decide)
  have hgc2 : Bd gc2 := ec2 ▸ (ha0.d2 ha2 hc0 hc2).bd (by decide)
  have ok := mok3 (ha0.bd (by decide)) (ha1.bd (by decide)) (ha2.bd (by decide)) hjb hgb1 hgb2 hjc hgc1 hgc2
  have hp : Bd a0 := ha0.bd (by decide)
  have xbc2 : (gc2 * gb1 - gc1 * gb2).fdiv a0 = d3 a0 a1 a2 b0 b1 b2 c0 c1 c2 := by rw [ec2, eb1, ec1, eb2, id2, Int.mul_fdiv_cancel _ m0]
  have xcb2 : (gb2 * gc1 - gb1 * gc2).fdiv a0 = d3 a0 a1 a2 c0 c1 c2 b0 b1 b2 := by rw [eb2, ec1, eb1, ec2, id2, Int.mul_fdiv_cancel _ m0]
  have key : gb1 = 0 → gc1 = 0 → d3 a0 a1 a2 b0 b1 b2 c0 c1 c2 = 0 := by
    intro yb yc
    have h : d3 a0 a1 a2 b0 b1 b2 c0 c1 c2 * a0 = gb1 * gc2 - gc1 * gb2 := by rw [eb1, eb2, ec1, ec2]; unfold d3 d2; grind
    rw [yb, yc] at h
    rcases Int.mul_eq_zero.mp (by rw [h]; grind) with h | h
    · exact h
    · exact absurd h m0
  by_cases zb : gb1 = 0
  · by_cases zc : gc1 = 0
    · rw [key zb zc, Int.mul_zero]
      exact run_none ok (by decide) (by decide) (pivs_none fun i h1 h2 => match i, h1, h2 with | 1, _, _ => zb | 2, _, _ => zc)
    · obtain ⟨tl, ht⟩ := pivs_some (N := 3) (k := 1) (s := 2) (T := [[a0, a1, a2], [jb, gb1, gb2], [jc, gc1, gc2]]) (by decide) (by decide) (fun i h1 h2 => match i, h1, h2 with | 1, _, _ => zb) zc
      refine run_some ok (by decide) (by decide) hp m0 ht ?_
      have r := run_end (N := 3) (w := (-w)) (p := gc1) (mok3 (ha0.bd (by decide)) (ha1.bd (by decide)) (ha2.bd (by decide)) hjc hgc1 hgc2 hjb hgb1 (c2 := (gb2 * gc1 - gb1 * gc2).fdiv a0) (by rw [xcb2]; exact (ha0.d3 ha1 ha2 hc0 hc1 hc2 hb0 hb1 hb2).bd (by decide))) (by decide) hw.neg
      simp only [List.getD_cons_succ, List.getD_cons_zero] at r
      rw [show w * d3 a0 a1 a2 b0 b1 b2 c0 c1 c2 = (-w) * (gb2 * gc1 - gb1 * gc2).fdiv a0 by rw [xcb2] <;> (unfold d3 d2; grind)]
      exact r
  · obtain ⟨tl, ht⟩ := pivs_some (N := 3) (k := 1) (s := 1) (T := [[a0, a1, a2], [jb, gb1, gb2], [jc, gc1, gc2]]) (by decide) (by decide) (fun i h1 h2 => absurd h1 (by omega)) zb
    refine run_some ok (by decide) (by decide) hp m0 ht ?_
    have r := run_end (N := 3) (w := w) (p := gb1) (mok3 (ha0.bd (by decide)) (ha1.bd (by decide)) (ha2.bd (by decide)) hjb hgb1 hgb2 hjc hgc1 (c2 := (gc2 * gb1 - gc1 * gb2).fdiv a0) (by rw [xbc2]; exact (ha0.d3 ha1 ha2 hb0 hb1 hb2 hc0 hc1 hc2).bd (by decide))) (by decide) hw
    simp only [List.getD_cons_succ, List.getD_cons_zero] at r
    rw [show w * d3 a0 a1 a2 b0 b1 b2 c0 c1 c2 = w * (gc2 * gb1 - gc1 * gb2).fdiv a0 by rw [xbc2] <;> (unfold d3 d2; grind)]
    exact r
set_option maxHeartbeats 2000000 in
theorem p0_4 {a0 a1 a2 a3 b0 b1 b2 b3 c0 c1 c2 c3 e0 e1 e2 e3 : Int} (ha0 : B 60 a0) (ha1 : B 60 a1) (ha2 : B 60 a2) (ha3 : B 60 a3) (hb0 : B 60 b0) (hb1 : B 60 b1) (hb2 : B 60 b2) (hb3 : B 60 b3) (hc0 : B 60 c0) (hc1 : B 60 c1) (hc2 : B 60 c2) (hc3 : B 60 c3) (he0 : B 60 e0) (he1 : B 60 e1) (he2 : B 60 e2) (he3 : B 60 e3) : Run 4 0 1 1 [[a0, a1, a2, a3], [b0, b1, b2, b3], [c0, c1, c2, c3], [e0, e1, e2, e3]] (d4 a0 a1 a2 a3 b0 b1 b2 b3 c0 c1 c2 c3 e0 e1 e2 e3) := by
  have ok := mok4 (ha0.bd (by decide)) (ha1.bd (by decide)) (ha2.bd (by decide)) (ha3.bd (by decide)) (hb0.bd (by decide)) (hb1.bd (by decide)) (hb2.bd (by decide)) (hb3.bd (by decide)) (hc0.bd (by decide)) (hc1.bd (by decide)) (hc2.bd (by decide)) (hc3.bd (by decide)) (he0.bd (by decide)) (he1.bd (by decide)) (he2.bd (by decide)) (he3.bd (by decide))
  have bone : Bd 1 := (show B 0 1 by unfold B; decide).bd (by decide)
  have key : a0 = 0 → b0 = 0 → c0 = 0 → e0 = 0 → d4 a0 a1 a2 a3 b0 b1 b2 b3 c0 c1 c2 c3 e0 e1 e2 e3 = 0 := by
    intro ya yb yc ye
    unfold d4 d3 d2; rw [ya, yb, yc, ye]; grind
  have x : ∀ p q r s : Int, (p * q - r * s).fdiv 1 = d2 q s r p := by intro p q r s; rw [Int.fdiv_one]; unfold d2; grind
  by_cases za : a0 = 0
  · by_cases zb : b0 = 0
    · by_cases zc : c0 = 0
      · by_cases ze : e0 = 0
        · rw [key za zb zc ze]
          exact run_none ok (by decide) (by decide) (pivs_none fun i h1 h2 => match i, h1, h2 with | 0, _, _ => za | 1, _, _ => zb | 2, _, _ => zc | 3, _, _ => ze)
        · obtain ⟨tl, ht⟩ := pivs_some (N := 4) (k := 0) (s := 3) (T := [[a0, a1, a2, a3], [b0, b1, b2, b3], [c0, c1, c2, c3], [e0, e1, e2, e3]]) (by decide) (by decide) (fun i h1 h2 => match i, h1, h2 with | 0, _, _ => za | 1, _, _ => zb | 2, _, _ => zc) ze
          refine run_some ok (by decide) (by decide) bone (by decide) ht ?_
          have r := p1_4 (w := (-1)) bone.neg he0 he1 he2 he3 hb0 hb1 hb2 hb3 hc0 hc1 hc2 hc3 ha0 ha1 ha2 ha3 (hb0.bd (by decide)) (hc0.bd (by decide)) (ha0.bd (by decide)) ze (x ..) (x ..) (x ..) (x ..) (x ..) (x ..) (x ..) (x ..) (x ..)
          rw [show (-1) * d4 e0 e1 e2 e3 b0 b1 b2 b3 c0 c1 c2 c3 a0 a1 a2 a3 = d4 a0 a1 a2 a3 b0 b1 b2 b3 c0 c1 c2 c3 e0 e1 e2 e3 by unfold d4 d3 d2; grind] at r
          exact r
      · obtain ⟨tl, ht⟩ := pivs_some (N := 4) (k := 0) (s := 2) (T := [[a0, a1, a2, a3], [b0, b1, b2, b3], [c0, c1, c2, c3], [e0, e1, e2, e3]]) (by decide) (by decide) (fun i h1 h2 => match i, h1, h2 with | 0, _, _ => za | 1, _, _ => zb) zc
        refine run_some ok (by decide) (by decide) bone (by decide) ht ?_
        have r := p1_4 (w := (-1)) bone.neg hc0 hc1 hc2 hc3 hb0 hb1 hb2 hb3 ha0 ha1 ha2 ha3 he0 he1 he2 he3 (hb0.bd (by decide)) (ha0.bd (by decide)) (he0.bd (by decide)) zc (x ..) (x ..) (x ..) (x ..) (x ..) (x ..) (x ..) (x ..) (x ..)
        rw [show (-1) * d4 c0 c1 c2 c3 b0 b1 b2 b3 a0 a1 a2 a3 e0 e1 e2 e3 = d4 a0 a1 a2 a3 b0 b1 b2 b3 c0 c1 c2 c3 e0 e1 e2 e3 by unfold d4 d3 d2; grind] at r
        exact r
    · obtain ⟨tl, ht⟩ := pivs_some (N := 4) (k := 0) (s := 1) (T := [[a0, a1, a2, a3], [b0, b1, b2, b3], [c0, c1, c2, c3], [e0, e1, e2, e3]]) (by decide) (by decide) (fun i h1 h2 => match i, h1, h2 with | 0, _, _ => za) zb
      refine run_some ok (by decide) (by decide) bone (by decide) ht ?_
      have r := p1_4 (w := (-1)) bone.neg hb0 hb1 hb2 hb3 ha0 ha1 ha2 ha3 hc0 hc1 hc2 hc3 he0 he1 he2 he3 (ha0.bd (by decide)) (hc0.bd (by decide)) (he0.bd (by decide)) zb (x ..) (x ..) (x ..) (x ..) (x ..) (x ..) (x ..) (x ..) (x ..)
      rw [show (-1) * d4 b0 b1 b2 b3 a0 a1 a2 a3 c0 c1 c2 c3 e0 e1 e2 e3 = d4 a0 a1 a2 a3 b0 b1 b2 b3 c0 c1 c2 c3 e0 e1 e2 e3 by unfold d4 d3 d2; grind] at r
      exact r
  · obtain ⟨tl, ht⟩ := pivs_some (N := 4) (k := 0) (s := 0) (T := [[a0, a1, a2, a3], [b0, b1, b2, b3], [c0, c1, c2, c3], [e0, e1, e2, e3]]) (by decide) (by decide) (fun i h1 h2 => absurd h2 (by omega)) za
    refine run_some ok (by decide) (by decide) bone (by decide) ht ?_
    have r := p1_4 (w := 1) bone ha0 ha1 ha2 ha3 hb0 hb1 hb2 hb3 hc0 hc1 hc2 hc3 he0 he1 he2 he3 (hb0.bd (by decide)) (hc0.bd (by decide)) (he0.bd (by decide)) za (x ..) (x ..) (x ..) (x ..) (x ..) (x ..) (x ..) (x ..) (x ..)
    rw [show 1 * d4 a0 a1 a2 a3 b0 b1 b2 b3 c0 c1 c2 c3 e0 e1 e2 e3 = d4 a0 a1 a2 a3 b0 b1 b2 b3 c0 c1 c2 c3 e0 e1 e2 e3 by unfold d4 d3 d2; grind] at r
    exact r
set_option maxHeartbeats 2000000 in
theorem p0_3 {a0 a1 a2 b0 b1 b2 c0 c1 c2 : Int} (ha0 : B 60 a0) (ha1 : B 60 a1) (ha2 : B 60 a2) (hb0 : B 60 b0) (hb1 : B 60 b1) (hb2 : B 60 b2) (hc0 : B 60 c0) (hc1 : B 60 c1) (hc2 : B 60 c2) : Run 3 0 1 1 [[a0, a1, a2], [b0, b1, b2], [c0, c1, c2]] (d3 a0 a1 a2 b0 b1 b2 c0 c1 c2) := by
  have ok := mok3 (ha0.bd (by decide)) (ha1.bd (by decide)) (ha2.bd (by decide)) (hb0.bd (by decide)) (hb1.bd (by decide)) (hb2.bd (by decide)) (hc0.bd (by decide)) (hc1.bd (by decide)) (hc2.bd (by decide))
  have bone : Bd 1 := (show B 0 1 by unfold B; decide).bd (by decide)
  have key : a0 = 0 → b0 = 0 → c0 = 0 → d3 a0 a1 a2 b0 b1 b2 c0 c1 c2 = 0 := by
    intro ya yb yc
    unfold d3 d2; rw [ya, yb, yc]; grind
  have x : ∀ p q r s : Int, (p * q - r * s).fdiv 1 = d2 q s r p := by intro p q r s; rw [Int.fdiv_one]; unfold d2; grind
  by_cases za : a0 = 0
  · by_cases zb : b0 = 0
    · by_cases zc : c0 = 0
      · rw [key za zb zc]
        exact run_none ok (by decide) (by decide) (pivs_none fun i h1 h2 => match i, h1, h2 with | 0, _, _ => za | 1, _, _ => zb | 2, _, _ => zc)
      · obtain ⟨tl, ht⟩ := pivs_some (N := 3) (k := 0) (s := 2) (T := [[a0, a1, a2], [b0, b1, b2], [c0, c1, c2]]) (by decide) (by decide) (fun i h1 h2 => match i, h1, h2 with | 0, _, _ => za | 1, _, _ => zb) zc
        refine run_some ok (by decide) (by decide) bone (by decide) ht ?_
        have r := p1_3 (w := (-1)) bone.neg hc0 hc1 hc2 hb0 hb1 hb2 ha0 ha1 ha2 (hb0.bd (by decide)) (ha0.bd (by decide)) zc (x ..) (x ..) (x ..) (x ..)
        rw [show (-1) * d3 c0 c1 c2 b0 b1 b2 a0 a1 a2 = d3 a0 a1 a2 b0 b1 b2 c0 c1 c2 by unfold d3 d2; grind] at r
        exact r
    · obtain ⟨tl, ht⟩ := pivs_some (N := 3) (k := 0) (s := 1) (T := [[a0, a1, a2], [b0, b1, b2], [c0, c1, c2]]) (by decide) (by decide) (fun i h1 h2 => match i, h1, h2 with | 0, _, _ => za) zb
      refine run_some ok (by decide) (by decide) bone (by decide) ht ?_
      have r := p1_3 (w := (-1)) bone.neg hb0 hb1 hb2 ha0 ha1 ha2 hc0 hc1 hc2 (ha0.bd (by decide)) (hc0.bd (by decide)) zb (x ..) (x ..) (x ..) (x ..)
      rw [show (-1) * d3 b0 b1 b2 a0 a1 a2 c0 c1 c2 = d3 a0 a1 a2 b0 b1 b2 c0 c1 c2 by unfold d3 d2; grind] at r
      exact r
  · obtain ⟨tl, ht⟩ := pivs_some (N := 3) (k := 0) (s := 0) (T := [[a0, a1, a2], [b0, b1, b2], [c0, c1, c2]]) (by decide) (by decide) (fun i h1 h2 => absurd h2 (by omega)) za
    refine run_some ok (by decide) (by decide) bone (by decide) ht ?_
    have r := p1_3 (w := 1) bone ha0 ha1 ha2 hb0 hb1 hb2 hc0 hc1 hc2 (hb0.bd (by decide)) (hc0.bd (by decide)) za (x ..) (x ..) (x ..) (x ..)
    rw [show 1 * d3 a0 a1 a2 b0 b1 b2 c0 c1 c2 = d3 a0 a1 a2 b0 b1 b2 c0 c1 c2 by unfold d3 d2; grind] at r
    exact r
set_option maxHeartbeats 2000000 in
theorem p0_2 {a0 a1 b0 b1 : Int} (ha0 : B 60 a0) (ha1 : B 60 a1) (hb0 : B 60 b0) (hb1 : B 60 b1) : Run 2 0 1 1 [[a0, a1], [b0, b1]] (d2 a0 a1 b0 b1) := by
  have ok := mok2 (ha0.bd (by decide)) (ha1.bd (by decide)) (hb0.bd (by decide)) (hb1.bd (by decide))
  have bone : Bd 1 := (show B 0 1 by unfold B; decide).bd (by decide)
  have key : a0 = 0 → b0 = 0 → d2 a0 a1 b0 b1 = 0 := by
    intro ya yb
    unfold d2; rw [ya, yb]; grind
  have x : ∀ p q r s : Int, (p * q - r * s).fdiv 1 = d2 q s r p := by intro p q r s; rw [Int.fdiv_one]; unfold d2; grind
  by_cases za : a0 = 0
  · by_cases zb : b0 = 0
    · rw [key za zb]
      exact run_none ok (by decide) (by decide) (pivs_none fun i h1 h2 => match i, h1, h2 with | 0, _, _ => za | 1, _, _ => zb)
    · obtain ⟨tl, ht⟩ := pivs_some (N := 2) (k := 0) (s := 1) (T := [[a0, a1], [b0, b1]]) (by decide) (by decide) (fun i h1 h2 => match i, h1, h2 with | 0, _, _ => za) zb
      refine run_some ok (by decide) (by decide) bone (by decide) ht ?_
      have r := run_end (N := 2) (w := (-1)) (p := b0) (mok2 (hb0.bd (by decide)) (hb1.bd (by decide)) (ha0.bd (by decide)) (b1 := (a1 * b0 - a0 * b1).fdiv 1) (by rw [x]; exact (hb0.d2 hb1 ha0 ha1).bd (by decide))) (by decide) bone.neg
      simp only [List.getD_cons_succ, List.getD_cons_zero] at r
      rw [show d2 a0 a1 b0 b1 = (-1) * (a1 * b0 - a0 * b1).fdiv 1 by rw [x]; unfold d2; grind]
      exact r
  · obtain ⟨tl, ht⟩ := pivs_some (N := 2) (k := 0) (s := 0) (T := [[a0, a1], [b0, b1]]) (by decide) (by decide) (fun i h1 h2 => absurd h2 (by omega)) za
    refine run_some ok (by decide) (by decide) bone (by decide) ht ?_
    have r := run_end (N := 2) (w := 1) (p := a0) (mok2 (ha0.bd (by decide)) (ha1.bd (by decide)) (hb0.bd (by decide)) (b1 := (b1 * a0 - b0 * a1).fdiv 1) (by rw [x]; exact (ha0.d2 ha1 hb0 hb1).bd (by decide))) (by decide) bone
    simp only [List.getD_cons_succ, List.getD_cons_zero] at r
    rw [show d2 a0 a1 b0 b1 = 1 * (b1 * a0 - b0 * a1).fdiv 1 by rw [x]; unfold d2; grind]
    exact r
theorem rowsD_lst : ∀ T : List (List Int), rowsD (T.map lstI) = some (T.map dInts)
  | [] => rfl
  | r :: T => by
    show (rowsD (T.map lstI)).map (dInts r :: ·) = _
    rw [rowsD_lst T]; rfl
theorem b_whole_eq : b_whole_determinant = sSeq (sMk2 0 1 2 1 1) (sSeq (sAsg 3 (cal cLen (aCons (eVar 0) aNil))) (sSeq (sFor (itRng1 (aCons (bin gSub (eVar 3) (eC (.int 1))) aNil)) (tgN 4) bodyS) finS)) := rfl
theorem whole_run {N : Nat} {T : List (List Int)} {r : Int} (hl : T.length = N) (N5 : N ≤ 1000) (h : bnd (forW (tgN 4) bodyS (rangeD (0 : Nat) ((N : Int) - 1).toNat) [some (dL T), some (.int 1), some (.int 1), some (.int N), none, none, none, none, none]) (fun o => oThen o finS) = ret (.rt (.int r))) : F_whole_determinant [dL T] = ret (.int r) := by
  have e1 : sMk2 0 1 2 1 1 [some (dL T), none, none, none, none, none, none, none, none] = ret (.nx [some (dL T), some (.int 1), some (.int 1), none, none, none, none, none, none]) := by
    show (match rowsD (T.map lstI) with | some dss => ret _ | none => stuck) = _
    rw [rowsD_lst]
    show ret _ = ret _
    simp only [List.map_map, List.set_cons_succ, List.set_cons_zero]
    rfl
  have r1 : rngOk ((N : Int) - 1) = true := by simp [rngOk]; omega
  have e3 : cLen [dL T] = ret (.int N) := by
    show ret (PyData.int ((T.map lstI).length : Nat)) = _
    rw [List.length_map, hl]
  unfold F_whole_determinant
  rw [b_whole_eq, x_fnD]
  show bnd (bnd (sMk2 0 1 2 1 1 [some (dL T), none, none, none, none, none, none, none, none]) _) outD = _
  rw [e1]
  simp only [bnd_ret', oThen_nx, x_sSeq, x_sAsg, x_cal, x_aCons, x_aNil, x_eVar, List.getElem?_cons_succ, List.getElem?_cons_zero, Option.getD_some, optM_some, e3, List.set_cons_succ, List.set_cons_zero, x_sFor, x_itRng1, x_bin, x_eC, x_gI_i, rng1_i, r1, if_true]
  have h' := h
  rw [show ((0 : Nat) : Int) = 0 from rfl] at h'
  rw [h', bnd_ret', outD_rt]
/-- a square table of small entries -/
def Sq (n : Nat) (T : List (List Int)) : Prop := T.length = n ∧ ∀ r ∈ T, r.length = n ∧ ∀ x ∈ r, B 60 x
def detM : List (List Int) → Int
  | [] => 1
  | [[a]] => a
  | [[a, b], [c, d]] => d2 a b c d
  | [[a, b, c], [d, e, f], [g, h, i]] => d3 a b c d e f g h i
  | [[a0, a1, a2, a3], [b0, b1, b2, b3], [c0, c1, c2, c3], [e0, e1, e2, e3]] => d4 a0 a1 a2 a3 b0 b1 b2 b3 c0 c1 c2 c3 e0 e1 e2 e3
  | _ => 0
theorem l1 {α : Type} {l : List α} (h : l.length = 1) : ∃ a, l = [a] := by
  match l, h with
  | [a], _ => exact ⟨a, rfl⟩
theorem l2 {α : Type} {l : List α} (h : l.length = 2) : ∃ a b, l = [a, b] := by
  match l, h with
  | [a, b], _ => exact ⟨a, b, rfl⟩
theorem l3 {α : Type} {l : List α} (h : l.length = 3) : ∃ a b c, l = [a, b, c] := by
  match l, h with
  | [a, b, c], _ => exact ⟨a, b, c, rfl⟩
theorem l4 {α : Type} {l : List α} (h : l.length = 4) : ∃ a b c d, l = [a, b, c, d] := by
  match l, h with
  | [a, b, c, d], _ => exact ⟨a, b, c, d, rfl⟩
theorem sq1 {T : List (List Int)} (h : Sq 1 T) : ∃ a, T = [[a]] ∧ B 60 a := by
  obtain ⟨r, rfl⟩ := l1 h.1
  have h1 := h.2 r (by simp)
  obtain ⟨a, rfl⟩ := l1 h1.1
  exact ⟨a, rfl, h1.2 a (by simp)⟩
theorem sq2 {T : List (List Int)} (h : Sq 2 T) : ∃ a0 a1 b0 b1, T = [[a0, a1], [b0, b1]] ∧ B 60 a0 ∧ B 60 a1 ∧ B 60 b0 ∧ B 60 b1 := by
  obtain ⟨r, s, rfl⟩ := l2 h.1
  have h1 := h.2 r (by simp)
  have h2 := h.2 s (by simp)
  obtain ⟨a0, a1, rfl⟩ := l2 h1.1
  obtain ⟨b0, b1, rfl⟩ := l2 h2.1
  exact ⟨a0, a1, b0, b1, rfl, h1.2 a0 (by simp), h1.2 a1 (by simp), h2.2 b0 (by simp), h2.2 b1 (by simp)⟩
theorem sq3 {T : List (List Int)} (h : Sq 3 T) : ∃ a0 a1 a2 b0 b1 b2 c0 c1 c2, T = [[a0, a1, a2], [b0, b1, b2], [c0, c1, c2]] ∧ (B 60 a0 ∧ B 60 a1 ∧ B 60 a2) ∧ (B 60 b0 ∧ B 60 b1 ∧ B 60 b2) ∧ (B 60 c0 ∧ B 60 c1 ∧ B 60 c2) := by
  obtain ⟨r, s, t, rfl⟩ := l3 h.1
  have h1 := h.2 r (by simp)
  have h2 := h.2 s (by simp)
  have h3 := h.2 t (by simp)
  obtain ⟨a0, a1, a2, rfl⟩ := l3 h1.1
  obtain ⟨b0, b1, b2, rfl⟩ := l3 h2.1
  obtain ⟨c0, c1, c2, rfl⟩ := l3 h3.1
  exact ⟨a0, a1, a2, b0, b1, b2, c0, c1, c2, rfl, ⟨h1.2 a0 (by simp), h1.2 a1 (by simp), h1.2 a2 (by simp)⟩, ⟨h2.2 b0 (by simp), h2.2 b1 (by simp), h2.2 b2 (by simp)⟩, ⟨h3.2 c0 (by simp), h3.2 c1 (by simp), h3.2 c2 (by simp)⟩⟩
theorem sq4 {T : List (List Int)} (h : Sq 4 T) : ∃ a0 a1 a2 a3 b0 b1 b2 b3 c0 c1 c2 c3 e0 e1 e2 e3, T = [[a0, a1, a2, a3], [b0, b1, b2, b3], [c0, c1, c2, c3], [e0, e1, e2, e3]] ∧ (B 60 a0 ∧ B 60 a1 ∧ B 60 a2 ∧ B 60 a3) ∧ (B 60 b0 ∧ B 60 b1 ∧ B 60 b2 ∧ B 60 b3) ∧ (B 60 c0 ∧ B 60 c1 ∧ B 60 c2 ∧ B 60 c3) ∧ (B 60 e0 ∧ B 60 e1 ∧ B 60 e2 ∧ B 60 e3) := by
  obtain ⟨r, s, t, u, rfl⟩ := l4 h.1
  have h1 := h.2 r (by simp)
  have h2 := h.2 s (by simp)
  have h3 := h.2 t (by simp)
  have h4 := h.2 u (by simp)
  obtain ⟨a0, a1, a2, a3, rfl⟩ := l4 h1.1
  obtain ⟨b0, b1, b2, b3, rfl⟩ := l4 h2.1
  obtain ⟨c0, c1, c2, c3, rfl⟩ := l4 h3.1
  obtain ⟨e0, e1, e2, e3, rfl⟩ := l4 h4.1
  exact ⟨a0, a1, a2, a3, b0, b1, b2, b3, c0, c1, c2, c3, e0, e1, e2, e3, rfl, ⟨h1.2 a0 (by simp), h1.2 a1 (by simp), h1.2 a2 (by simp), h1.2 a3 (by simp)⟩, ⟨h2.2 b0 (by simp), h2.2 b1 (by simp), h2.2 b2 (by simp), h2.2 b3 (by simp)⟩, ⟨h3.2 c0 (by simp), h3.2 c1 (by simp), h3.2 c2 (by simp), h3.2 c3 (by simp)⟩, ⟨h4.2 e0 (by simp), h4.2 e1 (by simp), h4.2 e2 (by simp), h4.2 e3 (by simp)⟩⟩
theorem whole_eq : ∀ {n : Nat} {T : List (List Int)}, n ≤ 4 → Sq n T → F_whole_determinant [dL T] = ret (.int (detM T))
  | 0, T, _, h => by
    have : T = [] := List.length_eq_zero_iff.mp h.1
    subst this
    rfl
  | 1, T, _, h => by
    obtain ⟨a, rfl, ha⟩ := sq1 h
    have r := run_end (N := 1) (w := 1) (p := 1) (mok1 (ha.bd (by decide))) (by decide) ((show B 0 1 by unfold B; decide).bd (by decide))
    simp only [List.getD_cons_zero, Int.one_mul] at r
    exact whole_run (N := 1) rfl (by decide) (r none none none none)
  | 2, T, _, h => by
    obtain ⟨a0, a1, b0, b1, rfl, h0, h1, h2, h3⟩ := sq2 h
    exact whole_run (N := 2) rfl (by decide) (p0_2 h0 h1 h2 h3 none none none none)
  | 3, T, _, h => by
    obtain ⟨a0, a1, a2, b0, b1, b2, c0, c1, c2, rfl, ⟨h0, h1, h2⟩, ⟨h3, h4, h5⟩, ⟨h6, h7, h8⟩⟩ := sq3 h
    exact whole_run (N := 3) rfl (by decide) (p0_3 h0 h1 h2 h3 h4 h5 h6 h7 h8 none none none none)
  | 4, T, _, h => by
    obtain ⟨a0, a1, a2, a3, b0, b1, b2, b3, c0, c1, c2, c3, e0, e1, e2, e3, rfl, ⟨h0, h1, h2, h3⟩, ⟨h4, h5, h6, h7⟩, ⟨h8, h9, h10, h11⟩, ⟨h12, h13, h14, h15⟩⟩ := sq4 h
    exact whole_run (N := 4) rfl (by decide) (p0_4 h0 h1 h2 h3 h4 h5 h6 h7 h8 h9 h10 h11 h12 h13 h14 h15 none none none none)
  | n + 5, _, h, _ => absurd h (by omega)
def lapB (G : List D → M D) : Py.Env → M Out := (sSeq (sAsg 3 (mkL (eLc (itSeq (eSl (eVar 0) (oPart (eC (.int 1))) oNo)) (tgN 4) cYes (bin gAdd (eSl (eVar 4) oNo (oPart (eVar 2))) (eSl (eVar 4) (oPart (bin gAdd (eVar 2) (eC (.int 1)))) oNo)) [4])))
  (sAsg 1 (bin gAdd (eVar 1) (bin gMulX (bin gMulX (bin gSub (eC (.int 1)) (bin gMulX (eC (.int 2)) (bin gMod (eVar 2) (eC (.int 2))))) (bin gIx (bin gIx (eVar 0) (eC (.int 0))) (eVar 2))) (eCall 1 G (aCons (eVar 3) aNil))))))
theorem b_lap_eq (G : List D → M D) : b__law_determinant G = (sSeq (sIf (tst (bin gEq (eVar 0) (mkL (lDisp aNil)))) (sRet (eC (.int 1))) sNx)
  (sSeq (sAsg 1 (eC (.int 0)))
  (sSeq (sFor (itRng1 (aCons (cal cLen (aCons (eVar 0) aNil)) aNil)) (tgN 2) (lapB G))
  (sRet (eVar 1))))) := rfl
def minor (j : Nat) (T : List (List Int)) : List (List Int) := T.map fun r => r.take j ++ r.drop (j + 1)
def sgn (j : Nat) : Int := 1 - 2 * (j % 2 : Nat)
theorem cutD_from {ds : List D} {j : Nat} (h : j ≤ ds.length) : cutD ds (some (j : Int)) none = ds.drop j := by
  unfold cutD
  rw [HT.sIx_nat, HT.sIx_none, Nat.min_eq_left h]
  exact List.take_of_length_le (by simp)
theorem cutD_to {ds : List D} {j : Nat} (h : j ≤ ds.length) : cutD ds none (some (j : Int)) = ds.take j := by
  unfold cutD
  rw [HT.sIx_nat, HT.sIx_none, Nat.min_eq_left h]
  simp
theorem canLayAll_rows : ∀ T : List (List Int), PyData.canLayAll0 (T.map lstI) = true ∧ PyData.depthAll (T.map lstI) ≤ 1
  | [] => by simp [PyData.canLayAll0, PyData.depthAll]
  | r :: T => by
    have := canLayAll_rows T
    simp [PyData.canLayAll0, PyData.depthAll, lstI, PyData.canLay0, PyData.depth, canLayAll_ints, depthAll_ints, this]
theorem shp_dL (T : List (List Int)) : shp (dL T) = true := by
  show SeqAt.shaped (.list (T.map lstI)) = true
  have := canLayAll_rows T
  simp [SeqAt.shaped, PyData.canLay0, PyData.depth, this.1]; omega
theorem fmod2 (j : Nat) : ((j : Nat) : Int).fmod 2 = ((j % 2 : Nat) : Int) := by
  rw [Int.fmod_eq_emod_of_nonneg _ (by decide)]; simp
theorem lap_one {N j : Nat} {T : List (List Int)} {G : List D → M D} {acc g : Int} {v : Option D} (h : Sq N T) (N4 : N ≤ 4) (hj : j < N) (hg : G [dL (minor j (T.drop 1))] = ret (.int g)) (bg : Bd g) :
    ∃ v', lapB G [some (dL T), some (.int acc), some (.int j), v, none] = ret (.nx [some (dL T), some (.int (acc + sgn j * (T.getD 0 []).getD j 0 * g)), some (.int j), v', none]) := by
  have l0 : 0 < T.length := by rw [h.1]; omega
  have g0 := getD_some (d := []) l0
  have hm := h.2 _ (List.mem_of_getElem? g0)
  have lj : j < (T.getD 0 []).length := by rw [hm.1]; omega
  have gj := getD_some (d := 0) lj
  refine ⟨some (dL (minor j (T.drop 1))), ?_⟩
  have e0 : gIx (dL T) (.int 0) = ret (lstI (T.getD 0 [])) := gIx_l (atI_nat (i := 0) (by rw [List.getElem?_map, g0]; rfl))
  have e1 : gIx (lstI (T.getD 0 [])) (.int (j : Int)) = ret (.int ((T.getD 0 []).getD j 0)) := gIx_l (atI_nat (by rw [dInts, List.getElem?_map, gj]; rfl))
  have e2 : gSl (dL T) (some 1) none = ret (dL (T.drop 1)) := by
    show ret (PyData.list (cutD (T.map lstI) (some ((1 : Nat) : Int)) none)) = _
    rw [cutD_from (by rw [List.length_map]; exact l0), dL, List.map_drop]
  have e3 : modOk (j : Int) 2 = true := rfl
  have b2 : Bd (2 : Int) := (show B 2 2 by unfold B; decide).bd (by decide)
  have bm : Bd ((j % 2 : Nat) : Int) := (show B 1 ((j % 2 : Nat) : Int) by unfold B; simp only [Int.natAbs_natCast]; omega).bd (by decide)
  have bs : B 2 (1 - 2 * ((j % 2 : Nat) : Int)) := by unfold B; omega
  have br : B 60 ((T.getD 0 []).getD j 0) := hm.2 _ (List.mem_of_getElem? gj)
  have o1 := mulB b2 bm
  have o2 := mulB (bs.bd (by decide)) (br.bd (by decide))
  have o3 := mulB ((bs.mul br).bd (by decide)) bg
  have lc : lcW (tgN 4) cYes (bin gAdd (eSl (eVar 4) oNo (oPart (eVar 2))) (eSl (eVar 4) (oPart (bin gAdd (eVar 2) (eC (.int 1)))) oNo)) [some (dL T), some (.int acc), some (.int j), v, none] ((T.drop 1).map lstI) = ret ((minor j (T.drop 1)).map lstI) := by
    rw [lcW_all lstI (fun r => lstI (r.take j ++ r.drop (j + 1)))]
    · simp only [minor, List.map_map]; rfl
    · intro r hr
      refine ⟨_, rfl, ?_⟩
      have lr := (h.2 r (List.mem_of_mem_drop hr)).1
      have c1 : gSl (lstI r) none (some (j : Int)) = ret (lstI (r.take j)) := by
        show ret (PyData.list (cutD (dInts r) none (some (j : Int)))) = _
        rw [cutD_to (by rw [dInts_len]; omega), dInts, ← List.map_take]; rfl
      have c2 : gSl (lstI r) (some ((j : Int) + 1)) none = ret (lstI (r.drop (j + 1))) := by
        show ret (PyData.list (cutD (dInts r) (some ((j + 1 : Nat) : Int)) none)) = _
        rw [cutD_from (by rw [dInts_len]; omega), dInts, ← List.map_drop]; rfl
      have c3 : gAdd (lstI (r.take j)) (lstI (r.drop (j + 1))) = ret (lstI (r.take j ++ r.drop (j + 1))) := by
        rw [lstI, lstI, x_gAdd_l, if_pos (by rw [lenOk_def]; simp; omega), lstI, dInts, dInts, dInts, List.map_append]
      simp only [x_bin, x_eSl, x_eVar, x_oNo, x_oPart, x_eC, List.getElem?_cons_succ, List.getElem?_cons_zero, List.set_cons_succ, List.set_cons_zero, Option.getD_some, optM_some, bnd_ret', toI_i, x_gAdd_i, c1, c2, c3]
  simp only [lapB, x_sSeq, x_sAsg, x_mkL, x_eLc, x_itSeq, x_eSl, x_oPart, x_oNo, x_eVar, x_eC, List.getElem?_cons_succ, List.getElem?_cons_zero, List.set_cons_succ, List.set_cons_zero, Option.getD_some, optM_some, bnd_ret', toI_i, e2, x_wipeD_cons, x_wipeD_nil]
  rw [show dL (T.drop 1) = .list ((T.drop 1).map lstI) from rfl, x_seqD_l, bnd_ret', lc]
  simp only [bnd_ret', oThen_nx, x_sAsg, x_bin, x_eVar, x_eC, x_eCall, x_aCons, x_aNil, List.getElem?_cons_succ, List.getElem?_cons_zero, List.set_cons_succ, List.set_cons_zero, Option.getD_some, optM_some, x_gIc_i, e3, fmod2, if_true, x_gMulX_i, o1, x_gI_i, e0, e1, o2, List.length_cons, List.length_nil]
  rw [show PyData.list ((minor j (T.drop 1)).map lstI) = dL (minor j (T.drop 1)) from rfl, hg]
  simp only [bnd_ret', x_gMulX_i, o3, if_true, x_gAdd_i, Nat.zero_add]
  rfl
def lapS (N : Nat) (T : List (List Int)) (g : Nat → Int) : Nat → Nat → Int → Int
  | 0, _, acc => acc
  | m + 1, j, acc => lapS N T g m (j + 1) (acc + sgn j * (T.getD 0 []).getD j 0 * g j)
theorem lap_loop {N : Nat} {T : List (List Int)} {G : List D → M D} {g : Nat → Int} (h : Sq N T) (N4 : N ≤ 4) (hg : ∀ j, j < N → G [dL (minor j (T.drop 1))] = ret (.int (g j)) ∧ Bd (g j)) : ∀ (m j : Nat) (acc : Int) (u v : Option D), j + m ≤ N →
    ∃ u' v', forW (tgN 2) (lapB G) (rangeD (j : Nat) m) [some (dL T), some (.int acc), u, v, none] = ret (.nx [some (dL T), some (.int (lapS N T g m j acc)), u', v', none])
  | 0, j, acc, u, v, _ => ⟨u, v, rfl⟩
  | m + 1, j, acc, u, v, hm => by
    obtain ⟨v1, c⟩ := lap_one (acc := acc) (v := v) h N4 (by omega) (hg j (by omega)).1 (hg j (by omega)).2
    obtain ⟨u', v', ih⟩ := lap_loop h N4 hg m (j + 1) (acc + sgn j * (T.getD 0 []).getD j 0 * g j) (some (.int j)) v1 (by omega)
    refine ⟨u', v', ?_⟩
    rw [rangeD_succ, forW_cons, x_tgN, bnd_ret']
    simp only [List.set_cons_succ, List.set_cons_zero]
    rw [c, bnd_ret', oLoop_nx]
    exact ih
theorem lap_step {N k : Nat} {T : List (List Int)} {g : Nat → Int} (h : Sq (N + 1) T) (N4 : N + 1 ≤ 4) (hg : ∀ j, j < N + 1 → R__law_determinant k [dL (minor j (T.drop 1))] = ret (.int (g j)) ∧ Bd (g j)) : R__law_determinant (k + 1) [dL T] = ret (.int (lapS (N + 1) T g (N + 1) 0 0)) := by
  obtain ⟨u', v', c⟩ := lap_loop h N4 hg (N + 1) 0 0 none none (by omega)
  have e3 : cLen [dL T] = ret (.int ((N + 1 : Nat) : Int)) := by
    show ret (PyData.int ((T.map lstI).length : Nat)) = _
    rw [List.length_map, h.1]
  have e4 : PyData.eqv (dL T) (.list []) = false := by
    rw [dL, eqv_ints_nil]
    cases T with
    | nil => exact absurd h.1 (by simp)
    | cons _ _ => rfl
  have r1 : rngOk ((N + 1 : Nat) : Int) = true := by simp [rngOk]; omega
  show fnD 4 (b__law_determinant (R__law_determinant k)) [dL T] = _
  rw [b_lap_eq, x_fnD]
  simp only [List.map_cons, List.map_nil, List.replicate, List.cons_append, List.nil_append, x_sSeq, x_sIf, x_tst, x_bin, x_eVar, x_mkL, x_lDisp, x_aNil, x_aCons, x_sRet, x_sNx, x_eC, List.getElem?_cons_succ, List.getElem?_cons_zero, List.set_cons_succ, List.set_cons_zero, Option.getD_some, optM_some, bnd_ret', List.length_nil, gEq, shp_dL, shp_nil, Bool.and_self, if_true, toB_b, oThen_rt, oThen_nx, lenOk_def, Nat.zero_le, e4, Bool.false_eq_true, if_false, x_sAsg, x_sFor, x_itRng1, x_cal, e3, rng1_i, r1, Int.toNat_natCast]
  have c' := c
  rw [show ((0 : Nat) : Int) = 0 from rfl] at c'
  rw [c']
  simp only [bnd_ret', oThen_nx, x_sRet, x_eVar, List.getElem?_cons_succ, List.getElem?_cons_zero, Option.getD_some, optM_some, outD_rt]
theorem sq_minor {N j : Nat} {T : List (List Int)} (h : Sq (N + 1) T) (hj : j < N + 1) : Sq N (minor j (T.drop 1)) := by
  refine ⟨by simp [minor, h.1], fun r hr => ?_⟩
  simp only [minor, List.mem_map] at hr
  obtain ⟨s, hs, rfl⟩ := hr
  have := h.2 s (List.mem_of_mem_drop hs)
  refine ⟨by simp; omega, fun x hx => this.2 x ?_⟩
  rcases List.mem_append.mp hx with h | h
  · exact List.mem_of_mem_take h
  · exact List.mem_of_mem_drop h
theorem bd_det : ∀ {n : Nat} {T : List (List Int)}, n ≤ 4 → Sq n T → Bd (detM T)
  | 0, T, _, h => by
    have : T = [] := List.length_eq_zero_iff.mp h.1
    subst this
    exact (show B 0 1 by unfold B; decide).bd (by decide)
  | 1, T, _, h => by
    obtain ⟨a, rfl, ha⟩ := sq1 h
    exact ha.bd (by decide)
  | 2, T, _, h => by
    obtain ⟨a0, a1, b0, b1, rfl, h0, h1, h2, h3⟩ := sq2 h
    exact (h0.d2 h1 h2 h3).bd (by decide)
  | 3, T, _, h => by
    obtain ⟨a0, a1, a2, b0, b1, b2, c0, c1, c2, rfl, ⟨h0, h1, h2⟩, ⟨h3, h4, h5⟩, ⟨h6, h7, h8⟩⟩ := sq3 h
    exact (h0.d3 h1 h2 h3 h4 h5 h6 h7 h8).bd (by decide)
  | 4, T, _, h => by
    obtain ⟨a0, a1, a2, a3, b0, b1, b2, b3, c0, c1, c2, c3, e0, e1, e2, e3, rfl, ⟨h0, h1, h2, h3⟩, ⟨h4, h5, h6, h7⟩, ⟨h8, h9, h10, h11⟩, ⟨h12, h13, h14, h15⟩⟩ := sq4 h
    exact (h0.d4 h1 h2 h3 h4 h5 h6 h7 h8 h9 h10 h11 h12 h13 h14 h15).bd (by decide)
  | n + 5, _, h, _ => absurd h (by omega)
theorem lap_det : ∀ {n : Nat} {T : List (List Int)}, n + 1 ≤ 4 → Sq (n + 1) T → lapS (n + 1) T (fun j => detM (minor j (T.drop 1))) (n + 1) 0 0 = detM T
  | 0, T, _, h => by
    obtain ⟨a, rfl, ha⟩ := sq1 h
    simp [lapS, sgn, minor, detM]
  | 1, T, _, h => by
    obtain ⟨a0, a1, b0, b1, rfl, h0, h1, h2, h3⟩ := sq2 h
    simp [lapS, sgn, minor, detM, d2]; grind
  | 2, T, _, h => by
    obtain ⟨a0, a1, a2, b0, b1, b2, c0, c1, c2, rfl, ⟨h0, h1, h2⟩, ⟨h3, h4, h5⟩, ⟨h6, h7, h8⟩⟩ := sq3 h
    simp [lapS, sgn, minor, detM, d3]; grind
  | 3, T, _, h => by
    obtain ⟨a0, a1, a2, a3, b0, b1, b2, b3, c0, c1, c2, c3, e0, e1, e2, e3, rfl, ⟨h0, h1, h2, h3⟩, ⟨h4, h5, h6, h7⟩, ⟨h8, h9, h10, h11⟩, ⟨h12, h13, h14, h15⟩⟩ := sq4 h
    simp [lapS, sgn, minor, detM, d4]; grind
  | n + 4, _, h, _ => absurd h (by omega)
theorem lap_eq : ∀ {n k : Nat} {T : List (List Int)}, n ≤ 4 → n < k → Sq n T → R__law_determinant k [dL T] = ret (.int (detM T))
  | 0, 0, _, _, h, _ => absurd h (by omega)
  | 0, k + 1, T, _, _, h => by
    have : T = [] := List.length_eq_zero_iff.mp h.1
    subst this
    rfl
  | n + 1, 0, _, _, h, _ => absurd h (by omega)
  | n + 1, k + 1, T, h4, hk, h => by
    rw [lap_step (g := fun j => detM (minor j (T.drop 1))) h h4 fun j hj => ⟨lap_eq (by omega) (by omega) (sq_minor h hj), bd_det (by omega) (sq_minor h hj)⟩, lap_det h4 h]
theorem lawdet_eq {n : Nat} {T : List (List Int)} (h4 : n ≤ 4) (h : Sq n T) : F__law_determinant [dL T] = ret (.int (detM T)) := lap_eq h4 (by omega) h
def natI (l : List Nat) : List Int := l.map fun (i : Nat) => (i : Int)
def lotD (l : List Nat) : D := tupI (natI l)
theorem dInts_nat (l : List Nat) : dInts (natI l) = l.map fun (i : Nat) => .int (i : Int) := by simp [dInts, natI]
theorem alikeAll_ints : ∀ a b : List Int, W.alikeAll (dInts a) (dInts b) = true
  | [], b => by simp [dInts, W.alikeAll]
  | x :: a, [] => by simp [dInts, W.alikeAll]
  | x :: a, y :: b => by
    show W.alikeAll (.int x :: dInts a) (.int y :: dInts b) = true
    simp [W.alikeAll, W.alike, alikeAll_ints a b]
theorem alike_lot (a b : List Nat) : W.alike (lotD a) (lotD b) = true := by
  show W.alike (.tuple (dInts (natI a))) (.tuple (dInts (natI b))) = true
  rw [W.alike]; exact alikeAll_ints _ _
theorem shp_lot (a : List Nat) : shp (lotD a) = true := shp_intsT _
theorem srtOk_lots {L : List (List Nat)} : srtOk (([] :: L).map lotD) = true := by
  have h1 : alls (([] :: L).map lotD) = true := by
    unfold alls
    rw [List.all_eq_true]
    intro x hx
    obtain ⟨a, ha, rfl⟩ := List.mem_map.mp hx
    rw [Bool.and_eq_true, Bool.and_eq_true]
    refine ⟨⟨shp_lot a, rfl⟩, List.all_eq_true.mpr fun y hy => ?_⟩
    obtain ⟨b, hb, rfl⟩ := List.mem_map.mp hy
    exact alike_lot a b
  unfold srtOk
  rw [h1, Bool.true_and, Bool.or_eq_true]
  right
  show (([] :: L).map lotD).all isTupD = true
  rw [List.all_eq_true]
  intro x hx
  obtain ⟨a, ha, rfl⟩ := List.mem_map.mp hx
  rfl
/-- the lots, unsorted and sorted -/
def lotsU : Nat → List (List Nat)
  | 0 => [[]]
  | n + 1 => lotsU n ++ (lotsU n).map (· ++ [n])
def lots (n : Nat) : List (List Nat) := (lotsU n).mergeSort fun a b => leD (lotD a) (lotD b)
theorem lotsU_head : ∀ n, ∃ L, lotsU n = [] :: L
  | 0 => ⟨[], rfl⟩
  | n + 1 => by
    obtain ⟨L, e⟩ := lotsU_head n
    refine ⟨L ++ (lotsU n).map (· ++ [n]), ?_⟩
    show lotsU n ++ _ = _
    rw [show lotsU n ++ (lotsU n).map (· ++ [n]) = ([] :: L) ++ (lotsU n).map (· ++ [n]) from congrArg (· ++ (lotsU n).map (· ++ [n])) e]
    rfl
/-- a lot below n -/
def Lot (n : Nat) (l : List Nat) : Prop := l.length ≤ n ∧ (∀ i ∈ l, i < n) ∧ l.Pairwise (· < ·)
theorem lotsU_lot : ∀ {n : Nat} {l : List Nat}, l ∈ lotsU n → Lot n l
  | 0, l, h => by
    have : l = [] := by simpa [lotsU] using h
    subst this
    exact ⟨by simp, by simp, .nil⟩
  | n + 1, l, h => by
    rcases List.mem_append.mp h with h | h
    · obtain ⟨h1, h2, h3⟩ := lotsU_lot h
      exact ⟨by omega, fun i hi => Nat.lt_succ_of_lt (h2 i hi), h3⟩
    · obtain ⟨l', hl, rfl⟩ := List.mem_map.mp h
      obtain ⟨h1, h2, h3⟩ := lotsU_lot hl
      refine ⟨by simp; omega, fun i hi => ?_, ?_⟩
      · rcases List.mem_append.mp hi with hi | hi
        · exact Nat.lt_succ_of_lt (h2 i hi)
        · simp at hi; omega
      · rw [List.pairwise_append]
        exact ⟨h3, by simp, fun a ha b hb => by simp at hb; subst hb; exact h2 a ha⟩
theorem lots_lot {n : Nat} {l : List Nat} (h : l ∈ lots n) : Lot n l := lotsU_lot (List.mem_mergeSort.mp h)
theorem lotsU_len : ∀ n, (lotsU n).length = 2 ^ n
  | 0 => rfl
  | n + 1 => by
    rw [lotsU, List.length_append, List.length_map, lotsU_len n, Nat.pow_succ]; omega
theorem lots_len (n : Nat) : (lots n).length = 2 ^ n := by rw [lots, List.length_mergeSort, lotsU_len]
def lotB : Py.Env → M Out := (sAsg 1 (bin gAdd (eVar 1) (mkL (eLc (itSeq (eVar 1)) (tgN 3) cYes (bin gAdd (eVar 3) (eTup (aCons (eVar 2) aNil))) [3]))))
theorem lots_one {n : Nat} {N w : Option D} (hn : n < 10) : lotB [N, some (.list ((lotsU n).map lotD)), some (.int n), w] = ret (.nx [N, some (.list ((lotsU (n + 1)).map lotD)), some (.int n), w]) := by
  have lc : lcW (tgN 3) cYes (bin gAdd (eVar 3) (eTup (aCons (eVar 2) aNil))) [N, some (.list ((lotsU n).map lotD)), some (.int n), none] ((lotsU n).map lotD) = ret (((lotsU n).map (· ++ [n])).map lotD) := by
    rw [lcW_all lotD (fun l => lotD (l ++ [n]))]
    · simp only [List.map_map]; rfl
    · intro l hl
      refine ⟨_, rfl, ?_⟩
      have := lotsU_lot hl
      have c3 : gAdd (lotD l) (.tuple [.int n]) = ret (lotD (l ++ [n])) := by
        rw [lotD, tupI, x_gAdd_t, if_pos (by rw [lenOk_def]; simp [natI]; have := this.1; omega), lotD, tupI, dInts_nat, dInts_nat, List.map_append]; rfl
      simp only [x_bin, x_eTup, x_aCons, x_aNil, x_eVar, List.getElem?_cons_succ, List.getElem?_cons_zero, List.set_cons_succ, List.set_cons_zero, Option.getD_some, optM_some, bnd_ret', lenOk_def, List.length_cons, List.length_nil]
      rw [if_pos (by omega), bnd_ret', c3]
  simp only [lotB, x_sAsg, x_bin, x_mkL, x_eLc, x_itSeq, x_eVar, List.getElem?_cons_succ, List.getElem?_cons_zero, List.set_cons_succ, List.set_cons_zero, Option.getD_some, optM_some, bnd_ret', x_seqD_l, x_wipeD_cons, x_wipeD_nil, lc, x_gAdd_l]
  have : 2 ^ n ≤ 2 ^ 10 := Nat.pow_le_pow_right (by decide) (by omega)
  rw [if_pos (by rw [lenOk_def]; simp [lotsU_len]; omega), bnd_ret', ← List.map_append]
  rfl
theorem lots_loop {N : Option D} : ∀ (m n : Nat) (u w : Option D), n + m ≤ 10 → ∃ u' w', forW (tgN 2) lotB (rangeD (n : Nat) m) [N, some (.list ((lotsU n).map lotD)), u, w] = ret (.nx [N, some (.list ((lotsU (n + m)).map lotD)), u', w'])
  | 0, n, u, w, _ => ⟨u, w, rfl⟩
  | m + 1, n, u, w, h => by
    obtain ⟨u', w', ih⟩ := lots_loop (N := N) m (n + 1) (some (.int n)) w (by omega)
    refine ⟨u', w', ?_⟩
    rw [rangeD_succ, forW_cons, x_tgN, bnd_ret']
    simp only [List.set_cons_succ, List.set_cons_zero]
    rw [lots_one (by omega), bnd_ret', oLoop_nx, ih, show n + 1 + m = n + (m + 1) by omega]
theorem b_lots_eq : b_lots_below = (sSeq (sAsg 1 (mkL (lDisp (aCons (eTup aNil) aNil))))
  (sSeq (sFor (itRng1 (aCons (eVar 0) aNil)) (tgN 2) lotB)
  (sRet (mkL (calL cSrt (aCons (eVar 1) aNil)))))) := rfl
theorem lots_sorted (n : Nat) : ((lotsU n).map lotD).mergeSort leD = (lots n).map lotD := by
  rw [lots, List.map_mergeSort]
  intros; rfl
theorem lots_eq {n : Nat} (h : n ≤ 10) : F_lots_below [.int n] = ret (.list ((lots n).map lotD)) := by
  obtain ⟨u', w', c⟩ := lots_loop (N := some (.int n)) n 0 none none (by omega)
  have r1 : rngOk (n : Int) = true := by simp [rngOk]; omega
  obtain ⟨L, hL⟩ := lotsU_head n
  have so : srtOk ((lotsU n).map lotD) = true := by rw [hL]; exact srtOk_lots
  have cs : cSrt [.list ((lotsU n).map lotD)] = ret ((lots n).map lotD) := by
    show (if srtOk ((lotsU n).map lotD) = true then ret (((lotsU n).map lotD).mergeSort leD) else stuck) = _
    rw [if_pos so, lots_sorted]
  show fnD 3 b_lots_below [.int n] = _
  rw [b_lots_eq, x_fnD]
  have c' : forW (tgN 2) lotB (rangeD 0 n) [some (.int n), some (.list [.tuple []]), none, none] = ret (.nx [some (.int n), some (.list ((lotsU (0 + n)).map lotD)), u', w']) := c
  simp only [List.map_cons, List.map_nil, List.replicate, List.cons_append, List.nil_append, x_sSeq, x_sAsg, x_mkL, x_lDisp, x_aCons, x_aNil, x_eTup, List.length_nil, List.length_cons, lenOk_def, Nat.zero_le, if_true, bnd_ret', oThen_nx, List.set_cons_succ, List.set_cons_zero, x_sFor, x_itRng1, x_eVar, List.getElem?_cons_succ, List.getElem?_cons_zero, Option.getD_some, optM_some, rng1_i, r1, Int.toNat_natCast]
  rw [if_pos (by omega)]
  simp only [bnd_ret', oThen_nx, x_sSeq, x_sFor, x_itRng1, x_aCons, x_aNil, List.set_cons_succ, List.set_cons_zero, List.getElem?_cons_succ, List.getElem?_cons_zero, Option.getD_some, optM_some, rng1_i, r1, Int.toNat_natCast, if_true, x_eVar, c', x_sRet, x_mkL, calL, x_aCons, x_eVar, x_aNil, Nat.zero_add, cs, outD_rt]
theorem lawlots_eq {n : Nat} (h : n ≤ 10) : F__law_lots [.int n] = ret (.list ((lots n).map lotD)) := lots_eq h
/-- a part of a table -/
def at2 (T : List (List Int)) (i j : Nat) : Int := (T.getD i []).getD j 0
def sub (T : List (List Int)) (l m : List Nat) : List (List Int) := l.map fun i => m.map fun j => at2 T i j
theorem sq_sub {n : Nat} {T : List (List Int)} {l m : List Nat} (h : Sq n T) (hl : ∀ i ∈ l, i < n) (hm : ∀ i ∈ m, i < n) (e : l.length = m.length) : Sq m.length (sub T l m) := by
  refine ⟨by simp [sub, e], fun r hr => ?_⟩
  obtain ⟨i, hi, rfl⟩ := List.mem_map.mp hr
  refine ⟨by simp, fun x hx => ?_⟩
  obtain ⟨j, hj, rfl⟩ := List.mem_map.mp hx
  have h1 : i < T.length := by rw [h.1]; exact hl i hi
  have h2 := h.2 _ (List.mem_of_getElem? (getD_some (d := []) h1))
  have h3 : j < (T.getD i []).length := by rw [h2.1]; exact hm j hj
  exact h2.2 _ (List.mem_of_getElem? (getD_some (d := 0) h3))
theorem ix_row {n i : Nat} {T : List (List Int)} (h : Sq n T) (hi : i < n) : gIx (dT T) (.int (i : Int)) = ret (tupI (T.getD i [])) := by
  have h1 : i < T.length := by rw [h.1]; exact hi
  exact gIx_t (atI_nat (by rw [List.getElem?_map, getD_some (d := []) h1]; rfl))
theorem ix_int {r : List Int} {j : Nat} (h : j < r.length) : gIx (tupI r) (.int (j : Int)) = ret (.int (r.getD j 0)) := gIx_t (atI_nat (by rw [dInts, List.getElem?_map, getD_some (d := 0) h]; rfl))
theorem row_len {n i : Nat} {T : List (List Int)} (h : Sq n T) (hi : i < n) : (T.getD i []).length = n := by
  have h1 : i < T.length := by rw [h.1]; exact hi
  exact (h.2 _ (List.mem_of_getElem? (getD_some (d := []) h1))).1
theorem ix_at {n i j : Nat} {T : List (List Int)} (h : Sq n T) (hi : i < n) (hj : j < n) : gIx (tupI (T.getD i [])) (.int (j : Int)) = ret (.int (at2 T i j)) := ix_int (by rw [row_len h hi]; exact hj)
theorem B_at {n i j : Nat} {T : List (List Int)} (h : Sq n T) (hi : i < n) (hj : j < n) : B 60 (at2 T i j) := by
  have h1 : i < T.length := by rw [h.1]; exact hi
  have h2 := h.2 _ (List.mem_of_getElem? (getD_some (d := []) h1))
  have h3 : j < (T.getD i []).length := by rw [h2.1]; exact hj
  exact h2.2 _ (List.mem_of_getElem? (getD_some (d := 0) h3))
theorem within_eq {n : Nat} {T : List (List Int)} {l : List Nat} (h : Sq n T) (hl : ∀ i ∈ l, i < n) : F_within [dT T, lotD l] = ret (dL (sub T l l)) := by
  show fnD 2 b_within [dT T, lotD l] = _
  rw [x_fnD]
  simp only [b_within, List.map_cons, List.map_nil, List.replicate, List.cons_append, List.nil_append, x_sRet, x_mkL, x_eLc, x_itSeq, x_eVar, List.getElem?_cons_succ, List.getElem?_cons_zero, Option.getD_some, optM_some, bnd_ret', x_wipeD_cons, x_wipeD_nil, List.set_cons_succ, List.set_cons_zero]
  rw [show seqD (lotD l) = ret (dInts (natI l)) from rfl, bnd_ret', dInts_nat, lcW_all (fun (i : Nat) => PyData.int (i : Int)) (fun i => lstI (l.map fun j => at2 T i j))]
  · simp only [bnd_ret', outD_rt, dL, sub, List.map_map]; rfl
  · intro i hi
    refine ⟨_, rfl, ?_⟩
    simp only [x_mkL, x_eLc, x_itSeq, x_eVar, List.getElem?_cons_succ, List.getElem?_cons_zero, Option.getD_some, optM_some, bnd_ret', x_wipeD_cons, x_wipeD_nil, List.set_cons_succ, List.set_cons_zero]
    rw [show seqD (lotD l) = ret (dInts (natI l)) from rfl, bnd_ret', dInts_nat, lcW_all (fun (i : Nat) => PyData.int (i : Int)) (fun j => .int (at2 T i j))]
    · simp only [bnd_ret', lstI, dInts, List.map_map]; rfl
    · intro j hj
      refine ⟨_, rfl, ?_⟩
      simp only [x_bin, x_eVar, List.getElem?_cons_succ, List.getElem?_cons_zero, List.set_cons_succ, List.set_cons_zero, Option.getD_some, optM_some, bnd_ret', ix_row h (hl i hi), ix_at h (hl i hi) (hl j hj)]
/-- the minor of a lot -/
def pm (T : List (List Int)) (l : List Nat) : Int := detM (sub T l l)
theorem detw_eq {n : Nat} {T : List (List Int)} {l : List Nat} (h : Sq n T) (h4 : n ≤ 4) (hl : Lot n l) : F_determinant_within [dT T, lotD l] = ret (.int (pm T l)) := by
  show fnD 0 b_determinant_within [dT T, lotD l] = _
  have s := sq_sub (l := l) (m := l) h hl.2.1 hl.2.1 rfl
  have := hl.1
  rw [x_fnD]
  simp only [b_determinant_within, List.map_cons, List.map_nil, List.replicate, List.cons_append, List.nil_append, List.append_nil, x_sRet, x_eCall, x_aCons, x_aNil, x_eVar, List.getElem?_cons_succ, List.getElem?_cons_zero, Option.getD_some, optM_some, bnd_ret', List.length_cons, List.length_nil, if_true, within_eq h hl.2.1, whole_eq (by omega : l.length ≤ 4) s, outD_rt]
  rfl
theorem laww_eq {n : Nat} {T : List (List Int)} {l : List Nat} (h : Sq n T) (h4 : n ≤ 4) (hl : Lot n l) : F__law_within [dT T, lotD l] = ret (.int (pm T l)) := by
  have s := sq_sub (l := l) (m := l) h hl.2.1 hl.2.1 rfl
  have := hl.1
  have w := within_eq h hl.2.1
  have e : F__law_within [dT T, lotD l] = bnd (F_within [dT T, lotD l]) fun d => F__law_determinant [d] := rfl
  rw [e, w, bnd_ret', lawdet_eq (by omega : l.length ≤ 4) s]
  rfl
end L94
namespace L94
open PySem hiding ret
open Py L2
theorem dT_len {n : Nat} {T : List (List Int)} (h : Sq n T) : cLen [dT T] = ret (.int n) := by
  show ret (PyData.int ((T.map tupI).length : Nat)) = _
  rw [List.length_map, h.1]
theorem eCall_2 (F : List D → M D) {f : Py.Env → M (List D)} {ρ : Py.Env} {x y : D} (h : f ρ = ret [x, y]) : eCall 2 F f ρ = F [x, y] := by
  rw [x_eCall, h, bnd_ret', if_pos (by simp)]
theorem args_2 {i j : Nat} {ρ : Py.Env} {x y : D} (hx : ρ[i]? = some (some x)) (hy : ρ[j]? = some (some y)) : (aCons (eVar i) (aCons (eVar j) aNil)) ρ = ret [x, y] := by
  simp only [x_aCons, x_aNil, x_eVar, hx, hy, Option.getD_some, optM_some, bnd_ret']
theorem det_elt {n : Nat} {T : List (List Int)} {l : List Nat} (h : Sq n T) (h4 : n ≤ 4) (hl : Lot n l) : eTup (aCons (eVar 1) (aCons (eCall 2 F_determinant_within (aCons (eVar 0) (aCons (eVar 1) aNil))) aNil)) [some (dT T), some (lotD l)] = ret (.tuple [lotD l, .int (pm T l)]) := by
  have c : eCall 2 F_determinant_within (aCons (eVar 0) (aCons (eVar 1) aNil)) [some (dT T), some (lotD l)] = ret (.int (pm T l)) := (eCall_2 _ (args_2 rfl rfl)).trans (detw_eq h h4 hl)
  simp only [x_eTup, x_aCons, x_aNil, c, x_eVar, List.getElem?_cons_succ, List.getElem?_cons_zero, Option.getD_some, optM_some, bnd_ret', lenOk_def, List.length_cons, List.length_nil]
  rw [if_pos (by omega)]
theorem dets_eq {n : Nat} {T : List (List Int)} (h : Sq n T) (h4 : n ≤ 4) : F_determinants_within [dT T] = ret (.tuple ((lots n).map fun l => .tuple [lotD l, .int (pm T l)])) := by
  show fnD 1 b_determinants_within [dT T] = _
  have c : eCall 1 F_lots_below (aCons (cal cLen (aCons (eVar 0) aNil)) aNil) [some (dT T), none] = ret (.list ((lots n).map lotD)) := by
    rw [← lots_eq (show n ≤ 10 by omega)]
    generalize F_lots_below = F
    simp only [x_eCall, x_aCons, x_aNil, x_cal, x_eVar, List.getElem?_cons_succ, List.getElem?_cons_zero, Option.getD_some, optM_some, bnd_ret', dT_len h]
    rfl
  rw [x_fnD]
  simp only [b_determinants_within, List.map_cons, List.map_nil, List.replicate, List.cons_append, List.nil_append, x_sRet, x_cal cTup, x_aCons, x_aNil, x_mkL, x_eLc, x_itSeq, c, bnd_ret', x_seqD_l, x_wipeD_cons, x_wipeD_nil, List.set_cons_succ, List.set_cons_zero]
  rw [lcW_all lotD (fun l => .tuple [lotD l, .int (pm T l)])]
  · simp only [bnd_ret', x_cTup_l, outD_rt]
  · intro l hl
    exact ⟨_, rfl, det_elt h h4 (lots_lot hl)⟩
def allUp (n : Nat) (T : List (List Int)) : Bool := (lots n).all fun l => decide (0 < pm T l)
theorem cAll_map {α : Type} (l : List α) (p : α → Bool) : cAll [.list (l.map fun a => .bool (p a))] = ret (.bool (l.all p)) := by
  have := cAll_bools (l.map p)
  rw [List.map_map] at this
  rw [show (l.map fun a => PyData.bool (p a)) = l.map (PyData.bool ∘ p) from rfl, this]
  congr 2
  rw [List.all_map]; rfl
theorem cAny_map {α : Type} (l : List α) (p : α → Bool) : cAny [.list (l.map fun a => .bool (p a))] = ret (.bool (l.any p)) := by
  have := cAny_bools (l.map p)
  rw [List.map_map] at this
  rw [show (l.map fun a => PyData.bool (p a)) = l.map (PyData.bool ∘ p) from rfl, this]
  congr 2
  rw [List.any_map]; rfl
theorem above_eq {n : Nat} {T : List (List Int)} (h : Sq n T) (h4 : n ≤ 4) : F_is_above [dT T] = ret (.bool (allUp n T)) := by
  show fnD 2 b_is_above [dT T] = _
  rw [x_fnD]
  simp only [b_is_above, List.map_cons, List.map_nil, List.replicate, List.cons_append, List.nil_append, x_sRet, x_cal, x_aCons, x_aNil, x_mkL, x_eLc, x_itSeq, x_eCall, x_eVar, List.getElem?_cons_succ, List.getElem?_cons_zero, Option.getD_some, optM_some, bnd_ret', List.length_cons, List.length_nil, Nat.zero_add, if_true, dets_eq h h4, x_seqD_t, x_wipeD_cons, x_wipeD_nil, List.set_cons_succ, List.set_cons_zero]
  rw [lcW_all (fun l => .tuple [lotD l, .int (pm T l)]) (fun l => .bool (decide (0 < pm T l)))]
  · simp only [bnd_ret', cAll_map, outD_rt, allUp]
  · intro l hl
    refine ⟨_, rfl, ?_⟩
    generalize pm T l = v
    rfl
/-! what a table leads a paper to -/
theorem zipD_dInts : ∀ xs ys : List Int, zipD (dInts xs) (dInts ys) = (xs.zip ys).map fun p => .tuple [.int p.1, .int p.2]
  | [], ys => rfl
  | x :: xs, [] => rfl
  | x :: xs, y :: ys => by
    show PyData.tuple [.int x, .int y] :: zipD (dInts xs) (dInts ys) = _
    rw [zipD_dInts xs ys]; rfl
def dot (xs ys : List Int) : Int := ((xs.zip ys).map fun p => p.1 * p.2).sum
def Bx (x : List Int) : Prop := ∀ a ∈ x, B 200 a
theorem sum_map {α : Type} (l : List α) (f : α → Int) : cSum [.list (l.map fun a => .int (f a))] = ret (.int (l.map f).sum) := by
  have := cSum_dInts (l.map f)
  rw [dInts, List.map_map] at this
  exact this
theorem dot_comp {u v : Nat} {ρ : Py.Env} {r x : List Int} {its : Py.Env → M (List D)} (hr : ∀ a ∈ r, B 60 a) (hx : Bx x) (hi : its ρ = ret (zipD (dInts r) (dInts x))) (huv : ∀ a b : D, (((wipeD ρ [u, v]).set u (some a)).set v (some b))[u]? = some (some a) ∧ (((wipeD ρ [u, v]).set u (some a)).set v (some b))[v]? = some (some b)) :
    cal cSum (aCons (mkL (eLc its (tgTup 2 (tgsCons (tgN u) (tgsCons (tgN v) tgsNil))) cYes (bin gMulX (eVar u) (eVar v)) [u, v])) aNil) ρ = ret (.int (dot r x)) := by
  simp only [x_cal, x_aCons, x_aNil, x_mkL, x_eLc, hi, bnd_ret', zipD_dInts]
  rw [lcW_all (fun p : Int × Int => PyData.tuple [.int p.1, .int p.2]) (fun p => .int (p.1 * p.2))]
  · rw [bnd_ret', bnd_ret', bnd_ret', sum_map]; rfl
  · intro p hp
    refine ⟨_, rfl, ?_⟩
    obtain ⟨h1, h2⟩ := huv (.int p.1) (.int p.2)
    have m := mulB ((hr p.1 (List.of_mem_zip hp).1).bd (by decide)) ((hx p.2 (List.of_mem_zip hp).2).bd (by decide))
    simp only [x_bin, x_eVar, h1, h2, Option.getD_some, optM_some, bnd_ret', x_gMulX_i, m, if_true]
def led (T : List (List Int)) (x : List Int) : List Int := T.map fun r => dot r x
theorem led_eq {n : Nat} {T : List (List Int)} {x : List Int} (h : Sq n T) (hx : Bx x) : F_led_row [dT T, tupI x] = ret (tupI (led T x)) := by
  show fnD 3 b_led_row [dT T, tupI x] = _
  rw [x_fnD]
  simp only [b_led_row, List.map_cons, List.map_nil, List.replicate, List.cons_append, List.nil_append, x_sRet, x_cal cTup, x_aCons, x_aNil, x_mkL, x_eLc _ (tgN 2), x_itSeq, x_eVar, List.getElem?_cons_succ, List.getElem?_cons_zero, Option.getD_some, optM_some, bnd_ret', x_wipeD_cons, x_wipeD_nil, List.set_cons_succ, List.set_cons_zero]
  rw [show seqD (dT T) = ret (T.map tupI) from rfl, bnd_ret', lcW_all tupI (fun r => .int (dot r x))]
  · simp only [bnd_ret', x_cTup_l, outD_rt, tupI, dInts, led, List.map_map]; rfl
  · intro r hr
    refine ⟨_, rfl, dot_comp (h.2 r hr).2 hx rfl fun a b => ⟨rfl, rfl⟩⟩
theorem sumB : ∀ {n : Nat} {xs : List Int}, (∀ x ∈ xs, B n x) → B (n + xs.length) xs.sum
  | n, [], _ => by
    show (0 : Int).natAbs ≤ _
    simp
  | n, x :: xs, h => by
    rw [List.sum_cons]
    have h1 := sumB (n := n) (xs := xs) fun y hy => h y (by simp [hy])
    exact ((h x (by simp)).mono (Nat.le_add_right n xs.length)).add h1
theorem dotB {r x : List Int} (hr : ∀ a ∈ r, B 60 a) (hx : Bx x) (hl : r.length ≤ 4) : B 300 (dot r x) := by
  have := sumB (n := 260) (xs := (r.zip x).map fun p => p.1 * p.2) (by
    intro y hy
    obtain ⟨p, hp, rfl⟩ := List.mem_map.mp hy
    exact (hr p.1 (List.of_mem_zip hp).1).mul (hx p.2 (List.of_mem_zip hp).2))
  exact this.mono (by rw [List.length_map, List.length_zip]; omega)
theorem layD {k : Nat} : ∀ {ds : List D}, (∀ d ∈ ds, d.canLay0 = true ∧ d.depth ≤ k) → PyData.canLayAll0 ds = true ∧ PyData.depthAll ds ≤ k
  | [], _ => ⟨rfl, Nat.zero_le _⟩
  | d :: ds, h => by
    obtain ⟨h1, h2⟩ := layD fun x hx => h x (List.mem_cons_of_mem _ hx)
    obtain ⟨h3, h4⟩ := h d (by simp)
    refine ⟨?_, Nat.max_le.mpr ⟨h4, h2⟩⟩
    show (d.canLay0 && PyData.canLayAll0 ds) = true
    rw [h3, h1]; rfl
theorem shp_of {d : D} (h1 : d.canLay0 = true) (h2 : d.depth ≤ 64) : shp d = true := by
  show (d.canLay0 && decide (d.depth ≤ 64)) = true
  rw [h1, decide_eq_true h2]; rfl
theorem lay_ints (xs : List Int) : (tupI xs).canLay0 = true ∧ (tupI xs).depth ≤ 1 := by
  show PyData.canLay0 (.tuple (dInts xs)) = true ∧ PyData.depth (.tuple (dInts xs)) ≤ 1
  simp [PyData.canLay0, PyData.depth, canLayAll_ints, depthAll_ints]
theorem detB_of {n : Nat} {T : List (List Int)} (h : Sq n T) (h3 : n ≤ 3) : B 190 (detM T) := by
  match n, h3 with
  | 0, _ =>
    have : T = [] := List.length_eq_zero_iff.mp h.1
    subst this
    exact (show B 0 1 by unfold B; decide).mono (by decide)
  | 1, _ =>
    obtain ⟨a, rfl, ha⟩ := sq1 h
    exact ha.mono (by decide)
  | 2, _ =>
    obtain ⟨a0, a1, b0, b1, rfl, h0, h1, h2, h3⟩ := sq2 h
    exact (h0.d2 h1 h2 h3).mono (by decide)
  | 3, _ =>
    obtain ⟨a0, a1, a2, b0, b1, b2, c0, c1, c2, rfl, ⟨h0, h1, h2⟩, ⟨h3, h4, h5⟩, ⟨h6, h7, h8⟩⟩ := sq3 h
    exact (h0.d3 h1 h2 h3 h4 h5 h6 h7 h8).mono (by decide)
/-- (length, lot) -/
def lenLot (l : List Nat) : D := .tuple [.int l.length, lotD l]
theorem lay_lenLot (l : List Nat) : (lenLot l).canLay0 = true ∧ (lenLot l).depth ≤ 2 := by
  have := lay_ints (natI l)
  have h : ∀ d : D, d.canLay0 = true → d.depth ≤ 1 → PyData.canLay0 (.tuple [.int l.length, d]) = true ∧ PyData.depth (.tuple [.int l.length, d]) ≤ 2 := by
    intro d h1 h2
    simp [PyData.canLay0, PyData.canLayAll0, PyData.depth, PyData.depthAll, h1]; omega
  exact h _ this.1 this.2
theorem minD_mem : ∀ (ds : List D) (d : D), W.minD d ds ∈ d :: ds
  | [], d => by simp [W.minD]
  | e :: ds, d => by
    show W.minD (if W.dataLt e d then e else d) ds ∈ _
    have := minD_mem ds (if W.dataLt e d then e else d)
    rcases List.mem_cons.mp this with h | h
    · rw [h]; split <;> simp
    · exact List.mem_cons_of_mem _ (List.mem_cons_of_mem _ h)
theorem lenD (l : List Nat) : cLen [lotD l] = ret (.int l.length) := by
  show ret (PyData.int ((dInts (natI l)).length : Nat)) = _
  rw [dInts_len, natI, List.length_map]
theorem wrong_eq {n : Nat} {T : List (List Int)} (h : Sq n T) (h4 : n ≤ 4) : F_first_wrong_lot [dT T] = ret .none ∨ ∃ l ∈ lots n, F_first_wrong_lot [dT T] = ret (lotD l) := by
  have e : ∀ r, (∃ l0, l0 = ((lots n).filter fun l => decide (pm T l ≤ 0)) ∧ bnd (sRet (eIf (tst (bin gNe (eVar 1) (mkL (lDisp aNil)))) (bin gIx (cal (cBest PySem.W.minD) (aCons (eVar 1) aNil)) (eC (.int 1))) (eC .none)) [some (dT T), some (.list (l0.map lenLot)), none, none]) outD = ret r) → F_first_wrong_lot [dT T] = ret r := by
    rintro r ⟨l0, e0, c⟩
    show fnD 3 b_first_wrong_lot [dT T] = _
    rw [x_fnD, ← c]
    simp only [b_first_wrong_lot, x_sSeq, x_sAsg, List.map_cons, List.map_nil, List.replicate, List.cons_append, List.nil_append, x_aCons, x_aNil, x_mkL, x_eLc, x_itSeq, x_eCall, x_eVar, List.getElem?_cons_succ, List.getElem?_cons_zero, Option.getD_some, optM_some, bnd_ret', List.length_cons, List.length_nil, Nat.zero_add, if_true, dets_eq h h4, x_seqD_t, x_wipeD_cons, x_wipeD_nil, List.set_cons_succ, List.set_cons_zero]
    rw [lcW_map (fun l => .tuple [lotD l, .int (pm T l)]) (fun l => decide (pm T l ≤ 0)) lenLot, ← e0]
    · simp only [bnd_ret', oThen_nx]
    · intro l hl
      refine ⟨_, rfl, rfl, fun _ => ?_⟩
      simp only [x_eTup, x_cal, x_aCons, x_aNil, x_eVar, List.getElem?_cons_succ, List.getElem?_cons_zero, List.set_cons_succ, List.set_cons_zero, Option.getD_some, optM_some, bnd_ret', List.length_cons, List.length_nil, lenOk_def, lenD]
      rw [if_pos (by omega)]
      rfl
  obtain ⟨S, hS⟩ : ∃ S, S = ((lots n).filter fun l => decide (pm T l ≤ 0)) := ⟨_, rfl⟩
  have sh : shp (.list (S.map lenLot)) = true := by
    have := layD (k := 2) (ds := S.map lenLot) fun d hd => by
      obtain ⟨l, hl, rfl⟩ := List.mem_map.mp hd
      exact lay_lenLot l
    refine shp_of (by simpa [PyData.canLay0] using this.1) ?_
    simp only [PyData.depth]; omega
  cases S with
  | nil =>
    left
    refine e .none ⟨[], hS, ?_⟩
    simp only [x_sRet, x_eIf, x_tst, x_bin, x_eVar, x_mkL, x_lDisp, x_aNil, List.getElem?_cons_succ, List.getElem?_cons_zero, Option.getD_some, optM_some, bnd_ret', List.length_nil, lenOk_def, Nat.zero_le, if_true, gNe, List.map_nil, shp_nil, Bool.and_self, eqv_ints_nil, List.isEmpty_nil, Bool.not_true, toB_b, Bool.false_eq_true, if_false, x_eC, outD_rt]
  | cons l S =>
    right
    have mem := minD_mem (S.map lenLot) (lenLot l)
    rw [← List.map_cons] at mem
    obtain ⟨m, hm, em⟩ := List.mem_map.mp mem
    have al : alls (lenLot l :: S.map lenLot) = true := by
      rw [← List.map_cons]
      unfold alls
      rw [List.all_eq_true]
      intro x hx
      obtain ⟨a, ha, rfl⟩ := List.mem_map.mp hx
      have la := lay_lenLot a
      rw [shp_of la.1 (by omega), Bool.true_and, Bool.and_eq_true]
      refine ⟨rfl, List.all_eq_true.mpr fun y hy => ?_⟩
      obtain ⟨b, hb, rfl⟩ := List.mem_map.mp hy
      show W.alike (.tuple [.int a.length, lotD a]) (.tuple [.int b.length, lotD b]) = true
      simp [W.alike, W.alikeAll, alike_lot]
    refine ⟨m, (List.mem_filter.mp (hS ▸ hm)).1, e _ ⟨_, hS, ?_⟩⟩
    have cb : cBest W.minD [.list ((l :: S).map lenLot)] = ret (lenLot m) := by
      show (if alls (lenLot l :: S.map lenLot) = true then ret (W.minD (lenLot l) (S.map lenLot)) else stuck) = _
      rw [if_pos al, em]
    have g1 : gIx (lenLot m) (.int 1) = ret (lotD m) := gIx_t (atI_nat (i := 1) rfl)
    have ev : PyData.eqv (.list ((l :: S).map lenLot)) (.list []) = false := by rw [eqv_ints_nil]; rfl
    simp only [x_sRet, x_eIf, x_tst, x_bin, x_eVar, x_mkL, x_lDisp, x_aNil, x_aCons, x_cal, List.getElem?_cons_succ, List.getElem?_cons_zero, Option.getD_some, optM_some, bnd_ret', List.length_nil, lenOk_def, Nat.zero_le, if_true, gNe, sh, shp_nil, Bool.and_self, ev, Bool.not_false, toB_b, x_eC, outD_rt, cb, g1]
def fmB : Py.Env → M Out := (sSeq (sAsg 5 (mkL (eLc (itSeq (eSl (eVar 1) (oPart (eC (.int 1))) oNo)) (tgN 6) cYes (mkL (eLc (itSeq (eVar 1)) (tgN 7) (tst (bin gNe (eVar 7) (eVar 4))) (bin gIx (bin gIx (eVar 0) (eVar 6)) (eVar 7)) [7])) [6])))
  (sSetI 2 (eVar 4) (bin gMulX (bin gSub (eC (.int 1)) (bin gMulX (eC (.int 2)) (bin gMod (eVar 3) (eC (.int 2))))) (eCall 1 F_whole_determinant (aCons (eVar 5) aNil)))))
theorem b_fm_eq : b_first_minors = (sSeq (sOwn 2 (repL (mkL (lDisp (aCons (eC (.int 0)) aNil))) (cal cLen (aCons (eVar 0) aNil))))
  (sSeq (sFor (itEnum (aCons (eVar 1) aNil)) (tgTup 2 (tgsCons (tgN 3) (tgsCons (tgN 4) tgsNil))) fmB)
  (sRet (cal cTup (aCons (eVar 2) aNil))))) := rfl
theorem filter_ne_len {l : List Nat} {c : Nat} (h : l.Pairwise (· < ·)) (hc : c ∈ l) : (l.filter fun j => decide (j ≠ c)).length + 1 = l.length := by
  induction l with
  | nil => simp at hc
  | cons a l ih =>
    rw [List.pairwise_cons] at h
    by_cases e : a = c
    · subst e
      have : l.filter (fun j => decide (j ≠ a)) = l := by
        rw [List.filter_eq_self]
        intro x hx
        have := h.1 x hx
        simp; omega
      simp only [List.filter_cons, ne_eq, not_true, decide_false, Bool.false_eq_true, if_false]
      simp only [ne_eq] at this
      rw [this]; rfl
    · have hc' : c ∈ l := by
        rcases List.mem_cons.mp hc with h | h
        · exact absurd h.symm e
        · exact h
      have := ih h.2 hc'
      simp only [List.filter_cons, ne_eq, e, not_false_eq_true, decide_true, if_true, List.length_cons]
      simp only [ne_eq] at this
      omega
theorem fm_one {n p c : Nat} {T : List (List Int)} {l : List Nat} {xs : List Int} {w r s : Option D} (h : Sq n T) (h4 : n ≤ 4) (hl : Lot n l) (hc : c ∈ l) (hxs : xs.length = n) (bx : Bx xs) :
    ∃ xs' w' r' s', fmB [some (dT T), some (lotD l), some (lstI xs), some (.int p), some (.int c), w, r, s] = ret (.nx [some (dT T), some (lotD l), some (lstI xs'), some (.int p), some (.int c), w', r', s']) ∧ xs'.length = n ∧ Bx xs' := by
  have lc : l.length = (l.filter fun j => decide (j ≠ c)).length + 1 := (filter_ne_len hl.2.2 hc).symm
  have l4 := hl.1
  have hd : ∀ i ∈ l.drop 1, i < n := fun i hi => hl.2.1 i (List.mem_of_mem_drop hi)
  have hf : ∀ i ∈ (l.filter fun j => decide (j ≠ c)), i < n := fun i hi => hl.2.1 i (List.mem_filter.mp hi).1
  have sq := sq_sub (l := l.drop 1) (m := l.filter fun j => decide (j ≠ c)) h hd hf (by rw [List.length_drop]; omega)
  have wd := whole_eq (by omega) sq
  have bD := detB_of sq (by omega)
  have b2 : Bd (2 : Int) := (show B 2 2 by unfold B; decide).bd (by decide)
  have bm : Bd ((p % 2 : Nat) : Int) := (show B 1 ((p % 2 : Nat) : Int) by unfold B; simp only [Int.natAbs_natCast]; omega).bd (by decide)
  have bs : B 2 (1 - 2 * ((p % 2 : Nat) : Int)) := by unfold B; omega
  have o1 := mulB b2 bm
  have o2 := mulB (bs.bd (by decide)) (bD.bd (by decide))
  have e2 : gSl (lotD l) (some 1) none = ret (lotD (l.drop 1)) := by
    show ret (PyData.tuple (cutD (dInts (natI l)) (some ((1 : Nat) : Int)) none)) = _
    rw [cutD_from (by rw [dInts_len, natI, List.length_map]; omega), lotD, tupI, dInts_nat, dInts_nat, List.map_drop]
  have e3 : modOk (p : Int) 2 = true := rfl
  refine ⟨xs.set c ((1 - 2 * ((p % 2 : Nat) : Int)) * detM (sub T (l.drop 1) (l.filter fun j => decide (j ≠ c)))), some (dL (sub T (l.drop 1) (l.filter fun j => decide (j ≠ c)))), r, s, ?_, by rw [List.length_set, hxs], ?_⟩
  · have comp : lcW (tgN 6) cYes (mkL (eLc (itSeq (eVar 1)) (tgN 7) (tst (bin gNe (eVar 7) (eVar 4))) (bin gIx (bin gIx (eVar 0) (eVar 6)) (eVar 7)) [7])) [some (dT T), some (lotD l), some (lstI xs), some (.int p), some (.int c), w, none, s] (dInts (natI (l.drop 1))) = ret ((sub T (l.drop 1) (l.filter fun j => decide (j ≠ c))).map lstI) := by
      rw [dInts_nat, lcW_all (fun (i : Nat) => PyData.int (i : Int)) (fun i => lstI ((l.filter fun j => decide (j ≠ c)).map fun j => at2 T i j))]
      · simp only [sub, List.map_map]; rfl
      · intro i hi
        refine ⟨_, rfl, ?_⟩
        simp only [x_mkL, x_eLc, x_itSeq, x_eVar, List.getElem?_cons_succ, List.getElem?_cons_zero, Option.getD_some, optM_some, bnd_ret', x_wipeD_cons, x_wipeD_nil, List.set_cons_succ, List.set_cons_zero]
        rw [show seqD (lotD l) = ret (dInts (natI l)) from rfl, bnd_ret', dInts_nat, lcW_map (fun (i : Nat) => PyData.int (i : Int)) (fun j => decide (j ≠ c)) (fun j => .int (at2 T i j))]
        · simp only [bnd_ret', lstI, dInts, List.map_map]; rfl
        · intro j hj
          refine ⟨_, rfl, ?_, fun _ => ?_⟩
          · simp only [x_tst, x_bin, x_eVar, List.getElem?_cons_succ, List.getElem?_cons_zero, List.set_cons_succ, List.set_cons_zero, Option.getD_some, optM_some, bnd_ret', gNe, shp_int, Bool.and_self, if_true, eqv_int, toB_b]
            by_cases e : j = c
            · simp [e]
            · have e' : ¬((j : Int) = (c : Int)) := by omega
              simp [e, e']
          · simp only [x_bin, x_eVar, List.getElem?_cons_succ, List.getElem?_cons_zero, List.set_cons_succ, List.set_cons_zero, Option.getD_some, optM_some, bnd_ret', ix_row h (hd i hi), ix_at h (hd i hi) (hl.2.1 j hj)]
    have li : ixN (dInts xs).length (c : Int) = some c := ixN_nat (by rw [dInts_len, hxs]; exact hl.2.1 c hc)
    simp only [fmB, x_sSeq, x_sAsg, x_mkL (eLc _ _ _ _ [6]), x_eLc _ (tgN 6), x_itSeq, x_eSl, x_oPart, x_oNo, x_eVar, x_eC, List.getElem?_cons_succ, List.getElem?_cons_zero, List.set_cons_succ, List.set_cons_zero, Option.getD_some, optM_some, bnd_ret', toI_i, e2, x_wipeD_cons, x_wipeD_nil]
    rw [show seqD (lotD (l.drop 1)) = ret (dInts (natI (l.drop 1))) from rfl, bnd_ret', comp]
    simp only [bnd_ret', oThen_nx, sSetI, x_bin, x_eVar, x_eC, x_eCall, x_aCons, x_aNil, List.getElem?_cons_succ, List.getElem?_cons_zero, List.set_cons_succ, List.set_cons_zero, Option.getD_some, optM_some, x_gIc_i, e3, fmod2, if_true, x_gMulX_i, o1, x_gI_i, List.length_cons, List.length_nil, Nat.zero_add]
    rw [show PyData.list ((sub T (l.drop 1) (l.filter fun j => decide (j ≠ c))).map lstI) = dL (sub T (l.drop 1) (l.filter fun j => decide (j ≠ c))) from rfl, wd]
    simp only [bnd_ret', x_gMulX_i, o2, if_true]
    show (match ixN (dInts xs).length (c : Int) with | some m => ret _ | none => stuck) = _
    rw [li]
    simp only [lstI, dInts, List.map_set]
    first | done | rfl
  · intro x hx
    rcases List.mem_or_eq_of_mem_set hx with h' | h'
    · exact bx x h'
    · rw [h']; exact (bs.mul bD).mono (by decide)
theorem fm_loop {n : Nat} {T : List (List Int)} {l : List Nat} (h : Sq n T) (h4 : n ≤ 4) (hl : Lot n l) : ∀ (rest : List Nat) (p : Nat) (xs : List Int) (a b w r s : Option D), (∀ c ∈ rest, c ∈ l) → xs.length = n → Bx xs →
    ∃ xs' a' b' w' r' s', forW (tgTup 2 (tgsCons (tgN 3) (tgsCons (tgN 4) tgsNil))) fmB (enumD p (dInts (natI rest))) [some (dT T), some (lotD l), some (lstI xs), a, b, w, r, s] = ret (.nx [some (dT T), some (lotD l), some (lstI xs'), a', b', w', r', s']) ∧ xs'.length = n ∧ Bx xs'
  | [], p, xs, a, b, w, r, s, _, hx, bx => ⟨xs, a, b, w, r, s, rfl, hx, bx⟩
  | c :: rest, p, xs, a, b, w, r, s, hc, hx, bx => by
    obtain ⟨xs1, w1, r1, s1, c1, hx1, bx1⟩ := fm_one (p := p) (w := w) (r := r) (s := s) h h4 hl (hc c (by simp)) hx bx
    obtain ⟨xs', a', b', w', r', s', c2, hx2, bx2⟩ := fm_loop h h4 hl rest (p + 1) xs1 (some (.int p)) (some (.int c)) w1 r1 s1 (fun d hd => hc d (by simp [hd])) hx1 bx1
    refine ⟨xs', a', b', w', r', s', ?_, hx2, bx2⟩
    rw [show enumD p (dInts (natI (c :: rest))) = .tuple [.int (p : Nat), .int (c : Int)] :: enumD (p + 1) (dInts (natI rest)) from rfl, forW_cons, x_tgTup, if_pos (show [PyData.int (p : Nat), PyData.int (c : Int)].length = 2 from rfl), x_tgsCons, x_tgN, bnd_ret', x_tgsCons, x_tgN, bnd_ret', x_tgsNil]
    simp only [List.set_cons_succ, List.set_cons_zero, bnd_ret']
    rw [c1, bnd_ret', oLoop_nx]
    exact c2
theorem fm_eq {n : Nat} {T : List (List Int)} {l : List Nat} (h : Sq n T) (h4 : n ≤ 4) (hl : Lot n l) : ∃ xs : List Int, xs.length = n ∧ Bx xs ∧ F_first_minors [dT T, lotD l] = ret (tupI xs) := by
  have rp : ∀ m : Nat, repD m [PyData.int 0] = dInts (List.replicate m 0) := by
    intro m
    induction m with
    | zero => rfl
    | succ m ih =>
      show [PyData.int 0] ++ repD m [PyData.int 0] = _
      rw [ih]; rfl
  obtain ⟨xs', a', b', w', r', s', c, hx, bx⟩ := fm_loop h h4 hl l 0 (List.replicate n 0) none none none none none (fun _ h => h) (by simp) (fun a ha => by rw [(List.mem_replicate.mp ha).2]; unfold B; simp)
  refine ⟨xs', hx, bx, ?_⟩
  have e1 : sOwn 2 (repL (mkL (lDisp (aCons (eC (.int 0)) aNil))) (cal cLen (aCons (eVar 0) aNil))) [some (dT T), some (lotD l), none, none, none, none, none, none] = ret (.nx [some (dT T), some (lotD l), some (lstI (List.replicate n 0)), none, none, none, none, none]) := by
    simp only [x_sOwn, repL, x_mkL, x_lDisp, x_aCons, x_aNil, x_eC, bnd_ret', List.length_cons, List.length_nil, lenOk_def, x_cal, x_eVar, List.getElem?_cons_succ, List.getElem?_cons_zero, Option.getD_some, optM_some, dT_len h]
    rw [if_pos (by omega)]
    simp only [bnd_ret']
    rw [if_pos (by rw [decide_eq_true_eq]; simp; omega)]
    simp only [bnd_ret', List.set_cons_succ, List.set_cons_zero, Int.toNat_natCast, rp]
    rfl
  show fnD 6 b_first_minors [dT T, lotD l] = _
  rw [b_fm_eq, x_fnD]
  simp only [List.map_cons, List.map_nil, List.replicate, List.cons_append, List.nil_append, x_sSeq, e1, bnd_ret', oThen_nx, x_sFor, x_itEnum, x_aCons, x_aNil, x_eVar, List.getElem?_cons_succ, List.getElem?_cons_zero, Option.getD_some, optM_some, enum1_1]
  rw [show seqD (lotD l) = ret (dInts (natI l)) from rfl, bnd_ret', bnd_ret', c]
  simp only [bnd_ret', oThen_nx, x_sRet, x_cal, x_aCons, x_aNil, x_eVar, List.getElem?_cons_succ, List.getElem?_cons_zero, Option.getD_some, optM_some, outD_rt]
  rfl
/-- the papers of a table -/
def aboveD : D := .tuple [.str "above"]
theorem turned_eq {n : Nat} {T : List (List Int)} (h : Sq n T) (h4 : n ≤ 4) : F_turned_paper [dT T] = ret aboveD ∨ ∃ l ∈ lots n, ∃ xs : List Int, xs.length = n ∧ Bx xs ∧ F_turned_paper [dT T] = ret (.tuple [.str "turned", lotD l, tupI xs]) := by
  rcases wrong_eq h h4 with e | ⟨l, hl, e⟩
  · left
    show fnD 1 b_turned_paper [dT T] = _
    rw [x_fnD]
    simp only [b_turned_paper, List.map_cons, List.map_nil, List.replicate, List.cons_append, List.nil_append, x_sSeq, x_sAsg, x_eCall, x_aCons, x_aNil, x_eVar, List.getElem?_cons_succ, List.getElem?_cons_zero, List.set_cons_succ, List.set_cons_zero, Option.getD_some, optM_some, bnd_ret', List.length_cons, List.length_nil, Nat.zero_add, if_true, e, oThen_nx, x_sRet, x_eIf, x_tst, x_bin, x_eC, x_gIsN_, toB_b]
    rfl
  · right
    obtain ⟨xs, hx, bx, em⟩ := fm_eq h h4 (lots_lot hl)
    refine ⟨l, hl, xs, hx, bx, ?_⟩
    show fnD 1 b_turned_paper [dT T] = _
    rw [x_fnD]
    have ni : isNonD (lotD l) = false := rfl
    simp only [b_turned_paper, List.map_cons, List.map_nil, List.replicate, List.cons_append, List.nil_append, x_sSeq, x_sAsg, x_eCall, x_aCons, x_aNil, x_eVar, List.getElem?_cons_succ, List.getElem?_cons_zero, List.set_cons_succ, List.set_cons_zero, Option.getD_some, optM_some, bnd_ret', List.length_cons, List.length_nil, Nat.zero_add, if_true, e, oThen_nx, x_sRet, x_eIf, x_tst, x_bin, x_eC, x_gIsN_, toB_b, ni, Bool.false_eq_true, if_false, x_eTup, em, lenOk_def]
    rw [if_pos (by omega), bnd_ret', bnd_ret', outD_rt]
def wholeB : D → Bool
  | .int _ => true
  | _ => false
theorem whole_n (d : D) : F_is_whole_number [d] = ret (.bool (wholeB d)) := by cases d <;> rfl
def wholeIn (n : Nat) : D → Bool
  | .int i => decide (0 ≤ i ∧ i < n)
  | _ => false
theorem eCall_1 (F : List D → M D) {f : Py.Env → M (List D)} {ρ : Py.Env} {x : D} (h : f ρ = ret [x]) : eCall 1 F f ρ = F [x] := by
  rw [x_eCall, h, bnd_ret', if_pos (by simp)]
theorem args_1 {i : Nat} {ρ : Py.Env} {x : D} (hx : ρ[i]? = some (some x)) : (aCons (eVar i) aNil) ρ = ret [x] := by
  simp only [x_aCons, x_aNil, x_eVar, hx, Option.getD_some, optM_some, bnd_ret']
def isTup : D → Bool
  | .tuple _ => true
  | _ => false
theorem isi_tup (d : D) : gIsi "tuple" d = ret (.bool (isTup d)) := by cases d <;> rfl
theorem elt_in {n : Nat} {i v : Nat} {ρ : Py.Env} {d : D} (hv : ρ[i]? = some (some d)) (hn : ρ[v]? = some (some (.int n))) :
    eAnd (eCall 1 F_is_whole_number (aCons (eVar i) aNil)) (eChain gLe gLt (eC (.int 0)) (eVar i) (eVar v)) ρ = ret (.bool (wholeIn n d)) := by
  rw [x_eAnd, x_tst, (eCall_1 _ (args_1 hv)).trans (whole_n d), bnd_ret', toB_b, bnd_ret']
  cases d with
  | int j =>
    show eChain gLe gLt (eC (.int 0)) (eVar i) (eVar v) ρ = _
    simp only [x_eChain, x_eC, x_eVar, hv, hn, Option.getD_some, optM_some, bnd_ret', x_gI_i, toB_b, wholeIn]
    by_cases h : 0 ≤ j
    · simp [h]
    · simp [h]
  | _ => rfl
theorem ints_of : ∀ {ds : List D}, ds.all wholeB = true → ∃ is : List Int, ds = dInts is
  | [], _ => ⟨[], rfl⟩
  | d :: ds, h => by
    rw [List.all_cons, Bool.and_eq_true] at h
    obtain ⟨is, rfl⟩ := ints_of h.2
    cases d with
    | int i => exact ⟨i :: is, rfl⟩
    | _ => exact absurd h.1 (by simp [wholeB])
theorem all_in {n : Nat} {ds : List D} (h : ds.all (wholeIn n) = true) : ∃ is : List Int, ds = dInts is ∧ ∀ i ∈ is, 0 ≤ i ∧ i < n := by
  obtain ⟨is, rfl⟩ := ints_of (ds := ds) (by
    rw [List.all_eq_true] at h ⊢
    intro d hd
    have := h d hd
    cases d with
    | int i => rfl
    | _ => exact this)
  refine ⟨is, rfl, fun i hi => ?_⟩
  have := List.all_eq_true.mp h (.int i) (List.mem_map.mpr ⟨i, hi, rfl⟩)
  simpa [wholeIn] using this
def asc (is : List Int) : Bool := (is.zip (is.drop 1)).all fun p => decide (p.1 < p.2)
def lotOk (n : Nat) : D → Bool
  | .tuple ls => ls.all (wholeIn n) && (match intsD ls with | some is => asc is | none => false)
  | _ => false
theorem lotb_eq {n : Nat} (d : D) (hl : ∀ ls, d = .tuple ls → ls.length ≤ 1000) : F_is_lot_below [.int n, d] = ret (.bool (lotOk n d)) := by
  show fnD 2 b_is_lot_below [.int n, d] = _
  rw [x_fnD]
  simp only [b_is_lot_below, List.map_cons, List.map_nil, List.replicate, List.cons_append, List.nil_append, x_sSeq, x_sIf, x_bOr, x_bNot, x_tst, x_una, x_eVar, List.getElem?_cons_succ, List.getElem?_cons_zero, Option.getD_some, optM_some, bnd_ret', isi_tup, toB_b]
  by_cases ht : isTup d = true
  · cases d with
    | tuple ls =>
      have c1 : cal cAll (aCons (mkL (eLc (itSeq (eVar 1)) (tgN 2) cYes (eAnd (eCall 1 F_is_whole_number (aCons (eVar 2) aNil)) (eChain gLe gLt (eC (.int 0)) (eVar 2) (eVar 0))) [2])) aNil) [some (.int n), some (.tuple ls), none, none] = ret (.bool (ls.all (wholeIn n))) := by
        simp only [x_cal, x_aCons, x_aNil, x_mkL, x_eLc, x_itSeq, x_eVar, List.getElem?_cons_succ, List.getElem?_cons_zero, Option.getD_some, optM_some, bnd_ret', x_seqD_t, x_wipeD_cons, x_wipeD_nil, List.set_cons_succ, List.set_cons_zero]
        have := lcW_all (tg := tgN 2) (elt := eAnd (eCall 1 F_is_whole_number (aCons (eVar 2) aNil)) (eChain gLe gLt (eC (.int 0)) (eVar 2) (eVar 0))) (ρ := [some (.int n), some (.tuple ls), none, none]) (fun d : D => d) (fun d => .bool (wholeIn n d)) ls fun d hd => ⟨_, rfl, elt_in (n := n) (d := d) rfl rfl⟩
        rw [List.map_id'] at this
        rw [this, bnd_ret', bnd_ret', bnd_ret', cAll_map]
      simp only [ht, Bool.not_true, Bool.false_eq_true, if_false, c1, bnd_ret', toB_b]
      by_cases h : ls.all (wholeIn n) = true
      · obtain ⟨is, rfl, his⟩ := all_in h
        have hz : List.length (dInts is) ≤ 1000 := hl _ rfl
        have cut : gSl (.tuple (dInts is)) (some 1) none = ret (.tuple (dInts (is.drop 1))) := by
          show ret (PyData.tuple (cutD (dInts is) (some ((1 : Nat) : Int)) none)) = _
          cases is with
          | nil => rfl
          | cons i is =>
            rw [cutD_from (by rw [dInts_len]; simp), dInts, dInts, List.map_drop]
        simp only [h, Bool.not_true, Bool.false_eq_true, if_false, x_sNx, oThen_nx, x_sRet, x_cal, x_aCons, x_aNil, x_mkL, x_eLc, x_itZip, x_eSl, x_oPart, x_oNo, x_eC, toI_i, x_eVar, List.getElem?_cons_succ, List.getElem?_cons_zero, Option.getD_some, optM_some, bnd_ret', cut, zip2_2, x_seqD_t, x_wipeD_cons, x_wipeD_nil, List.set_cons_succ, List.set_cons_zero, zipD_dInts]
        rw [lcW_all (fun p : Int × Int => PyData.tuple [.int p.1, .int p.2]) (fun p => .bool (decide (p.1 < p.2)))]
        · simp only [bnd_ret', cAll_map, outD_rt, lotOk, h, Bool.true_and, intsD_dInts, asc]
        · intro p hp
          exact ⟨_, rfl, rfl⟩
      · have h' : ls.all (wholeIn n) = false := by simpa using h
        simp only [h', Bool.not_false, if_true, x_sRet, x_eC, bnd_ret', oThen_rt, outD_rt, lotOk, Bool.false_and]
    | _ => exact absurd ht (by simp [isTup])
  · have ht' : isTup d = false := by simpa using ht
    have : lotOk n d = false := by
      cases d with
      | tuple ls => exact absurd rfl ht
      | _ => rfl
    simp only [ht', Bool.not_false, if_true, bnd_ret', x_sRet, x_eC, oThen_rt, outD_rt, this]
/-- a paper that the judge can read -/
def GdP (d : D) : Prop := ∀ ds, d = .tuple ds → ∀ e ∈ ds, shp e = true ∧ ∀ es, e = .tuple es → es.length ≤ 1000 ∧ ∀ i, PyData.int i ∈ es → B 200 i
def strD (x : Str) : D := .str x
theorem shp_above : shp (.str "above") = true := by decide +kernel
theorem shp_turned : shp (.str "turned") = true := by decide +kernel
/-- the second half of the form -/
def xOk (n : Nat) : D → Bool
  | .tuple xs => decide (xs.length = n) && xs.all wholeB
  | _ => false
def formOk (n : Nat) : D → Bool
  | .tuple [t, l, x] => PyData.eqv t (.str "turned") && lotOk n l && xOk n x
  | _ => false
theorem whole_comp {i v : Nat} {ρ : Py.Env} {e : Py.Env → M D} {xs : List D} (he : e ρ = ret (.tuple xs)) (hv : ∀ d : D, ((wipeD ρ [v]).set v (some d))[v]? = some (some d)) : cal cAll (aCons (mkL (eLc (itSeq e) (tgN v) cYes (eCall 1 F_is_whole_number (aCons (eVar v) aNil)) [v])) aNil) ρ = ret (.bool (xs.all wholeB)) := by
  simp only [x_cal, x_aCons, x_aNil, x_mkL, x_eLc, x_itSeq, he, bnd_ret', x_seqD_t]
  have := lcW_all (tg := tgN v) (elt := eCall 1 F_is_whole_number (aCons (eVar v) aNil)) (ρ := wipeD ρ [v]) (fun d : D => d) (fun d => .bool (wholeB d)) xs fun d hd => ⟨_, rfl, (eCall_1 _ (args_1 (hv d))).trans (whole_n d)⟩
  rw [List.map_id'] at this
  rw [this, bnd_ret', bnd_ret', bnd_ret', cAll_map]
theorem form_eq {n : Nat} (d : D) (hd : GdP d) : F_is_turned_form [.int n, d] = ret (.bool (formOk n d)) := by
  show fnD 1 b_is_turned_form [.int n, d] = _
  rw [x_fnD]
  simp only [b_is_turned_form, List.map_cons, List.map_nil, List.replicate, List.cons_append, List.nil_append, x_sSeq, x_sIf, x_bOr, x_bNot, x_tst, x_una, x_eVar, List.getElem?_cons_succ, List.getElem?_cons_zero, Option.getD_some, optM_some, bnd_ret', isi_tup, toB_b]
  have no : formOk n d = false → (if (true : Bool) = true then sRet (eC (.bool false)) [some (.int n), some d, none] else sNx [some (.int n), some d, none]) = ret (.rt (.bool (formOk n d))) := fun h => by
    rw [h, if_pos rfl]; rfl
  cases ht : isTup d with
  | false =>
    have hf : formOk n d = false := by
      cases d with
      | tuple ds => exact absurd ht (by simp [isTup])
      | _ => rfl
    simp only [Bool.not_false, if_true, bnd_ret', x_sRet, x_eC, oThen_rt, outD_rt, hf]
  | true =>
    cases d with
    | tuple ds =>
      have e1 : cLen [PyData.tuple ds] = ret (.int ds.length) := rfl
      simp only [Bool.not_true, Bool.false_eq_true, if_false, x_bin, x_cal cLen, x_aCons, x_aNil, x_eVar, x_eC, List.getElem?_cons_succ, List.getElem?_cons_zero, Option.getD_some, optM_some, bnd_ret', e1, gNe, shp_int, Bool.and_self, if_true, eqv_int, toB_b]
      by_cases h3 : ds.length = 3
      · obtain ⟨t, l, x, rfl⟩ := l3 h3
        have g0 : gIx (.tuple [t, l, x]) (.int 0) = ret t := gIx_t (atI_nat (i := 0) rfl)
        have g1 : gIx (.tuple [t, l, x]) (.int 1) = ret l := gIx_t (atI_nat (i := 1) rfl)
        have g2 : gIx (.tuple [t, l, x]) (.int 2) = ret x := gIx_t (atI_nat (i := 2) rfl)
        have ht := (hd _ rfl t (by simp)).1
        have hl := (hd _ rfl l (by simp)).2
        have hx := (hd _ rfl x (by simp)).2
        have lb := lotb_eq (n := n) l fun ls e => (hl ls e).1
        have cl : eCall 2 F_is_lot_below (aCons (eVar 0) (aCons (bin gIx (eVar 1) (eC (.int 1))) aNil)) [some (.int n), some (.tuple [t, l, x]), none] = ret (.bool (lotOk n l)) := by
          refine (eCall_2 _ (x := .int n) (y := l) ?_).trans lb
          simp only [x_aCons, x_aNil, x_bin, x_eC, x_eVar, List.getElem?_cons_succ, List.getElem?_cons_zero, Option.getD_some, optM_some, bnd_ret', g1]
        have d3 : decide (((List.length [t, l, x] : Nat) : Int) = 3) = true := rfl
        simp only [d3, Bool.not_true, Bool.false_eq_true, if_false, g0, bnd_ret', ht, shp_turned, Bool.and_self, if_true, toB_b, cl]
        cases hq : PyData.eqv t (.str "turned") with
        | false =>
          have hf : formOk n (.tuple [t, l, x]) = false := by simp only [formOk, hq, Bool.false_and]
          simp only [Bool.not_false, if_true, bnd_ret', x_sRet, x_eC, oThen_rt, outD_rt, hf]
        | true =>
          cases hlo : lotOk n l with
          | false =>
            have hf : formOk n (.tuple [t, l, x]) = false := by simp only [formOk, hlo, Bool.and_false, Bool.false_and]
            simp only [Bool.not_true, Bool.false_eq_true, if_false, Bool.not_false, if_true, bnd_ret', x_sRet, x_eC, oThen_rt, outD_rt, hf, toB_b]
          | true =>
            have hf : formOk n (.tuple [t, l, x]) = xOk n x := by simp only [formOk, hq, hlo, Bool.true_and]
            simp only [Bool.not_true, Bool.false_eq_true, if_false, bnd_ret', toB_b, x_sNx, oThen_nx, x_sRet, x_eAnd, x_tst, x_una, x_bin, x_eVar, x_eC, List.getElem?_cons_succ, List.getElem?_cons_zero, Option.getD_some, optM_some, g2, isi_tup, hf]
            cases hxt : isTup x with
            | false =>
              have : xOk n x = false := by
                cases x with
                | tuple ds => exact absurd hxt (by simp [isTup])
                | _ => rfl
              simp only [Bool.false_eq_true, if_false, bnd_ret', outD_rt, this]
            | true =>
              cases x with
              | tuple xs =>
                have e2 : cLen [PyData.tuple xs] = ret (.int xs.length) := rfl
                have wc := whole_comp (i := 0) (v := 2) (ρ := [some (.int n), some (.tuple [t, l, .tuple xs]), none]) (e := bin gIx (eVar 1) (eC (.int 2))) (xs := xs) (by simp only [x_bin, x_eC, x_eVar, List.getElem?_cons_succ, List.getElem?_cons_zero, Option.getD_some, optM_some, bnd_ret', g2]) (fun d => rfl)
                simp only [if_true, x_cal cLen, x_aCons, x_aNil, x_bin, x_eC, x_eVar, List.getElem?_cons_succ, List.getElem?_cons_zero, Option.getD_some, optM_some, bnd_ret', g2, e2, gEq, shp_int, Bool.and_self, eqv_int, toB_b, xOk]
                by_cases hn : xs.length = n
                · simp only [hn, decide_true, if_true, wc, bnd_ret', outD_rt, Bool.true_and]
                · have : ¬ ((xs.length : Int) = (n : Int)) := by omega
                  simp only [hn, this, decide_false, Bool.false_eq_true, if_false, bnd_ret', outD_rt, Bool.false_and]
              | _ => exact absurd hxt (by simp [isTup])
      · have d3 : decide ((ds.length : Int) = 3) = false := by simp; omega
        have hf : formOk n (.tuple ds) = false := by
          match ds, h3 with
          | [], _ => rfl
          | [_], _ => rfl
          | [_, _], _ => rfl
          | [_, _, _], h => exact absurd rfl h
          | _ :: _ :: _ :: _ :: _, _ => rfl
        simp only [d3, Bool.not_false, if_true, bnd_ret', x_sRet, x_eC, oThen_rt, outD_rt, hf]
    | _ => exact absurd ht (by simp [isTup])
def isAb : D → Bool
  | .tuple [x] => PyData.eqv x (.str "above")
  | _ => false
theorem head_eq {ρ : Py.Env} {d : D} (hv : ρ[1]? = some (some d)) (hd : GdP d) : (bAnd (tst (una (gIsi "tuple") (eVar 1))) (bAnd (tst (bin gEq (cal cLen (aCons (eVar 1) aNil)) (eC (.int 1)))) (tst (bin gEq (bin gIx (eVar 1) (eC (.int 0))) (eC (.str "above")))))) ρ = ret (isAb d) := by
  simp only [x_bAnd, x_tst, x_una, x_bin, x_cal, x_aCons, x_aNil, x_eVar, x_eC, hv, Option.getD_some, optM_some, bnd_ret', isi_tup, toB_b]
  cases d with
  | tuple ds =>
    have e1 : cLen [PyData.tuple ds] = ret (.int ds.length) := rfl
    simp only [isTup, if_true, e1, bnd_ret', gEq, shp_int, Bool.and_self, eqv_int, toB_b]
    match ds, hd with
    | [], _ => rfl
    | [x], hd =>
      have g0 : gIx (.tuple [x]) (.int 0) = ret x := gIx_t (atI_nat (i := 0) rfl)
      have hx := (hd _ rfl x (by simp)).1
      have d1 : decide (((List.length [x] : Nat) : Int) = 1) = true := rfl
      simp only [d1, if_true, g0, bnd_ret', hx, shp_above, Bool.and_self, toB_b, isAb]
    | x :: y :: ds, _ =>
      have d1 : decide (((List.length (x :: y :: ds) : Nat) : Int) = 1) = false := by simp; omega
      simp only [d1, Bool.false_eq_true, if_false, isAb]
  | _ => rfl
theorem nought_eq {i v : Nat} {ρ : Py.Env} {x : List Int} (hv : ρ[i]? = some (some (tupI x))) (hw : ∀ d : D, ((wipeD ρ [v]).set v (some d))[v]? = some (some d)) : cal cAll (aCons (mkL (eLc (itSeq (eVar i)) (tgN v) cYes (bin gEq (eVar v) (eC (.int 0))) [v])) aNil) ρ = ret (.bool (x.all fun a => decide (a = 0))) := by
  simp only [x_cal, x_aCons, x_aNil, x_mkL, x_eLc, x_itSeq, x_eVar, hv, Option.getD_some, optM_some, bnd_ret']
  rw [show seqD (tupI x) = ret (x.map .int) from rfl, bnd_ret', lcW_all PyData.int (fun a => .bool (decide (a = 0)))]
  · rw [bnd_ret', bnd_ret', bnd_ret', cAll_map]
  · intro a ha
    refine ⟨_, rfl, ?_⟩
    simp only [x_bin, x_eVar, hw (.int a), x_eC, Option.getD_some, optM_some, bnd_ret', gEq, shp_int, Bool.and_self, if_true, eqv_int]
theorem enumD_map (f : Nat → D) : ∀ (n p : Nat), enumD p ((List.range n).map fun i => f (p + i)) = (List.range n).map fun i => .tuple [.int ((p + i : Nat) : Int), f (p + i)]
  | 0, _ => rfl
  | n + 1, p => by
    rw [List.range_succ_eq_map, List.map_cons, List.map_map, List.map_cons, List.map_map]
    have ih := enumD_map f n (p + 1)
    show PyData.tuple [.int ((p : Nat) : Int), f (p + 0)] :: enumD (p + 1) _ = _
    congr 1
    have e1 : ((fun i => f (p + i)) ∘ Nat.succ) = fun i => f (p + 1 + i) := by
      funext i; simp only [Function.comp, Nat.succ_eq_add_one]; congr 1; omega
    have e2 : ((fun i => PyData.tuple [.int ((p + i : Nat) : Int), f (p + i)]) ∘ Nat.succ) = fun i => PyData.tuple [.int ((p + 1 + i : Nat) : Int), f (p + 1 + i)] := by
      funext i; simp only [Function.comp, Nat.succ_eq_add_one]
      rw [show p + (i + 1) = p + 1 + i by omega]
    rw [e1, e2, ih]
theorem dInts_range (x : List Int) : dInts x = (List.range x.length).map fun i => .int (x.getD i 0) := by
  apply List.ext_getElem?
  intro i
  rw [dInts, List.getElem?_map, List.getElem?_map]
  by_cases h : i < x.length
  · rw [List.getElem?_range h, getD_some (d := 0) h]; rfl
  · rw [List.getElem?_eq_none (by omega), List.getElem?_eq_none (by simp; omega)]; rfl
theorem zip_range (x y : List Int) (h : x.length = y.length) : zipD (dInts x) (dInts y) = (List.range x.length).map fun i => .tuple [.int (x.getD i 0), .int (y.getD i 0)] := by
  rw [zipD_dInts]
  apply List.ext_getElem?
  intro i
  rw [List.getElem?_map, List.getElem?_map]
  by_cases hi : i < x.length
  · rw [List.getElem?_range hi]
    have : (x.zip y)[i]? = some (x.getD i 0, y.getD i 0) := by
      rw [List.getElem?_zip_eq_some]
      exact ⟨getD_some hi, getD_some (by omega)⟩
    rw [this]; rfl
  · rw [List.getElem?_eq_none (by simp; omega), List.getElem?_eq_none (by simp; omega)]; rfl
def inL (i : Nat) (is : List Int) : Bool := is.any fun z => decide (z = (i : Int))
theorem in_eq (i : Nat) (is : List Int) : gIn true (.int (i : Int)) (tupI is) = ret (.bool (!inL i is)) := by
  show (if (shp (.int (i : Int)) && PyData.canLayAll0 (dInts is)) = true then ret (PyData.bool (xor true ((dInts is).any fun z => PyData.eqv z (.int (i : Int))))) else stuck) = _
  rw [canLayAll_ints, shp_int, if_pos (show (true && true) = true from rfl)]
  rw [dInts, List.any_map, inL, Bool.true_xor]
  have e : ((fun z => PyData.eqv z (.int (i : Int))) ∘ PyData.int) = fun z : Int => decide (z = (i : Int)) := by
    funext z
    exact eqv_int z i
  rw [e]
def pO (x is : List Int) (i : Nat) : Bool := decide (x.getD i 0 ≠ 0) && !inL i is
def pS (T : List (List Int)) (x : List Int) (i : Nat) : Bool := decide (0 < x.getD i 0 * (led T x).getD i 0)
def natD (i : Nat) : D := .int (i : Int)
def verd (n : Nat) (T : List (List Int)) (x is : List Int) : D :=
  if (x.all fun a => decide (a = 0)) = true then .tuple [.str "nought"] else
  match (List.range n).filter (pO x is) with
  | i :: _ => .tuple [.str "outside", .int (i : Int)]
  | [] => match (List.range n).filter (pS T x) with
    | i :: _ => .tuple [.str "sign", .int (i : Int)]
    | [] => .none
theorem forW_first {tg : D → Py.Env → M Py.Env} {body : Py.Env → M Out} {St : Option D → Py.Env} {p : Nat → Bool} {r : Nat → D} : ∀ (xs : List Nat) (v : Option D), (∀ i ∈ xs, ∀ v, tg (natD i) (St v) = ret (St (some (natD i)))) → (∀ i ∈ xs, body (St (some (natD i))) = ret (if p i = true then .rt (r i) else .nx (St (some (natD i))))) →
    ∃ v', forW tg body (xs.map natD) (St v) = ret (match xs.filter p with | [] => .nx (St v') | i :: _ => .rt (r i))
  | [], v, _, _ => ⟨v, rfl⟩
  | x :: xs, v, h1, h2 => by
    obtain ⟨v', ih⟩ := forW_first (p := p) (r := r) xs (some (natD x)) (fun i hi => h1 i (by simp [hi])) (fun i hi => h2 i (by simp [hi]))
    refine ⟨v', ?_⟩
    rw [List.map_cons, forW_cons, h1 x (by simp), bnd_ret', h2 x (by simp), bnd_ret', List.filter_cons]
    cases hp : p x with
    | true => simp only [if_true, oLoop_rt]
    | false => simp only [Bool.false_eq_true, if_false, oLoop_nx]; exact ih
def formD : D := .tuple [.str "form"]
def verdict (n : Nat) (T : List (List Int)) (d : D) : D :=
  if isAb d = true then (if allUp n T = true then .none else aboveD) else
  if formOk n d = true then (match d with
    | .tuple [_, .tuple ls, .tuple xs] => match intsD ls, intsD xs with
      | some is, some x => verd n T x is
      | _, _ => formD
    | _ => formD) else formD
theorem led_len {n : Nat} {T : List (List Int)} {x : List Int} (h : Sq n T) : (led T x).length = n := by rw [led, List.length_map, h.1]
theorem led_at {n i : Nat} {T : List (List Int)} {x : List Int} (h : Sq n T) (hi : i < n) : (led T x).getD i 0 = dot (T.getD i []) x := by
  have h1 : i < T.length := by rw [h.1]; exact hi
  have : (led T x)[i]? = some (dot (T.getD i []) x) := by rw [led, List.getElem?_map, getD_some (d := []) h1]; rfl
  rw [List.getD_eq_getElem?_getD, this]; rfl
theorem led_ok {n i : Nat} {T : List (List Int)} {x : List Int} (h : Sq n T) (h4 : n ≤ 4) (hx : Bx x) (hl : x.length = n) (hi : i < n) : mulOk (x.getD i 0) ((led T x).getD i 0) = true := by
  have h1 : i < T.length := by rw [h.1]; exact hi
  have h2 := h.2 _ (List.mem_of_getElem? (getD_some (d := []) h1))
  rw [led_at h hi]
  exact mulB ((hx _ (List.mem_of_getElem? (getD_some (d := 0) (by omega)))).bd (by decide)) ((dotB h2.2 hx (by omega)).bd (by decide))
/-- what a well formed paper is -/
theorem form_of {n : Nat} {d : D} (hd : GdP d) (h : formOk n d = true) : ∃ t is x, d = .tuple [t, tupI is, tupI x] ∧ (∀ i ∈ is, 0 ≤ i ∧ i < n) ∧ asc is = true ∧ x.length = n ∧ Bx x ∧ PyData.eqv t (.str "turned") = true ∧ is.length ≤ 1000 := by
  match d, hd, h with
  | .tuple [t, l, xs], hd, h =>
    simp only [formOk, Bool.and_eq_true] at h
    obtain ⟨⟨h1, h2⟩, h3⟩ := h
    match l, hd, h2 with
    | .tuple ls, hd, h2 =>
      match xs, hd, h3 with
      | .tuple xs, hd, h3 =>
        simp only [lotOk, Bool.and_eq_true] at h2
        obtain ⟨is, rfl, hi⟩ := all_in h2.1
        simp only [xOk, Bool.and_eq_true, decide_eq_true_eq] at h3
        obtain ⟨x, rfl⟩ := ints_of h3.2
        rw [intsD_dInts] at h2
        have g1 := (hd _ rfl (.tuple (dInts is)) (by simp)).2 _ rfl
        have g2 := (hd _ rfl (.tuple (dInts x)) (by simp)).2 _ rfl
        refine ⟨t, is, x, rfl, hi, h2.2, by rw [← h3.1, dInts_len], fun a ha => g2.2 a (List.mem_map.mpr ⟨a, ha, rfl⟩), h1, by rw [← dInts_len]; exact g1.1⟩
def outC : Py.Env → M D := (mkL (eLc (itEnum (aCons (eVar 3) aNil)) (tgTup 2 (tgsCons (tgN 7) (tgsCons (tgN 6) tgsNil))) (bAnd (tst (bin gNe (eVar 6) (eC (.int 0)))) (tst (bin (gIn true) (eVar 7) (eVar 2)))) (eVar 7) [7, 6]))
theorem outC_eq {n : Nat} {x is : List Int} {a b c d e f g : Option D} (hl : x.length = n) : outC [a, b, some (tupI is), some (tupI x), c, d, e, f, g] = ret (.list (((List.range n).filter (pO x is)).map natD)) := by
  simp only [outC, x_mkL, x_eLc, x_itEnum, x_aCons, x_aNil, x_eVar, List.getElem?_cons_succ, List.getElem?_cons_zero, Option.getD_some, optM_some, bnd_ret', enum1_1, x_wipeD_cons, x_wipeD_nil, List.set_cons_succ, List.set_cons_zero]
  have en : enumD 0 (dInts x) = (List.range n).map fun i => .tuple [.int (i : Int), .int (x.getD i 0)] := by
    have := enumD_map (fun i => .int (x.getD i 0)) n 0
    simp only [Nat.zero_add] at this
    rw [dInts_range, hl, this]
  rw [show seqD (tupI x) = ret (dInts x) from rfl, bnd_ret', bnd_ret', en, lcW_map (fun i : Nat => PyData.tuple [.int (i : Int), .int (x.getD i 0)]) (pO x is) natD]
  · rw [bnd_ret']
  · intro i hi
    refine ⟨_, rfl, ?_, fun _ => rfl⟩
    simp only [x_bAnd, x_tst, x_bin, x_eVar, List.getElem?_cons_succ, List.getElem?_cons_zero, List.set_cons_succ, List.set_cons_zero, x_eC, Option.getD_some, optM_some, bnd_ret', gNe, shp_int, Bool.and_self, if_true, eqv_int, toB_b, in_eq, pO]
    generalize x.getD i 0 = y
    by_cases e : y = 0
    · simp [e]
    · simp [e]
def sgnC : Py.Env → M D := (mkL (eLc (itEZip (aCons (eVar 3) (aCons (eCall 2 F_led_row (aCons (eVar 0) (aCons (eVar 3) aNil))) aNil))) (tgTup 2 (tgsCons (tgN 7) (tgsCons (tgTup 2 (tgsCons (tgN 6) (tgsCons (tgN 8) tgsNil))) tgsNil))) (tst (bin gGt (bin gMulX (eVar 6) (eVar 8)) (eC (.int 0)))) (eVar 7) [7, 6, 8]))
theorem sgnC_eq {n : Nat} {T : List (List Int)} {x : List Int} {a b c d e f g : Option D} (h : Sq n T) (h4 : n ≤ 4) (hx : Bx x) (hl : x.length = n) : sgnC [some (dT T), a, b, some (tupI x), c, d, e, f, g] = ret (.list (((List.range n).filter (pS T x)).map natD)) := by
  have cl : eCall 2 F_led_row (aCons (eVar 0) (aCons (eVar 3) aNil)) [some (dT T), a, b, some (tupI x), c, d, e, f, g] = ret (tupI (led T x)) := (eCall_2 _ (args_2 rfl rfl)).trans (led_eq h hx)
  simp only [sgnC, x_mkL, x_eLc, x_itEZip, x_aCons, x_aNil, cl, x_eVar, List.getElem?_cons_succ, List.getElem?_cons_zero, Option.getD_some, optM_some, bnd_ret', zip2_2, x_wipeD_cons, x_wipeD_nil, List.set_cons_succ, List.set_cons_zero]
  have en : enumD 0 (zipD (dInts x) (dInts (led T x))) = (List.range n).map fun i => .tuple [.int (i : Int), .tuple [.int (x.getD i 0), .int ((led T x).getD i 0)]] := by
    have := enumD_map (fun i => .tuple [.int (x.getD i 0), .int ((led T x).getD i 0)]) n 0
    simp only [Nat.zero_add] at this
    rw [zip_range _ _ (by rw [led_len h, hl]), hl, this]
  rw [show seqD (tupI x) = ret (dInts x) from rfl, show seqD (tupI (led T x)) = ret (dInts (led T x)) from rfl]
  simp only [bnd_ret']
  rw [en, lcW_map (fun i : Nat => PyData.tuple [.int (i : Int), .tuple [.int (x.getD i 0), .int ((led T x).getD i 0)]]) (pS T x) natD]
  · rw [bnd_ret']
  · intro i hi
    refine ⟨_, rfl, ?_, fun _ => rfl⟩
    have o := led_ok h h4 hx hl (List.mem_range.mp hi)
    simp only [x_tst, x_bin, x_eVar, List.getElem?_cons_succ, List.getElem?_cons_zero, List.set_cons_succ, List.set_cons_zero, x_eC, Option.getD_some, optM_some, bnd_ret', x_gMulX_i, o, if_true, x_gI_i, toB_b, pS]
theorem shp_nats (l : List Nat) : shp (.list (l.map natD)) = true := by
  have := shp_ints (l.map fun (i : Nat) => (i : Int))
  rw [dInts, List.map_map] at this
  exact this
theorem natD_head (i : Nat) (l : List Nat) : gIx (.list ((i :: l).map natD)) (.int 0) = ret (natD i) := gIx_l (atI_nat (i := 0) rfl)
theorem b_judge_eq : b_judge_turned = (sSeq (sIf (bAnd (tst (una (gIsi "tuple") (eVar 1))) (bAnd (tst (bin gEq (cal cLen (aCons (eVar 1) aNil)) (eC (.int 1)))) (tst (bin gEq (bin gIx (eVar 1) (eC (.int 0))) (eC (.str "above")))))) (sRet (eIf (tst (eCall 1 F_is_above (aCons (eVar 0) aNil))) (eC .none) (eTup (aCons (eC (.str "above")) aNil)))) sNx)
  (sSeq (sIf (bNot (tst (eCall 2 F_is_turned_form (aCons (cal cLen (aCons (eVar 0) aNil)) (aCons (eVar 1) aNil))))) (sRet (eTup (aCons (eC (.str "form")) aNil))) sNx)
  (sSeq (sTgt (eTup (aCons (bin gIx (eVar 1) (eC (.int 1))) (aCons (bin gIx (eVar 1) (eC (.int 2))) aNil))) (tgTup 2 (tgsCons (tgN 2) (tgsCons (tgN 3) tgsNil))))
  (sSeq (sIf (tst (cal cAll (aCons (mkL (eLc (itSeq (eVar 3)) (tgN 6) cYes (bin gEq (eVar 6) (eC (.int 0))) [6])) aNil))) (sRet (eTup (aCons (eC (.str "nought")) aNil))) sNx)
  (sSeq (sAsg 4 outC)
  (sSeq (sIf (tst (bin gNe (eVar 4) (mkL (lDisp aNil)))) (sRet (eTup (aCons (eC (.str "outside")) (aCons (bin gIx (eVar 4) (eC (.int 0))) aNil)))) sNx)
  (sSeq (sAsg 5 sgnC)
  (sRet (eIf (tst (bin gEq (eVar 5) (mkL (lDisp aNil)))) (eC .none) (eTup (aCons (eC (.str "sign")) (aCons (bin gIx (eVar 5) (eC (.int 0))) aNil)))))))))))) := rfl
theorem len1 {x : D} : (if lenOk (List.length [x]) = true then ret (PyData.tuple [x]) else (stuck : M D)) = ret (.tuple [x]) := if_pos rfl
theorem eTup_1 {a : Py.Env → M D} {ρ : Py.Env} {x : D} (h : a ρ = ret x) : eTup (aCons a aNil) ρ = ret (.tuple [x]) := by
  rw [x_eTup, x_aCons, h, bnd_ret', x_aNil, bnd_ret', bnd_ret', if_pos (show lenOk (List.length [x]) = true from by simp [lenOk])]
theorem eTup_2 {a b : Py.Env → M D} {ρ : Py.Env} {x y : D} (h : a ρ = ret x) (h' : b ρ = ret y) : eTup (aCons a (aCons b aNil)) ρ = ret (.tuple [x, y]) := by
  rw [x_eTup, x_aCons, h, bnd_ret', x_aCons, h', bnd_ret', x_aNil, bnd_ret', bnd_ret', bnd_ret', if_pos (show lenOk (List.length [x, y]) = true from by simp [lenOk])]
theorem judge_eq {n : Nat} {T : List (List Int)} {d : D} (h : Sq n T) (h4 : n ≤ 4) (hd : GdP d) : F_judge_turned [dT T, d] = ret (verdict n T d) := by
  show fnD 7 b_judge_turned [dT T, d] = _
  rw [b_judge_eq, x_fnD]
  simp only [List.map_cons, List.map_nil, List.replicate, List.cons_append, List.nil_append]
  rw [x_sSeq, x_sIf, head_eq (d := d) rfl hd, bnd_ret']
  cases ha : isAb d with
  | true =>
    have c : eCall 1 F_is_above (aCons (eVar 0) aNil) [some (dT T), some d, none, none, none, none, none, none, none] = ret (.bool (allUp n T)) := (eCall_1 _ (args_1 rfl)).trans (above_eq h h4)
    have e := eTup_1 (a := eC (.str "above")) (ρ := [some (dT T), some d, none, none, none, none, none, none, none]) (x := .str "above") rfl
    simp only [if_true, x_sRet, x_eIf, x_tst, c, e, bnd_ret', toB_b, verdict, ha]
    cases allUp n T with
    | true => simp only [if_true, x_eC, bnd_ret', oThen_rt, outD_rt]
    | false => simp only [Bool.false_eq_true, if_false, bnd_ret', oThen_rt, outD_rt, aboveD]
  | false =>
    have c : eCall 2 F_is_turned_form (aCons (cal cLen (aCons (eVar 0) aNil)) (aCons (eVar 1) aNil)) [some (dT T), some d, none, none, none, none, none, none, none] = ret (.bool (formOk n d)) := by
      refine (eCall_2 _ (x := .int n) (y := d) ?_).trans (form_eq d hd)
      simp only [x_aCons, x_aNil, x_cal, x_eVar, List.getElem?_cons_succ, List.getElem?_cons_zero, Option.getD_some, optM_some, bnd_ret', dT_len h]
    simp only [Bool.false_eq_true, if_false, x_sNx, bnd_ret', oThen_nx, x_sSeq, x_sIf, x_bNot, x_tst (eCall 2 _ _), c, toB_b]
    cases hf : formOk n d with
    | false =>
      have e := eTup_1 (a := eC (.str "form")) (ρ := [some (dT T), some d, none, none, none, none, none, none, none]) (x := .str "form") rfl
      simp only [Bool.not_false, if_true, x_sRet, e, bnd_ret', oThen_rt, outD_rt, verdict, ha, hf, Bool.false_eq_true, if_false, formD]
    | true =>
      obtain ⟨t, is, x, rfl, hi, has, hl, bx, ht, hz⟩ := form_of hd hf
      have g1 : gIx (.tuple [t, tupI is, tupI x]) (.int 1) = ret (tupI is) := gIx_t (atI_nat (i := 1) rfl)
      have g2 : gIx (.tuple [t, tupI is, tupI x]) (.int 2) = ret (tupI x) := gIx_t (atI_nat (i := 2) rfl)
      have e := eTup_2 (a := bin gIx (eVar 1) (eC (.int 1))) (b := bin gIx (eVar 1) (eC (.int 2))) (ρ := [some (dT T), some (.tuple [t, tupI is, tupI x]), none, none, none, none, none, none, none]) (x := tupI is) (y := tupI x) (by simp only [x_bin, x_eC, x_eVar, List.getElem?_cons_succ, List.getElem?_cons_zero, Option.getD_some, optM_some, bnd_ret', g1]) (by simp only [x_bin, x_eC, x_eVar, List.getElem?_cons_succ, List.getElem?_cons_zero, Option.getD_some, optM_some, bnd_ret', g2])
      have vd : verdict n T (.tuple [t, tupI is, tupI x]) = verd n T x is := by
        simp only [verdict, ha, hf, Bool.false_eq_true, if_false, if_true]
        simp only [tupI, intsD_dInts]
      rw [vd]
      have nt := nought_eq (i := 3) (v := 6) (ρ := [some (dT T), some (.tuple [t, tupI is, tupI x]), some (tupI is), some (tupI x), none, none, none, none, none]) (x := x) rfl (fun d => rfl)
      simp only [Bool.not_true, Bool.false_eq_true, if_false, x_sNx, bnd_ret', oThen_nx, x_sSeq, x_sTgt, e, x_tgTup, x_tgsCons, x_tgsNil, x_tgN]
      rw [if_pos (show ([tupI is, tupI x] : List D).length = 2 from rfl)]
      simp only [bnd_ret', oThen_nx, List.set_cons_succ, List.set_cons_zero, x_sSeq, x_sIf, x_tst (cal _ _), nt, toB_b, verd]
      cases hno : (x.all fun a => decide (a = 0)) with
      | true =>
        have e := eTup_1 (a := eC (.str "nought")) (ρ := [some (dT T), some (.tuple [t, tupI is, tupI x]), some (tupI is), some (tupI x), none, none, none, none, none]) (x := .str "nought") rfl
        simp only [if_true, x_sRet, e, bnd_ret', oThen_rt, outD_rt]
      | false =>
        simp only [Bool.false_eq_true, if_false, x_sNx, bnd_ret', oThen_nx, x_sSeq, x_sAsg, outC_eq hl, List.set_cons_succ, List.set_cons_zero, x_sIf, x_tst, x_bin, x_eVar, x_mkL (lDisp aNil), x_lDisp, x_aNil, List.getElem?_cons_succ, List.getElem?_cons_zero, Option.getD_some, optM_some, gNe, shp_nats, shp_nil, Bool.and_self, lenOk_def, List.length_nil, Nat.zero_le, if_true, eqv_ints_nil, toB_b]
        cases hO : (List.range n).filter (pO x is) with
        | cons i tl =>
          have e := eTup_2 (a := eC (.str "outside")) (b := bin gIx (eVar 4) (eC (.int 0))) (ρ := [some (dT T), some (.tuple [t, tupI is, tupI x]), some (tupI is), some (tupI x), some (.list ((i :: tl).map natD)), none, none, none, none]) (x := .str "outside") (y := natD i) rfl (by simp only [x_bin, x_eC, x_eVar, List.getElem?_cons_succ, List.getElem?_cons_zero, Option.getD_some, optM_some, bnd_ret', natD_head])
          rw [show ((i :: tl).map natD).isEmpty = false from rfl]
          simp only [Bool.not_false, if_true, x_sRet, e, bnd_ret', oThen_rt, outD_rt]
          rfl
        | nil =>
          rw [show ((([] : List Nat)).map natD).isEmpty = true from rfl]
          simp only [Bool.not_true, Bool.false_eq_true, if_false, bnd_ret', oThen_nx, x_sSeq, x_sAsg, sgnC_eq h h4 bx hl, List.set_cons_succ, List.set_cons_zero, x_sRet, x_eIf, x_tst, x_bin, x_eVar, x_mkL (lDisp aNil), x_lDisp, x_aNil, List.getElem?_cons_succ, List.getElem?_cons_zero, Option.getD_some, optM_some, gEq, shp_nats, shp_nil, Bool.and_self, lenOk_def, List.length_nil, Nat.zero_le, if_true, eqv_ints_nil, toB_b]
          cases hS : (List.range n).filter (pS T x) with
          | cons i tl =>
            have e := eTup_2 (a := eC (.str "sign")) (b := bin gIx (eVar 5) (eC (.int 0))) (ρ := [some (dT T), some (.tuple [t, tupI is, tupI x]), some (tupI is), some (tupI x), some (.list (([] : List Nat).map natD)), some (.list ((i :: tl).map natD)), none, none, none]) (x := .str "sign") (y := natD i) rfl (by simp only [x_bin, x_eC, x_eVar, List.getElem?_cons_succ, List.getElem?_cons_zero, Option.getD_some, optM_some, bnd_ret', natD_head])
            rw [show ((i :: tl).map natD).isEmpty = false from rfl]
            simp only [Bool.false_eq_true, if_false, e, bnd_ret', outD_rt]
            rfl
          | nil =>
            rw [show ((([] : List Nat)).map natD).isEmpty = true from rfl]
            simp only [if_true, x_eC, bnd_ret', outD_rt]
end L94
namespace L94
open PySem hiding ret
open Py L2
theorem pick_c {s : Nat} {m : Int} {e : Py.Env → M D} {ρ : Py.Env} {P : D → Prop} (h1 : ρ[s]? = some (some .none)) (he : e ρ = ret (.int m)) (h2 : 2 ≤ m) (h3 : m < 1073741824) (k : ∀ j : Int, 0 ≤ j → j < m → P (.int j)) : eCallS s 1 F__law_pick (aCons e aNil) ρ P := by
  have e1 : eCallS s 1 F__law_pick (aCons e aNil) ρ = anyBelow m := by
    rw [eCallS, x_eVar, h1]
    show bnd (ret PyData.none) _ = _
    rw [bnd_ret', eCall_1 (x := .int m) _ (by rw [x_aCons, he, bnd_ret', x_aNil, bnd_ret'])]
    show (if m < 2 then ret (PyData.int 0) else if m < 1073741824 then anyBelow m else stuck) = _
    rw [if_neg (by omega), if_pos h3]
  rw [e1]
  exact k
theorem draw_row {s v : Nat} {m c : Int} (h2 : 2 ≤ m) (h3 : m < 1073741824) {ρ : Py.Env} (h1 : ∀ d : D, (ρ.set v (some d))[s]? = some (some .none)) : ∀ (ds : List D) (P : List D → Prop), (∀ xs : List Int, xs.length = ds.length → (∀ a ∈ xs, -c ≤ a ∧ a < m - c) → P (dInts xs)) → lcW (tgN v) cYes (bin gSub (eCallS s 1 F__law_pick (aCons (eC (.int m)) aNil)) (eC (.int c))) ρ ds P
  | [], P, k => k [] rfl (by simp)
  | d :: ds, P, k => by
    show eCallS s 1 F__law_pick (aCons (eC (.int m)) aNil) (ρ.set v (some d)) (fun x => gSub x (.int c) fun y => lcW (tgN v) cYes (bin gSub (eCallS s 1 F__law_pick (aCons (eC (.int m)) aNil)) (eC (.int c))) ρ ds fun ys => P (y :: ys))
    refine pick_c (h1 d) rfl h2 h3 fun j h4 h5 => ?_
    show lcW _ _ _ ρ ds fun ys => P (.int (j - c) :: ys)
    refine draw_row h2 h3 h1 ds _ fun xs e hx => ?_
    refine k ((j - c) :: xs) (by simp [e]) fun a ha => ?_
    rcases List.mem_cons.mp ha with h | h
    · rw [h]; omega
    · exact hx a h
/-! the parts of a paper -/
def okE (e : D) : Prop := shp e = true ∧ ∀ es, e = .tuple es → es.length ≤ 1000 ∧ ∀ i, PyData.int i ∈ es → B 200 i
theorem gd_tuple {ds : List D} (h : ∀ e ∈ ds, okE e) : GdP (.tuple ds) := by
  intro ds' e
  cases e
  exact h
theorem gd_not {d : D} (h : isTup d = false) : GdP d := by
  intro ds e
  rw [e] at h
  exact absurd h (by simp [isTup])
theorem ok_not {e : D} (hs : shp e = true) (h : isTup e = false) : okE e := ⟨hs, fun es he => by rw [he] at h; exact absurd h (by simp [isTup])⟩
theorem ok_ints {x : List Int} (hl : x.length ≤ 1000) (hx : Bx x) : okE (tupI x) := ⟨shp_intsT x, fun es he => by
  cases he
  refine ⟨by rw [dInts_len]; exact hl, fun i hi => ?_⟩
  obtain ⟨a, ha, e⟩ := List.mem_map.mp hi
  injection e with e
  exact e ▸ hx a ha⟩
theorem ok_lot {n : Nat} {l : List Nat} (h : Lot n l) (h4 : n ≤ 4) : okE (lotD l) := by
  have := h.1
  refine ok_ints (by rw [natI, List.length_map]; omega) fun a ha => ?_
  obtain ⟨i, hi, rfl⟩ := List.mem_map.mp ha
  have := h.2.1 i hi
  exact (show B 3 (i : Int) by unfold B; simp only [Int.natAbs_natCast]; omega).mono (by decide)
theorem small_B {x : List Int} (h : ∀ a ∈ x, -2 ≤ a ∧ a < 5 - 2) : Bx x := fun a ha => by
  have := h a ha
  exact (show B 2 a by unfold B; omega).mono (by decide)
theorem lcW_ex {β : Type} {tg : D → Py.Env → M Py.Env} {elt : Py.Env → M D} {ρ : Py.Env} {g : β → D} {Pr : β → Prop} : ∀ (ds : List D), (∀ d ∈ ds, ∃ ρ' y, tg d ρ = ret ρ' ∧ elt ρ' = ret (g y) ∧ Pr y) → ∃ ys : List β, ys.length = ds.length ∧ (∀ y ∈ ys, Pr y) ∧ lcW tg cYes elt ρ ds = ret (ys.map g)
  | [], _ => ⟨[], rfl, by simp, rfl⟩
  | d :: ds, h => by
    obtain ⟨ρ', y, h1, h2, h3⟩ := h d (by simp)
    obtain ⟨ys, e1, e2, e3⟩ := lcW_ex (ρ := ρ) ds fun x hx => h x (by simp [hx])
    refine ⟨y :: ys, by simp [e1], fun z hz => ?_, ?_⟩
    · rcases List.mem_cons.mp hz with hz | hz
      · exact hz ▸ h3
      · exact e2 z hz
    · show bnd (tg d ρ) (fun ρ' => bnd (cYes ρ') fun b => if b = true then bnd (elt ρ') fun y => bnd (lcW tg cYes elt ρ ds) fun ys => ret (y :: ys) else lcW tg cYes elt ρ ds) = _
      rw [h1, bnd_ret', x_cYes, bnd_ret', if_pos rfl, h2, bnd_ret', e3, bnd_ret', List.map_cons]
theorem draw_rows {n : Nat} {b c e f g h i : Option D} (hn : n ≤ 4) : ∀ (ds : List D) (v w : Option D) (P : List D → Prop), (∀ T : List (List Int), T.length = ds.length → (∀ r ∈ T, r.length = n ∧ ∀ x ∈ r, -3 ≤ x ∧ x < 7 - 3) → P (T.map lstI)) →
    lcW (tgN 4) cYes (mkL (eLc (itRng1 (aCons (eVar 2) aNil)) (tgN 5) cYes (bin gSub (eCallS 0 1 F__law_pick (aCons (eC (.int 7)) aNil)) (eC (.int 3))) [5])) [some .none, b, some (.int n), c, v, w, e, f, g, h, i] ds P
  | [], v, w, P, k => k [] rfl (by simp)
  | d :: ds, v, w, P, k => by
    have r1 : rngOk (n : Int) = true := by simp [rngOk]; omega
    have e1 : eLc (itRng1 (aCons (eVar 2) aNil)) (tgN 5) cYes (bin gSub (eCallS 0 1 F__law_pick (aCons (eC (.int 7)) aNil)) (eC (.int 3))) [5] [some .none, b, some (.int n), c, some d, w, e, f, g, h, i] = lcW (tgN 5) cYes (bin gSub (eCallS 0 1 F__law_pick (aCons (eC (.int 7)) aNil)) (eC (.int 3))) [some .none, b, some (.int n), c, some d, none, e, f, g, h, i] (rangeD 0 n) := by
      rw [x_eLc, x_itRng1, args_1 (x := .int n) rfl, bnd_ret', rng1_i, if_pos r1, bnd_ret', Int.toNat_natCast]
      rfl
    show eLc (itRng1 (aCons (eVar 2) aNil)) (tgN 5) cYes (bin gSub (eCallS 0 1 F__law_pick (aCons (eC (.int 7)) aNil)) (eC (.int 3))) [5] [some .none, b, some (.int n), c, some d, w, e, f, g, h, i] (fun xs => lcW (tgN 4) cYes (mkL (eLc (itRng1 (aCons (eVar 2) aNil)) (tgN 5) cYes (bin gSub (eCallS 0 1 F__law_pick (aCons (eC (.int 7)) aNil)) (eC (.int 3))) [5])) [some .none, b, some (.int n), c, v, w, e, f, g, h, i] ds fun ys => P (.list xs :: ys))
    rw [e1]
    refine draw_row (by decide) (by decide) (fun d => rfl) _ _ fun xs hx hb => ?_
    refine draw_rows hn ds v w _ fun T hT hr => ?_
    refine k (xs :: T) (by simp [hT]) fun r hr' => ?_
    rcases List.mem_cons.mp hr' with q | q
    · subst q
      exact ⟨by rw [hx]; simp [rangeD], hb⟩
    · exact hr r q
theorem mem_enumD : ∀ {ds : List D} {p : Nat} {d : D}, d ∈ enumD p ds → ∃ (i : Nat) (e : D), d = .tuple [.int (i : Nat), e] ∧ e ∈ ds
  | x :: ds, p, d, h => by
    rcases List.mem_cons.mp h with h | h
    · exact ⟨p, x, h, by simp⟩
    · obtain ⟨i, e, h1, h2⟩ := mem_enumD h
      exact ⟨i, e, h1, by simp [h2]⟩
def Sm (n : Nat) (T : List (List Int)) : Prop := T.length = n ∧ ∀ r ∈ T, r.length = n ∧ ∀ x ∈ r, -3 ≤ x ∧ x < 7 - 3
theorem B_int {k : Nat} {x : Int} (h : x.natAbs ≤ 2 ^ k) (hk : k ≤ 60) : B 60 x := B.mono (n := k) h hk
theorem sumB' : ∀ {m : Nat} {xs : List Int}, (∀ x ∈ xs, x.natAbs ≤ m) → xs.sum.natAbs ≤ m * xs.length
  | m, [], _ => by simp
  | m, x :: xs, h => by
    rw [List.sum_cons, List.length_cons, Nat.mul_succ]
    have h1 := sumB' (m := m) (xs := xs) fun y hy => h y (by simp [hy])
    have h2 := h x (by simp)
    omega
def k1E : Py.Env → M D := (bin gAdd (eVar 7) (bin gMulX (cal cInt (aCons (bin gEq (eVar 4) (eVar 5)) aNil)) (bin gAdd (eC (.int 1)) (cal cSum (aCons (mkL (eLc (itSeq (eVar 6)) (tgN 8) cYes (cal cAbs (aCons (eVar 8) aNil)) [8])) aNil)))))
theorem k1_cell {n i j : Nat} {v : Int} {r : List Int} {s b nn t f g h : Option D} (hn : n ≤ 4) (hr : r.length = n ∧ ∀ x ∈ r, -3 ≤ x ∧ x < 7 - 3) (hv : -3 ≤ v ∧ v < 7 - 3) : ∃ y : Int, k1E [s, b, nn, t, some (.int (i : Nat)), some (.int (j : Nat)), some (lstI r), some (.int v), f, g, h] = ret (.int y) ∧ B 60 y := by
  have sm : cal cSum (aCons (mkL (eLc (itSeq (eVar 6)) (tgN 8) cYes (cal cAbs (aCons (eVar 8) aNil)) [8])) aNil) [s, b, nn, t, some (.int (i : Nat)), some (.int (j : Nat)), some (lstI r), some (.int v), f, g, h] = ret (.int (r.map fun a => if a < 0 then -a else a).sum) := by
    simp only [x_cal, x_aCons, x_aNil, x_mkL, x_eLc, x_itSeq, x_eVar, List.getElem?_cons_succ, List.getElem?_cons_zero, Option.getD_some, optM_some, bnd_ret', x_wipeD_cons, x_wipeD_nil, List.set_cons_succ, List.set_cons_zero]
    rw [show seqD (lstI r) = ret (r.map .int) from rfl, bnd_ret', lcW_all PyData.int (fun a => .int (if a < 0 then -a else a))]
    · rw [bnd_ret', bnd_ret', bnd_ret', sum_map]
    · intro a ha
      refine ⟨_, rfl, ?_⟩
      simp only [x_cal, x_aCons, x_aNil, x_eVar, List.getElem?_cons_succ, List.getElem?_cons_zero, List.set_cons_succ, List.set_cons_zero, Option.getD_some, optM_some, bnd_ret', x_cAbs_i]
  have bs := sumB' (m := 3) (xs := r.map fun a => if a < 0 then -a else a) (by
    intro x hx
    obtain ⟨a, ha, rfl⟩ := List.mem_map.mp hx
    have := hr.2 a ha
    split <;> omega)
  rw [List.length_map] at bs
  generalize hS : (r.map fun a => if a < 0 then -a else a).sum = S at sm bs
  have ci : cal cInt (aCons (bin gEq (eVar 4) (eVar 5)) aNil) [s, b, nn, t, some (.int (i : Nat)), some (.int (j : Nat)), some (lstI r), some (.int v), f, g, h] = ret (.int (if (decide ((i : Int) = (j : Int))) = true then 1 else 0)) := by
    simp only [x_cal, x_aCons, x_aNil, x_bin, x_eVar, List.getElem?_cons_succ, List.getElem?_cons_zero, Option.getD_some, optM_some, bnd_ret', gEq, shp_int, Bool.and_self, if_true, eqv_int, x_cInt_b]
  have lS : S.natAbs ≤ 12 := by have := hr.1; omega
  generalize hc : (if (decide ((i : Int) = (j : Int))) = true then (1 : Int) else 0) = c at ci
  have lc : c = 0 ∨ c = 1 := by
    rw [← hc]; split <;> simp
  refine ⟨v + c * (1 + S), ?_, ?_⟩
  · have m : mulOk c (1 + S) = true := mulB ((show B 2 c by unfold B; omega).bd (by decide)) ((show B 5 (1 + S) by unfold B; omega).bd (by decide))
    simp only [k1E, x_bin, ci, sm, x_eVar, x_eC, List.getElem?_cons_succ, List.getElem?_cons_zero, Option.getD_some, optM_some, bnd_ret', x_gAdd_i, x_gMulX_i, m, if_true]
  · rcases lc with e | e
    · rw [e]; exact B_int (k := 3) (by omega) (by decide)
    · rw [e]; exact B_int (k := 6) (by omega) (by decide)
def k1R : Py.Env → M D := (mkL (eLc (itEnum (aCons (eVar 6) aNil)) (tgTup 2 (tgsCons (tgN 5) (tgsCons (tgN 7) tgsNil))) cYes k1E [5, 7]))
def k1T : Py.Env → M D := (mkL (eLc (itEnum (aCons (eVar 3) aNil)) (tgTup 2 (tgsCons (tgN 4) (tgsCons (tgN 6) tgsNil))) cYes k1R [4, 6]))
theorem k1_row {n i : Nat} {r : List Int} {s b nn t v5 v7 f g h : Option D} (hn : n ≤ 4) (hr : r.length = n ∧ ∀ x ∈ r, -3 ≤ x ∧ x < 7 - 3) : ∃ y : List Int, k1R [s, b, nn, t, some (.int (i : Nat)), v5, some (lstI r), v7, f, g, h] = ret (lstI y) ∧ (y.length = n ∧ ∀ x ∈ y, B 60 x) := by
  obtain ⟨ys, e1, e2, e3⟩ := lcW_ex (tg := tgTup 2 (tgsCons (tgN 5) (tgsCons (tgN 7) tgsNil))) (elt := k1E) (ρ := [s, b, nn, t, some (.int (i : Nat)), none, some (lstI r), none, f, g, h]) (g := PyData.int) (Pr := B 60) (enumD 0 (dInts r)) (by
    intro d hd
    obtain ⟨j, e, rfl, he⟩ := mem_enumD hd
    obtain ⟨v, hv, rfl⟩ := List.mem_map.mp he
    obtain ⟨y, h1, h2⟩ := k1_cell (n := n) (i := i) (j := j) (v := v) (r := r) (s := s) (b := b) (nn := nn) (t := t) (f := f) (g := g) (h := h) hn hr (hr.2 v hv)
    exact ⟨_, y, rfl, h1, h2⟩)
  refine ⟨ys, ?_, by rw [e1, enumD_len, dInts_len]; exact hr.1, e2⟩
  simp only [k1R, x_mkL, x_eLc, x_itEnum, x_aCons, x_aNil, x_eVar, List.getElem?_cons_succ, List.getElem?_cons_zero, Option.getD_some, optM_some, bnd_ret', enum1_1, x_wipeD_cons, x_wipeD_nil, List.set_cons_succ, List.set_cons_zero]
  rw [show seqD (lstI r) = ret (dInts r) from rfl, bnd_ret', bnd_ret', e3, bnd_ret']
  rfl
theorem k1_eq {n : Nat} {T : List (List Int)} {s b nn v4 v5 v6 v7 f g h : Option D} (hn : n ≤ 4) (hT : Sm n T) : ∃ T' : List (List Int), k1T [s, b, nn, some (dL T), v4, v5, v6, v7, f, g, h] = ret (dL T') ∧ Sq n T' := by
  obtain ⟨ys, e1, e2, e3⟩ := lcW_ex (tg := tgTup 2 (tgsCons (tgN 4) (tgsCons (tgN 6) tgsNil))) (elt := k1R) (ρ := [s, b, nn, some (dL T), none, v5, none, v7, f, g, h]) (g := lstI) (Pr := fun y => y.length = n ∧ ∀ x ∈ y, B 60 x) (enumD 0 (T.map lstI)) (by
    intro d hd
    obtain ⟨i, e, rfl, he⟩ := mem_enumD hd
    obtain ⟨r, hr, rfl⟩ := List.mem_map.mp he
    obtain ⟨y, h1, h2⟩ := k1_row (n := n) (i := i) (r := r) (s := s) (b := b) (nn := nn) (t := some (dL T)) (v5 := v5) (v7 := v7) (f := f) (g := g) (h := h) hn (hT.2 r hr)
    exact ⟨_, y, rfl, h1, h2⟩)
  refine ⟨ys, ?_, by rw [e1, enumD_len, List.length_map]; exact hT.1, e2⟩
  simp only [k1T, x_mkL, x_eLc, x_itEnum, x_aCons, x_aNil, x_eVar, List.getElem?_cons_succ, List.getElem?_cons_zero, Option.getD_some, optM_some, bnd_ret', enum1_1, x_wipeD_cons, x_wipeD_nil, List.set_cons_succ, List.set_cons_zero]
  rw [show seqD (dL T) = ret (T.map lstI) from rfl, bnd_ret', bnd_ret', e3, bnd_ret']
  rfl
def k2E : Py.Env → M D := (bin gAdd (cal cSum (aCons (mkL (eLc (itZip (aCons (bin gIx (eVar 3) (eVar 4)) (aCons (bin gIx (eVar 3) (eVar 5)) aNil))) (tgTup 2 (tgsCons (tgN 9) (tgsCons (tgN 10) tgsNil))) cYes (bin gMulX (eVar 9) (eVar 10)) [9, 10])) aNil)) (cal cInt (aCons (bin gEq (eVar 4) (eVar 5)) aNil)))
def k2R : Py.Env → M D := (mkL (eLc (itRng1 (aCons (eVar 2) aNil)) (tgN 5) cYes k2E [5]))
def k2T : Py.Env → M D := (mkL (eLc (itRng1 (aCons (eVar 2) aNil)) (tgN 4) cYes k2R [4]))
theorem sm_sq {n : Nat} {T : List (List Int)} (h : Sm n T) : Sq n T := ⟨h.1, fun r hr => ⟨(h.2 r hr).1, fun x hx => by
  have := (h.2 r hr).2 x hx
  exact B_int (k := 3) (by omega) (by decide)⟩⟩
theorem k2_cell {n i j : Nat} {T : List (List Int)} {s b nn v6 v7 v8 v9 v10 : Option D} (hn : n ≤ 4) (hT : Sm n T) (hi : i < n) (hj : j < n) : ∃ y : Int, k2E [s, b, nn, some (dL T), some (natD i), some (natD j), v6, v7, v8, v9, v10] = ret (.int y) ∧ B 60 y := by
  have ix : ∀ i, i < n → gIx (dL T) (natD i) = ret (lstI (T.getD i [])) := fun i hi => by
    have h1 : i < T.length := by rw [hT.1]; exact hi
    exact gIx_l (atI_nat (by rw [List.getElem?_map, getD_some (d := []) h1]; rfl))
  have row : ∀ i, i < n → (T.getD i []).length = n ∧ ∀ x ∈ T.getD i [], -3 ≤ x ∧ x < 7 - 3 := fun i hi => by
    have h1 : i < T.length := by rw [hT.1]; exact hi
    exact hT.2 _ (List.mem_of_getElem? (getD_some (d := []) h1))
  have dc := dot_comp (u := 9) (v := 10) (ρ := [s, b, nn, some (dL T), some (natD i), some (natD j), v6, v7, v8, v9, v10]) (r := T.getD i []) (x := T.getD j []) (its := itZip (aCons (bin gIx (eVar 3) (eVar 4)) (aCons (bin gIx (eVar 3) (eVar 5)) aNil)))
    (fun a ha => by have := (row i hi).2 a ha; exact B_int (k := 3) (by omega) (by decide))
    (fun a ha => by have := (row j hj).2 a ha; exact (B_int (k := 3) (x := a) (by omega) (by decide)).mono (by decide))
    (by
      simp only [x_itZip, x_aCons, x_aNil, x_bin, x_eVar, List.getElem?_cons_succ, List.getElem?_cons_zero, Option.getD_some, optM_some, bnd_ret', ix i hi, ix j hj, zip2_2]
      rfl) (fun a b => ⟨rfl, rfl⟩)
  have ci : cal cInt (aCons (bin gEq (eVar 4) (eVar 5)) aNil) [s, b, nn, some (dL T), some (natD i), some (natD j), v6, v7, v8, v9, v10] = ret (.int (if (decide ((i : Int) = (j : Int))) = true then 1 else 0)) := by
    simp only [x_cal, x_aCons, x_aNil, x_bin, x_eVar, List.getElem?_cons_succ, List.getElem?_cons_zero, Option.getD_some, optM_some, bnd_ret', gEq, natD, shp_int, Bool.and_self, if_true, eqv_int, x_cInt_b]
  have bd : B 40 (dot (T.getD i []) (T.getD j [])) := by
    have := sumB (n := 6) (xs := ((T.getD i []).zip (T.getD j [])).map fun p => p.1 * p.2) (by
      intro y hy
      obtain ⟨p, hp, rfl⟩ := List.mem_map.mp hy
      have h1 := (row i hi).2 p.1 (List.of_mem_zip hp).1
      have h2 := (row j hj).2 p.2 (List.of_mem_zip hp).2
      exact B.mul (n := 3) (m := 3) (by unfold B; omega) (by unfold B; omega))
    exact this.mono (by have := (row i hi).1; rw [List.length_map, List.length_zip]; omega)
  refine ⟨dot (T.getD i []) (T.getD j []) + (if (decide ((i : Int) = (j : Int))) = true then 1 else 0), ?_, ?_⟩
  · simp only [k2E, x_bin, dc, ci, bnd_ret', x_gAdd_i]
  · refine (bd.add (y := if (decide ((i : Int) = (j : Int))) = true then 1 else 0) ?_).mono (by decide)
    split
    · exact B.mono (n := 0) (by unfold B; decide) (by decide)
    · exact B.mono (n := 0) (by unfold B; decide) (by decide)
theorem k2_eq {n : Nat} {T : List (List Int)} {s b v4 v5 v6 v7 f g h : Option D} (hn : n ≤ 4) (hT : Sm n T) : ∃ T' : List (List Int), k2T [s, b, some (.int n), some (dL T), v4, v5, v6, v7, f, g, h] = ret (dL T') ∧ Sq n T' := by
  have r1 : rngOk (n : Int) = true := by simp [rngOk]; omega
  have e0 : rangeD 0 n = (List.range n).map natD := by simp [rangeD, natD]
  obtain ⟨ys, e1, e2, e3⟩ := lcW_ex (tg := tgN 4) (elt := k2R) (ρ := [s, b, some (.int n), some (dL T), none, v5, v6, v7, f, g, h]) (g := lstI) (Pr := fun y => y.length = n ∧ ∀ x ∈ y, B 60 x) (rangeD 0 n) (by
    intro d hd
    rw [e0] at hd
    obtain ⟨i, hi, rfl⟩ := List.mem_map.mp hd
    obtain ⟨zs, z1, z2, z3⟩ := lcW_ex (tg := tgN 5) (elt := k2E) (ρ := [s, b, some (.int n), some (dL T), some (natD i), none, v6, v7, f, g, h]) (g := PyData.int) (Pr := B 60) (rangeD 0 n) (by
      intro d hd
      rw [e0] at hd
      obtain ⟨j, hj, rfl⟩ := List.mem_map.mp hd
      obtain ⟨y, h1, h2⟩ := k2_cell (s := s) (b := b) (nn := some (.int n)) (v6 := v6) (v7 := v7) (v8 := f) (v9 := g) (v10 := h) hn hT (List.mem_range.mp hi) (List.mem_range.mp hj)
      exact ⟨_, y, rfl, h1, h2⟩)
    refine ⟨_, zs, rfl, ?_, by rw [z1]; simp [rangeD], z2⟩
    simp only [k2R, x_mkL, x_eLc, x_itRng1, x_aCons, x_aNil, x_eVar, List.getElem?_cons_succ, List.getElem?_cons_zero, Option.getD_some, optM_some, bnd_ret', rng1_i, r1, if_true, Int.toNat_natCast, x_wipeD_cons, x_wipeD_nil, List.set_cons_succ, List.set_cons_zero, z3]
    rfl)
  refine ⟨ys, ?_, by rw [e1]; simp [rangeD], e2⟩
  simp only [k2T, x_mkL, x_eLc, x_itRng1, x_aCons, x_aNil, x_eVar, List.getElem?_cons_succ, List.getElem?_cons_zero, Option.getD_some, optM_some, bnd_ret', rng1_i, r1, if_true, Int.toNat_natCast, x_wipeD_cons, x_wipeD_nil, List.set_cons_succ, List.set_cons_zero, e3]
  rfl
def finT : Py.Env → M Out := (sRet (cal cTup (aCons (mkL (eLc (itSeq (eVar 3)) (tgN 6) cYes (cal cTup (aCons (eVar 6) aNil)) [6])) aNil)))
def kindS : Py.Env → M Out := (sSeq (sIf (tst (bin gEq (eVar 1) (eC (.int 1)))) (sAsg 3 k1T) sNx)
  (sSeq (sIf (tst (bin gEq (eVar 1) (eC (.int 2)))) (sAsg 3 k2T) sNx) finT))
def rowsE : Py.Env → M (List D) := (eLc (itRng1 (aCons (eVar 2) aNil)) (tgN 4) cYes (mkL (eLc (itRng1 (aCons (eVar 2) aNil)) (tgN 5) cYes (bin gSub (eCallS 0 1 F__law_pick (aCons (eC (.int 7)) aNil)) (eC (.int 3))) [5])) [4])
def cntE : Py.Env → M D := (bin gAdd (eC (.int 1)) (eCallS 0 1 F__law_pick (aCons (eIf (tru (eVar 1)) (eC (.int 4)) (eC (.int 3))) aNil)))
theorem b_draw_eq : b__law_draw_table = sSeq (sAsg 2 cntE) (sSeq (sAsg 3 (mkL rowsE)) kindS) := rfl
theorem finT_eq {n : Nat} {T : List (List Int)} {s b nn v4 v5 v6 v7 f g h : Option D} : finT [s, b, nn, some (dL T), v4, v5, v6, v7, f, g, h] = ret (.rt (dT T)) := by
  simp only [finT, x_sRet, x_cal, x_aCons, x_aNil, x_mkL, x_eLc, x_itSeq, x_eVar, List.getElem?_cons_succ, List.getElem?_cons_zero, Option.getD_some, optM_some, bnd_ret', x_wipeD_cons, x_wipeD_nil, List.set_cons_succ, List.set_cons_zero]
  rw [show seqD (dL T) = ret (T.map lstI) from rfl, bnd_ret', lcW_all lstI tupI]
  · rfl
  · intro r hr
    refine ⟨_, rfl, ?_⟩
    simp only [x_cal, x_aCons, x_aNil, x_eVar, List.getElem?_cons_succ, List.getElem?_cons_zero, List.set_cons_succ, List.set_cons_zero, Option.getD_some, optM_some, bnd_ret']
    rfl
theorem kindS_eq {n : Nat} {k : Int} {T : List (List Int)} {s v4 v5 v6 v7 f g h : Option D} (hn : n ≤ 4) (hT : Sm n T) : ∃ T', Sq n T' ∧ kindS [s, some (.int k), some (.int n), some (dL T), v4, v5, v6, v7, f, g, h] = ret (.rt (dT T')) := by
  obtain ⟨T1, h1, q1⟩ := k1_eq (s := s) (b := some (.int k)) (nn := some (.int n)) (v4 := v4) (v5 := v5) (v6 := v6) (v7 := v7) (f := f) (g := g) (h := h) hn hT
  obtain ⟨T2, h2, q2⟩ := k2_eq (s := s) (b := some (.int k)) (v4 := v4) (v5 := v5) (v6 := v6) (v7 := v7) (f := f) (g := g) (h := h) hn hT
  have st : ∀ (m : Int) (ρ : Py.Env), ρ[1]? = some (some (.int k)) → tst (bin gEq (eVar 1) (eC (.int m))) ρ = ret (decide (k = m)) := by
    intro m ρ hk
    simp only [x_tst, x_bin, x_eVar, hk, x_eC, Option.getD_some, optM_some, bnd_ret', gEq, shp_int, Bool.and_self, if_true, eqv_int, toB_b]
  by_cases e1 : k = 1
  · subst e1
    refine ⟨T1, q1, ?_⟩
    rw [kindS, x_sSeq, x_sIf, st 1 _ rfl, bnd_ret', if_pos (by decide), x_sAsg, h1, bnd_ret', bnd_ret', oThen_nx]
    simp only [List.set_cons_succ, List.set_cons_zero]
    rw [x_sSeq, x_sIf, st 2 _ rfl, bnd_ret', if_neg (by decide), x_sNx, bnd_ret', oThen_nx, finT_eq (n := n)]
  · by_cases e2 : k = 2
    · subst e2
      refine ⟨T2, q2, ?_⟩
      rw [kindS, x_sSeq, x_sIf, st 1 _ rfl, bnd_ret', if_neg (by decide), x_sNx, bnd_ret', oThen_nx, x_sSeq, x_sIf, st 2 _ rfl, bnd_ret', if_pos (by decide), x_sAsg, h2, bnd_ret', bnd_ret', oThen_nx]
      simp only [List.set_cons_succ, List.set_cons_zero]
      rw [finT_eq (n := n)]
    · refine ⟨T, sm_sq hT, ?_⟩
      rw [kindS, x_sSeq, x_sIf, st 1 _ rfl, bnd_ret', if_neg (by simpa using e1), x_sNx, bnd_ret', oThen_nx, x_sSeq, x_sIf, st 2 _ rfl, bnd_ret', if_neg (by simpa using e2), x_sNx, bnd_ret', oThen_nx, finT_eq (n := n)]
theorem draw_ok {k : Int} {P : D → Prop} (h0 : 0 ≤ k) (h3 : k < 3) (hP : ∀ n T, 1 ≤ n → n ≤ 4 → Sq n T → P (dT T)) : F__law_draw_table [.int k] P := by
  have e : F__law_draw_table [.int k] = bnd (b__law_draw_table [some .none, some (.int k), none, none, none, none, none, none, none, none, none]) outD := rfl
  rw [e, b_draw_eq]
  have iff : (eIf (tru (eVar 1)) (eC (.int 4)) (eC (.int 3))) [some .none, some (.int k), none, none, none, none, none, none, none, none, none] = ret (.int (if k = 0 then 3 else 4)) := by
    simp only [x_eIf, x_tru, x_eVar, List.getElem?_cons_succ, List.getElem?_cons_zero, Option.getD_some, optM_some, bnd_ret', x_eC]
    show bnd (ret (k != 0)) _ = _
    rw [bnd_ret']
    by_cases h : k = 0
    · simp [h]
    · simp [h]
  show eCallS 0 1 F__law_pick (aCons (eIf (tru (eVar 1)) (eC (.int 4)) (eC (.int 3))) aNil) [some .none, some (.int k), none, none, none, none, none, none, none, none, none] (fun y => gAdd (.int 1) y (fun d => (sSeq (sAsg 3 (mkL rowsE)) kindS) [some .none, some (.int k), some d, none, none, none, none, none, none, none, none] (fun o => outD o P)))
  refine pick_c rfl iff (by split <;> decide) (by split <;> decide) fun j h4 h5 => ?_
  have hj : j < 4 := by split at h5 <;> omega
  obtain ⟨m, rfl⟩ : ∃ m : Nat, j = (m : Int) := ⟨j.toNat, by omega⟩
  show (sSeq (sAsg 3 (mkL rowsE)) kindS) [some .none, some (.int k), some (.int (1 + (m : Int))), none, none, none, none, none, none, none, none] (fun o => outD o P)
  rw [show (1 : Int) + (m : Int) = ((m + 1 : Nat) : Int) by omega]
  have r1 : rngOk ((m + 1 : Nat) : Int) = true := by simp [rngOk]; omega
  generalize hN : m + 1 = N at r1 ⊢
  have er : rowsE [some .none, some (.int k), some (.int (N : Int)), none, none, none, none, none, none, none, none] = lcW (tgN 4) cYes (mkL (eLc (itRng1 (aCons (eVar 2) aNil)) (tgN 5) cYes (bin gSub (eCallS 0 1 F__law_pick (aCons (eC (.int 7)) aNil)) (eC (.int 3))) [5])) [some .none, some (.int k), some (.int (N : Int)), none, none, none, none, none, none, none, none] (rangeD 0 N) := by
    rw [rowsE, x_eLc, x_itRng1, args_1 (x := .int (N : Int)) rfl, bnd_ret', rng1_i, if_pos r1, bnd_ret', Int.toNat_natCast]
    rfl
  rw [x_sSeq, x_sAsg, x_mkL, er]
  have goal : lcW (tgN 4) cYes (mkL (eLc (itRng1 (aCons (eVar 2) aNil)) (tgN 5) cYes (bin gSub (eCallS 0 1 F__law_pick (aCons (eC (.int 7)) aNil)) (eC (.int 3))) [5])) [some .none, some (.int k), some (.int (N : Int)), none, none, none, none, none, none, none, none] (rangeD 0 N) (fun ds => kindS [some .none, some (.int k), some (.int (N : Int)), some (.list ds), none, none, none, none, none, none, none] (fun o => outD o P)) := by
    refine draw_rows (by omega) _ _ _ _ fun T hT hr => ?_
    obtain ⟨T', q, e'⟩ := kindS_eq (n := N) (k := k) (T := T) (s := some .none) (v4 := none) (v5 := none) (v6 := none) (v7 := none) (f := none) (g := none) (h := none) (by omega) ⟨by rw [hT]; simp [rangeD], hr⟩
    show kindS [some .none, some (.int k), some (.int (N : Int)), some (dL T), none, none, none, none, none, none, none] (fun o => outD o P)
    rw [e']
    exact hP N T' (by omega) (by omega) q
  exact goal
theorem draw_c {ρ : Py.Env} {P : D → Prop} (h1 : ρ[1]? = some (some .none)) (k : ∀ n T, 1 ≤ n → n ≤ 4 → Sq n T → P (dT T)) : eCallS 1 1 F__law_draw_table (aCons (eCallS 1 1 F__law_pick (aCons (eC (.int 3)) aNil)) aNil) ρ P := by
  have e : eCallS 1 1 F__law_draw_table (aCons (eCallS 1 1 F__law_pick (aCons (eC (.int 3)) aNil)) aNil) ρ P = eCallS 1 1 F__law_pick (aCons (eC (.int 3)) aNil) ρ (fun d => F__law_draw_table [d] P) := by
    generalize F__law_draw_table = F
    rw [eCallS, x_eVar, h1]
    rfl
  rw [e]
  exact pick_c h1 rfl (by decide) (by decide) fun j a b => draw_ok a b k
end L94
namespace L94
open PySem hiding ret
open Py L2
/-- the cofactors that first_minors writes, one by one -/
def cof (T : List (List Int)) (l : List Nat) (p c : Nat) : Int := (1 - 2 * ((p % 2 : Nat) : Int)) * detM (sub T (l.drop 1) (l.filter fun j => decide (j ≠ c)))
def fmS (T : List (List Int)) (l : List Nat) : List Nat → Nat → List Int → List Int
  | [], _, xs => xs
  | c :: r, p, xs => fmS T l r (p + 1) (xs.set c (cof T l p c))
def fmX (n : Nat) (T : List (List Int)) (l : List Nat) : List Int := fmS T l l 0 (List.replicate n 0)
theorem fm_oneX {n p c : Nat} {T : List (List Int)} {l : List Nat} {xs : List Int} {w r s : Option D} (h : Sq n T) (h4 : n ≤ 4) (hl : Lot n l) (hc : c ∈ l) (hxs : xs.length = n) (bx : Bx xs) :
    ∃ w' r' s', fmB [some (dT T), some (lotD l), some (lstI xs), some (.int p), some (.int c), w, r, s] = ret (.nx [some (dT T), some (lotD l), some (lstI (xs.set c (cof T l p c))), some (.int p), some (.int c), w', r', s']) ∧ (xs.set c (cof T l p c)).length = n ∧ Bx (xs.set c (cof T l p c)) := by
  have lc : l.length = (l.filter fun j => decide (j ≠ c)).length + 1 := (filter_ne_len hl.2.2 hc).symm
  have l4 := hl.1
  have hd : ∀ i ∈ l.drop 1, i < n := fun i hi => hl.2.1 i (List.mem_of_mem_drop hi)
  have hf : ∀ i ∈ (l.filter fun j => decide (j ≠ c)), i < n := fun i hi => hl.2.1 i (List.mem_filter.mp hi).1
  have sq := sq_sub (l := l.drop 1) (m := l.filter fun j => decide (j ≠ c)) h hd hf (by rw [List.length_drop]; omega)
  have wd := whole_eq (by omega) sq
  have bD := detB_of sq (by omega)
  have b2 : Bd (2 : Int) := (show B 2 2 by unfold B; decide).bd (by decide)
  have bm : Bd ((p % 2 : Nat) : Int) := (show B 1 ((p % 2 : Nat) : Int) by unfold B; simp only [Int.natAbs_natCast]; omega).bd (by decide)
  have bs : B 2 (1 - 2 * ((p % 2 : Nat) : Int)) := by unfold B; omega
  have o1 := mulB b2 bm
  have o2 := mulB (bs.bd (by decide)) (bD.bd (by decide))
  have e2 : gSl (lotD l) (some 1) none = ret (lotD (l.drop 1)) := by
    show ret (PyData.tuple (cutD (dInts (natI l)) (some ((1 : Nat) : Int)) none)) = _
    rw [cutD_from (by rw [dInts_len, natI, List.length_map]; omega), lotD, tupI, dInts_nat, dInts_nat, List.map_drop]
  have e3 : modOk (p : Int) 2 = true := rfl
  refine ⟨some (dL (sub T (l.drop 1) (l.filter fun j => decide (j ≠ c)))), r, s, ?_, by rw [List.length_set, hxs], ?_⟩
  · have comp : lcW (tgN 6) cYes (mkL (eLc (itSeq (eVar 1)) (tgN 7) (tst (bin gNe (eVar 7) (eVar 4))) (bin gIx (bin gIx (eVar 0) (eVar 6)) (eVar 7)) [7])) [some (dT T), some (lotD l), some (lstI xs), some (.int p), some (.int c), w, none, s] (dInts (natI (l.drop 1))) = ret ((sub T (l.drop 1) (l.filter fun j => decide (j ≠ c))).map lstI) := by
      rw [dInts_nat, lcW_all (fun (i : Nat) => PyData.int (i : Int)) (fun i => lstI ((l.filter fun j => decide (j ≠ c)).map fun j => at2 T i j))]
      · simp only [sub, List.map_map]; rfl
      · intro i hi
        refine ⟨_, rfl, ?_⟩
        simp only [x_mkL, x_eLc, x_itSeq, x_eVar, List.getElem?_cons_succ, List.getElem?_cons_zero, Option.getD_some, optM_some, bnd_ret', x_wipeD_cons, x_wipeD_nil, List.set_cons_succ, List.set_cons_zero]
        rw [show seqD (lotD l) = ret (dInts (natI l)) from rfl, bnd_ret', dInts_nat, lcW_map (fun (i : Nat) => PyData.int (i : Int)) (fun j => decide (j ≠ c)) (fun j => .int (at2 T i j))]
        · simp only [bnd_ret', lstI, dInts, List.map_map]; rfl
        · intro j hj
          refine ⟨_, rfl, ?_, fun _ => ?_⟩
          · simp only [x_tst, x_bin, x_eVar, List.getElem?_cons_succ, List.getElem?_cons_zero, List.set_cons_succ, List.set_cons_zero, Option.getD_some, optM_some, bnd_ret', gNe, shp_int, Bool.and_self, if_true, eqv_int, toB_b]
            by_cases e : j = c
            · simp [e]
            · have e' : ¬((j : Int) = (c : Int)) := by omega
              simp [e, e']
          · simp only [x_bin, x_eVar, List.getElem?_cons_succ, List.getElem?_cons_zero, List.set_cons_succ, List.set_cons_zero, Option.getD_some, optM_some, bnd_ret', ix_row h (hd i hi), ix_at h (hd i hi) (hl.2.1 j hj)]
    have li : ixN (dInts xs).length (c : Int) = some c := ixN_nat (by rw [dInts_len, hxs]; exact hl.2.1 c hc)
    simp only [fmB, x_sSeq, x_sAsg, x_mkL (eLc _ _ _ _ [6]), x_eLc _ (tgN 6), x_itSeq, x_eSl, x_oPart, x_oNo, x_eVar, x_eC, List.getElem?_cons_succ, List.getElem?_cons_zero, List.set_cons_succ, List.set_cons_zero, Option.getD_some, optM_some, bnd_ret', toI_i, e2, x_wipeD_cons, x_wipeD_nil]
    rw [show seqD (lotD (l.drop 1)) = ret (dInts (natI (l.drop 1))) from rfl, bnd_ret', comp]
    simp only [bnd_ret', oThen_nx, sSetI, x_bin, x_eVar, x_eC, x_eCall, x_aCons, x_aNil, List.getElem?_cons_succ, List.getElem?_cons_zero, List.set_cons_succ, List.set_cons_zero, Option.getD_some, optM_some, x_gIc_i, e3, fmod2, if_true, x_gMulX_i, o1, x_gI_i, List.length_cons, List.length_nil, Nat.zero_add]
    rw [show PyData.list ((sub T (l.drop 1) (l.filter fun j => decide (j ≠ c))).map lstI) = dL (sub T (l.drop 1) (l.filter fun j => decide (j ≠ c))) from rfl, wd]
    simp only [bnd_ret', x_gMulX_i, o2, if_true]
    show (match ixN (dInts xs).length (c : Int) with | some m => ret _ | none => stuck) = _
    rw [li]
    simp only [lstI, dInts, List.map_set]
    first | done | rfl
  · intro x hx
    rcases List.mem_or_eq_of_mem_set hx with h' | h'
    · exact bx x h'
    · rw [h']; exact (bs.mul bD).mono (by decide)
theorem fm_loopX {n : Nat} {T : List (List Int)} {l : List Nat} (h : Sq n T) (h4 : n ≤ 4) (hl : Lot n l) : ∀ (rest : List Nat) (p : Nat) (xs : List Int) (a b w r s : Option D), (∀ c ∈ rest, c ∈ l) → xs.length = n → Bx xs →
    ∃ a' b' w' r' s', forW (tgTup 2 (tgsCons (tgN 3) (tgsCons (tgN 4) tgsNil))) fmB (enumD p (dInts (natI rest))) [some (dT T), some (lotD l), some (lstI xs), a, b, w, r, s] = ret (.nx [some (dT T), some (lotD l), some (lstI (fmS T l rest p xs)), a', b', w', r', s']) ∧ (fmS T l rest p xs).length = n ∧ Bx (fmS T l rest p xs)
  | [], p, xs, a, b, w, r, s, _, hx, bx => ⟨a, b, w, r, s, rfl, hx, bx⟩
  | c :: rest, p, xs, a, b, w, r, s, hc, hx, bx => by
    obtain ⟨w1, r1, s1, c1, hx1, bx1⟩ := fm_oneX (p := p) (w := w) (r := r) (s := s) h h4 hl (hc c (by simp)) hx bx
    obtain ⟨a', b', w', r', s', c2, hx2, bx2⟩ := fm_loopX h h4 hl rest (p + 1) (xs.set c (cof T l p c)) (some (.int p)) (some (.int c)) w1 r1 s1 (fun d hd => hc d (by simp [hd])) hx1 bx1
    refine ⟨a', b', w', r', s', ?_, hx2, bx2⟩
    rw [show enumD p (dInts (natI (c :: rest))) = .tuple [.int (p : Nat), .int (c : Int)] :: enumD (p + 1) (dInts (natI rest)) from rfl, forW_cons, x_tgTup, if_pos (show [PyData.int (p : Nat), PyData.int (c : Int)].length = 2 from rfl), x_tgsCons, x_tgN, bnd_ret', x_tgsCons, x_tgN, bnd_ret', x_tgsNil]
    simp only [List.set_cons_succ, List.set_cons_zero, bnd_ret']
    rw [c1, bnd_ret', oLoop_nx]
    exact c2
theorem fm_eqX {n : Nat} {T : List (List Int)} {l : List Nat} (h : Sq n T) (h4 : n ≤ 4) (hl : Lot n l) : (fmX n T l).length = n ∧ Bx (fmX n T l) ∧ F_first_minors [dT T, lotD l] = ret (tupI (fmX n T l)) := by
  have rp : ∀ m : Nat, repD m [PyData.int 0] = dInts (List.replicate m 0) := by
    intro m
    induction m with
    | zero => rfl
    | succ m ih =>
      show [PyData.int 0] ++ repD m [PyData.int 0] = _
      rw [ih]; rfl
  obtain ⟨a', b', w', r', s', c, hx, bx⟩ := fm_loopX h h4 hl l 0 (List.replicate n 0) none none none none none (fun _ h => h) (by simp) (fun a ha => by rw [(List.mem_replicate.mp ha).2]; unfold B; simp)
  refine ⟨hx, bx, ?_⟩
  have e1 : sOwn 2 (repL (mkL (lDisp (aCons (eC (.int 0)) aNil))) (cal cLen (aCons (eVar 0) aNil))) [some (dT T), some (lotD l), none, none, none, none, none, none] = ret (.nx [some (dT T), some (lotD l), some (lstI (List.replicate n 0)), none, none, none, none, none]) := by
    simp only [x_sOwn, repL, x_mkL, x_lDisp, x_aCons, x_aNil, x_eC, bnd_ret', List.length_cons, List.length_nil, lenOk_def, x_cal, x_eVar, List.getElem?_cons_succ, List.getElem?_cons_zero, Option.getD_some, optM_some, dT_len h]
    rw [if_pos (by omega)]
    simp only [bnd_ret']
    rw [if_pos (by rw [decide_eq_true_eq]; simp; omega)]
    simp only [bnd_ret', List.set_cons_succ, List.set_cons_zero, Int.toNat_natCast, rp]
    rfl
  show fnD 6 b_first_minors [dT T, lotD l] = _
  rw [b_fm_eq, x_fnD]
  simp only [List.map_cons, List.map_nil, List.replicate, List.cons_append, List.nil_append, x_sSeq, e1, bnd_ret', oThen_nx, x_sFor, x_itEnum, x_aCons, x_aNil, x_eVar, List.getElem?_cons_succ, List.getElem?_cons_zero, Option.getD_some, optM_some, enum1_1]
  rw [show seqD (lotD l) = ret (dInts (natI l)) from rfl, bnd_ret', bnd_ret', c]
  simp only [bnd_ret', oThen_nx, x_sRet, x_cal, x_aCons, x_aNil, x_eVar, List.getElem?_cons_succ, List.getElem?_cons_zero, Option.getD_some, optM_some, outD_rt]
  rfl
def wrongs (n : Nat) (T : List (List Int)) : List (List Nat) := (lots n).filter fun l => decide (pm T l ≤ 0)
theorem wrong_eqX {n : Nat} {T : List (List Int)} (h : Sq n T) (h4 : n ≤ 4) : (F_first_wrong_lot [dT T] = ret .none ∧ wrongs n T = []) ∨ ∃ l0 S m, wrongs n T = l0 :: S ∧ m ∈ l0 :: S ∧ W.minD (lenLot l0) (S.map lenLot) = lenLot m ∧ cBest W.minD [.list ((l0 :: S).map lenLot)] = ret (lenLot m) ∧ F_first_wrong_lot [dT T] = ret (lotD m) := by
  have e : ∀ r, (∃ l0, l0 = ((lots n).filter fun l => decide (pm T l ≤ 0)) ∧ bnd (sRet (eIf (tst (bin gNe (eVar 1) (mkL (lDisp aNil)))) (bin gIx (cal (cBest PySem.W.minD) (aCons (eVar 1) aNil)) (eC (.int 1))) (eC .none)) [some (dT T), some (.list (l0.map lenLot)), none, none]) outD = ret r) → F_first_wrong_lot [dT T] = ret r := by
    rintro r ⟨l0, e0, c⟩
    show fnD 3 b_first_wrong_lot [dT T] = _
    rw [x_fnD, ← c]
    simp only [b_first_wrong_lot, x_sSeq, x_sAsg, List.map_cons, List.map_nil, List.replicate, List.cons_append, List.nil_append, x_aCons, x_aNil, x_mkL, x_eLc, x_itSeq, x_eCall, x_eVar, List.getElem?_cons_succ, List.getElem?_cons_zero, Option.getD_some, optM_some, bnd_ret', List.length_cons, List.length_nil, Nat.zero_add, if_true, dets_eq h h4, x_seqD_t, x_wipeD_cons, x_wipeD_nil, List.set_cons_succ, List.set_cons_zero]
    rw [lcW_map (fun l => .tuple [lotD l, .int (pm T l)]) (fun l => decide (pm T l ≤ 0)) lenLot, ← e0]
    · simp only [bnd_ret', oThen_nx]
    · intro l hl
      refine ⟨_, rfl, rfl, fun _ => ?_⟩
      simp only [x_eTup, x_cal, x_aCons, x_aNil, x_eVar, List.getElem?_cons_succ, List.getElem?_cons_zero, List.set_cons_succ, List.set_cons_zero, Option.getD_some, optM_some, bnd_ret', List.length_cons, List.length_nil, lenOk_def, lenD]
      rw [if_pos (by omega)]
      rfl
  obtain ⟨S, hS⟩ : ∃ S, S = ((lots n).filter fun l => decide (pm T l ≤ 0)) := ⟨_, rfl⟩
  have sh : shp (.list (S.map lenLot)) = true := by
    have := layD (k := 2) (ds := S.map lenLot) fun d hd => by
      obtain ⟨l, hl, rfl⟩ := List.mem_map.mp hd
      exact lay_lenLot l
    refine shp_of (by simpa [PyData.canLay0] using this.1) ?_
    simp only [PyData.depth]; omega
  cases S with
  | nil =>
    left
    refine ⟨e .none ⟨[], hS, ?_⟩, hS.symm⟩
    simp only [x_sRet, x_eIf, x_tst, x_bin, x_eVar, x_mkL, x_lDisp, x_aNil, List.getElem?_cons_succ, List.getElem?_cons_zero, Option.getD_some, optM_some, bnd_ret', List.length_nil, lenOk_def, Nat.zero_le, if_true, gNe, List.map_nil, shp_nil, Bool.and_self, eqv_ints_nil, List.isEmpty_nil, Bool.not_true, toB_b, Bool.false_eq_true, if_false, x_eC, outD_rt]
  | cons l S =>
    right
    have mem := minD_mem (S.map lenLot) (lenLot l)
    rw [← List.map_cons] at mem
    obtain ⟨m, hm, em⟩ := List.mem_map.mp mem
    have al : alls (lenLot l :: S.map lenLot) = true := by
      rw [← List.map_cons]
      unfold alls
      rw [List.all_eq_true]
      intro x hx
      obtain ⟨a, ha, rfl⟩ := List.mem_map.mp hx
      have la := lay_lenLot a
      rw [shp_of la.1 (by omega), Bool.true_and, Bool.and_eq_true]
      refine ⟨rfl, List.all_eq_true.mpr fun y hy => ?_⟩
      obtain ⟨b, hb, rfl⟩ := List.mem_map.mp hy
      show W.alike (.tuple [.int a.length, lotD a]) (.tuple [.int b.length, lotD b]) = true
      simp [W.alike, W.alikeAll, alike_lot]
    have cb : cBest W.minD [.list ((l :: S).map lenLot)] = ret (lenLot m) := by
      show (if alls (lenLot l :: S.map lenLot) = true then ret (W.minD (lenLot l) (S.map lenLot)) else stuck) = _
      rw [if_pos al, em]
    refine ⟨l, S, m, hS.symm, hm, em.symm, cb, e _ ⟨_, hS, ?_⟩⟩
    have g1 : gIx (lenLot m) (.int 1) = ret (lotD m) := gIx_t (atI_nat (i := 1) rfl)
    have ev : PyData.eqv (.list ((l :: S).map lenLot)) (.list []) = false := by rw [eqv_ints_nil]; rfl
    simp only [x_sRet, x_eIf, x_tst, x_bin, x_eVar, x_mkL, x_lDisp, x_aNil, x_aCons, x_cal, List.getElem?_cons_succ, List.getElem?_cons_zero, Option.getD_some, optM_some, bnd_ret', List.length_nil, lenOk_def, Nat.zero_le, if_true, gNe, sh, shp_nil, Bool.and_self, ev, Bool.not_false, toB_b, x_eC, outD_rt, cb, g1]
theorem lt_len {a b : List Nat} (h : a.length ≠ b.length) : W.dataLt (lenLot a) (lenLot b) = decide (a.length < b.length) := by
  rw [lenLot, lenLot, W.dataLt_tuple, W.dataLt_all_no (by rfl) (by rw [eqv_int]; simp; omega), W.dataLt_int]
  simp
theorem minD_len : ∀ (S : List (List Nat)) (l m : List Nat), W.minD (lenLot l) (S.map lenLot) = lenLot m → (∀ x ∈ l :: S, m.length ≤ x.length)
  | [], l, m, h => by
    have : lenLot l = lenLot m := h
    have e : l.length = m.length := by simpa [lenLot] using (show PyData.tuple [.int l.length, lotD l] = .tuple [.int m.length, lotD m] from this) |> fun h => (by injection h with h; injection h with h _; injection h with h; omega)
    intro x hx
    rw [List.mem_singleton.mp hx]; omega
  | y :: S, l, m, h => by
    have h' : W.minD (if W.dataLt (lenLot y) (lenLot l) then lenLot y else lenLot l) (S.map lenLot) = lenLot m := h
    intro x hx
    by_cases e : y.length = l.length
    · by_cases t : W.dataLt (lenLot y) (lenLot l) = true
      · rw [if_pos t] at h'
        have := minD_len S y m h'
        rcases List.mem_cons.mp hx with rfl | hx
        · have := this y (by simp); omega
        · exact this x hx
      · rw [if_neg t] at h'
        have := minD_len S l m h'
        rcases List.mem_cons.mp hx with rfl | hx
        · exact this x (by simp)
        · rcases List.mem_cons.mp hx with rfl | hx
          · have := this l (by simp); omega
          · exact this x (by simp [hx])
    · rw [lt_len e] at h'
      by_cases t : y.length < l.length
      · rw [if_pos (by simpa using t)] at h'
        have := minD_len S y m h'
        rcases List.mem_cons.mp hx with rfl | hx
        · have := this y (by simp); omega
        · exact this x hx
      · rw [if_neg (by simpa using t)] at h'
        have := minD_len S l m h'
        rcases List.mem_cons.mp hx with rfl | hx
        · exact this x (by simp)
        · rcases List.mem_cons.mp hx with rfl | hx
          · have := this l (by simp); omega
          · exact this x (by simp [hx])
theorem turned_eqX {n : Nat} {T : List (List Int)} (h : Sq n T) (h4 : n ≤ 4) : (F_turned_paper [dT T] = ret aboveD ∧ wrongs n T = []) ∨ ∃ l0 S m, wrongs n T = l0 :: S ∧ m ∈ l0 :: S ∧ W.minD (lenLot l0) (S.map lenLot) = lenLot m ∧ cBest W.minD [.list ((l0 :: S).map lenLot)] = ret (lenLot m) ∧ F_turned_paper [dT T] = ret (.tuple [.str "turned", lotD m, tupI (fmX n T m)]) := by
  rcases wrong_eqX h h4 with ⟨e, e0⟩ | ⟨l0, S, l, w1, w2, w3, w4, e⟩
  · left
    refine ⟨?_, e0⟩
    show fnD 1 b_turned_paper [dT T] = _
    rw [x_fnD]
    simp only [b_turned_paper, List.map_cons, List.map_nil, List.replicate, List.cons_append, List.nil_append, x_sSeq, x_sAsg, x_eCall, x_aCons, x_aNil, x_eVar, List.getElem?_cons_succ, List.getElem?_cons_zero, List.set_cons_succ, List.set_cons_zero, Option.getD_some, optM_some, bnd_ret', List.length_cons, List.length_nil, Nat.zero_add, if_true, e, oThen_nx, x_sRet, x_eIf, x_tst, x_bin, x_eC, x_gIsN_, toB_b]
    rfl
  · right
    have hl : l ∈ lots n := (List.mem_filter.mp (show l ∈ wrongs n T from w1 ▸ w2)).1
    obtain ⟨hx, bx, em⟩ := fm_eqX h h4 (lots_lot hl)
    refine ⟨l0, S, l, w1, w2, w3, w4, ?_⟩
    show fnD 1 b_turned_paper [dT T] = _
    rw [x_fnD]
    have ni : isNonD (lotD l) = false := rfl
    simp only [b_turned_paper, List.map_cons, List.map_nil, List.replicate, List.cons_append, List.nil_append, x_sSeq, x_sAsg, x_eCall, x_aCons, x_aNil, x_eVar, List.getElem?_cons_succ, List.getElem?_cons_zero, List.set_cons_succ, List.set_cons_zero, Option.getD_some, optM_some, bnd_ret', List.length_cons, List.length_nil, Nat.zero_add, if_true, e, oThen_nx, x_sRet, x_eIf, x_tst, x_bin, x_eC, x_gIsN_, toB_b, ni, Bool.false_eq_true, if_false, x_eTup, em, lenOk_def]
    rw [if_pos (by omega), bnd_ret', bnd_ret', outD_rt]
end L94
namespace L94
open PySem hiding ret
open Py L2
theorem mem_lotsU {n : Nat} {l : List Nat} (h : l ∈ lots n) : l ∈ lotsU n := List.mem_mergeSort.mp h
def Min (n : Nat) (T : List (List Int)) (l0 : Nat) (r : List Nat) : Prop :=
  (∀ i ∈ List.range n, i ∉ l0 :: r → (fmX n T (l0 :: r)).getD i 0 = 0) ∧ (∀ i ∈ r, dot (T.getD i []) (fmX n T (l0 :: r)) = 0) ∧ dot (T.getD l0 []) (fmX n T (l0 :: r)) = pm T (l0 :: r) ∧ (fmX n T (l0 :: r)).getD l0 0 = pm T r
theorem cons_cases {n : Nat} {P : Nat → List Nat → Prop} (h : ∀ l ∈ lotsU n, ∀ l0 r, l = l0 :: r → P l0 r) : ∀ l0 r, l0 :: r ∈ lots n → P l0 r := fun l0 r hm => h _ (mem_lotsU hm) l0 r rfl
theorem lotsU1 : lotsU 1 = [[], [0]] := rfl
theorem lotsU2 : lotsU 2 = [[], [0], [1], [0, 1]] := rfl
theorem lotsU3 : lotsU 3 = [[], [0], [1], [0, 1], [2], [0, 2], [1, 2], [0, 1, 2]] := rfl
theorem lotsU4 : lotsU 4 = [[], [0], [1], [0, 1], [2], [0, 2], [1, 2], [0, 1, 2], [3], [0, 3], [1, 3], [0, 1, 3], [2, 3], [0, 2, 3], [1, 2, 3], [0, 1, 2, 3]] := rfl
theorem min1 (a : Int) : ∀ l0 r, l0 :: r ∈ lots 1 → Min 1 [[a]] l0 r := by
  refine cons_cases fun l hl l0 r e => ?_
  rw [lotsU1] at hl
  simp only [List.mem_cons, List.not_mem_nil, or_false] at hl
  rcases hl with rfl | rfl <;> simp only [List.cons.injEq, reduceCtorEq] at e <;> (try obtain ⟨rfl, rfl⟩ := e) <;> (
    simp [Min, fmX, fmS, cof, pm, sub, at2, detM, dot, d2, d3, d4, List.range, List.range.loop])
theorem min2 (a b c d : Int) : ∀ l0 r, l0 :: r ∈ lots 2 → Min 2 [[a, b], [c, d]] l0 r := by
  refine cons_cases fun l hl l0 r e => ?_
  rw [lotsU2] at hl
  simp only [List.mem_cons, List.not_mem_nil, or_false] at hl
  rcases hl with rfl | rfl | rfl | rfl <;> simp only [List.cons.injEq, reduceCtorEq] at e <;> (try obtain ⟨rfl, rfl⟩ := e) <;> (
    simp [Min, fmX, fmS, cof, pm, sub, at2, detM, dot, d2, d3, d4, List.range, List.range.loop]) <;> grind
theorem min3 (a b c d e' f g h i : Int) : ∀ l0 r, l0 :: r ∈ lots 3 → Min 3 [[a, b, c], [d, e', f], [g, h, i]] l0 r := by
  refine cons_cases fun l hl l0 r e => ?_
  rw [lotsU3] at hl
  simp only [List.mem_cons, List.not_mem_nil, or_false] at hl
  rcases hl with rfl | rfl | rfl | rfl | rfl | rfl | rfl | rfl <;> simp only [List.cons.injEq, reduceCtorEq] at e <;> (try obtain ⟨rfl, rfl⟩ := e) <;> (
    simp [Min, fmX, fmS, cof, pm, sub, at2, detM, dot, d2, d3, d4, List.range, List.range.loop]) <;> grind
theorem min4 (a0 a1 a2 a3 b0 b1 b2 b3 c0 c1 c2 c3 e0 e1 e2 e3 : Int) : ∀ l0 r, l0 :: r ∈ lots 4 → Min 4 [[a0, a1, a2, a3], [b0, b1, b2, b3], [c0, c1, c2, c3], [e0, e1, e2, e3]] l0 r := by
  refine cons_cases fun l hl l0 r e => ?_
  rw [lotsU4] at hl
  simp only [List.mem_cons, List.not_mem_nil, or_false] at hl
  rcases hl with rfl | rfl | rfl | rfl | rfl | rfl | rfl | rfl | rfl | rfl | rfl | rfl | rfl | rfl | rfl | rfl <;> simp only [List.cons.injEq, reduceCtorEq] at e <;> (try obtain ⟨rfl, rfl⟩ := e) <;> (
    simp [Min, fmX, fmS, cof, pm, sub, at2, detM, dot, d2, d3, d4, List.range, List.range.loop]) <;> grind
theorem min_ok : ∀ {n : Nat} {T : List (List Int)} {l0 : Nat} {r : List Nat}, Sq n T → n ≤ 4 → l0 :: r ∈ lots n → Min n T l0 r
  | 0, T, l0, r, _, _, hl => absurd (mem_lotsU hl) (by simp [lotsU])
  | 1, T, l0, r, h, _, hl => by
    obtain ⟨a, rfl, _⟩ := sq1 h
    exact min1 _ _ _ hl
  | 2, T, l0, r, h, _, hl => by
    obtain ⟨a, b, c, d, rfl, _⟩ := sq2 h
    exact min2 _ _ _ _ _ _ hl
  | 3, T, l0, r, h, _, hl => by
    obtain ⟨a, b, c, d, e, f, g, i, j, rfl, _⟩ := sq3 h
    exact min3 _ _ _ _ _ _ _ _ _ _ _ hl
  | 4, T, l0, r, h, _, hl => by
    obtain ⟨a0, a1, a2, a3, b0, b1, b2, b3, c0, c1, c2, c3, e0, e1, e2, e3, rfl, _⟩ := sq4 h
    exact min4 _ _ _ _ _ _ _ _ _ _ _ _ _ _ _ _ _ _ hl
  | n + 5, _, _, _, _, h4, _ => absurd h4 (by omega)
end L94
namespace L94
open PySem hiding ret
open Py L2
theorem nn2 {a b : Int} (ha : 0 ≤ a) (hb : 0 ≤ b) : 0 ≤ a * b := Int.mul_nonneg ha hb
theorem sq_nn (x : Int) : 0 ≤ x * x := by
  rcases Int.le_total 0 x with h | h
  · exact Int.mul_nonneg h h
  · exact Int.mul_nonneg_of_nonpos_of_nonpos h h
theorem pz {a b : Int} (h : a * b = 0) (hb : 0 < b) : a = 0 := by
  rcases Int.mul_eq_zero.mp h with h | h
  · exact h
  · omega

theorem pmx1 {m x : Int} (hm : 0 < m) (h : x * (m * x) ≤ 0) : x = 0 := by
  have e : x * (m * x) = (x * x) * m := by grind
  have s := sq_nn x
  have t := nn2 s (Int.le_of_lt hm)
  have z : (x * x) * m = 0 := by omega
  have := pz z hm
  simp only [Int.mul_eq_zero, or_self] at this
  exact this
theorem zero2 (n00 n01 n10 n11 y0 y1 : Int) (hy0 : y0 = n00 + n01) (hy1 : y1 = n10 + n11) : (-y0)*(-y1) + (-y1)*n00 + (-y0)*n11 + (d2 n00 n01 n10 n11) = 0 := by
  subst hy0 hy1
  simp only [d2, d3, d4]
  grind

theorem comb2 (x0 x1 y0 y1 D0 D1 D01 : Int) (h : (-y0)*(-y1) + (-y1)*(x0*D0) + (-y0)*(x1*D1) + (x0*x1*D01) = 0) : (-(x0*y0))*(-(x1*y1)) + (x0*x0)*(-(x1*y1))*D0 + (-(x0*y0))*(x1*x1)*D1 + (x0*x0)*(x1*x1)*D01 = 0 := by
  have e : (-(x0*y0))*(-(x1*y1)) + (x0*x0)*(-(x1*y1))*D0 + (-(x0*y0))*(x1*x1)*D1 + (x0*x0)*(x1*x1)*D01 = (x0*x1) * ((-y0)*(-y1) + (-y1)*(x0*D0) + (-y0)*(x1*D1) + (x0*x1*D01)) := by grind
  rw [e, h, Int.mul_zero]

theorem pmx2 {m00 m01 m10 m11 x0 x1 : Int} (p0 : 0 < m00) (p1 : 0 < m11) (p01 : 0 < (d2 m00 m01 m10 m11)) (q0 : x0 * (m00 * x0 + m01 * x1) ≤ 0) (q1 : x1 * (m10 * x0 + m11 * x1) ≤ 0) : x0 = 0 ∧ x1 = 0 := by
  obtain ⟨y0, hy0⟩ : ∃ y, y = m00 * x0 + m01 * x1 := ⟨_, rfl⟩
  obtain ⟨y1, hy1⟩ : ∃ y, y = m10 * x0 + m11 * x1 := ⟨_, rfl⟩
  rw [← hy0] at q0; rw [← hy1] at q1
  have Z := zero2 (m00*x0) (m01*x1) (m10*x0) (m11*x1) y0 y1 hy0 hy1
  have e0 : m00*x0 = x0*m00 := Int.mul_comm _ _
  have e1 : m11*x1 = x1*m11 := Int.mul_comm _ _
  have e01 : (d2 (m00*x0) (m01*x1) (m10*x0) (m11*x1)) = x0*x1*(d2 m00 m01 m10 m11) := by simp only [d2, d3, d4]; grind
  rw [e01] at Z
  rw [e0, e1] at Z
  have C := comb2 x0 x1 y0 y1 m00 m11 (d2 m00 m01 m10 m11) Z
  have full : x0 = 0 ∨ x1 = 0 := by
    have s0 := sq_nn x0
    have r0 : 0 ≤ -(x0*y0) := by omega
    have s1 := sq_nn x1
    have r1 : 0 ≤ -(x1*y1) := by omega
    have te := (nn2 r0 r1)
    have t0 := (nn2 (nn2 s0 r1) (Int.le_of_lt p0))
    have t1 := (nn2 (nn2 r0 s1) (Int.le_of_lt p1))
    have t01 := (nn2 (nn2 s0 s1) (Int.le_of_lt p01))
    have z : (x0*x0)*(x1*x1)*(d2 m00 m01 m10 m11) = 0 := by omega
    have z2 := pz z p01
    simp only [Int.mul_eq_zero, or_self] at z2
    omega
  rcases full with rfl | rfl
  · have : x1 = 0 := pmx1 p1 (by rw [hy1] at q1; simpa using q1)
    omega
  · have : x0 = 0 := pmx1 p0 (by rw [hy0] at q0; simpa using q0)
    omega
theorem zero3 (n00 n01 n02 n10 n11 n12 n20 n21 n22 y0 y1 y2 : Int) (hy0 : y0 = n00 + n01 + n02) (hy1 : y1 = n10 + n11 + n12) (hy2 : y2 = n20 + n21 + n22) : (-y0)*(-y1)*(-y2) + (-y1)*(-y2)*n00 + (-y0)*(-y2)*n11 + (-y0)*(-y1)*n22 + (-y2)*(d2 n00 n01 n10 n11) + (-y1)*(d2 n00 n02 n20 n22) + (-y0)*(d2 n11 n12 n21 n22) + (d3 n00 n01 n02 n10 n11 n12 n20 n21 n22) = 0 := by
  subst hy0 hy1 hy2
  simp only [d2, d3, d4]
  grind

theorem comb3 (x0 x1 x2 y0 y1 y2 D0 D1 D2 D01 D02 D12 D012 : Int) (h : (-y0)*(-y1)*(-y2) + (-y1)*(-y2)*(x0*D0) + (-y0)*(-y2)*(x1*D1) + (-y0)*(-y1)*(x2*D2) + (-y2)*(x0*x1*D01) + (-y1)*(x0*x2*D02) + (-y0)*(x1*x2*D12) + (x0*x1*x2*D012) = 0) : (-(x0*y0))*(-(x1*y1))*(-(x2*y2)) + (x0*x0)*(-(x1*y1))*(-(x2*y2))*D0 + (-(x0*y0))*(x1*x1)*(-(x2*y2))*D1 + (-(x0*y0))*(-(x1*y1))*(x2*x2)*D2 + (x0*x0)*(x1*x1)*(-(x2*y2))*D01 + (x0*x0)*(-(x1*y1))*(x2*x2)*D02 + (-(x0*y0))*(x1*x1)*(x2*x2)*D12 + (x0*x0)*(x1*x1)*(x2*x2)*D012 = 0 := by
  have e : (-(x0*y0))*(-(x1*y1))*(-(x2*y2)) + (x0*x0)*(-(x1*y1))*(-(x2*y2))*D0 + (-(x0*y0))*(x1*x1)*(-(x2*y2))*D1 + (-(x0*y0))*(-(x1*y1))*(x2*x2)*D2 + (x0*x0)*(x1*x1)*(-(x2*y2))*D01 + (x0*x0)*(-(x1*y1))*(x2*x2)*D02 + (-(x0*y0))*(x1*x1)*(x2*x2)*D12 + (x0*x0)*(x1*x1)*(x2*x2)*D012 = (x0*x1*x2) * ((-y0)*(-y1)*(-y2) + (-y1)*(-y2)*(x0*D0) + (-y0)*(-y2)*(x1*D1) + (-y0)*(-y1)*(x2*D2) + (-y2)*(x0*x1*D01) + (-y1)*(x0*x2*D02) + (-y0)*(x1*x2*D12) + (x0*x1*x2*D012)) := by grind
  rw [e, h, Int.mul_zero]

theorem pmx3 {m00 m01 m02 m10 m11 m12 m20 m21 m22 x0 x1 x2 : Int} (p0 : 0 < m00) (p1 : 0 < m11) (p2 : 0 < m22) (p01 : 0 < (d2 m00 m01 m10 m11)) (p02 : 0 < (d2 m00 m02 m20 m22)) (p12 : 0 < (d2 m11 m12 m21 m22)) (p012 : 0 < (d3 m00 m01 m02 m10 m11 m12 m20 m21 m22)) (q0 : x0 * (m00 * x0 + m01 * x1 + m02 * x2) ≤ 0) (q1 : x1 * (m10 * x0 + m11 * x1 + m12 * x2) ≤ 0) (q2 : x2 * (m20 * x0 + m21 * x1 + m22 * x2) ≤ 0) : x0 = 0 ∧ x1 = 0 ∧ x2 = 0 := by
  obtain ⟨y0, hy0⟩ : ∃ y, y = m00 * x0 + m01 * x1 + m02 * x2 := ⟨_, rfl⟩
  obtain ⟨y1, hy1⟩ : ∃ y, y = m10 * x0 + m11 * x1 + m12 * x2 := ⟨_, rfl⟩
  obtain ⟨y2, hy2⟩ : ∃ y, y = m20 * x0 + m21 * x1 + m22 * x2 := ⟨_, rfl⟩
  rw [← hy0] at q0; rw [← hy1] at q1; rw [← hy2] at q2
  have Z := zero3 (m00*x0) (m01*x1) (m02*x2) (m10*x0) (m11*x1) (m12*x2) (m20*x0) (m21*x1) (m22*x2) y0 y1 y2 hy0 hy1 hy2
  have e0 : m00*x0 = x0*m00 := Int.mul_comm _ _
  have e1 : m11*x1 = x1*m11 := Int.mul_comm _ _
  have e2 : m22*x2 = x2*m22 := Int.mul_comm _ _
  have e01 : (d2 (m00*x0) (m01*x1) (m10*x0) (m11*x1)) = x0*x1*(d2 m00 m01 m10 m11) := by simp only [d2, d3, d4]; grind
  have e02 : (d2 (m00*x0) (m02*x2) (m20*x0) (m22*x2)) = x0*x2*(d2 m00 m02 m20 m22) := by simp only [d2, d3, d4]; grind
  have e12 : (d2 (m11*x1) (m12*x2) (m21*x1) (m22*x2)) = x1*x2*(d2 m11 m12 m21 m22) := by simp only [d2, d3, d4]; grind
  have e012 : (d3 (m00*x0) (m01*x1) (m02*x2) (m10*x0) (m11*x1) (m12*x2) (m20*x0) (m21*x1) (m22*x2)) = x0*x1*x2*(d3 m00 m01 m02 m10 m11 m12 m20 m21 m22) := by simp only [d2, d3, d4]; grind
  rw [e01, e02, e12, e012] at Z
  rw [e0, e1, e2] at Z
  have C := comb3 x0 x1 x2 y0 y1 y2 m00 m11 m22 (d2 m00 m01 m10 m11) (d2 m00 m02 m20 m22) (d2 m11 m12 m21 m22) (d3 m00 m01 m02 m10 m11 m12 m20 m21 m22) Z
  have full : x0 = 0 ∨ x1 = 0 ∨ x2 = 0 := by
    have s0 := sq_nn x0
    have r0 : 0 ≤ -(x0*y0) := by omega
    have s1 := sq_nn x1
    have r1 : 0 ≤ -(x1*y1) := by omega
    have s2 := sq_nn x2
    have r2 : 0 ≤ -(x2*y2) := by omega
    have te := (nn2 (nn2 r0 r1) r2)
    have t0 := (nn2 (nn2 (nn2 s0 r1) r2) (Int.le_of_lt p0))
    have t1 := (nn2 (nn2 (nn2 r0 s1) r2) (Int.le_of_lt p1))
    have t2 := (nn2 (nn2 (nn2 r0 r1) s2) (Int.le_of_lt p2))
    have t01 := (nn2 (nn2 (nn2 s0 s1) r2) (Int.le_of_lt p01))
    have t02 := (nn2 (nn2 (nn2 s0 r1) s2) (Int.le_of_lt p02))
    have t12 := (nn2 (nn2 (nn2 r0 s1) s2) (Int.le_of_lt p12))
    have t012 := (nn2 (nn2 (nn2 s0 s1) s2) (Int.le_of_lt p012))
    have z : (x0*x0)*(x1*x1)*(x2*x2)*(d3 m00 m01 m02 m10 m11 m12 m20 m21 m22) = 0 := by omega
    have z2 := pz z p012
    simp only [Int.mul_eq_zero, or_self] at z2
    omega
  rcases full with rfl | rfl | rfl
  · have := pmx2 p1 p2 p12 (by rw [hy1] at q1; simpa using q1) (by rw [hy2] at q2; simpa using q2)
    omega
  · have := pmx2 p0 p2 p02 (by rw [hy0] at q0; simpa using q0) (by rw [hy2] at q2; simpa using q2)
    omega
  · have := pmx2 p0 p1 p01 (by rw [hy0] at q0; simpa using q0) (by rw [hy1] at q1; simpa using q1)
    omega
theorem zero4 (n00 n01 n02 n03 n10 n11 n12 n13 n20 n21 n22 n23 n30 n31 n32 n33 y0 y1 y2 y3 : Int) (hy0 : y0 = n00 + n01 + n02 + n03) (hy1 : y1 = n10 + n11 + n12 + n13) (hy2 : y2 = n20 + n21 + n22 + n23) (hy3 : y3 = n30 + n31 + n32 + n33) : (-y0)*(-y1)*(-y2)*(-y3) + (-y1)*(-y2)*(-y3)*n00 + (-y0)*(-y2)*(-y3)*n11 + (-y0)*(-y1)*(-y3)*n22 + (-y0)*(-y1)*(-y2)*n33 + (-y2)*(-y3)*(d2 n00 n01 n10 n11) + (-y1)*(-y3)*(d2 n00 n02 n20 n22) + (-y1)*(-y2)*(d2 n00 n03 n30 n33) + (-y0)*(-y3)*(d2 n11 n12 n21 n22) + (-y0)*(-y2)*(d2 n11 n13 n31 n33) + (-y0)*(-y1)*(d2 n22 n23 n32 n33) + (-y3)*(d3 n00 n01 n02 n10 n11 n12 n20 n21 n22) + (-y2)*(d3 n00 n01 n03 n10 n11 n13 n30 n31 n33) + (-y1)*(d3 n00 n02 n03 n20 n22 n23 n30 n32 n33) + (-y0)*(d3 n11 n12 n13 n21 n22 n23 n31 n32 n33) + (d4 n00 n01 n02 n03 n10 n11 n12 n13 n20 n21 n22 n23 n30 n31 n32 n33) = 0 := by
  subst hy0 hy1 hy2 hy3
  simp only [d2, d3, d4]
  grind

theorem comb4 (x0 x1 x2 x3 y0 y1 y2 y3 D0 D1 D2 D3 D01 D02 D03 D12 D13 D23 D012 D013 D023 D123 D0123 : Int) (h : (-y0)*(-y1)*(-y2)*(-y3) + (-y1)*(-y2)*(-y3)*(x0*D0) + (-y0)*(-y2)*(-y3)*(x1*D1) + (-y0)*(-y1)*(-y3)*(x2*D2) + (-y0)*(-y1)*(-y2)*(x3*D3) + (-y2)*(-y3)*(x0*x1*D01) + (-y1)*(-y3)*(x0*x2*D02) + (-y1)*(-y2)*(x0*x3*D03) + (-y0)*(-y3)*(x1*x2*D12) + (-y0)*(-y2)*(x1*x3*D13) + (-y0)*(-y1)*(x2*x3*D23) + (-y3)*(x0*x1*x2*D012) + (-y2)*(x0*x1*x3*D013) + (-y1)*(x0*x2*x3*D023) + (-y0)*(x1*x2*x3*D123) + (x0*x1*x2*x3*D0123) = 0) : (-(x0*y0))*(-(x1*y1))*(-(x2*y2))*(-(x3*y3)) + (x0*x0)*(-(x1*y1))*(-(x2*y2))*(-(x3*y3))*D0 + (-(x0*y0))*(x1*x1)*(-(x2*y2))*(-(x3*y3))*D1 + (-(x0*y0))*(-(x1*y1))*(x2*x2)*(-(x3*y3))*D2 + (-(x0*y0))*(-(x1*y1))*(-(x2*y2))*(x3*x3)*D3 + (x0*x0)*(x1*x1)*(-(x2*y2))*(-(x3*y3))*D01 + (x0*x0)*(-(x1*y1))*(x2*x2)*(-(x3*y3))*D02 + (x0*x0)*(-(x1*y1))*(-(x2*y2))*(x3*x3)*D03 + (-(x0*y0))*(x1*x1)*(x2*x2)*(-(x3*y3))*D12 + (-(x0*y0))*(x1*x1)*(-(x2*y2))*(x3*x3)*D13 + (-(x0*y0))*(-(x1*y1))*(x2*x2)*(x3*x3)*D23 + (x0*x0)*(x1*x1)*(x2*x2)*(-(x3*y3))*D012 + (x0*x0)*(x1*x1)*(-(x2*y2))*(x3*x3)*D013 + (x0*x0)*(-(x1*y1))*(x2*x2)*(x3*x3)*D023 + (-(x0*y0))*(x1*x1)*(x2*x2)*(x3*x3)*D123 + (x0*x0)*(x1*x1)*(x2*x2)*(x3*x3)*D0123 = 0 := by
  have e : (-(x0*y0))*(-(x1*y1))*(-(x2*y2))*(-(x3*y3)) + (x0*x0)*(-(x1*y1))*(-(x2*y2))*(-(x3*y3))*D0 + (-(x0*y0))*(x1*x1)*(-(x2*y2))*(-(x3*y3))*D1 + (-(x0*y0))*(-(x1*y1))*(x2*x2)*(-(x3*y3))*D2 + (-(x0*y0))*(-(x1*y1))*(-(x2*y2))*(x3*x3)*D3 + (x0*x0)*(x1*x1)*(-(x2*y2))*(-(x3*y3))*D01 + (x0*x0)*(-(x1*y1))*(x2*x2)*(-(x3*y3))*D02 + (x0*x0)*(-(x1*y1))*(-(x2*y2))*(x3*x3)*D03 + (-(x0*y0))*(x1*x1)*(x2*x2)*(-(x3*y3))*D12 + (-(x0*y0))*(x1*x1)*(-(x2*y2))*(x3*x3)*D13 + (-(x0*y0))*(-(x1*y1))*(x2*x2)*(x3*x3)*D23 + (x0*x0)*(x1*x1)*(x2*x2)*(-(x3*y3))*D012 + (x0*x0)*(x1*x1)*(-(x2*y2))*(x3*x3)*D013 + (x0*x0)*(-(x1*y1))*(x2*x2)*(x3*x3)*D023 + (-(x0*y0))*(x1*x1)*(x2*x2)*(x3*x3)*D123 + (x0*x0)*(x1*x1)*(x2*x2)*(x3*x3)*D0123 = (x0*x1*x2*x3) * ((-y0)*(-y1)*(-y2)*(-y3) + (-y1)*(-y2)*(-y3)*(x0*D0) + (-y0)*(-y2)*(-y3)*(x1*D1) + (-y0)*(-y1)*(-y3)*(x2*D2) + (-y0)*(-y1)*(-y2)*(x3*D3) + (-y2)*(-y3)*(x0*x1*D01) + (-y1)*(-y3)*(x0*x2*D02) + (-y1)*(-y2)*(x0*x3*D03) + (-y0)*(-y3)*(x1*x2*D12) + (-y0)*(-y2)*(x1*x3*D13) + (-y0)*(-y1)*(x2*x3*D23) + (-y3)*(x0*x1*x2*D012) + (-y2)*(x0*x1*x3*D013) + (-y1)*(x0*x2*x3*D023) + (-y0)*(x1*x2*x3*D123) + (x0*x1*x2*x3*D0123)) := by grind
  rw [e, h, Int.mul_zero]

theorem pmx4 {m00 m01 m02 m03 m10 m11 m12 m13 m20 m21 m22 m23 m30 m31 m32 m33 x0 x1 x2 x3 : Int} (p0 : 0 < m00) (p1 : 0 < m11) (p2 : 0 < m22) (p3 : 0 < m33) (p01 : 0 < (d2 m00 m01 m10 m11)) (p02 : 0 < (d2 m00 m02 m20 m22)) (p03 : 0 < (d2 m00 m03 m30 m33)) (p12 : 0 < (d2 m11 m12 m21 m22)) (p13 : 0 < (d2 m11 m13 m31 m33)) (p23 : 0 < (d2 m22 m23 m32 m33)) (p012 : 0 < (d3 m00 m01 m02 m10 m11 m12 m20 m21 m22)) (p013 : 0 < (d3 m00 m01 m03 m10 m11 m13 m30 m31 m33)) (p023 : 0 < (d3 m00 m02 m03 m20 m22 m23 m30 m32 m33)) (p123 : 0 < (d3 m11 m12 m13 m21 m22 m23 m31 m32 m33)) (p0123 : 0 < (d4 m00 m01 m02 m03 m10 m11 m12 m13 m20 m21 m22 m23 m30 m31 m32 m33)) (q0 : x0 * (m00 * x0 + m01 * x1 + m02 * x2 + m03 * x3) ≤ 0) (q1 : x1 * (m10 * x0 + m11 * x1 + m12 * x2 + m13 * x3) ≤ 0) (q2 : x2 * (m20 * x0 + m21 * x1 + m22 * x2 + m23 * x3) ≤ 0) (q3 : x3 * (m30 * x0 + m31 * x1 + m32 * x2 + m33 * x3) ≤ 0) : x0 = 0 ∧ x1 = 0 ∧ x2 = 0 ∧ x3 = 0 := by
  obtain ⟨y0, hy0⟩ : ∃ y, y = m00 * x0 + m01 * x1 + m02 * x2 + m03 * x3 := ⟨_, rfl⟩
  obtain ⟨y1, hy1⟩ : ∃ y, y = m10 * x0 + m11 * x1 + m12 * x2 + m13 * x3 := ⟨_, rfl⟩
  obtain ⟨y2, hy2⟩ : ∃ y, y = m20 * x0 + m21 * x1 + m22 * x2 + m23 * x3 := ⟨_, rfl⟩
  obtain ⟨y3, hy3⟩ : ∃ y, y = m30 * x0 + m31 * x1 + m32 * x2 + m33 * x3 := ⟨_, rfl⟩
  rw [← hy0] at q0; rw [← hy1] at q1; rw [← hy2] at q2; rw [← hy3] at q3
  have Z := zero4 (m00*x0) (m01*x1) (m02*x2) (m03*x3) (m10*x0) (m11*x1) (m12*x2) (m13*x3) (m20*x0) (m21*x1) (m22*x2) (m23*x3) (m30*x0) (m31*x1) (m32*x2) (m33*x3) y0 y1 y2 y3 hy0 hy1 hy2 hy3
  have e0 : m00*x0 = x0*m00 := Int.mul_comm _ _
  have e1 : m11*x1 = x1*m11 := Int.mul_comm _ _
  have e2 : m22*x2 = x2*m22 := Int.mul_comm _ _
  have e3 : m33*x3 = x3*m33 := Int.mul_comm _ _
  have e01 : (d2 (m00*x0) (m01*x1) (m10*x0) (m11*x1)) = x0*x1*(d2 m00 m01 m10 m11) := by simp only [d2, d3, d4]; grind
  have e02 : (d2 (m00*x0) (m02*x2) (m20*x0) (m22*x2)) = x0*x2*(d2 m00 m02 m20 m22) := by simp only [d2, d3, d4]; grind
  have e03 : (d2 (m00*x0) (m03*x3) (m30*x0) (m33*x3)) = x0*x3*(d2 m00 m03 m30 m33) := by simp only [d2, d3, d4]; grind
  have e12 : (d2 (m11*x1) (m12*x2) (m21*x1) (m22*x2)) = x1*x2*(d2 m11 m12 m21 m22) := by simp only [d2, d3, d4]; grind
  have e13 : (d2 (m11*x1) (m13*x3) (m31*x1) (m33*x3)) = x1*x3*(d2 m11 m13 m31 m33) := by simp only [d2, d3, d4]; grind
  have e23 : (d2 (m22*x2) (m23*x3) (m32*x2) (m33*x3)) = x2*x3*(d2 m22 m23 m32 m33) := by simp only [d2, d3, d4]; grind
  have e012 : (d3 (m00*x0) (m01*x1) (m02*x2) (m10*x0) (m11*x1) (m12*x2) (m20*x0) (m21*x1) (m22*x2)) = x0*x1*x2*(d3 m00 m01 m02 m10 m11 m12 m20 m21 m22) := by simp only [d2, d3, d4]; grind
  have e013 : (d3 (m00*x0) (m01*x1) (m03*x3) (m10*x0) (m11*x1) (m13*x3) (m30*x0) (m31*x1) (m33*x3)) = x0*x1*x3*(d3 m00 m01 m03 m10 m11 m13 m30 m31 m33) := by simp only [d2, d3, d4]; grind
  have e023 : (d3 (m00*x0) (m02*x2) (m03*x3) (m20*x0) (m22*x2) (m23*x3) (m30*x0) (m32*x2) (m33*x3)) = x0*x2*x3*(d3 m00 m02 m03 m20 m22 m23 m30 m32 m33) := by simp only [d2, d3, d4]; grind
  have e123 : (d3 (m11*x1) (m12*x2) (m13*x3) (m21*x1) (m22*x2) (m23*x3) (m31*x1) (m32*x2) (m33*x3)) = x1*x2*x3*(d3 m11 m12 m13 m21 m22 m23 m31 m32 m33) := by simp only [d2, d3, d4]; grind
  have e0123 : (d4 (m00*x0) (m01*x1) (m02*x2) (m03*x3) (m10*x0) (m11*x1) (m12*x2) (m13*x3) (m20*x0) (m21*x1) (m22*x2) (m23*x3) (m30*x0) (m31*x1) (m32*x2) (m33*x3)) = x0*x1*x2*x3*(d4 m00 m01 m02 m03 m10 m11 m12 m13 m20 m21 m22 m23 m30 m31 m32 m33) := by simp only [d2, d3, d4]; grind
  rw [e01, e02, e03, e12, e13, e23, e012, e013, e023, e123, e0123] at Z
  rw [e0, e1, e2, e3] at Z
  have C := comb4 x0 x1 x2 x3 y0 y1 y2 y3 m00 m11 m22 m33 (d2 m00 m01 m10 m11) (d2 m00 m02 m20 m22) (d2 m00 m03 m30 m33) (d2 m11 m12 m21 m22) (d2 m11 m13 m31 m33) (d2 m22 m23 m32 m33) (d3 m00 m01 m02 m10 m11 m12 m20 m21 m22) (d3 m00 m01 m03 m10 m11 m13 m30 m31 m33) (d3 m00 m02 m03 m20 m22 m23 m30 m32 m33) (d3 m11 m12 m13 m21 m22 m23 m31 m32 m33) (d4 m00 m01 m02 m03 m10 m11 m12 m13 m20 m21 m22 m23 m30 m31 m32 m33) Z
  have full : x0 = 0 ∨ x1 = 0 ∨ x2 = 0 ∨ x3 = 0 := by
    have s0 := sq_nn x0
    have r0 : 0 ≤ -(x0*y0) := by omega
    have s1 := sq_nn x1
    have r1 : 0 ≤ -(x1*y1) := by omega
    have s2 := sq_nn x2
    have r2 : 0 ≤ -(x2*y2) := by omega
    have s3 := sq_nn x3
    have r3 : 0 ≤ -(x3*y3) := by omega
    have te := (nn2 (nn2 (nn2 r0 r1) r2) r3)
    have t0 := (nn2 (nn2 (nn2 (nn2 s0 r1) r2) r3) (Int.le_of_lt p0))
    have t1 := (nn2 (nn2 (nn2 (nn2 r0 s1) r2) r3) (Int.le_of_lt p1))
    have t2 := (nn2 (nn2 (nn2 (nn2 r0 r1) s2) r3) (Int.le_of_lt p2))
    have t3 := (nn2 (nn2 (nn2 (nn2 r0 r1) r2) s3) (Int.le_of_lt p3))
    have t01 := (nn2 (nn2 (nn2 (nn2 s0 s1) r2) r3) (Int.le_of_lt p01))
    have t02 := (nn2 (nn2 (nn2 (nn2 s0 r1) s2) r3) (Int.le_of_lt p02))
    have t03 := (nn2 (nn2 (nn2 (nn2 s0 r1) r2) s3) (Int.le_of_lt p03))
    have t12 := (nn2 (nn2 (nn2 (nn2 r0 s1) s2) r3) (Int.le_of_lt p12))
    have t13 := (nn2 (nn2 (nn2 (nn2 r0 s1) r2) s3) (Int.le_of_lt p13))
    have t23 := (nn2 (nn2 (nn2 (nn2 r0 r1) s2) s3) (Int.le_of_lt p23))
    have t012 := (nn2 (nn2 (nn2 (nn2 s0 s1) s2) r3) (Int.le_of_lt p012))
    have t013 := (nn2 (nn2 (nn2 (nn2 s0 s1) r2) s3) (Int.le_of_lt p013))
    have t023 := (nn2 (nn2 (nn2 (nn2 s0 r1) s2) s3) (Int.le_of_lt p023))
    have t123 := (nn2 (nn2 (nn2 (nn2 r0 s1) s2) s3) (Int.le_of_lt p123))
    have t0123 := (nn2 (nn2 (nn2 (nn2 s0 s1) s2) s3) (Int.le_of_lt p0123))
    have z : (x0*x0)*(x1*x1)*(x2*x2)*(x3*x3)*(d4 m00 m01 m02 m03 m10 m11 m12 m13 m20 m21 m22 m23 m30 m31 m32 m33) = 0 := by omega
    have z2 := pz z p0123
    simp only [Int.mul_eq_zero, or_self] at z2
    omega
  rcases full with rfl | rfl | rfl | rfl
  · have := pmx3 p1 p2 p3 p12 p13 p23 p123 (by rw [hy1] at q1; simpa using q1) (by rw [hy2] at q2; simpa using q2) (by rw [hy3] at q3; simpa using q3)
    omega
  · have := pmx3 p0 p2 p3 p02 p03 p23 p023 (by rw [hy0] at q0; simpa using q0) (by rw [hy2] at q2; simpa using q2) (by rw [hy3] at q3; simpa using q3)
    omega
  · have := pmx3 p0 p1 p3 p01 p03 p13 p013 (by rw [hy0] at q0; simpa using q0) (by rw [hy1] at q1; simpa using q1) (by rw [hy3] at q3; simpa using q3)
    omega
  · have := pmx3 p0 p1 p2 p01 p02 p12 p012 (by rw [hy0] at q0; simpa using q0) (by rw [hy1] at q1; simpa using q1) (by rw [hy2] at q2; simpa using q2)
    omega
end L94
namespace L94
open PySem hiding ret
open Py L2
theorem allUp_iff {n : Nat} {T : List (List Int)} : allUp n T = true ↔ wrongs n T = [] := by
  unfold allUp wrongs
  rw [List.all_eq_true, List.filter_eq_nil_iff]
  constructor
  · intro h l hl
    have := h l hl
    simp only [decide_eq_true_eq] at *
    omega
  · intro h l hl
    have := h l hl
    simp only [decide_eq_true_eq] at *
    omega
theorem up_pm {n : Nat} {T : List (List Int)} {l : List Nat} (h : allUp n T = true) (hl : l ∈ lotsU n) : 0 < pm T l := by
  unfold allUp at h
  rw [List.all_eq_true] at h
  simpa using h l (List.mem_mergeSort.mpr hl)
theorem pmat : ∀ {n : Nat} {T : List (List Int)} {x : List Int}, Sq n T → n ≤ 4 → allUp n T = true → x.length = n → (∀ i ∈ List.range n, x.getD i 0 * dot (T.getD i []) x ≤ 0) → ∀ a ∈ x, a = 0
  | 0, T, x, _, _, _, hx, _ => by rw [List.length_eq_zero_iff.mp hx]; simp
  | 1, T, x, h, _, hu, hx, hq => by
    obtain ⟨a, rfl, _⟩ := sq1 h
    obtain ⟨x0, rfl⟩ := l1 hx
    have p0 := up_pm hu (l := [0]) (by decide)
    have q0 := hq 0 (by decide)
    have := pmx1 (m := a) (x := x0) (by simpa [pm, sub, at2, detM] using p0) (by simpa [dot] using q0)
    simpa using this
  | 2, T, x, h, _, hu, hx, hq => by
    obtain ⟨a, b, c, d, rfl, _⟩ := sq2 h
    obtain ⟨x0, x1, rfl⟩ := l2 hx
    have p0 := up_pm hu (l := [0]) (by decide)
    have p1 := up_pm hu (l := [1]) (by decide)
    have p01 := up_pm hu (l := [0, 1]) (by decide)
    have q0 := hq 0 (by decide)
    have q1 := hq 1 (by decide)
    simp [pm, sub, at2, detM] at p0 p1 p01
    have := pmx2 (x0 := x0) (x1 := x1) p0 p1 p01 (by simpa [dot, Int.add_assoc] using q0) (by simpa [dot, Int.add_assoc] using q1)
    simpa using this
  | 3, T, x, h, _, hu, hx, hq => by
    obtain ⟨a, b, c, d, e, f, g, i, j, rfl, _⟩ := sq3 h
    obtain ⟨x0, x1, x2, rfl⟩ := l3 hx
    have p0 := up_pm hu (l := [0]) (by decide)
    have p1 := up_pm hu (l := [1]) (by decide)
    have p2 := up_pm hu (l := [2]) (by decide)
    have p01 := up_pm hu (l := [0, 1]) (by decide)
    have p02 := up_pm hu (l := [0, 2]) (by decide)
    have p12 := up_pm hu (l := [1, 2]) (by decide)
    have p012 := up_pm hu (l := [0, 1, 2]) (by decide)
    have q0 := hq 0 (by decide)
    have q1 := hq 1 (by decide)
    have q2 := hq 2 (by decide)
    simp [pm, sub, at2, detM] at p0 p1 p01 p2 p02 p12 p012
    have := pmx3 (x0 := x0) (x1 := x1) (x2 := x2) p0 p1 p2 p01 p02 p12 p012 (by simpa [dot, Int.add_assoc] using q0) (by simpa [dot, Int.add_assoc] using q1) (by simpa [dot, Int.add_assoc] using q2)
    simpa using this
  | 4, T, x, h, _, hu, hx, hq => by
    obtain ⟨a0, a1, a2, a3, b0, b1, b2, b3, c0, c1, c2, c3, e0, e1, e2, e3, rfl, _⟩ := sq4 h
    obtain ⟨x0, x1, x2, x3, rfl⟩ := l4 hx
    have p0 := up_pm hu (l := [0]) (by decide)
    have p1 := up_pm hu (l := [1]) (by decide)
    have p2 := up_pm hu (l := [2]) (by decide)
    have p3 := up_pm hu (l := [3]) (by decide)
    have p01 := up_pm hu (l := [0, 1]) (by decide)
    have p02 := up_pm hu (l := [0, 2]) (by decide)
    have p03 := up_pm hu (l := [0, 3]) (by decide)
    have p12 := up_pm hu (l := [1, 2]) (by decide)
    have p13 := up_pm hu (l := [1, 3]) (by decide)
    have p23 := up_pm hu (l := [2, 3]) (by decide)
    have p012 := up_pm hu (l := [0, 1, 2]) (by decide)
    have p013 := up_pm hu (l := [0, 1, 3]) (by decide)
    have p023 := up_pm hu (l := [0, 2, 3]) (by decide)
    have p123 := up_pm hu (l := [1, 2, 3]) (by decide)
    have p0123 := up_pm hu (l := [0, 1, 2, 3]) (by decide)
    have q0 := hq 0 (by decide)
    have q1 := hq 1 (by decide)
    have q2 := hq 2 (by decide)
    have q3 := hq 3 (by decide)
    simp [pm, sub, at2, detM] at p0 p1 p2 p3 p01 p02 p03 p12 p13 p23 p012 p013 p023 p123 p0123
    have := pmx4 (x0 := x0) (x1 := x1) (x2 := x2) (x3 := x3) p0 p1 p2 p3 p01 p02 p03 p12 p13 p23 p012 p013 p023 p123 p0123 (by simpa [dot, Int.add_assoc] using q0) (by simpa [dot, Int.add_assoc] using q1) (by simpa [dot, Int.add_assoc] using q2) (by simpa [dot, Int.add_assoc] using q3)
    simpa using this
  | n + 5, _, _, _, h4, _, _, _ => absurd h4 (by omega)
theorem tail_lot {n l0 : Nat} {r : List Nat} (h4 : n ≤ 4) (h : l0 :: r ∈ lots n) : r ∈ lots n := by
  have key : ∀ n, n ≤ 4 → ∀ l ∈ lotsU n, l.drop 1 ∈ lotsU n := by
    intro n hn
    match n, hn with
    | 0, _ => decide
    | 1, _ => decide
    | 2, _ => decide
    | 3, _ => decide
    | 4, _ => decide
  exact List.mem_mergeSort.mpr (key n h4 _ (mem_lotsU h))
structure Told (n : Nat) (T : List (List Int)) (l0 : Nat) (r : List Nat) (x : List Int) : Prop where
  lot : Lot n (l0 :: r)
  len : x.length = n
  bx : Bx x
  out : ∀ i ∈ List.range n, i ∉ l0 :: r → x.getD i 0 = 0
  rest : ∀ i ∈ r, dot (T.getD i []) x = 0
  head : dot (T.getD l0 []) x ≤ 0
  pos : 0 < x.getD l0 0
theorem told_of {n : Nat} {T : List (List Int)} {l1 : List Nat} {S : List (List Nat)} {m : List Nat} (h : Sq n T) (h4 : n ≤ 4) (hw : wrongs n T = l1 :: S) (hm : m ∈ l1 :: S) (hd : W.minD (lenLot l1) (S.map lenLot) = lenLot m) : ∃ l0 r, m = l0 :: r ∧ Told n T l0 r (fmX n T m) := by
  have mw : m ∈ wrongs n T := hw ▸ hm
  obtain ⟨ml, mp⟩ := List.mem_filter.mp mw
  have lm := lots_lot ml
  cases m with
  | nil => simp [pm, sub, detM] at mp
  | cons l0 r =>
    refine ⟨l0, r, rfl, ?_⟩
    obtain ⟨a1, a2, a3, a4⟩ := min_ok h h4 ml
    obtain ⟨b1, b2, -⟩ := fm_eqX h h4 lm
    have rl := tail_lot h4 ml
    have rp : 0 < pm T r := by
      rcases Int.lt_or_le 0 (pm T r) with q | q
      · exact q
      · have : r ∈ wrongs n T := List.mem_filter.mpr ⟨rl, by simpa using q⟩
        have := minD_len S l1 (l0 :: r) hd r (hw ▸ this)
        rw [List.length_cons] at this
        omega
    exact ⟨lm, b1, b2, a1, a2, by rw [a3]; simpa using mp, by rw [a4]; exact rp⟩
theorem Told.sign {n l0 : Nat} {T : List (List Int)} {r : List Nat} {x : List Int} (t : Told n T l0 r x) (h : Sq n T) {i : Nat} (hi : i < n) : x.getD i 0 * (led T x).getD i 0 ≤ 0 := by
  rw [led_at h hi]
  by_cases e : i = l0
  · subst e
    exact Int.mul_nonpos_of_nonneg_of_nonpos (Int.le_of_lt t.pos) t.head
  · by_cases e2 : i ∈ r
    · rw [t.rest i e2]; simp
    · rw [t.out i (List.mem_range.mpr hi) (by simp [e, e2])]; simp
theorem asc_lot : ∀ {l : List Nat}, l.Pairwise (· < ·) → asc (natI l) = true
  | [], _ => rfl
  | [a], _ => rfl
  | a :: b :: l, h => by
    have ih := asc_lot (List.Pairwise.of_cons h)
    have ab : a < b := (List.pairwise_cons.mp h).1 b (by simp)
    show ((natI (a :: b :: l)).zip ((natI (a :: b :: l)).drop 1)).all _ = true
    simp only [natI, List.map_cons, List.drop_succ_cons, List.drop_zero, List.zip_cons_cons, List.all_cons, Bool.and_eq_true, decide_eq_true_eq]
    refine ⟨by omega, ?_⟩
    have : ((natI (b :: l)).zip ((natI (b :: l)).drop 1)).all (fun p => decide (p.1 < p.2)) = true := ih
    simpa [natI] using this
def toldD (m : List Nat) (x : List Int) : D := .tuple [.str "turned", lotD m, tupI x]
theorem inL_nat (i : Nat) (l : List Nat) : inL i (natI l) = decide (i ∈ l) := by
  unfold inL natI
  rw [List.any_map]
  by_cases e : i ∈ l
  · rw [decide_eq_true e, List.any_eq_true]
    exact ⟨i, e, by simp⟩
  · rw [decide_eq_false e, List.any_eq_false]
    intro z hz
    have : z ≠ i := fun q => e (q ▸ hz)
    simp only [Function.comp_apply, decide_eq_true_eq]
    omega
theorem Told.gd {n l0 : Nat} {T : List (List Int)} {r : List Nat} {x : List Int} (t : Told n T l0 r x) (h4 : n ≤ 4) : GdP (toldD (l0 :: r) x) := by
  refine gd_tuple fun d hd => ?_
  rcases List.mem_cons.mp hd with q | q
  · rw [q]; exact ok_not shp_turned rfl
  · rcases List.mem_cons.mp q with q | q
    · rw [q]; exact ok_lot t.lot h4
    · rw [List.mem_singleton.mp q]; exact ok_ints (by have := t.len; omega) t.bx
theorem Told.verdict {n l0 : Nat} {T : List (List Int)} {r : List Nat} {x : List Int} (t : Told n T l0 r x) (h : Sq n T) (h4 : n ≤ 4) : verdict n T (toldD (l0 :: r) x) = .none := by
  have hw : (dInts (natI (l0 :: r))).all (wholeIn n) = true := by
    rw [dInts_nat, List.all_map, List.all_eq_true]
    intro i hi
    have := t.lot.2.1 i hi
    simp only [Function.comp_apply, wholeIn, decide_eq_true_eq]; omega
  have hx : (dInts x).all wholeB = true := by
    rw [dInts, List.all_map, List.all_eq_true]
    intro i hi; rfl
  have hf : formOk n (toldD (l0 :: r) x) = true := by
    show (PyData.eqv (.str "turned") (.str "turned") && ((dInts (natI (l0 :: r))).all (wholeIn n) && (match intsD (dInts (natI (l0 :: r))) with | some is => asc is | none => false)) && (decide ((dInts x).length = n) && (dInts x).all wholeB)) = true
    have ha := asc_lot t.lot.2.2
    rw [intsD_dInts, hw, hx, dInts_len, t.len]
    simp only [ha]
    simp [PyData.eqv]
  have hi : isAb (toldD (l0 :: r) x) = false := rfl
  unfold L94.verdict
  rw [hi, if_neg (by decide), hf, if_pos rfl]
  show (match intsD (dInts (natI (l0 :: r))), intsD (dInts x) with | some is, some x => verd n T x is | _, _ => formD) = _
  rw [intsD_dInts, intsD_dInts]
  show verd n T x (natI (l0 :: r)) = .none
  have nz : (x.all fun a => decide (a = 0)) = false := by
    rw [List.all_eq_false]
    have ll : l0 < x.length := by rw [t.len]; exact t.lot.2.1 l0 (by simp)
    refine ⟨x.getD l0 0, List.mem_of_getElem? (getD_some ll), ?_⟩
    have := t.pos
    simp only [decide_eq_true_eq]; omega
  have n1 : (List.range n).filter (pO x (natI (l0 :: r))) = [] := by
    rw [List.filter_eq_nil_iff]
    intro i hi
    unfold pO
    rw [inL_nat]
    by_cases e : i ∈ l0 :: r
    · simp [e]
    · rw [t.out i hi e]; simp
  have n2 : (List.range n).filter (pS T x) = [] := by
    rw [List.filter_eq_nil_iff]
    intro i hi
    have := t.sign h (List.mem_range.mp hi)
    unfold pS
    simp only [decide_eq_true_eq]; omega
  unfold verd
  rw [nz, if_neg (by decide), n1, n2]
theorem above_verdict {n : Nat} {T : List (List Int)} (hu : allUp n T = true) : verdict n T aboveD = .none := by
  have : isAb aboveD = true := by show PyData.eqv (.str "above") (.str "above") = true; simp [PyData.eqv]
  unfold verdict
  rw [this, if_pos rfl, hu, if_pos rfl]
theorem above_gd : GdP aboveD := gd_tuple fun d hd => by rw [List.mem_singleton.mp hd]; exact ok_not shp_above rfl
end L94
namespace L94
open PySem hiding ret
open Py L2
def q1f1 : Py.Env → M Out := (sAsg 3 (eCallS 1 1 F__law_draw_table (aCons (eCallS 1 1 F__law_pick (aCons (eC (.int 3)) aNil)) aNil)))
def q1f2 : Py.Env → M Out := (sPar3 4 5 6 (aCons (cal cLen (aCons (eVar 3) aNil)) (aCons (eCall 1 F__law_lots (aCons (cal cLen (aCons (eVar 3) aNil)) aNil)) (aCons (cal cRepr (aCons (eVar 3) aNil)) aNil))))
def q1f3 : Py.Env → M Out := (sAsg 7 (mkL (eLc (itSeq (eVar 5)) (tgN 8) cYes (eTup (aCons (eVar 8) (aCons (eCall 2 F__law_within (aCons (eVar 3) (aCons (eVar 8) aNil))) aNil))) [8])))
def q1f4 : Py.Env → M Out := (sIf (bOr (tst (bin gNe (cal cRepr (aCons (eCall 1 F_determinants_within (aCons (eVar 3) aNil)) aNil)) (cal cRepr (aCons (cal cTup (aCons (eVar 7) aNil)) aNil)))) (tst (bin gNe (cal cRepr (aCons (eVar 3) aNil)) (eVar 6)))) (sRet (eC (.bool false))) sNx)
def q1f5 : Py.Env → M Out := (sTgt (bin gIx (eVar 7) (eCallS 1 1 F__law_pick (aCons (cal cLen (aCons (eVar 7) aNil)) aNil))) (tgTup 2 (tgsCons (tgN 8) (tgsCons (tgN 9) tgsNil))))
def q1f6 : Py.Env → M Out := (sAsg 10 (cal cAll (aCons (mkL (eLc (itSeq (eVar 7)) (tgTup 2 (tgsCons (tgN 16) (tgsCons (tgN 15) tgsNil))) cYes (bin gGt (eVar 15) (eC (.int 0))) [16, 15])) aNil)))
def q1f7 : Py.Env → M Out := (sIf (bOr (tst (bin gNe (cal cRepr (aCons (eCall 2 F_determinant_within (aCons (eVar 3) (aCons (eVar 8) aNil))) aNil)) (cal cRepr (aCons (eVar 9) aNil)))) (tst (bin gNe (cal cRepr (aCons (eCall 1 F_is_above (aCons (eVar 3) aNil)) aNil)) (cal cRepr (aCons (eVar 10) aNil))))) (sRet (eC (.bool false))) sNx)
def q1f8 : Py.Env → M Out := (sAsg 11 (cal cTup (aCons (mkL (eLc (itRng1 (aCons (eVar 4) aNil)) (tgN 17) cYes (bin gSub (eCallS 1 1 F__law_pick (aCons (eC (.int 7)) aNil)) (eC (.int 3))) [17])) aNil)))
def q1f9 : Py.Env → M Out := (sAsg 12 (cal cTup (aCons (mkL (eLc (itSeq (eVar 3)) (tgN 18) cYes (cal cSum (aCons (mkL (eLc (itZip (aCons (eVar 18) (aCons (eVar 11) aNil))) (tgTup 2 (tgsCons (tgN 19) (tgsCons (tgN 20) tgsNil))) cYes (bin gMulX (eVar 19) (eVar 20)) [19, 20])) aNil)) [18])) aNil)))
def q1f10 : Py.Env → M Out := (sIf (tst (bin gNe (cal cRepr (aCons (eCall 2 F_led_row (aCons (eVar 3) (aCons (eVar 11) aNil))) aNil)) (cal cRepr (aCons (eVar 12) aNil)))) (sRet (eC (.bool false))) sNx)
def q1f11 : Py.Env → M Out := (sIf (bAnd (tru (eVar 10)) (bAnd (tst (cal cAny (aCons (mkL (eLc (itSeq (eVar 11)) (tgN 16) cYes (bin gNe (eVar 16) (eC (.int 0))) [16])) aNil))) (tst (cal cAll (aCons (mkL (eLc (itZip (aCons (eVar 11) (aCons (eVar 12) aNil))) (tgTup 2 (tgsCons (tgN 16) (tgsCons (tgN 15) tgsNil))) cYes (bin gLe (bin gMulX (eVar 16) (eVar 15)) (eC (.int 0))) [16, 15])) aNil))))) (sRet (eC (.bool false))) sNx)
def q1f12 : Py.Env → M Out := (sAsg 13 (eCall 1 F_turned_paper (aCons (eVar 3) aNil)))
def q1f13a : Py.Env → M Out := (sIf (tst (bin gNe (cal cRepr (aCons (eVar 13) aNil)) (cal cRepr (aCons (eTup (aCons (eC (.str "above")) aNil)) aNil)))) (sRet (eC (.bool false))) sNx)
def q1f13b1 : Py.Env → M Out := (sAsg 14 (bin gIx (cal (cBest PySem.W.minD) (aCons (mkL (eLc (itSeq (eVar 7)) (tgTup 2 (tgsCons (tgN 16) (tgsCons (tgN 15) tgsNil))) (tst (bin gLe (eVar 15) (eC (.int 0)))) (eTup (aCons (cal cLen (aCons (eVar 16) aNil)) (aCons (eVar 16) aNil))) [16, 15])) aNil)) (eC (.int 1))))
def q1f13b2 : Py.Env → M Out := (sIf (bOr (tst (bin gNe (eSl (eVar 13) oNo (oPart (eC (.int 2)))) (eTup (aCons (eC (.str "turned")) (aCons (eVar 14) aNil))))) (tst (cal cAll (aCons (mkL (eLc (itSeq (bin gIx (eVar 13) (eC (.int 2)))) (tgN 16) cYes (bin gEq (eVar 16) (eC (.int 0))) [16])) aNil)))) (sRet (eC (.bool false))) sNx)
def q1f13b3 : Py.Env → M Out := (sAsg 15 (cal cTup (aCons (mkL (eLc (itSeq (eVar 3)) (tgN 18) cYes (cal cSum (aCons (mkL (eLc (itZip (aCons (eVar 18) (aCons (bin gIx (eVar 13) (eC (.int 2))) aNil))) (tgTup 2 (tgsCons (tgN 19) (tgsCons (tgN 20) tgsNil))) cYes (bin gMulX (eVar 19) (eVar 20)) [19, 20])) aNil)) [18])) aNil)))
def q1f13b4 : Py.Env → M Out := (sIf (bOr (tst (cal cAny (aCons (mkL (eLc (itZip (aCons (bin gIx (eVar 13) (eC (.int 2))) (aCons (eVar 15) aNil))) (tgTup 2 (tgsCons (tgN 16) (tgsCons (tgN 21) tgsNil))) cYes (bin gGt (bin gMulX (eVar 16) (eVar 21)) (eC (.int 0))) [16, 21])) aNil))) (tst (bin gLe (bin gIx (bin gIx (eVar 13) (eC (.int 2))) (bin gIx (eVar 14) (eC (.int 0)))) (eC (.int 0))))) (sRet (eC (.bool false))) sNx)
def q1f13b5 : Py.Env → M Out := (sIf (bOr (tst (cal cAny (aCons (mkL (eLc (itSeq (eSl (eVar 14) (oPart (eC (.int 1))) oNo)) (tgN 17) cYes (bin gNe (bin gIx (eVar 15) (eVar 17)) (eC (.int 0))) [17])) aNil))) (tst (cal cAny (aCons (mkL (eLc (itRng1 (aCons (eVar 4) aNil)) (tgN 17) (tst (bin (gIn true) (eVar 17) (eVar 14))) (bin gNe (bin gIx (bin gIx (eVar 13) (eC (.int 2))) (eVar 17)) (eC (.int 0))) [17])) aNil)))) (sRet (eC (.bool false))) sNx)
def q1f13b : Py.Env → M Out := (sSeq q1f13b1 (sSeq q1f13b2 (sSeq q1f13b3 (sSeq q1f13b4 q1f13b5))))
def q1f13 : Py.Env → M Out := (sIf (tru (eVar 10)) q1f13a q1f13b)
def q1f14 : Py.Env → M Out := (sIf (tst (bin gNotN (eCall 2 F_judge_turned (aCons (eVar 3) (aCons (eVar 13) aNil))) (eC .none))) (sRet (eC (.bool false))) sNx)
def q1f : Py.Env → M Out := (sSeq q1f1 (sSeq q1f2 (sSeq q1f3 (sSeq q1f4 (sSeq q1f5 (sSeq q1f6 (sSeq q1f7 (sSeq q1f8 (sSeq q1f9 (sSeq q1f10 (sSeq q1f11 (sSeq q1f12 (sSeq q1f13 q1f14)))))))))))))
def q1 : Py.Env → M Out := (sFor (itRng1 (aCons (eC (.int 3)) aNil)) (tgN 2) q1f)
theorem b_law_eq : b_law = (sSeq q1 (sRet (eC (.bool true)))) := rfl
structure St (ρ : Py.Env) : Prop where
  len : ρ.length = 22
  src : ρ[1]? = some (some .none)
theorem St.set {ρ : Py.Env} (h : St ρ) {i : Nat} {v : Option D} (hi : i ≠ 1) : St (ρ.set i v) := ⟨by rw [List.length_set, h.len], by rw [List.getElem?_set_ne hi, h.src]⟩
theorem tg2 {i j : Nat} {a b : D} {ρ : Py.Env} : tgTup 2 (tgsCons (tgN i) (tgsCons (tgN j) tgsNil)) (.tuple [a, b]) ρ = ret ((ρ.set i (some a)).set j (some b)) := rfl
theorem rk_dT {n : Nat} {T : List (List Int)} (h : Sq n T) (h4 : n ≤ 4) : rk 2 (4 * ((4 * (60 + 5) + 3) + 2) + 3) (dT T) :=
  rk_tuple (fun d hd => by
    obtain ⟨r, hr, rfl⟩ := List.mem_map.mp hd
    exact rk_ints (k := 60) (n := 4) (h.2 r hr).2 (by decide) (by have := (h.2 r hr).1; omega)) (by rw [List.length_map, h.1]; exact h4)
theorem rk_lot {n : Nat} {l : List Nat} (h : Lot n l) (h4 : n ≤ 4) : rk 1 (4 * (10 + 5) + 3) (lotD l) :=
  rk_ints (k := 10) (fun x hx => by
    obtain ⟨i, hi, rfl⟩ := List.mem_map.mp hx
    have := h.2.1 i hi
    show ((i : Int)).natAbs ≤ 2 ^ 10
    omega) (by decide) (by rw [natI, List.length_map]; have := h.1; omega)
theorem rk_pm {n : Nat} {T : List (List Int)} {l : List Nat} (h : Sq n T) (h4 : n ≤ 4) (hl : Lot n l) : rk 0 1003 (.int (pm T l)) :=
  rk_int (k := 1000) (Nat.le_of_lt (bd_det (by have := hl.1; omega) (sq_sub h hl.2.1 hl.2.1 rfl))) (by decide)
def tab (n : Nat) (T : List (List Int)) : List D := (lots n).map fun l => .tuple [lotD l, .int (pm T l)]
theorem lots_le {n : Nat} (h4 : n ≤ 4) : (lots n).length ≤ 16 := by
  rw [lots_len]
  exact Nat.le_trans (Nat.pow_le_pow_right (by decide) h4) (by decide)
theorem rk_tab {n : Nat} {T : List (List Int)} (h : Sq n T) (h4 : n ≤ 4) : rk 3 (16 * ((2 * (1003 + 2) + 3) + 2) + 3) (.tuple (tab n T)) :=
  rk_tuple (m := 2) (fun d hd => by
    obtain ⟨l, hl, rfl⟩ := List.mem_map.mp hd
    refine rk_tuple (m := 1) (n := 2) (fun d hd => ?_) (Nat.le_refl 2)
    rcases List.mem_cons.mp hd with q | q
    · rw [q]; exact (rk_lot (lots_lot hl) h4).mono (by decide) (by decide)
    · rw [List.mem_singleton.mp q]; exact (rk_pm h h4 (lots_lot hl)).mono (by decide) (by decide)) (by rw [tab, List.length_map]; exact lots_le h4)
section
variable {ρ : Py.Env} {n : Nat} {T : List (List Int)}
theorem f2_eq (h : Sq n T) (h4 : n ≤ 4) (h3 : ρ[3]? = some (some (dT T))) : q1f2 ρ = ret (.nx (((ρ.set 4 (some (.int n))).set 5 (some (.list ((lots n).map lotD)))).set 6 (some (.str (dT T).shown)))) := by
  have c0 : cal cLen (aCons (eVar 3) aNil) ρ = ret (.int n) := by rw [x_cal, args_1 h3, bnd_ret', dT_len h]
  have c2 : eCall 1 F__law_lots (aCons (cal cLen (aCons (eVar 3) aNil)) aNil) ρ = ret (.list ((lots n).map lotD)) := by
    refine (eCall_1 (x := .int n) _ ?_).trans (lawlots_eq (by omega))
    rw [x_aCons, c0, bnd_ret', x_aNil, bnd_ret']
  have c3 : cal cRepr (aCons (eVar 3) aNil) ρ = ret (.str (dT T).shown) := by rw [x_cal, args_1 h3, bnd_ret', cRepr_ok (rk_dT h h4).ok]
  simp only [q1f2, x_sPar3, x_aCons, x_aNil, c0, c2, c3, bnd_ret', par3_3]
theorem f3_eq (s : St ρ) (h : Sq n T) (h4 : n ≤ 4) (h3 : ρ[3]? = some (some (dT T))) (h5 : ρ[5]? = some (some (.list ((lots n).map lotD)))) : q1f3 ρ = ret (.nx (ρ.set 7 (some (.list (tab n T))))) := by
  rw [q1f3, x_sAsg, comp_all lotD (fun l => .tuple [lotD l, .int (pm T l)]) (lots n) (by rw [x_itSeq, var_eq h5, bnd_ret', x_seqD_l]) (fun l hl => ⟨_, rfl, eTup_2 (var_eq ?_) ((eCall_2 _ (args_2 ?_ ?_)).trans (laww_eq h h4 (lots_lot hl)))⟩), bnd_ret']
  · rfl
  all_goals first | (simp [List.getElem?_set, h3]; done) | (simp [List.getElem?_set, s.len]; done)
theorem f4_eq (h : Sq n T) (h4 : n ≤ 4) (h3 : ρ[3]? = some (some (dT T))) (h6 : ρ[6]? = some (some (.str (dT T).shown))) (h7 : ρ[7]? = some (some (.list (tab n T)))) : q1f4 ρ = ret (.nx ρ) := by
  have ok := (rk_dT h h4).ok
  have a : bin gNe (cal cRepr (aCons (eCall 1 F_determinants_within (aCons (eVar 3) aNil)) aNil)) (cal cRepr (aCons (cal cTup (aCons (eVar 7) aNil)) aNil)) ρ = ret (.bool false) :=
    rep_ne (d := .tuple (tab n T)) ((eCall_1 _ (args_1 h3)).trans (dets_eq h h4)) (by rw [x_cal, args_1 h7, bnd_ret', x_cTup_l]) (rk_tab h h4).ok
  have b : bin gNe (cal cRepr (aCons (eVar 3) aNil)) (eVar 6) ρ = ret (.bool false) := by
    rw [x_bin, x_cal, args_1 h3, bnd_ret', cRepr_ok ok, bnd_ret', var_eq h6, bnd_ret', gNe_rep ok]
  rw [q1f4, x_sIf, or_no (tst_b a) (tst_b b), bnd_ret', if_neg (by decide), x_sNx]
theorem f6_eq (s : St ρ) (h7 : ρ[7]? = some (some (.list (tab n T)))) : q1f6 ρ = ret (.nx (ρ.set 10 (some (.bool (allUp n T))))) := by
  have c : mkL (eLc (itSeq (eVar 7)) (tgTup 2 (tgsCons (tgN 16) (tgsCons (tgN 15) tgsNil))) cYes (bin gGt (eVar 15) (eC (.int 0))) [16, 15]) ρ = ret (.list ((lots n).map fun l => .bool (decide (0 < pm T l)))) :=
    comp_all (fun l => .tuple [lotD l, .int (pm T l)]) _ (lots n) (by rw [x_itSeq, var_eq h7, bnd_ret', x_seqD_l]; rfl) fun l hl => ⟨_, tg2, by
      rw [x_bin, var_eq (d := .int (pm T l)) (by simp [List.getElem?_set, s.len]), bnd_ret', x_eC, bnd_ret']
      rfl⟩
  rw [q1f6, x_sAsg, x_cal, x_aCons, c, bnd_ret', x_aNil, bnd_ret', bnd_ret', cAll_map, bnd_ret']
  rfl
theorem f7_eq {l : List Nat} (h : Sq n T) (h4 : n ≤ 4) (hl : Lot n l) (h3 : ρ[3]? = some (some (dT T))) (h8 : ρ[8]? = some (some (lotD l))) (h9 : ρ[9]? = some (some (.int (pm T l)))) (h10 : ρ[10]? = some (some (.bool (allUp n T)))) : q1f7 ρ = ret (.nx ρ) := by
  have a : bin gNe (cal cRepr (aCons (eCall 2 F_determinant_within (aCons (eVar 3) (aCons (eVar 8) aNil))) aNil)) (cal cRepr (aCons (eVar 9) aNil)) ρ = ret (.bool false) :=
    rep_ne ((eCall_2 _ (args_2 h3 h8)).trans (detw_eq h h4 hl)) (var_eq h9) (rk_pm h h4 hl).ok
  have b : bin gNe (cal cRepr (aCons (eCall 1 F_is_above (aCons (eVar 3) aNil)) aNil)) (cal cRepr (aCons (eVar 10) aNil)) ρ = ret (.bool false) :=
    rep_ne ((eCall_1 _ (args_1 h3)).trans (above_eq h h4)) (var_eq h10) (rk_bool _).ok
  rw [q1f7, x_sIf, or_no (tst_b a) (tst_b b), bnd_ret', if_neg (by decide), x_sNx]
theorem ledC_eq {e : Py.Env → M D} {x : List Int} (s : St ρ) (h : Sq n T) (hx : Bx x) (h3 : ρ[3]? = some (some (dT T))) (he : ∀ d, e ((ρ.set 18 none).set 18 (some d)) = ret (tupI x)) : cal cTup (aCons (mkL (eLc (itSeq (eVar 3)) (tgN 18) cYes (cal cSum (aCons (mkL (eLc (itZip (aCons (eVar 18) (aCons e aNil))) (tgTup 2 (tgsCons (tgN 19) (tgsCons (tgN 20) tgsNil))) cYes (bin gMulX (eVar 19) (eVar 20)) [19, 20])) aNil)) [18])) aNil) ρ = ret (tupI (led T x)) := by
  have c := comp_all (its := itSeq (eVar 3)) (tg := tgN 18) (vs := [18]) (ρ := ρ) (elt := (cal cSum (aCons (mkL (eLc (itZip (aCons (eVar 18) (aCons e aNil))) (tgTup 2 (tgsCons (tgN 19) (tgsCons (tgN 20) tgsNil))) cYes (bin gMulX (eVar 19) (eVar 20)) [19, 20])) aNil))) tupI (fun r => .int (dot r x)) T (by rw [x_itSeq, var_eq h3, bnd_ret']; rfl) (fun r hr => ⟨_, rfl, dot_comp (h.2 r hr).2 hx (by
      rw [x_itZip, x_aCons, var_eq (d := tupI r) (by simp [List.getElem?_set, s.len]), bnd_ret', x_aCons, x_wipeD_cons, x_wipeD_nil, he, bnd_ret', x_aNil, bnd_ret', bnd_ret', bnd_ret']
      rfl) (fun a b => by constructor <;> simp [List.getElem?_set, s.len])⟩)
  rw [x_cal, x_aCons, c, bnd_ret', x_aNil, bnd_ret', bnd_ret', x_cTup_l, tupI, dInts, led, List.map_map]
  rfl
theorem f9_eq {x : List Int} (s : St ρ) (h : Sq n T) (hx : Bx x) (h3 : ρ[3]? = some (some (dT T))) (h11 : ρ[11]? = some (some (tupI x))) : q1f9 ρ = ret (.nx (ρ.set 12 (some (tupI (led T x))))) := by
  rw [q1f9, x_sAsg, ledC_eq s h hx h3 fun d => var_eq (by simp [List.getElem?_set, h11]), bnd_ret']
theorem rk_led {x : List Int} (h : Sq n T) (h4 : n ≤ 4) (hx : Bx x) : rk 1 (4 * (300 + 5) + 3) (tupI (led T x)) :=
  rk_ints (fun y hy => by
    obtain ⟨r, hr, rfl⟩ := List.mem_map.mp hy
    have := (h.2 r hr).1
    exact dotB (h.2 r hr).2 hx (by omega)) (by decide) (by rw [led, List.length_map, h.1]; exact h4)
theorem f10_eq {x : List Int} (h : Sq n T) (h4 : n ≤ 4) (hx : Bx x) (h3 : ρ[3]? = some (some (dT T))) (h11 : ρ[11]? = some (some (tupI x))) (h12 : ρ[12]? = some (some (tupI (led T x)))) : q1f10 ρ = ret (.nx ρ) := by
  rw [q1f10, x_sIf, tst_b (rep_ne ((eCall_2 _ (args_2 h3 h11)).trans (led_eq h hx)) (var_eq h12) (rk_led h h4 hx).ok), bnd_ret', if_neg (by decide), x_sNx]
theorem all0 {x : List Int} {i v : Nat} {e : Py.Env → M D} (he : e ρ = ret (tupI x)) (hv : v < ρ.length) : mkL (eLc (itSeq e) (tgN v) cYes (bin gNe (eVar v) (eC (.int 0))) [v]) ρ = ret (.list (x.map fun a => .bool (!decide (a = 0)))) :=
  comp_all PyData.int (fun a => .bool (!decide (a = 0))) x (by rw [x_itSeq, he, bnd_ret']; rfl) fun a ha => ⟨_, rfl, by
    rw [x_bin, var_eq (d := .int a) (by simp [List.getElem?_set, hv]), bnd_ret', x_eC, bnd_ret']
    simp only [gNe, shp_int, Bool.and_self, if_true, eqv_int]⟩
theorem all0e {x : List Int} {v : Nat} {e : Py.Env → M D} (he : e ρ = ret (tupI x)) (hv : v < ρ.length) : mkL (eLc (itSeq e) (tgN v) cYes (bin gEq (eVar v) (eC (.int 0))) [v]) ρ = ret (.list (x.map fun a => .bool (decide (a = 0)))) :=
  comp_all PyData.int (fun a => .bool (decide (a = 0))) x (by rw [x_itSeq, he, bnd_ret']; rfl) fun a ha => ⟨_, rfl, by
    rw [x_bin, var_eq (d := .int a) (by simp [List.getElem?_set, hv]), bnd_ret', x_eC, bnd_ret']
    simp only [gEq, shp_int, Bool.and_self, if_true, eqv_int]⟩
theorem f11_eq {x : List Int} (s : St ρ) (h : Sq n T) (h4 : n ≤ 4) (hx : Bx x) (hl : x.length = n) (h10 : ρ[10]? = some (some (.bool (allUp n T)))) (h11 : ρ[11]? = some (some (tupI x))) (h12 : ρ[12]? = some (some (tupI (led T x)))) : q1f11 ρ = ret (.nx ρ) := by
  have c1 : tru (eVar 10) ρ = ret (allUp n T) := by rw [x_tru, var_eq h10, bnd_ret']; rfl
  have c2 : tst (cal cAny (aCons (mkL (eLc (itSeq (eVar 11)) (tgN 16) cYes (bin gNe (eVar 16) (eC (.int 0))) [16])) aNil)) ρ = ret (x.any fun a => !decide (a = 0)) :=
    tst_b (by rw [x_cal, x_aCons, all0 (i := 0) (var_eq h11) (by rw [s.len]; decide), bnd_ret', x_aNil, bnd_ret', bnd_ret', cAny_map])
  have c3 : tst (cal cAll (aCons (mkL (eLc (itZip (aCons (eVar 11) (aCons (eVar 12) aNil))) (tgTup 2 (tgsCons (tgN 16) (tgsCons (tgN 15) tgsNil))) cYes (bin gLe (bin gMulX (eVar 16) (eVar 15)) (eC (.int 0))) [16, 15])) aNil)) ρ = ret ((List.range n).all fun i => decide (x.getD i 0 * (led T x).getD i 0 ≤ 0)) := by
    refine tst_b ?_
    rw [x_cal, x_aCons, comp_all (fun i => PyData.tuple [.int (x.getD i 0), .int ((led T x).getD i 0)]) (fun i => .bool (decide (x.getD i 0 * (led T x).getD i 0 ≤ 0))) (List.range n) ?_ ?_, bnd_ret', x_aNil, bnd_ret', bnd_ret', cAll_map]
    · rw [x_itZip, args_2 h11 h12, bnd_ret', zip2_2]
      rw [show seqD (tupI x) = ret (dInts x) from rfl, bnd_ret', show seqD (tupI (led T x)) = ret (dInts (led T x)) from rfl, bnd_ret', zip_range x (led T x) (by rw [hl, led_len h]), hl]
    · intro i hi
      refine ⟨_, tg2, ?_⟩
      rw [x_bin, x_bin, var_eq (d := .int (x.getD i 0)) (by simp [List.getElem?_set, s.len]), bnd_ret', var_eq (d := .int ((led T x).getD i 0)) (by simp [List.getElem?_set, s.len]), bnd_ret', x_gMulX_i, if_pos (led_ok h h4 hx hl (List.mem_range.mp hi)), bnd_ret', x_eC, bnd_ret']
      rfl
  have key : (if allUp n T = true then (if (x.any fun a => !decide (a = 0)) = true then ret ((List.range n).all fun i => decide (x.getD i 0 * (led T x).getD i 0 ≤ 0)) else ret false) else ret false : M Bool) = ret false := by
    by_cases u : allUp n T = true
    · rw [if_pos u]
      by_cases z : (x.any fun a => !decide (a = 0)) = true
      · rw [if_pos z]
        congr 1
        rw [Bool.eq_false_iff]
        intro q
        rw [List.all_eq_true] at q
        have := pmat h h4 u hl fun i hi => by
          have := q i hi
          rw [led_at h (List.mem_range.mp hi)] at this
          simpa using this
        obtain ⟨a, ha, hz⟩ := List.any_eq_true.mp z
        simp [this a ha] at hz
      · rw [if_neg z]
    · rw [if_neg u]
  rw [q1f11, x_sIf, x_bAnd, c1, bnd_ret', x_bAnd, c2, bnd_ret', c3, key, bnd_ret', if_neg (by decide), x_sNx]
end
end L94
namespace L94
open PySem hiding ret
open Py L2
theorem bnd_app {α β : Type} (m : M α) (f : α → M β) (P : β → Prop) : bnd m f P = m (fun a => f a P) := rfl
mutual
theorem eqv_refl : ∀ d : D, d.canLay0 = true → PyData.eqv d d = true
  | .none, _ => by simp [PyData.eqv]
  | .bool _, _ => by simp [PyData.eqv]
  | .int _, _ => by simp [PyData.eqv]
  | .str _, _ => by simp [PyData.eqv]
  | .list xs, h => by simpa [PyData.eqv] using eqvAll_refl xs (by simpa [PyData.canLay0] using h)
  | .tuple xs, h => by simpa [PyData.eqv] using eqvAll_refl xs (by simpa [PyData.canLay0] using h)
  | .dict _, h => by simp [PyData.canLay0] at h
theorem eqvAll_refl : ∀ xs : List D, PyData.canLayAll0 xs = true → PyData.eqvAll xs xs = true
  | [], _ => by simp [PyData.eqvAll]
  | x :: xs, h => by
    have h' : x.canLay0 = true ∧ PyData.canLayAll0 xs = true := by simpa [PyData.canLayAll0] using h
    simp [PyData.eqvAll, eqv_refl x h'.1, eqvAll_refl xs h'.2]
end
theorem gNe_self {d : D} (h : shp d = true) : gNe d d = ret (.bool false) := by
  show (if (Py.shp d && Py.shp d) = true then ret (PyData.bool (!PyData.eqv d d)) else stuck) = _
  rw [h, Bool.and_self, if_pos rfl, eqv_refl d (shp_lay h)]
  rfl
section
variable {ρ : Py.Env} {n l0 : Nat} {T : List (List Int)} {r : List Nat} {x : List Int}
theorem g1_eq (s : St ρ) (h4 : n ≤ 4) {l1 m : List Nat} {S : List (List Nat)} (h7 : ρ[7]? = some (some (.list (tab n T)))) (hw : wrongs n T = l1 :: S) (hb : cBest W.minD [.list ((l1 :: S).map lenLot)] = ret (lenLot m)) : q1f13b1 ρ = ret (.nx (ρ.set 14 (some (lotD m)))) := by
  have c : mkL (eLc (itSeq (eVar 7)) (tgTup 2 (tgsCons (tgN 16) (tgsCons (tgN 15) tgsNil))) (tst (bin gLe (eVar 15) (eC (.int 0)))) (eTup (aCons (cal cLen (aCons (eVar 16) aNil)) (aCons (eVar 16) aNil))) [16, 15]) ρ = ret (.list ((wrongs n T).map lenLot)) := by
    refine comp_map (fun l => .tuple [lotD l, .int (pm T l)]) (fun l => decide (pm T l ≤ 0)) lenLot (lots n) (by rw [x_itSeq, var_eq h7, bnd_ret', x_seqD_l]; rfl) fun l hl => ⟨_, tg2, ?_, fun _ => ?_⟩
    · rw [x_tst, x_bin, var_eq (d := .int (pm T l)) (by simp [List.getElem?_set, s.len]), bnd_ret', x_eC, bnd_ret']
      rfl
    · have v : (((wipeD ρ [16, 15]).set 16 (some (lotD l))).set 15 (some (.int (pm T l))))[16]? = some (some (lotD l)) := by simp [List.getElem?_set, s.len]
      rw [x_eTup, x_aCons, x_cal, args_1 v, bnd_ret', lenD, bnd_ret', bnd_ret', bnd_ret', if_pos (show lenOk [PyData.int (l.length : Nat), lotD l].length = true from rfl)]
      rfl
  rw [q1f13b1, x_sAsg, x_bin, x_cal, x_aCons, c, bnd_ret', x_aNil, bnd_ret', bnd_ret', hw, hb, bnd_ret', x_eC, bnd_ret', show gIx (lenLot m) (.int 1) = ret (lotD m) from gIx_t (atI_nat (i := 1) rfl), bnd_ret']
theorem t2_eq (h13 : ρ[13]? = some (some (toldD (l0 :: r) x))) : bin gIx (eVar 13) (eC (.int 2)) ρ = ret (tupI x) := by
  rw [x_bin, var_eq h13, bnd_ret', x_eC, bnd_ret', show gIx (toldD (l0 :: r) x) (.int 2) = ret (tupI x) from gIx_t (atI_nat (i := 2) rfl)]
theorem shp_pair {m : List Nat} : shp (.tuple [.str "turned", lotD m]) = true := by
  have := layD (k := 1) (ds := [.str "turned", lotD m]) fun d hd => by
    rcases List.mem_cons.mp hd with q | q
    · rw [q]; exact ⟨shp_lay shp_turned, by simp [PyData.depth]⟩
    · rw [List.mem_singleton.mp q]; exact lay_ints _
  exact shp_of (by simpa [PyData.canLay0] using this.1) (by simp only [PyData.depth]; omega)
theorem g2_eq (s : St ρ) (t : Told n T l0 r x) (h13 : ρ[13]? = some (some (toldD (l0 :: r) x))) (h14 : ρ[14]? = some (some (lotD (l0 :: r)))) : q1f13b2 ρ = ret (.nx ρ) := by
  have a : bin gNe (eSl (eVar 13) oNo (oPart (eC (.int 2)))) (eTup (aCons (eC (.str "turned")) (aCons (eVar 14) aNil))) ρ = ret (.bool false) := by
    rw [x_bin, x_eSl, var_eq h13, bnd_ret', x_oNo, bnd_ret', x_oPart, x_eC, bnd_ret', toI_i, bnd_ret']
    rw [show gSl (toldD (l0 :: r) x) none (some 2) = ret (.tuple [.str "turned", lotD (l0 :: r)]) from rfl, bnd_ret', eTup_2 (x_eC _ _) (var_eq h14), bnd_ret', gNe_self shp_pair]
  have ll : l0 < x.length := by rw [t.len]; exact t.lot.2.1 l0 (by simp)
  have nz : (x.all fun a => decide (a = 0)) = false := by
    rw [List.all_eq_false]
    refine ⟨x.getD l0 0, List.mem_of_getElem? (getD_some ll), ?_⟩
    have := t.pos
    simp only [decide_eq_true_eq]; omega
  have b : cal cAll (aCons (mkL (eLc (itSeq (bin gIx (eVar 13) (eC (.int 2)))) (tgN 16) cYes (bin gEq (eVar 16) (eC (.int 0))) [16])) aNil) ρ = ret (.bool false) := by
    rw [x_cal, x_aCons, all0e (t2_eq h13) (by rw [s.len]; decide), bnd_ret', x_aNil, bnd_ret', bnd_ret', cAll_map, nz]
  rw [q1f13b2, x_sIf, or_no (tst_b a) (tst_b b), bnd_ret', if_neg (by decide), x_sNx]
theorem g3_eq (s : St ρ) (h : Sq n T) (t : Told n T l0 r x) (h3 : ρ[3]? = some (some (dT T))) (h13 : ρ[13]? = some (some (toldD (l0 :: r) x))) : q1f13b3 ρ = ret (.nx (ρ.set 15 (some (tupI (led T x))))) := by
  rw [q1f13b3, x_sAsg, ledC_eq s h t.bx h3 fun d => t2_eq (l0 := l0) (r := r) (by simp [List.getElem?_set, h13]), bnd_ret']
theorem head_ix {l0 : Nat} {r : List Nat} : gIx (lotD (l0 :: r)) (.int 0) = ret (.int (l0 : Int)) := gIx_t (atI_nat (i := 0) rfl)
theorem g4_eq (s : St ρ) (h : Sq n T) (h4 : n ≤ 4) (t : Told n T l0 r x) (h13 : ρ[13]? = some (some (toldD (l0 :: r) x))) (h14 : ρ[14]? = some (some (lotD (l0 :: r)))) (h15 : ρ[15]? = some (some (tupI (led T x)))) : q1f13b4 ρ = ret (.nx ρ) := by
  have a : cal cAny (aCons (mkL (eLc (itZip (aCons (bin gIx (eVar 13) (eC (.int 2))) (aCons (eVar 15) aNil))) (tgTup 2 (tgsCons (tgN 16) (tgsCons (tgN 21) tgsNil))) cYes (bin gGt (bin gMulX (eVar 16) (eVar 21)) (eC (.int 0))) [16, 21])) aNil) ρ = ret (.bool false) := by
    rw [x_cal, x_aCons, comp_all (fun i => PyData.tuple [.int (x.getD i 0), .int ((led T x).getD i 0)]) (fun i => .bool (decide (0 < x.getD i 0 * (led T x).getD i 0))) (List.range n) ?_ ?_, bnd_ret', x_aNil, bnd_ret', bnd_ret', cAny_map]
    · congr 2
      rw [List.any_eq_false]
      intro i hi
      have := t.sign h (List.mem_range.mp hi)
      simp only [decide_eq_true_eq]; omega
    · rw [x_itZip, x_aCons, t2_eq h13, bnd_ret', args_1 h15, bnd_ret', bnd_ret', zip2_2]
      rw [show seqD (tupI x) = ret (dInts x) from rfl, bnd_ret', show seqD (tupI (led T x)) = ret (dInts (led T x)) from rfl, bnd_ret', zip_range x (led T x) (by rw [t.len, led_len h]), t.len]
    · intro i hi
      refine ⟨_, tg2, ?_⟩
      rw [x_bin, x_bin, var_eq (d := .int (x.getD i 0)) (by simp [List.getElem?_set, s.len]), bnd_ret', var_eq (d := .int ((led T x).getD i 0)) (by simp [List.getElem?_set, s.len]), bnd_ret', x_gMulX_i, if_pos (led_ok h h4 t.bx t.len (List.mem_range.mp hi)), bnd_ret', x_eC, bnd_ret']
      rfl
  have b : bin gLe (bin gIx (bin gIx (eVar 13) (eC (.int 2))) (bin gIx (eVar 14) (eC (.int 0)))) (eC (.int 0)) ρ = ret (.bool false) := by
    have ll : l0 < x.length := by rw [t.len]; exact t.lot.2.1 l0 (by simp)
    rw [x_bin, x_bin, t2_eq h13, bnd_ret', x_bin, var_eq h14, bnd_ret', x_eC, bnd_ret', head_ix, bnd_ret', ix_int ll, bnd_ret', bnd_ret']
    show ret (PyData.bool (decide (x.getD l0 0 ≤ 0))) = _
    have := t.pos
    rw [decide_eq_false (by omega)]
  rw [q1f13b4, x_sIf, or_no (tst_b a) (tst_b b), bnd_ret', if_neg (by decide), x_sNx]
theorem gNe0 (a : Int) : gNe (.int a) (.int 0) = ret (.bool (!decide (a = 0))) := by simp only [gNe, shp_int, Bool.and_self, if_true, eqv_int]
theorem g5_eq (s : St ρ) (h : Sq n T) (h4 : n ≤ 4) (t : Told n T l0 r x) (h4' : ρ[4]? = some (some (.int n))) (h13 : ρ[13]? = some (some (toldD (l0 :: r) x))) (h14 : ρ[14]? = some (some (lotD (l0 :: r)))) (h15 : ρ[15]? = some (some (tupI (led T x)))) : q1f13b5 ρ = ret (.nx ρ) := by
  have a : cal cAny (aCons (mkL (eLc (itSeq (eSl (eVar 14) (oPart (eC (.int 1))) oNo)) (tgN 17) cYes (bin gNe (bin gIx (eVar 15) (eVar 17)) (eC (.int 0))) [17])) aNil) ρ = ret (.bool false) := by
    rw [x_cal, x_aCons, comp_all natD (fun i => .bool (!decide ((led T x).getD i 0 = 0))) r ?_ ?_, bnd_ret', x_aNil, bnd_ret', bnd_ret', cAny_map]
    · congr 2
      rw [List.any_eq_false]
      intro i hi
      have hi' := t.lot.2.1 i (by simp [hi])
      rw [led_at h hi', t.rest i hi]
      simp
    · rw [x_itSeq, x_eSl, var_eq h14, bnd_ret', x_oPart, x_eC, bnd_ret', toI_i, bnd_ret', x_oNo, bnd_ret']
      show bnd (ret (PyData.tuple (cutD (dInts (natI (l0 :: r))) (some ((1 : Nat) : Int)) none))) seqD = _
      rw [cutD_from (by simp [natI]), bnd_ret', x_seqD_t, dInts_nat]
      rfl
    · intro i hi
      refine ⟨_, rfl, ?_⟩
      have hi' := t.lot.2.1 i (by simp [hi])
      rw [x_bin, x_bin, var_eq (d := tupI (led T x)) (by simp [List.getElem?_set, h15]), bnd_ret', var_eq (d := natD i) (by simp [List.getElem?_set, s.len]), bnd_ret', natD, ix_int (by rw [led_len h]; exact hi'), bnd_ret', x_eC, bnd_ret', gNe0]
  have b : cal cAny (aCons (mkL (eLc (itRng1 (aCons (eVar 4) aNil)) (tgN 17) (tst (bin (gIn true) (eVar 17) (eVar 14))) (bin gNe (bin gIx (bin gIx (eVar 13) (eC (.int 2))) (eVar 17)) (eC (.int 0))) [17])) aNil) ρ = ret (.bool false) := by
    rw [x_cal, x_aCons, comp_map natD (fun i => !inL i (natI (l0 :: r))) (fun i => .bool (!decide (x.getD i 0 = 0))) (List.range n) ?_ ?_, bnd_ret', x_aNil, bnd_ret', bnd_ret', cAny_map]
    · congr 2
      rw [List.any_eq_false]
      intro i hi
      obtain ⟨h1, h2⟩ := List.mem_filter.mp hi
      rw [inL_nat] at h2
      rw [t.out i h1 (by simpa using h2)]
      simp
    · rw [x_itRng1, args_1 h4', bnd_ret', rng1_i, if_pos (by simp [rngOk]; omega), Int.toNat_natCast]
      rw [rangeD_eq]
      congr 2
      funext i
      simp [natD]
    · intro i hi
      refine ⟨_, rfl, ?_, fun _ => ?_⟩
      · rw [x_tst, x_bin, var_eq (d := natD i) (by simp [List.getElem?_set, s.len]), bnd_ret', var_eq (d := lotD (l0 :: r)) (by simp [List.getElem?_set, h14]), bnd_ret', lotD, natD, in_eq, bnd_ret', toB_b]
      · rw [x_bin, x_bin, t2_eq (l0 := l0) (r := r) (x := x) (by simp [List.getElem?_set, h13]), bnd_ret', var_eq (d := natD i) (by simp [List.getElem?_set, s.len]), bnd_ret', natD, ix_int (by rw [t.len]; exact List.mem_range.mp hi), bnd_ret', x_eC, bnd_ret', gNe0]
  rw [q1f13b5, x_sIf, or_no (tst_b a) (tst_b b), bnd_ret', if_neg (by decide), x_sNx]
theorem ga_eq (h13 : ρ[13]? = some (some aboveD)) : q1f13a ρ = ret (.nx ρ) := by
  have ok : rok aboveD := by
    unfold rok
    decide +kernel
  rw [q1f13a, x_sIf, tst_b (rep_ne (var_eq h13) (eTup_1 (x_eC _ _)) ok), bnd_ret', if_neg (by decide), x_sNx]
theorem f14_eq {d : D} (h : Sq n T) (h4 : n ≤ 4) (hd : GdP d) (hv : verdict n T d = .none) (h3 : ρ[3]? = some (some (dT T))) (h13 : ρ[13]? = some (some d)) : q1f14 ρ = ret (.nx ρ) := by
  have a : bin gNotN (eCall 2 F_judge_turned (aCons (eVar 3) (aCons (eVar 13) aNil))) (eC .none) ρ = ret (.bool false) := by
    rw [x_bin, (eCall_2 _ (args_2 h3 h13)).trans (judge_eq h h4 hd), hv, bnd_ret', x_eC, bnd_ret']
    rfl
  rw [q1f14, x_sIf, tst_b a, bnd_ret', if_neg (by decide), x_sNx]
end
end L94
namespace L94
open PySem hiding ret
open Py L2
/-- the two branches on a told paper -/
theorem told_ok {ρ : Py.Env} {n : Nat} {T : List (List Int)} {P : Out → Prop} (s : St ρ) (h : Sq n T) (h4 : n ≤ 4) (h3 : ρ[3]? = some (some (dT T))) (h4' : ρ[4]? = some (some (.int n))) (h7 : ρ[7]? = some (some (.list (tab n T)))) (h10 : ρ[10]? = some (some (.bool (allUp n T)))) (k : ∀ ρ', St ρ' → P (.nx ρ')) : (sSeq q1f12 (sSeq q1f13 q1f14)) ρ P := by
  have c10 : ∀ ρ' : Py.Env, ρ'[10]? = some (some (.bool (allUp n T))) → tru (eVar 10) ρ' = ret (allUp n T) := fun ρ' e => by rw [x_tru, var_eq e, bnd_ret']; rfl
  rcases turned_eqX h h4 with ⟨e, e0⟩ | ⟨l1, S, m, w1, w2, w3, w4, e⟩
  · have u := allUp_iff.mpr e0
    have s1 : St (ρ.set 13 (some aboveD)) := s.set (by decide)
    have v13 : (ρ.set 13 (some aboveD))[13]? = some (some aboveD) := by simp [List.getElem?_set, s.len]
    have v3 : (ρ.set 13 (some aboveD))[3]? = some (some (dT T)) := by simp [List.getElem?_set, h3]
    rw [q1f12, asg_nx ((eCall_1 _ (args_1 h3)).trans e)]
    rw [seq_nx (ρ' := ρ.set 13 (some aboveD)), f14_eq h h4 above_gd (above_verdict u) v3 v13]
    · exact k _ s1
    · rw [q1f13, x_sIf, c10 _ (by simp [List.getElem?_set, h10]), bnd_ret', if_pos u, ga_eq v13]
  · obtain ⟨l0, r, rfl, t⟩ := told_of h h4 w1 w2 w3
    obtain ⟨x, hx⟩ : ∃ x, x = fmX n T (l0 :: r) := ⟨_, rfl⟩
    rw [← hx] at t e
    have u : ¬ allUp n T = true := fun q => by rw [allUp_iff.mp q] at w1; cases w1
    rw [q1f12, asg_nx ((eCall_1 _ (args_1 h3)).trans e)]
    have s1 : St (ρ.set 13 (some (toldD (l0 :: r) x))) := s.set (by decide)
    have s2 : St ((ρ.set 13 (some (toldD (l0 :: r) x))).set 14 (some (lotD (l0 :: r)))) := s1.set (by decide)
    have s3 : St (((ρ.set 13 (some (toldD (l0 :: r) x))).set 14 (some (lotD (l0 :: r)))).set 15 (some (tupI (led T x)))) := s2.set (by decide)
    have gb : q1f13b (ρ.set 13 (some (toldD (l0 :: r) x))) = ret (.nx (((ρ.set 13 (some (toldD (l0 :: r) x))).set 14 (some (lotD (l0 :: r)))).set 15 (some (tupI (led T x))))) := by
      rw [q1f13b, seq_nx (g1_eq s1 h4 (by simp [List.getElem?_set, h7]) w1 w4)]
      rw [seq_nx (g2_eq s2 t (by simp [List.getElem?_set, s.len]) (by simp [List.getElem?_set, s.len]))]
      rw [seq_nx (g3_eq s2 h t (by simp [List.getElem?_set, h3]) (by simp [List.getElem?_set, s.len]))]
      rw [seq_nx (g4_eq s3 h h4 t (by simp [List.getElem?_set, s.len]) (by simp [List.getElem?_set, s.len]) (by simp [List.getElem?_set, s.len]))]
      exact g5_eq s3 h h4 t (by simp [List.getElem?_set, h4']) (by simp [List.getElem?_set, s.len]) (by simp [List.getElem?_set, s.len]) (by simp [List.getElem?_set, s.len])
    rw [← toldD] at *
    rw [seq_nx (f := q1f13) (ρ := ρ.set 13 (some (toldD (l0 :: r) x))) (ρ' := ((ρ.set 13 (some (toldD (l0 :: r) x))).set 14 (some (lotD (l0 :: r)))).set 15 (some (tupI (led T x)))), f14_eq (n := n) (T := T) (d := toldD (l0 :: r) x) h h4 (t.gd h4) (t.verdict h h4) (by simp [List.getElem?_set, h3]) (by simp [List.getElem?_set, s.len])]
    · exact k _ s3
    · rw [q1f13, x_sIf, c10 _ (by simp [List.getElem?_set, h10]), bnd_ret', if_neg u, gb]
theorem f8_ok {ρ : Py.Env} {n : Nat} {P : Out → Prop} (s : St ρ) (h4 : n ≤ 4) (h4' : ρ[4]? = some (some (.int n))) (k : ∀ x : List Int, x.length = n → (∀ a ∈ x, -3 ≤ a ∧ a < 7 - 3) → P (.nx (ρ.set 11 (some (tupI x))))) : q1f8 ρ P := by
  have er : eLc (itRng1 (aCons (eVar 4) aNil)) (tgN 17) cYes (bin gSub (eCallS 1 1 F__law_pick (aCons (eC (.int 7)) aNil)) (eC (.int 3))) [17] ρ = lcW (tgN 17) cYes (bin gSub (eCallS 1 1 F__law_pick (aCons (eC (.int 7)) aNil)) (eC (.int 3))) (ρ.set 17 none) (rangeD 0 n) := by
    rw [x_eLc, x_itRng1, args_1 h4', bnd_ret', rng1_i, if_pos (by simp [rngOk]; omega), bnd_ret', Int.toNat_natCast]
    rfl
  rw [q1f8, x_sAsg, x_cal, x_aCons, x_mkL, er]
  show lcW (tgN 17) cYes (bin gSub (eCallS 1 1 F__law_pick (aCons (eC (.int 7)) aNil)) (eC (.int 3))) (ρ.set 17 none) (rangeD 0 n) (fun xs => P (.nx (ρ.set 11 (some (.tuple xs)))))
  refine draw_row (by decide) (by decide) (fun d => by simp [List.getElem?_set, s.src]) _ _ fun xs hx hb => ?_
  exact k xs (by rw [hx]; simp [rangeD]) hb
theorem f5_ok {ρ : Py.Env} {n : Nat} {T : List (List Int)} {P : Out → Prop} (s : St ρ) (h1 : 1 ≤ n) (h4 : n ≤ 4) (h7 : ρ[7]? = some (some (.list (tab n T)))) (k : ∀ l ∈ lots n, P (.nx ((ρ.set 8 (some (lotD l))).set 9 (some (.int (pm T l)))))) : q1f5 ρ P := by
  have cl : cal cLen (aCons (eVar 7) aNil) ρ = ret (.int ((2 ^ n : Nat) : Int)) := by
    rw [x_cal, args_1 h7, bnd_ret', x_cLen_l, tab, List.length_map, lots_len]
  have p1 : 2 ≤ 2 ^ n ∧ 2 ^ n ≤ 16 := by
    match n, h1, h4 with
    | 1, _, _ => decide
    | 2, _, _ => decide
    | 3, _, _ => decide
    | 4, _, _ => decide
  rw [q1f5, x_sTgt, x_bin, var_eq h7, bnd_ret', bnd_app, bnd_app]
  refine pick_c s.src cl (by omega) (by omega) fun j h5 h6 => ?_
  obtain ⟨m, rfl⟩ : ∃ m : Nat, j = (m : Int) := ⟨j.toNat, by omega⟩
  have lm : m < (lots n).length := by rw [lots_len]; omega
  have g : gIx (.list (tab n T)) (.int (m : Int)) = ret (.tuple [lotD ((lots n).getD m []), .int (pm T ((lots n).getD m []))]) := gIx_l (atI_nat (by rw [tab, List.getElem?_map, getD_some (d := []) lm]; rfl))
  rw [g]
  exact k _ (List.mem_of_getElem? (getD_some lm))
theorem small_B3 {x : List Int} (h : ∀ a ∈ x, -3 ≤ a ∧ a < 7 - 3) : Bx x := fun a ha => by
  have := h a ha
  exact (show B 2 a by unfold B; omega).mono (by decide)
theorem turn_ok {ρ : Py.Env} {P : Out → Prop} (s : St ρ) (k : ∀ ρ', St ρ' → P (.nx ρ')) : q1f ρ P := by
  have fin : ∀ n T, 1 ≤ n → n ≤ 4 → Sq n T → (sSeq q1f2 (sSeq q1f3 (sSeq q1f4 (sSeq q1f5 (sSeq q1f6 (sSeq q1f7 (sSeq q1f8 (sSeq q1f9 (sSeq q1f10 (sSeq q1f11 (sSeq q1f12 (sSeq q1f13 q1f14)))))))))))) (ρ.set 3 (some (dT T))) P := by
    intro n T h1 h4 h
    have s3 : St (ρ.set 3 (some (dT T))) := s.set (by decide)
    have v3 : (ρ.set 3 (some (dT T)))[3]? = some (some (dT T)) := by simp [List.getElem?_set, s.len]
    rw [seq_nx (f2_eq h h4 v3)]
    obtain ⟨ρ1, e1⟩ : ∃ ρ1, ρ1 = ((((ρ.set 3 (some (dT T))).set 4 (some (.int n))).set 5 (some (.list ((lots n).map lotD)))).set 6 (some (.str (dT T).shown))) := ⟨_, rfl⟩
    have s1 : St ρ1 := by rw [e1]; exact ((s3.set (by decide)).set (by decide)).set (by decide)
    have a3 : ρ1[3]? = some (some (dT T)) := by rw [e1]; simp [List.getElem?_set, s.len]
    have a4 : ρ1[4]? = some (some (.int n)) := by rw [e1]; simp [List.getElem?_set, s.len]
    have a5 : ρ1[5]? = some (some (.list ((lots n).map lotD))) := by rw [e1]; simp [List.getElem?_set, s.len]
    have a6 : ρ1[6]? = some (some (.str (dT T).shown)) := by rw [e1]; simp [List.getElem?_set, s.len]
    rw [← e1]
    rw [seq_nx (f3_eq s1 h h4 a3 a5), seq_nx (f4_eq h h4 (by simp [List.getElem?_set, a3]) (by simp [List.getElem?_set, a6]) (by simp [List.getElem?_set, s1.len]))]
    have s2 : St (ρ1.set 7 (some (.list (tab n T)))) := s1.set (by decide)
    rw [x_sSeq, bnd_app]
    refine f5_ok (n := n) (T := T) s2 h1 h4 (by simp [List.getElem?_set, s1.len]) fun l hl => ?_
    rw [oThen_nx]
    obtain ⟨ρ2, e2⟩ : ∃ ρ2, ρ2 = (((ρ1.set 7 (some (.list (tab n T)))).set 8 (some (lotD l))).set 9 (some (.int (pm T l)))) := ⟨_, rfl⟩
    have s4 : St ρ2 := by rw [e2]; exact (s2.set (by decide)).set (by decide)
    have b3 : ρ2[3]? = some (some (dT T)) := by rw [e2]; simp [List.getElem?_set, a3]
    have b4 : ρ2[4]? = some (some (.int n)) := by rw [e2]; simp [List.getElem?_set, a4]
    have b7 : ρ2[7]? = some (some (.list (tab n T))) := by rw [e2]; simp [List.getElem?_set, s1.len]
    have b8 : ρ2[8]? = some (some (lotD l)) := by rw [e2]; simp [List.getElem?_set, s1.len]
    have b9 : ρ2[9]? = some (some (.int (pm T l))) := by rw [e2]; simp [List.getElem?_set, s1.len]
    rw [← e2, seq_nx (f6_eq s4 b7)]
    rw [seq_nx (f7_eq h h4 (lots_lot hl) (by simp [List.getElem?_set, b3]) (by simp [List.getElem?_set, b8]) (by simp [List.getElem?_set, b9]) (by simp [List.getElem?_set, s4.len]))]
    have s5 : St (ρ2.set 10 (some (.bool (allUp n T)))) := s4.set (by decide)
    rw [x_sSeq, bnd_app]
    refine f8_ok (n := n) s5 h4 (by simp [List.getElem?_set, b4]) fun x hx hb => ?_
    rw [oThen_nx]
    have bx := small_B3 hb
    obtain ⟨ρ3, e3⟩ : ∃ ρ3, ρ3 = ((ρ2.set 10 (some (.bool (allUp n T)))).set 11 (some (tupI x))) := ⟨_, rfl⟩
    have s6 : St ρ3 := by rw [e3]; exact s5.set (by decide)
    have c3 : ρ3[3]? = some (some (dT T)) := by rw [e3]; simp [List.getElem?_set, b3]
    have c4 : ρ3[4]? = some (some (.int n)) := by rw [e3]; simp [List.getElem?_set, b4]
    have c7 : ρ3[7]? = some (some (.list (tab n T))) := by rw [e3]; simp [List.getElem?_set, b7]
    have c10 : ρ3[10]? = some (some (.bool (allUp n T))) := by rw [e3]; simp [List.getElem?_set, s4.len]
    have c11 : ρ3[11]? = some (some (tupI x)) := by rw [e3]; simp [List.getElem?_set, s4.len]
    rw [← e3, seq_nx (f9_eq s6 h bx c3 c11)]
    have s7 : St (ρ3.set 12 (some (tupI (led T x)))) := s6.set (by decide)
    have d3 : (ρ3.set 12 (some (tupI (led T x))))[3]? = some (some (dT T)) := by simp [List.getElem?_set, c3]
    have d4 : (ρ3.set 12 (some (tupI (led T x))))[4]? = some (some (.int n)) := by simp [List.getElem?_set, c4]
    have d7 : (ρ3.set 12 (some (tupI (led T x))))[7]? = some (some (.list (tab n T))) := by simp [List.getElem?_set, c7]
    have d10 : (ρ3.set 12 (some (tupI (led T x))))[10]? = some (some (.bool (allUp n T))) := by simp [List.getElem?_set, c10]
    have d11 : (ρ3.set 12 (some (tupI (led T x))))[11]? = some (some (tupI x)) := by simp [List.getElem?_set, c11]
    have d12 : (ρ3.set 12 (some (tupI (led T x))))[12]? = some (some (tupI (led T x))) := by simp [List.getElem?_set, s6.len]
    rw [seq_nx (f10_eq h h4 bx d3 d11 d12), seq_nx (f11_eq s7 h h4 bx hx d10 d11 d12)]
    exact told_ok s7 h h4 d3 d4 d7 d10 k
  rw [q1f, q1f1, x_sSeq, x_sAsg, bnd_app, bnd_app]
  refine draw_c s.src fun n T h1 h4 hT => ?_
  show bnd (ret (Out.nx (ρ.set 3 (some (dT T))))) _ P
  rw [bnd_ret', oThen_nx]
  exact fin n T h1 h4 hT
theorem loop_ok {P : Out → Prop} : ∀ (ds : List D) (ρ : Py.Env), St ρ → (∀ ρ', St ρ' → P (.nx ρ')) → forW (tgN 2) q1f ds ρ P
  | [], ρ, s, k => k ρ s
  | d :: ds, ρ, s, k => by
    rw [forW_cons, x_tgN, bnd_ret', bnd_app]
    refine turn_ok (s.set (by decide)) fun ρ' s' => ?_
    rw [oLoop_nx]
    exact loop_ok ds ρ' s' k
theorem law_true : b_law (none :: some .none :: List.replicate 20 none) (fun o => o = .rt (.bool true)) := by
  have e : itRng1 (aCons (eC (.int 3)) aNil) (none :: some .none :: List.replicate 20 none) = ret [.int 0, .int 1, .int 2] := by
    rw [x_itRng1, x_aCons, x_eC, bnd_ret', x_aNil, bnd_ret', bnd_ret', rng1_i, if_pos (by decide)]
    rfl
  rw [b_law_eq, q1, x_sSeq, x_sFor, e, bnd_ret', bnd_app]
  refine loop_ok _ _ ⟨rfl, rfl⟩ fun ρ s => ?_
  rw [oThen_nx, x_sRet, x_eC, bnd_ret']
  rfl
end L94
namespace L94
open PySem PySem.Spec PyProof.Rows L2 Py StX
def topS (i : Nat) : Stmt := PySem.Challenge.pw_cornersmet_k94_whole_determinants_within.main.body.getD i (.Pass ⟨0, 0, 0, 0⟩)
abbrev s_whole_determinant : Stmt := topS 1
theorem sc_whole_determinant : FnScope ["rows", "sign", "last", "n", "k", "some", "i", "j", "row"] ["rows"] (defScope s_whole_determinant) := ⟨rfl, rfl, rfl, by decide +kernel, rfl, by decide +kernel, by decide +kernel⟩
abbrev s_within : Stmt := topS 2
theorem sc_within : FnScope ["M", "lot", "i", "j"] ["M", "lot"] (defScope s_within) := ⟨rfl, rfl, rfl, by decide +kernel, rfl, by decide +kernel, by decide +kernel⟩
abbrev s_determinant_within : Stmt := topS 3
theorem sc_determinant_within : FnScope ["M", "lot"] ["M", "lot"] (defScope s_determinant_within) := ⟨rfl, rfl, rfl, by decide +kernel, rfl, by decide +kernel, by decide +kernel⟩
abbrev s_lots_below : Stmt := topS 4
theorem sc_lots_below : FnScope ["n", "found", "i", "lot"] ["n"] (defScope s_lots_below) := ⟨rfl, rfl, rfl, by decide +kernel, rfl, by decide +kernel, by decide +kernel⟩
abbrev s_determinants_within : Stmt := topS 5
theorem sc_determinants_within : FnScope ["M", "lot"] ["M"] (defScope s_determinants_within) := ⟨rfl, rfl, rfl, by decide +kernel, rfl, by decide +kernel, by decide +kernel⟩
abbrev s_is_above : Stmt := topS 6
theorem sc_is_above : FnScope ["M", "lot", "number"] ["M"] (defScope s_is_above) := ⟨rfl, rfl, rfl, by decide +kernel, rfl, by decide +kernel, by decide +kernel⟩
abbrev s_led_row : Stmt := topS 7
theorem sc_led_row : FnScope ["M", "x", "row", "a", "b"] ["M", "x"] (defScope s_led_row) := ⟨rfl, rfl, rfl, by decide +kernel, rfl, by decide +kernel, by decide +kernel⟩
abbrev s_first_wrong_lot : Stmt := topS 8
theorem sc_first_wrong_lot : FnScope ["M", "some", "lot", "number"] ["M"] (defScope s_first_wrong_lot) := ⟨rfl, rfl, rfl, by decide +kernel, rfl, by decide +kernel, by decide +kernel⟩
abbrev s_first_minors : Stmt := topS 9
theorem sc_first_minors : FnScope ["M", "lot", "found", "k", "j", "less", "i", "late"] ["M", "lot"] (defScope s_first_minors) := ⟨rfl, rfl, rfl, by decide +kernel, rfl, by decide +kernel, by decide +kernel⟩
abbrev s_turned_paper : Stmt := topS 10
theorem sc_turned_paper : FnScope ["M", "lot"] ["M"] (defScope s_turned_paper) := ⟨rfl, rfl, rfl, by decide +kernel, rfl, by decide +kernel, by decide +kernel⟩
abbrev s_is_whole_number : Stmt := topS 11
theorem sc_is_whole_number : FnScope ["value"] ["value"] (defScope s_is_whole_number) := ⟨rfl, rfl, rfl, by decide +kernel, rfl, by decide +kernel, by decide +kernel⟩
abbrev s_is_lot_below : Stmt := topS 12
theorem sc_is_lot_below : FnScope ["n", "value", "i", "j"] ["n", "value"] (defScope s_is_lot_below) := ⟨rfl, rfl, rfl, by decide +kernel, rfl, by decide +kernel, by decide +kernel⟩
abbrev s_is_turned_form : Stmt := topS 13
theorem sc_is_turned_form : FnScope ["n", "value", "x"] ["n", "value"] (defScope s_is_turned_form) := ⟨rfl, rfl, rfl, by decide +kernel, rfl, by decide +kernel, by decide +kernel⟩
abbrev s_judge_turned : Stmt := topS 14
theorem sc_judge_turned : FnScope ["M", "value", "lot", "x", "outside", "wrong", "one", "i", "late"] ["M", "value"] (defScope s_judge_turned) := ⟨rfl, rfl, rfl, by decide +kernel, rfl, by decide +kernel, by decide +kernel⟩
abbrev s__law_open_cells : Stmt := topS 16
theorem sc__law_open_cells : FnScope ["script", "stirred", "cell", "cells"] ["script"] (defScope s__law_open_cells) := ⟨rfl, rfl, rfl, by decide +kernel, rfl, by decide +kernel, by decide +kernel⟩
abbrev s__law_pick : Stmt := topS 17
theorem sc__law_pick : FnScope ["source", "most", "cells", "others", "lap", "stirred"] ["source", "most"] (defScope s__law_pick) := ⟨rfl, rfl, rfl, by decide +kernel, rfl, by decide +kernel, by decide +kernel⟩
abbrev s__law_draw_table : Stmt := topS 18
theorem sc__law_draw_table : FnScope ["source", "road", "n", "M", "i", "j", "row", "x", "late", "a", "b"] ["source", "road"] (defScope s__law_draw_table) := ⟨rfl, rfl, rfl, by decide +kernel, rfl, by decide +kernel, by decide +kernel⟩
abbrev s__law_determinant : Stmt := topS 19
theorem sc__law_determinant : FnScope ["rows", "total", "j", "less", "row"] ["rows"] (defScope s__law_determinant) := ⟨rfl, rfl, rfl, by decide +kernel, rfl, by decide +kernel, by decide +kernel⟩
abbrev s__law_within : Stmt := topS 20
theorem sc__law_within : FnScope ["M", "lot", "i", "j"] ["M", "lot"] (defScope s__law_within) := ⟨rfl, rfl, rfl, by decide +kernel, rfl, by decide +kernel, by decide +kernel⟩
abbrev s__law_lots : Stmt := topS 21
theorem sc__law_lots : FnScope ["n", "found", "i", "lot"] ["n"] (defScope s__law_lots) := ⟨rfl, rfl, rfl, by decide +kernel, rfl, by decide +kernel, by decide +kernel⟩
abbrev s_law : Stmt := topS 22
theorem sc_law : FnScope ["script", "source", "lap", "M", "n", "lots", "shown", "table", "lot", "number", "due", "x", "led", "told", "wrong", "late", "one", "i", "row", "a", "b", "two"] ["script"] (defScope s_law) := ⟨rfl, rfl, rfl, by decide +kernel, rfl, by decide +kernel, by decide +kernel⟩
structure Tx (K : PySem.W.Frag) (mg : Str → Option Value) where
  m_abs : mg "abs" = none
  m_all : mg "all" = none
  m_any : mg "any" = none
  m_bool : mg "bool" = none
  m_enumerate : mg "enumerate" = none
  m_int : mg "int" = none
  m_isinstance : mg "isinstance" = none
  m_len : mg "len" = none
  m_list : mg "list" = none
  m_min : mg "min" = none
  m_range : mg "range" = none
  m_repr : mg "repr" = none
  m_sorted : mg "sorted" = none
  m_sum : mg "sum" = none
  m_tuple : mg "tuple" = none
  m_zip : mg "zip" = none
  a_whole_determinant : Addr
  fd_whole_determinant : FuncData
  F_whole_determinant : Fun K "whole_determinant" "whole_determinant" s_whole_determinant a_whole_determinant fd_whole_determinant
  g_whole_determinant : mg "whole_determinant" = some (.ref a_whole_determinant)
  a_within : Addr
  fd_within : FuncData
  F_within : Fun K "within" "within" s_within a_within fd_within
  g_within : mg "within" = some (.ref a_within)
  a_determinant_within : Addr
  fd_determinant_within : FuncData
  F_determinant_within : Fun K "determinant_within" "determinant_within" s_determinant_within a_determinant_within fd_determinant_within
  g_determinant_within : mg "determinant_within" = some (.ref a_determinant_within)
  a_lots_below : Addr
  fd_lots_below : FuncData
  F_lots_below : Fun K "lots_below" "lots_below" s_lots_below a_lots_below fd_lots_below
  g_lots_below : mg "lots_below" = some (.ref a_lots_below)
  a_determinants_within : Addr
  fd_determinants_within : FuncData
  F_determinants_within : Fun K "determinants_within" "determinants_within" s_determinants_within a_determinants_within fd_determinants_within
  g_determinants_within : mg "determinants_within" = some (.ref a_determinants_within)
  a_is_above : Addr
  fd_is_above : FuncData
  F_is_above : Fun K "is_above" "is_above" s_is_above a_is_above fd_is_above
  g_is_above : mg "is_above" = some (.ref a_is_above)
  a_led_row : Addr
  fd_led_row : FuncData
  F_led_row : Fun K "led_row" "led_row" s_led_row a_led_row fd_led_row
  g_led_row : mg "led_row" = some (.ref a_led_row)
  a_first_wrong_lot : Addr
  fd_first_wrong_lot : FuncData
  F_first_wrong_lot : Fun K "first_wrong_lot" "first_wrong_lot" s_first_wrong_lot a_first_wrong_lot fd_first_wrong_lot
  g_first_wrong_lot : mg "first_wrong_lot" = some (.ref a_first_wrong_lot)
  a_first_minors : Addr
  fd_first_minors : FuncData
  F_first_minors : Fun K "first_minors" "first_minors" s_first_minors a_first_minors fd_first_minors
  g_first_minors : mg "first_minors" = some (.ref a_first_minors)
  a_turned_paper : Addr
  fd_turned_paper : FuncData
  F_turned_paper : Fun K "turned_paper" "turned_paper" s_turned_paper a_turned_paper fd_turned_paper
  g_turned_paper : mg "turned_paper" = some (.ref a_turned_paper)
  a_is_whole_number : Addr
  fd_is_whole_number : FuncData
  F_is_whole_number : Fun K "is_whole_number" "is_whole_number" s_is_whole_number a_is_whole_number fd_is_whole_number
  g_is_whole_number : mg "is_whole_number" = some (.ref a_is_whole_number)
  a_is_lot_below : Addr
  fd_is_lot_below : FuncData
  F_is_lot_below : Fun K "is_lot_below" "is_lot_below" s_is_lot_below a_is_lot_below fd_is_lot_below
  g_is_lot_below : mg "is_lot_below" = some (.ref a_is_lot_below)
  a_is_turned_form : Addr
  fd_is_turned_form : FuncData
  F_is_turned_form : Fun K "is_turned_form" "is_turned_form" s_is_turned_form a_is_turned_form fd_is_turned_form
  g_is_turned_form : mg "is_turned_form" = some (.ref a_is_turned_form)
  a_judge_turned : Addr
  fd_judge_turned : FuncData
  F_judge_turned : Fun K "judge_turned" "judge_turned" s_judge_turned a_judge_turned fd_judge_turned
  g_judge_turned : mg "judge_turned" = some (.ref a_judge_turned)
  a__law_open_cells : Addr
  fd__law_open_cells : FuncData
  F__law_open_cells : Fun K "_law_open_cells" "_law_open_cells" s__law_open_cells a__law_open_cells fd__law_open_cells
  g__law_open_cells : mg "_law_open_cells" = some (.ref a__law_open_cells)
  a__law_pick : Addr
  fd__law_pick : FuncData
  F__law_pick : Fun K "_law_pick" "_law_pick" s__law_pick a__law_pick fd__law_pick
  g__law_pick : mg "_law_pick" = some (.ref a__law_pick)
  a__law_draw_table : Addr
  fd__law_draw_table : FuncData
  F__law_draw_table : Fun K "_law_draw_table" "_law_draw_table" s__law_draw_table a__law_draw_table fd__law_draw_table
  g__law_draw_table : mg "_law_draw_table" = some (.ref a__law_draw_table)
  a__law_determinant : Addr
  fd__law_determinant : FuncData
  F__law_determinant : Fun K "_law_determinant" "_law_determinant" s__law_determinant a__law_determinant fd__law_determinant
  g__law_determinant : mg "_law_determinant" = some (.ref a__law_determinant)
  a__law_within : Addr
  fd__law_within : FuncData
  F__law_within : Fun K "_law_within" "_law_within" s__law_within a__law_within fd__law_within
  g__law_within : mg "_law_within" = some (.ref a__law_within)
  a__law_lots : Addr
  fd__law_lots : FuncData
  F__law_lots : Fun K "_law_lots" "_law_lots" s__law_lots a__law_lots fd__law_lots
  g__law_lots : mg "_law_lots" = some (.ref a__law_lots)
  a_law : Addr
  fd_law : FuncData
  F_law : Fun K "law" "law" s_law a_law fd_law
  g_law : mg "law" = some (.ref a_law)
section
variable {Pr : Program} {w : World} {K : PySem.W.Frag} {mg : Str → Option Value} {base : Heap}
theorem b_whole_determinant_T (T : Tx K mg) : Binds K T.fd_whole_determinant ["rows"] [] := T.F_whole_determinant.binds fun _ _ _ _ _ _ us hl => match us, hl with | [_], _ => rfl
set_option maxHeartbeats 4000000 in
theorem ok_whole_determinant (T : Tx K mg) : FnG Pr w K mg base 1 T.a_whole_determinant T.fd_whole_determinant ["rows"] (spP 1 F_whole_determinant) := by
  refine fn_g (k := 0) T.F_whole_determinant sc_whole_determinant (fun vs H Q E h => h.1) (fun cdv A outer s H vs Q E hgd hr h => ⟨_, (pss_cons (ps_asg (pe_tup (pa_cons (pe_lc (own := [("row", 8)]) rfl sc_whole_determinant.nd (piSeq (K := K) (pv 0)) (blkOk_by (by kernel_rfl)) (fun _ _ _ _ _ => (pg_name (i := 8) sc_whole_determinant.nd rfl (Or.inl rfl))) (fun _ _ _ _ _ => pts_nil) (fun _ _ _ _ _ => (pe_callTy (kLst (K := K)) (by rfl) T.m_list bt_list (pa_cons (pv 8) pa_nil)))) (pa_cons pe_int (pa_cons pe_int pa_nil)))) (pgTup (K := K) (n := 3) rfl (pgs_cons (pg_name (i := 0) sc_whole_determinant.nd rfl (Or.inr rfl)) (pgs_cons (pg_name (i := 1) sc_whole_determinant.nd rfl (Or.inl rfl)) (pgs_cons (pg_name (i := 2) sc_whole_determinant.nd rfl (Or.inl rfl)) pgs_nil)))))
  (pss_cons (ps_set (i := 3) sc_whole_determinant.nd rfl (Or.inl rfl) (pe_callB (kLen (K := K)) (by rfl) T.m_len bt_len (pa_cons (pv 0) pa_nil)))
  (pss_cons (ps_for PassesOwn.never rfl (pi_range1 (by rfl) T.m_range (pa_cons (pe_op op_sub (pv 3) pe_int) pa_nil)) (pg_name (i := 4) sc_whole_determinant.nd rfl (Or.inr rfl))
  (pss_cons (ps_setLc (i := 5) (own := [("i", 6)]) rfl sc_whole_determinant.nd rfl rfl (sw_true rfl rfl rfl (by decide +kernel)) (pi_range2 (by rfl) T.m_range (pa_cons (pv 4) (pa_cons (pv 3) pa_nil))) (blkOk_by (by kernel_rfl)) (fun _ _ _ _ _ => (pg_name (i := 6) sc_whole_determinant.nd rfl (Or.inl rfl))) (fun _ _ _ _ _ => (pts_one (pt_cmpR (kNe (K := K) hr) (pe_ix (kIx (K := K)) (pe_ix (kIx (K := K)) (pv 0) (pv 6) (fun _ _ => rfl)) (pv 4) (fun _ _ => rfl)) pe_int (nomark _)))) (fun _ _ _ _ _ => (pv 6)))
  (pss_cons (ps_if (pt_cmpR (kEq (K := K) hr) (pv 5) (pe_lst pa_nil) (nomark _)) (pss_one (ps_ret pe_int)) pss_nil)
  (pss_cons (ps_if (pt_cmpR (kNe (K := K) hr) (pe_ix (kIx (K := K)) (pv 5) pe_int (fun _ _ => rfl)) (pv 4) (nomark _)) (pss_cons (ps_asg (pe_tup (pa_cons (pe_ix (kIx (K := K)) (pv 0) (pe_ix (kIx (K := K)) (pv 5) pe_int (fun _ _ => rfl)) (fun _ _ => rfl)) (pa_cons (pe_ix (kIx (K := K)) (pv 0) (pv 4) (fun _ _ => rfl)) pa_nil))) (pgTup (K := K) (n := 2) rfl (pgs_cons (pg_sub (pv 0) (pv 4) set_list) (pgs_cons (pg_sub (pv 0) (pe_ix (kIx (K := K)) (pv 5) pe_int (fun _ _ => rfl)) set_list) pgs_nil))))
  (pss_one (ps_set (i := 1) sc_whole_determinant.nd rfl (Or.inl rfl) (pe_op op_sub pe_int (pv 1))))) pss_nil)
  (pss_cons (ps_for PassesOwn.never rfl (pi_range2 (by rfl) T.m_range (pa_cons (pe_op (kAdd (K := K)) (pv 4) pe_int) (pa_cons (pv 3) pa_nil))) (pg_name (i := 6) sc_whole_determinant.nd rfl (Or.inl rfl))
  (pss_one (ps_for PassesOwn.never rfl (pi_range2 (by rfl) T.m_range (pa_cons (pe_op (kAdd (K := K)) (pv 4) pe_int) (pa_cons (pv 3) pa_nil))) (pg_name (i := 7) sc_whole_determinant.nd rfl (Or.inl rfl))
  (pss_one (ps_asg (pe_op op_fdivF (pe_op op_sub (pe_op (kMul (K := K)) (pe_ix (kIx (K := K)) (pe_ix (kIx (K := K)) (pv 0) (pv 6) (fun _ _ => rfl)) (pv 7) (fun _ _ => rfl)) (pe_ix (kIx (K := K)) (pe_ix (kIx (K := K)) (pv 0) (pv 4) (fun _ _ => rfl)) (pv 4) (fun _ _ => rfl))) (pe_op (kMul (K := K)) (pe_ix (kIx (K := K)) (pe_ix (kIx (K := K)) (pv 0) (pv 6) (fun _ _ => rfl)) (pv 4) (fun _ _ => rfl)) (pe_ix (kIx (K := K)) (pe_ix (kIx (K := K)) (pv 0) (pv 4) (fun _ _ => rfl)) (pv 7) (fun _ _ => rfl)))) (pv 2)) (pg_sub (pe_ix (kIx (K := K)) (pv 0) (pv 6) (fun _ _ => rfl)) (pv 7) set_list))))))
  (pss_one (ps_set (i := 2) sc_whole_determinant.nd rfl (Or.inl rfl) (pe_ix (kIx (K := K)) (pe_ix (kIx (K := K)) (pv 0) (pv 4) (fun _ _ => rfl)) (pv 4) (fun _ _ => rfl)))))))))
  (pss_one (ps_ret (pe_ifExp (pt_cmpR op_gt (pv 3) pe_int (nomark _)) (pe_op (kMul (K := K)) (pv 1) (pe_ix (kIx (K := K)) (pe_ix (kIx (K := K)) (pv 0) (pe_op op_sub (pv 3) pe_int) (fun _ _ => rfl)) (pe_op op_sub (pv 3) pe_int) (fun _ _ => rfl))) pe_int)))))), ?_⟩)
  exact body_p (n := 1) (m := 8) (Γr := [.fro, .fro, .fro, .fro, .fro, .fro, .fro, .fro]) (Γl := []) (Γ' := []) (N := ["rows", "sign", "last", "n", "k", "some", "i", "j", "row"]) (sem_seq (sem_mk2 (i := 0) (j := 1) (l := 2) (r := 8) rfl rfl rfl (by decide) (by decide) rfl (by decide))
  (sem_seq (sem_asg (sem_len2 (i := 0) rfl) (by decide))
  (sem_seq (sem_for (semI_rng1 (sem_vcons ((sem_op oe_sub ((sem_var (i := 3) rfl)).v (sem_int).v)).v sem_vnil)) (sem_gname (i := 4) rfl)
  (sem_seq (sem_asg ((sem_lc (semIc_rng2 (sem_vcons ((sem_var (i := 4) rfl)).v (sem_vcons ((sem_var (i := 3) rfl)).v sem_vnil))) (sem_gname (i := 6) rfl) (sem_test ((sem_op oe_ne ((sem_ix2 (i := 0) rfl ((sem_var (i := 6) rfl)).v ((sem_var (i := 4) rfl)).v)).v (sem_int).v)).v) (sem_var (i := 6) rfl) (allFro rfl) (by decide))).e (by decide))
  (sem_seq (sem_if (sem_test ((sem_op oe_eq ((sem_var (i := 5) rfl)).v ((sem_lst sem_anil)).e.v)).v) (sem_ret sem_int) sem_nx)
  (sem_seq (sem_if (sem_test ((sem_op oe_ne ((sem_op oe_ix ((sem_var (i := 5) rfl)).v (sem_int).v)).v ((sem_var (i := 4) rfl)).v)).v) (sem_seq (sem_swap (i := 0) (ik := 4) (is := 5) rfl rfl rfl)
  (sem_asg (sem_op oe_sub (sem_int).v ((sem_var (i := 1) rfl)).v) (by decide))) sem_nx)
  (sem_seq (sem_for (semI_rng2 (sem_vcons ((sem_op oe_add ((sem_var (i := 4) rfl)).v (sem_int).v)).v (sem_vcons ((sem_var (i := 3) rfl)).v sem_vnil))) (sem_gname (i := 6) rfl)
  (sem_for (semI_rng2 (sem_vcons ((sem_op oe_add ((sem_var (i := 4) rfl)).v (sem_int).v)).v (sem_vcons ((sem_var (i := 3) rfl)).v sem_vnil))) (sem_gname (i := 7) rfl)
  (sem_set2 (i := 0) rfl (sem_op oe_fdiv ((sem_op oe_sub ((sem_op oe_mulX ((sem_ix2 (i := 0) rfl ((sem_var (i := 6) rfl)).v ((sem_var (i := 7) rfl)).v)).v ((sem_ix2 (i := 0) rfl ((sem_var (i := 4) rfl)).v ((sem_var (i := 4) rfl)).v)).v)).v ((sem_op oe_mulX ((sem_ix2 (i := 0) rfl ((sem_var (i := 6) rfl)).v ((sem_var (i := 4) rfl)).v)).v ((sem_ix2 (i := 0) rfl ((sem_var (i := 4) rfl)).v ((sem_var (i := 7) rfl)).v)).v)).v)).v ((sem_var (i := 2) rfl)).v) ((sem_var (i := 6) rfl)).v ((sem_var (i := 7) rfl)).v)))
  (sem_asg (sem_ix2 (i := 0) rfl ((sem_var (i := 4) rfl)).v ((sem_var (i := 4) rfl)).v) (by decide)))))))
  (sem_ret (sem_eIf (sem_test ((sem_op oe_gt ((sem_var (i := 3) rfl)).v (sem_int).v)).v) (sem_op oe_mulX ((sem_var (i := 1) rfl)).v ((sem_ix2 (i := 0) rfl ((sem_op oe_sub ((sem_var (i := 3) rfl)).v (sem_int).v)).v ((sem_op oe_sub ((sem_var (i := 3) rfl)).v (sem_int).v)).v)).v) sem_int))))) rfl rfl h
theorem b_within_T (T : Tx K mg) : Binds K T.fd_within ["M", "lot"] [] := T.F_within.binds fun _ _ _ _ _ _ us hl => match us, hl with | [_, _], _ => rfl
set_option maxHeartbeats 4000000 in
theorem ok_within (T : Tx K mg) : FnG Pr w K mg base 1 T.a_within T.fd_within ["M", "lot"] (spP 2 F_within) := by
  refine fn_g (k := 0) T.F_within sc_within (fun vs H Q E h => h.1) (fun cdv A outer s H vs Q E hgd hr h => ⟨_, (pss_one (ps_ret (pe_lc (own := [("i", 2)]) rfl sc_within.nd  (piSeq (K := K) (pv 1)) (blkOk_by (by kernel_rfl)) (fun _ _ _ _ _ => (pg_name (i := 2) sc_within.nd rfl (Or.inr rfl))) (fun _ _ _ _ _ => pts_nil) (fun _ _ _ _ _ => (pe_lc (own := [("j", 3)]) rfl sc_within.nd  (piSeq (K := K) (pv 1)) (blkOk_by (by kernel_rfl)) (fun _ _ _ _ _ => (pg_name (i := 3) sc_within.nd rfl (Or.inl rfl))) (fun _ _ _ _ _ => pts_nil) (fun _ _ _ _ _ => (pe_ix (kIx (K := K)) (pe_ix (kIx (K := K)) (pv 0) (pv 2) (fun _ _ => rfl)) (pv 3) (fun _ _ => rfl)))))))), ?_⟩)
  exact body_p (n := 2) (m := 2) (Γr := [.fro, .fro]) (Γl := []) (Γ' := []) (N := ["M", "lot", "i", "j"]) (sem_ret ((sem_lc (semIc_seq ((sem_var (i := 1) rfl)).v) (sem_gname (i := 2) rfl) sem_yes ((sem_lc (semIc_seq ((sem_var (i := 1) rfl)).v) (sem_gname (i := 3) rfl) sem_yes (sem_op oe_ix ((sem_op oe_ix ((sem_var (i := 0) rfl)).v ((sem_var (i := 2) rfl)).v)).v ((sem_var (i := 3) rfl)).v) (allFro rfl) (by decide))).e (allFro rfl) (by decide))).e) rfl rfl h
theorem b_determinant_within_T (T : Tx K mg) : Binds K T.fd_determinant_within ["M", "lot"] [] := T.F_determinant_within.binds fun _ _ _ _ _ _ us hl => match us, hl with | [_, _], _ => rfl
set_option maxHeartbeats 4000000 in
theorem ok_determinant_within (T : Tx K mg) : FnG Pr w K mg base 2 T.a_determinant_within T.fd_determinant_within ["M", "lot"] (spP 2 F_determinant_within) := by
  refine fn_g (k := 1) T.F_determinant_within sc_determinant_within (fun vs H Q E h => h.1) (fun cdv A outer s H vs Q E hgd hr h => ⟨_, (pss_one (ps_ret (pe_callG ((ok_whole_determinant T).mono (by decide)) hgd hr (by rfl) T.g_whole_determinant T.F_whole_determinant.kp (b_whole_determinant_T T) (pa_cons (pe_callG ((ok_within T).mono (by decide)) hgd hr (by rfl) T.g_within T.F_within.kp (b_within_T T) (pa_cons (pv 0) (pa_cons (pv 1) pa_nil))) pa_nil)))), ?_⟩)
  exact body_p (n := 2) (m := 0) (Γr := []) (Γl := []) (Γ' := []) (N := ["M", "lot"]) (sem_ret (sem_call (sem_acons (sem_call (sem_acons (sem_var (i := 0) rfl) (sem_acons (sem_var (i := 1) rfl) sem_anil))) sem_anil))) rfl rfl h
theorem b_lots_below_T (T : Tx K mg) : Binds K T.fd_lots_below ["n"] [] := T.F_lots_below.binds fun _ _ _ _ _ _ us hl => match us, hl with | [_], _ => rfl
set_option maxHeartbeats 4000000 in
theorem ok_lots_below (T : Tx K mg) : FnG Pr w K mg base 1 T.a_lots_below T.fd_lots_below ["n"] (spP 1 F_lots_below) := by
  refine fn_g (k := 0) T.F_lots_below sc_lots_below (fun vs H Q E h => h.1) (fun cdv A outer s H vs Q E hgd hr h => ⟨_, (pss_cons (ps_set (i := 1) sc_lots_below.nd rfl (Or.inl rfl) (pe_lst (pa_cons (pe_tup pa_nil) pa_nil)))
  (pss_cons (ps_for PassesOwn.never rfl (pi_range1 (by rfl) T.m_range (pa_cons (pv 0) pa_nil)) (pg_name (i := 2) sc_lots_below.nd rfl (Or.inr rfl))
  (pss_one (ps_set (i := 1) sc_lots_below.nd rfl (Or.inl rfl) (pe_op (kAdd (K := K)) (pv 1) (pe_lc (own := [("lot", 3)]) rfl sc_lots_below.nd  (piSeq (K := K) (pv 1)) (blkOk_by (by kernel_rfl)) (fun _ _ _ _ _ => (pg_name (i := 3) sc_lots_below.nd rfl (Or.inl rfl))) (fun _ _ _ _ _ => pts_nil) (fun _ _ _ _ _ => (pe_op (kAdd (K := K)) (pv 3) (pe_tup (pa_cons (pv 2) pa_nil)))))))))
  (pss_one (ps_ret (pe_callB (kSrt (K := K) hr) (by rfl) T.m_sorted bt_sorted (pa_cons (pv 1) pa_nil)))))), ?_⟩)
  exact body_p (n := 1) (m := 3) (Γr := [.fro, .fro, .fro]) (Γl := []) (Γ' := []) (N := ["n", "found", "i", "lot"]) (sem_seq (sem_asg ((sem_lst (sem_acons (sem_tup sem_anil) sem_anil))).e (by decide))
  (sem_seq (sem_for (semI_rng1 (sem_vcons ((sem_var (i := 0) rfl)).v sem_vnil)) (sem_gname (i := 2) rfl)
  (sem_asg (sem_op oe_add ((sem_var (i := 1) rfl)).v ((sem_lc (semIc_seq ((sem_var (i := 1) rfl)).v) (sem_gname (i := 3) rfl) sem_yes (sem_op oe_add ((sem_var (i := 3) rfl)).v ((sem_tup (sem_acons (sem_var (i := 2) rfl) sem_anil))).v) (allFro rfl) (by decide))).e.v) (by decide)))
  (sem_ret ((sem_cbL ca_srt (sem_vcons ((sem_var (i := 1) rfl)).v sem_vnil))).e))) rfl rfl h
theorem b_determinants_within_T (T : Tx K mg) : Binds K T.fd_determinants_within ["M"] [] := T.F_determinants_within.binds fun _ _ _ _ _ _ us hl => match us, hl with | [_], _ => rfl
set_option maxHeartbeats 4000000 in
theorem ok_determinants_within (T : Tx K mg) : FnG Pr w K mg base 3 T.a_determinants_within T.fd_determinants_within ["M"] (spP 1 F_determinants_within) := by
  refine fn_g (k := 2) T.F_determinants_within sc_determinants_within (fun vs H Q E h => h.1) (fun cdv A outer s H vs Q E hgd hr h => ⟨_, (pss_one (ps_ret (pe_callTy (kTup (K := K)) (by rfl) T.m_tuple bt_tuple (pa_cons (pe_lc (own := [("lot", 1)]) rfl sc_determinants_within.nd  (piSeq (K := K) (pe_callG ((ok_lots_below T).mono (by decide)) hgd hr (by rfl) T.g_lots_below T.F_lots_below.kp (b_lots_below_T T) (pa_cons (pe_callB (kLen (K := K)) (by rfl) T.m_len bt_len (pa_cons (pv 0) pa_nil)) pa_nil))) (blkOk_by (by kernel_rfl)) (fun _ _ _ _ _ => (pg_name (i := 1) sc_determinants_within.nd rfl (Or.inl rfl))) (fun _ _ _ _ _ => pts_nil) (fun _ _ _ _ _ => (pe_tup (pa_cons (pv 1) (pa_cons (pe_callG ((ok_determinant_within T).mono (by decide)) hgd hr (by rfl) T.g_determinant_within T.F_determinant_within.kp (b_determinant_within_T T) (pa_cons (pv 0) (pa_cons (pv 1) pa_nil))) pa_nil))))) pa_nil)))), ?_⟩)
  exact body_p (n := 1) (m := 1) (Γr := [.fro]) (Γl := []) (Γ' := []) (N := ["M", "lot"]) (sem_ret (sem_cb ca_tup (sem_vcons ((sem_lc (semIc_seq ((sem_call (sem_acons (sem_cb ca_len (sem_vcons ((sem_var (i := 0) rfl)).v sem_vnil)) sem_anil))).v) (sem_gname (i := 1) rfl) sem_yes (sem_tup (sem_acons (sem_var (i := 1) rfl) (sem_acons (sem_call (sem_acons (sem_var (i := 0) rfl) (sem_acons (sem_var (i := 1) rfl) sem_anil))) sem_anil))) (allFro rfl) (by decide))).e.v sem_vnil))) rfl rfl h
theorem b_is_above_T (T : Tx K mg) : Binds K T.fd_is_above ["M"] [] := T.F_is_above.binds fun _ _ _ _ _ _ us hl => match us, hl with | [_], _ => rfl
set_option maxHeartbeats 4000000 in
theorem ok_is_above (T : Tx K mg) : FnG Pr w K mg base 4 T.a_is_above T.fd_is_above ["M"] (spP 1 F_is_above) := by
  refine fn_g (k := 3) T.F_is_above sc_is_above (fun vs H Q E h => h.1) (fun cdv A outer s H vs Q E hgd hr h => ⟨_, (pss_one (ps_ret (pe_callB (kAll (K := K) rfl) (by rfl) T.m_all bt_all (pa_cons (pe_lc (own := [("lot", 1), ("number", 2)]) rfl sc_is_above.nd  (piSeq (K := K) (pe_callG ((ok_determinants_within T).mono (by decide)) hgd hr (by rfl) T.g_determinants_within T.F_determinants_within.kp (b_determinants_within_T T) (pa_cons (pv 0) pa_nil))) (blkOk_by (by kernel_rfl)) (fun _ _ _ _ _ => (pgTup (K := K) (n := 2) rfl (pgs_cons (pg_name (i := 1) sc_is_above.nd rfl (Or.inl rfl)) (pgs_cons (pg_name (i := 2) sc_is_above.nd rfl (Or.inl rfl)) pgs_nil)))) (fun _ _ _ _ _ => pts_nil) (fun _ _ _ _ _ => (pe_cmpR op_gt (pv 2) pe_int (nomark _)))) pa_nil)))), ?_⟩)
  exact body_p (n := 1) (m := 2) (Γr := [.fro, .fro]) (Γl := []) (Γ' := []) (N := ["M", "lot", "number"]) (sem_ret (sem_cb ca_all (sem_vcons ((sem_lc (semIc_seq ((sem_call (sem_acons (sem_var (i := 0) rfl) sem_anil))).v) (sem_gtup (sem_gscons (sem_gname (i := 1) rfl) (sem_gscons (sem_gname (i := 2) rfl) sem_gsnil))) sem_yes (sem_op oe_gt ((sem_var (i := 2) rfl)).v (sem_int).v) (allFro rfl) (by decide))).e.v sem_vnil))) rfl rfl h
theorem b_led_row_T (T : Tx K mg) : Binds K T.fd_led_row ["M", "x"] [] := T.F_led_row.binds fun _ _ _ _ _ _ us hl => match us, hl with | [_, _], _ => rfl
set_option maxHeartbeats 4000000 in
theorem ok_led_row (T : Tx K mg) : FnG Pr w K mg base 1 T.a_led_row T.fd_led_row ["M", "x"] (spP 2 F_led_row) := by
  refine fn_g (k := 0) T.F_led_row sc_led_row (fun vs H Q E h => h.1) (fun cdv A outer s H vs Q E hgd hr h => ⟨_, (pss_one (ps_ret (pe_callTy (kTup (K := K)) (by rfl) T.m_tuple bt_tuple (pa_cons (pe_lc (own := [("row", 2)]) rfl sc_led_row.nd  (piSeq (K := K) (pv 0)) (blkOk_by (by kernel_rfl)) (fun _ _ _ _ _ => (pg_name (i := 2) sc_led_row.nd rfl (Or.inl rfl))) (fun _ _ _ _ _ => pts_nil) (fun _ _ _ _ _ => (pe_callB (kSum (K := K) rfl) (by rfl) T.m_sum bt_sum (pa_cons (pe_lc (own := [("a", 3), ("b", 4)]) rfl sc_led_row.nd  (piZip (K := K) (by rfl) T.m_zip (pa_cons (pv 2) (pa_cons (pv 1) pa_nil))) (blkOk_by (by kernel_rfl)) (fun _ _ _ _ _ => (pgTup (K := K) (n := 2) rfl (pgs_cons (pg_name (i := 3) sc_led_row.nd rfl (Or.inl rfl)) (pgs_cons (pg_name (i := 4) sc_led_row.nd rfl (Or.inl rfl)) pgs_nil)))) (fun _ _ _ _ _ => pts_nil) (fun _ _ _ _ _ => (pe_op (kMul (K := K)) (pv 3) (pv 4)))) pa_nil)))) pa_nil)))), ?_⟩)
  exact body_p (n := 2) (m := 3) (Γr := [.fro, .fro, .fro]) (Γl := []) (Γ' := []) (N := ["M", "x", "row", "a", "b"]) (sem_ret (sem_cb ca_tup (sem_vcons ((sem_lc (semIc_seq ((sem_var (i := 0) rfl)).v) (sem_gname (i := 2) rfl) sem_yes (sem_cb ca_sum (sem_vcons ((sem_lc (semIc_zip (sem_vcons ((sem_var (i := 2) rfl)).v (sem_vcons ((sem_var (i := 1) rfl)).v sem_vnil))) (sem_gtup (sem_gscons (sem_gname (i := 3) rfl) (sem_gscons (sem_gname (i := 4) rfl) sem_gsnil))) sem_yes (sem_op oe_mulX ((sem_var (i := 3) rfl)).v ((sem_var (i := 4) rfl)).v) (allFro rfl) (by decide))).e.v sem_vnil)) (allFro rfl) (by decide))).e.v sem_vnil))) rfl rfl h
theorem b_first_wrong_lot_T (T : Tx K mg) : Binds K T.fd_first_wrong_lot ["M"] [] := T.F_first_wrong_lot.binds fun _ _ _ _ _ _ us hl => match us, hl with | [_], _ => rfl
set_option maxHeartbeats 4000000 in
theorem ok_first_wrong_lot (T : Tx K mg) : FnG Pr w K mg base 4 T.a_first_wrong_lot T.fd_first_wrong_lot ["M"] (spP 1 F_first_wrong_lot) := by
  refine fn_g (k := 3) T.F_first_wrong_lot sc_first_wrong_lot (fun vs H Q E h => h.1) (fun cdv A outer s H vs Q E hgd hr h => ⟨_, (pss_cons (ps_setLc (i := 1) (own := [("lot", 2), ("number", 3)]) rfl sc_first_wrong_lot.nd rfl rfl (sw_true rfl rfl rfl (by decide +kernel)) (piSeq (K := K) (pe_callG ((ok_determinants_within T).mono (by decide)) hgd hr (by rfl) T.g_determinants_within T.F_determinants_within.kp (b_determinants_within_T T) (pa_cons (pv 0) pa_nil))) (blkOk_by (by kernel_rfl)) (fun _ _ _ _ _ => (pgTup (K := K) (n := 2) rfl (pgs_cons (pg_name (i := 2) sc_first_wrong_lot.nd rfl (Or.inl rfl)) (pgs_cons (pg_name (i := 3) sc_first_wrong_lot.nd rfl (Or.inl rfl)) pgs_nil)))) (fun _ _ _ _ _ => (pts_one (pt_cmpR op_le (pv 3) pe_int (nomark _)))) (fun _ _ _ _ _ => (pe_tup (pa_cons (pe_callB (kLen (K := K)) (by rfl) T.m_len bt_len (pa_cons (pv 2) pa_nil)) (pa_cons (pv 2) pa_nil)))))
  (pss_one (ps_ret (pe_ifExp (pt_cmpR (kNe (K := K) hr) (pv 1) (pe_lst pa_nil) (nomark _)) (pe_ix (kIx (K := K)) (pe_callB (kMin (K := K) rfl hr) (by rfl) T.m_min bt_min (pa_cons (pv 1) pa_nil)) pe_int (fun _ _ => rfl)) pe_non)))), ?_⟩)
  exact body_p (n := 1) (m := 3) (Γr := [.fro, .fro, .fro]) (Γl := []) (Γ' := []) (N := ["M", "some", "lot", "number"]) (sem_seq (sem_asg ((sem_lc (semIc_seq ((sem_call (sem_acons (sem_var (i := 0) rfl) sem_anil))).v) (sem_gtup (sem_gscons (sem_gname (i := 2) rfl) (sem_gscons (sem_gname (i := 3) rfl) sem_gsnil))) (sem_test ((sem_op oe_le ((sem_var (i := 3) rfl)).v (sem_int).v)).v) (sem_tup (sem_acons (sem_cb ca_len (sem_vcons ((sem_var (i := 2) rfl)).v sem_vnil)) (sem_acons (sem_var (i := 2) rfl) sem_anil))) (allFro rfl) (by decide))).e (by decide))
  (sem_ret (sem_eIf (sem_test ((sem_op oe_ne ((sem_var (i := 1) rfl)).v ((sem_lst sem_anil)).e.v)).v) (sem_op oe_ix ((sem_cb ca_best (sem_vcons ((sem_var (i := 1) rfl)).v sem_vnil))).v (sem_int).v) sem_non))) rfl rfl h
theorem b_first_minors_T (T : Tx K mg) : Binds K T.fd_first_minors ["M", "lot"] [] := T.F_first_minors.binds fun _ _ _ _ _ _ us hl => match us, hl with | [_, _], _ => rfl
set_option maxHeartbeats 4000000 in
theorem ok_first_minors (T : Tx K mg) : FnG Pr w K mg base 2 T.a_first_minors T.fd_first_minors ["M", "lot"] (spP 2 F_first_minors) := by
  refine fn_g (k := 1) T.F_first_minors sc_first_minors (fun vs H Q E h => h.1) (fun cdv A outer s H vs Q E hgd hr h => ⟨_, (pss_cons (ps_set (i := 2) sc_first_minors.nd rfl (Or.inl rfl) (pe_op (kMul (K := K)) (pe_lst (pa_cons pe_int pa_nil)) (pe_callB (kLen (K := K)) (by rfl) T.m_len bt_len (pa_cons (pv 0) pa_nil))))
  (pss_cons (ps_for PassesOwn.never rfl (piEnum (K := K) (by rfl) T.m_enumerate (pa_cons (pv 1) pa_nil)) (pgTup (K := K) (n := 2) rfl (pgs_cons (pg_name (i := 3) sc_first_minors.nd rfl (Or.inl rfl)) (pgs_cons (pg_name (i := 4) sc_first_minors.nd rfl (Or.inr rfl)) pgs_nil)))
  (pss_cons (ps_setLc (i := 5) (own := [("i", 6)]) rfl sc_first_minors.nd rfl rfl (sw_true rfl rfl rfl (by decide +kernel)) (piSeq (K := K) (pe_slice (kSl (K := K)) (pv 1) (po_some pe_int) po_none)) (blkOk_by (by kernel_rfl)) (fun _ _ _ _ _ => (pg_name (i := 6) sc_first_minors.nd rfl (Or.inr rfl))) (fun _ _ _ _ _ => pts_nil) (fun _ _ _ _ _ => (pe_lc (own := [("late", 7)]) rfl sc_first_minors.nd  (piSeq (K := K) (pv 1)) (blkOk_by (by kernel_rfl)) (fun _ _ _ _ _ => (pg_name (i := 7) sc_first_minors.nd rfl (Or.inl rfl))) (fun _ _ _ _ _ => (pts_one (pt_cmpR (kNe (K := K) hr) (pv 7) (pv 4) (nomark _)))) (fun _ _ _ _ _ => (pe_ix (kIx (K := K)) (pe_ix (kIx (K := K)) (pv 0) (pv 6) (fun _ _ => rfl)) (pv 7) (fun _ _ => rfl))))))
  (pss_one (ps_asg (pe_op (kMul (K := K)) (pe_op op_sub pe_int (pe_op (kMul (K := K)) pe_int (pe_op op_modN (pv 3) pe_int))) (pe_callG ((ok_whole_determinant T).mono (by decide)) hgd hr (by rfl) T.g_whole_determinant T.F_whole_determinant.kp (b_whole_determinant_T T) (pa_cons (pv 5) pa_nil))) (pg_sub (pv 2) (pv 4) set_list)))))
  (pss_one (ps_ret (pe_callTy (kTup (K := K)) (by rfl) T.m_tuple bt_tuple (pa_cons (pv 2) pa_nil)))))), ?_⟩)
  exact body_p (n := 2) (m := 6) (Γr := [.own, .fro, .fro, .fro, .fro, .fro]) (Γl := []) (Γ' := []) (N := ["M", "lot", "found", "k", "j", "less", "i", "late"]) (sem_seq (sem_asgOwn (sem_repL ((sem_lst (sem_acons sem_int sem_anil))).e.v ((sem_cb ca_len (sem_vcons ((sem_var (i := 0) rfl)).v sem_vnil))).v) (by decide))
  (sem_seq (sem_for (semI_enum (sem_acons (sem_var (i := 1) rfl) sem_anil)) (sem_gtup (sem_gscons (sem_gname (i := 3) rfl) (sem_gscons (sem_gname (i := 4) rfl) sem_gsnil)))
  (sem_seq (sem_asg ((sem_lc (semIc_seq ((sem_sl ((sem_var (i := 1) rfl)).v (sem_oPart (sem_int).v) sem_oNo)).v) (sem_gname (i := 6) rfl) sem_yes ((sem_lc (semIc_seq ((sem_var (i := 1) rfl)).v) (sem_gname (i := 7) rfl) (sem_test ((sem_op oe_ne ((sem_var (i := 7) rfl)).v ((sem_var (i := 4) rfl)).v)).v) (sem_op oe_ix ((sem_op oe_ix ((sem_var (i := 0) rfl)).v ((sem_var (i := 6) rfl)).v)).v ((sem_var (i := 7) rfl)).v) (allFro rfl) (by decide))).e (allFro rfl) (by decide))).e (by decide))
  (sem_setI (i := 2) rfl (sem_op oe_mulX ((sem_op oe_sub (sem_int).v ((sem_op oe_mulX (sem_int).v ((sem_op oe_mod ((sem_var (i := 3) rfl)).v (sem_int).v)).v)).v)).v ((sem_call (sem_acons (sem_var (i := 5) rfl) sem_anil))).v) ((sem_var (i := 4) rfl)).v)))
  (sem_ret (sem_cb ca_tup (sem_vcons (sem_own (i := 2) rfl) sem_vnil))))) rfl rfl h
theorem b_turned_paper_T (T : Tx K mg) : Binds K T.fd_turned_paper ["M"] [] := T.F_turned_paper.binds fun _ _ _ _ _ _ us hl => match us, hl with | [_], _ => rfl
set_option maxHeartbeats 4000000 in
theorem ok_turned_paper (T : Tx K mg) : FnG Pr w K mg base 5 T.a_turned_paper T.fd_turned_paper ["M"] (spP 1 F_turned_paper) := by
  refine fn_g (k := 4) T.F_turned_paper sc_turned_paper (fun vs H Q E h => h.1) (fun cdv A outer s H vs Q E hgd hr h => ⟨_, (pss_cons (ps_set (i := 1) sc_turned_paper.nd rfl (Or.inl rfl) (pe_callG ((ok_first_wrong_lot T).mono (by decide)) hgd hr (by rfl) T.g_first_wrong_lot T.F_first_wrong_lot.kp (b_first_wrong_lot_T T) (pa_cons (pv 0) pa_nil)))
  (pss_one (ps_ret (pe_ifExp (pt_cmpR op_isN (pv 1) pe_non (nomark _)) (pe_tup (pa_cons pe_str pa_nil)) (pe_tup (pa_cons pe_str (pa_cons (pv 1) (pa_cons (pe_callG ((ok_first_minors T).mono (by decide)) hgd hr (by rfl) T.g_first_minors T.F_first_minors.kp (b_first_minors_T T) (pa_cons (pv 0) (pa_cons (pv 1) pa_nil))) pa_nil)))))))), ?_⟩)
  exact body_p (n := 1) (m := 1) (Γr := [.fro]) (Γl := []) (Γ' := []) (N := ["M", "lot"]) (sem_seq (sem_asg (sem_call (sem_acons (sem_var (i := 0) rfl) sem_anil)) (by decide))
  (sem_ret (sem_eIf (sem_test ((sem_isN ((sem_var (i := 1) rfl)).v)).v) (sem_tup (sem_acons sem_str sem_anil)) (sem_tup (sem_acons sem_str (sem_acons (sem_var (i := 1) rfl) (sem_acons (sem_call (sem_acons (sem_var (i := 0) rfl) (sem_acons (sem_var (i := 1) rfl) sem_anil))) sem_anil))))))) rfl rfl h
theorem b_is_whole_number_T (T : Tx K mg) : Binds K T.fd_is_whole_number ["value"] [] := T.F_is_whole_number.binds fun _ _ _ _ _ _ us hl => match us, hl with | [_], _ => rfl
set_option maxHeartbeats 4000000 in
theorem ok_is_whole_number (T : Tx K mg) : FnG Pr w K mg base 1 T.a_is_whole_number T.fd_is_whole_number ["value"] (spP 1 F_is_whole_number) := by
  refine fn_g (k := 0) T.F_is_whole_number sc_is_whole_number (fun vs H Q E h => h.1) (fun cdv A outer s H vs Q E hgd hr h => ⟨_, (pss_one (ps_ret (pe_and (pe_callB (kIsi (K := K)) (by rfl) T.m_isinstance bt_isinstance (pa_cons (pv 0) (pa_cons (pe_bltn (v := .ty "int") (by rfl) T.m_int bt_int rfl) pa_nil))) (pe_one (pe_not (pe_callB (kIsi (K := K)) (by rfl) T.m_isinstance bt_isinstance (pa_cons (pv 0) (pa_cons (pe_bltn (v := .ty "bool") (by rfl) T.m_bool bt_bool rfl) pa_nil)))))))), ?_⟩)
  exact body_p (n := 1) (m := 0) (Γr := []) (Γl := []) (Γ' := []) (N := ["value"]) (sem_ret (sem_eAnd ((sem_isi ((sem_var (i := 0) rfl)).v)).v (sem_eNot ((sem_isi ((sem_var (i := 0) rfl)).v)).v))) rfl rfl h
theorem b_is_lot_below_T (T : Tx K mg) : Binds K T.fd_is_lot_below ["n", "value"] [] := T.F_is_lot_below.binds fun _ _ _ _ _ _ us hl => match us, hl with | [_, _], _ => rfl
set_option maxHeartbeats 4000000 in
theorem ok_is_lot_below (T : Tx K mg) : FnG Pr w K mg base 2 T.a_is_lot_below T.fd_is_lot_below ["n", "value"] (spP 2 F_is_lot_below) := by
  refine fn_g (k := 1) T.F_is_lot_below sc_is_lot_below (fun vs H Q E h => h.1) (fun cdv A outer s H vs Q E hgd hr h => ⟨_, (pss_cons (ps_if ((pw_or (pt_not (pt_val (pe_callB (kIsi (K := K)) (by rfl) T.m_isinstance bt_isinstance (pa_cons (pv 1) (pa_cons (pe_bltn (v := .ty "tuple") (by rfl) T.m_tuple bt_tuple rfl) pa_nil))))) (pw_or1 (pt_not (pt_val (pe_callB (kAll (K := K) rfl) (by rfl) T.m_all bt_all (pa_cons (pe_lc (own := [("i", 2)]) rfl sc_is_lot_below.nd  (piSeq (K := K) (pv 1)) (blkOk_by (by kernel_rfl)) (fun _ _ _ _ _ => (pg_name (i := 2) sc_is_lot_below.nd rfl (Or.inl rfl))) (fun _ _ _ _ _ => pts_nil) (fun _ _ _ _ _ => (pe_and (pe_callG ((ok_is_whole_number T).mono (by decide)) hgd hr (by rfl) T.g_is_whole_number T.F_is_whole_number.kp (b_is_whole_number_T T) (pa_cons (pv 2) pa_nil)) (pe_one (pe_chain op_le op_lt pe_int (pv 2) (pv 0)))))) pa_nil))))))).pt (pss_one (ps_ret pe_bl)) pss_nil)
  (pss_one (ps_ret (pe_callB (kAll (K := K) rfl) (by rfl) T.m_all bt_all (pa_cons (pe_lc (own := [("i", 2), ("j", 3)]) rfl sc_is_lot_below.nd  (piZip (K := K) (by rfl) T.m_zip (pa_cons (pv 1) (pa_cons (pe_slice (kSl (K := K)) (pv 1) (po_some pe_int) po_none) pa_nil))) (blkOk_by (by kernel_rfl)) (fun _ _ _ _ _ => (pgTup (K := K) (n := 2) rfl (pgs_cons (pg_name (i := 2) sc_is_lot_below.nd rfl (Or.inl rfl)) (pgs_cons (pg_name (i := 3) sc_is_lot_below.nd rfl (Or.inl rfl)) pgs_nil)))) (fun _ _ _ _ _ => pts_nil) (fun _ _ _ _ _ => (pe_cmpR op_lt (pv 2) (pv 3) (nomark _)))) pa_nil))))), ?_⟩)
  exact body_p (n := 2) (m := 2) (Γr := [.fro, .fro]) (Γl := []) (Γ' := []) (N := ["n", "value", "i", "j"]) (sem_seq (sem_if (sem_or (sem_not (sem_tB ((sem_isi ((sem_var (i := 1) rfl)).v)).v)) (sem_not (sem_tB ((sem_cb ca_all (sem_vcons ((sem_lc (semIc_seq ((sem_var (i := 1) rfl)).v) (sem_gname (i := 2) rfl) sem_yes (sem_eAnd ((sem_call (sem_acons (sem_var (i := 2) rfl) sem_anil))).v (sem_chain oe_le oe_lt (sem_int).v ((sem_var (i := 2) rfl)).v ((sem_var (i := 0) rfl)).v)) (allFro rfl) (by decide))).e.v sem_vnil))).v))) (sem_ret sem_bl) sem_nx)
  (sem_ret (sem_cb ca_all (sem_vcons ((sem_lc (semIc_zip (sem_vcons ((sem_var (i := 1) rfl)).v (sem_vcons ((sem_sl ((sem_var (i := 1) rfl)).v (sem_oPart (sem_int).v) sem_oNo)).v sem_vnil))) (sem_gtup (sem_gscons (sem_gname (i := 2) rfl) (sem_gscons (sem_gname (i := 3) rfl) sem_gsnil))) sem_yes (sem_op oe_lt ((sem_var (i := 2) rfl)).v ((sem_var (i := 3) rfl)).v) (allFro rfl) (by decide))).e.v sem_vnil)))) rfl rfl h
theorem b_is_turned_form_T (T : Tx K mg) : Binds K T.fd_is_turned_form ["n", "value"] [] := T.F_is_turned_form.binds fun _ _ _ _ _ _ us hl => match us, hl with | [_, _], _ => rfl
set_option maxHeartbeats 4000000 in
theorem ok_is_turned_form (T : Tx K mg) : FnG Pr w K mg base 3 T.a_is_turned_form T.fd_is_turned_form ["n", "value"] (spP 2 F_is_turned_form) := by
  refine fn_g (k := 2) T.F_is_turned_form sc_is_turned_form (fun vs H Q E h => h.1) (fun cdv A outer s H vs Q E hgd hr h => ⟨_, (pss_cons (ps_if ((pw_or (pt_not (pt_val (pe_callB (kIsi (K := K)) (by rfl) T.m_isinstance bt_isinstance (pa_cons (pv 1) (pa_cons (pe_bltn (v := .ty "tuple") (by rfl) T.m_tuple bt_tuple rfl) pa_nil))))) (pw_or (pt_cmpR (kNe (K := K) hr) (pe_callB (kLen (K := K)) (by rfl) T.m_len bt_len (pa_cons (pv 1) pa_nil)) pe_int (nomark _)) (pw_or (pt_cmpR (kNe (K := K) hr) (pe_ix (kIx (K := K)) (pv 1) pe_int (fun _ _ => rfl)) pe_str (nomark _)) (pw_or1 (pt_not (pt_val (pe_callG ((ok_is_lot_below T).mono (by decide)) hgd hr (by rfl) T.g_is_lot_below T.F_is_lot_below.kp (b_is_lot_below_T T) (pa_cons (pv 0) (pa_cons (pe_ix (kIx (K := K)) (pv 1) pe_int (fun _ _ => rfl)) pa_nil)))))))))).pt (pss_one (ps_ret pe_bl)) pss_nil)
  (pss_one (ps_ret (pe_and (pe_callB (kIsi (K := K)) (by rfl) T.m_isinstance bt_isinstance (pa_cons (pe_ix (kIx (K := K)) (pv 1) pe_int (fun _ _ => rfl)) (pa_cons (pe_bltn (v := .ty "tuple") (by rfl) T.m_tuple bt_tuple rfl) pa_nil))) (pe_and (pe_cmpR (kEq (K := K) hr) (pe_callB (kLen (K := K)) (by rfl) T.m_len bt_len (pa_cons (pe_ix (kIx (K := K)) (pv 1) pe_int (fun _ _ => rfl)) pa_nil)) (pv 0) (nomark _)) (pe_one (pe_callB (kAll (K := K) rfl) (by rfl) T.m_all bt_all (pa_cons (pe_lc (own := [("x", 2)]) rfl sc_is_turned_form.nd  (piSeq (K := K) (pe_ix (kIx (K := K)) (pv 1) pe_int (fun _ _ => rfl))) (blkOk_by (by kernel_rfl)) (fun _ _ _ _ _ => (pg_name (i := 2) sc_is_turned_form.nd rfl (Or.inl rfl))) (fun _ _ _ _ _ => pts_nil) (fun _ _ _ _ _ => (pe_callG ((ok_is_whole_number T).mono (by decide)) hgd hr (by rfl) T.g_is_whole_number T.F_is_whole_number.kp (b_is_whole_number_T T) (pa_cons (pv 2) pa_nil)))) pa_nil)))))))), ?_⟩)
  exact body_p (n := 2) (m := 1) (Γr := [.fro]) (Γl := []) (Γ' := []) (N := ["n", "value", "x"]) (sem_seq (sem_if (sem_or (sem_not (sem_tB ((sem_isi ((sem_var (i := 1) rfl)).v)).v)) (sem_or (sem_test ((sem_op oe_ne ((sem_cb ca_len (sem_vcons ((sem_var (i := 1) rfl)).v sem_vnil))).v (sem_int).v)).v) (sem_or (sem_test ((sem_op oe_ne ((sem_op oe_ix ((sem_var (i := 1) rfl)).v (sem_int).v)).v (sem_str).v)).v) (sem_not (sem_tB ((sem_call (sem_acons (sem_var (i := 0) rfl) (sem_acons (sem_op oe_ix ((sem_var (i := 1) rfl)).v (sem_int).v) sem_anil)))).v))))) (sem_ret sem_bl) sem_nx)
  (sem_ret (sem_eAnd ((sem_isi ((sem_op oe_ix ((sem_var (i := 1) rfl)).v (sem_int).v)).v)).v (sem_eAnd ((sem_op oe_eq ((sem_cb ca_len (sem_vcons ((sem_op oe_ix ((sem_var (i := 1) rfl)).v (sem_int).v)).v sem_vnil))).v ((sem_var (i := 0) rfl)).v)).v (sem_cb ca_all (sem_vcons ((sem_lc (semIc_seq ((sem_op oe_ix ((sem_var (i := 1) rfl)).v (sem_int).v)).v) (sem_gname (i := 2) rfl) sem_yes (sem_call (sem_acons (sem_var (i := 2) rfl) sem_anil)) (allFro rfl) (by decide))).e.v sem_vnil)))))) rfl rfl h
theorem b_judge_turned_T (T : Tx K mg) : Binds K T.fd_judge_turned ["M", "value"] [] := T.F_judge_turned.binds fun _ _ _ _ _ _ us hl => match us, hl with | [_, _], _ => rfl
set_option maxHeartbeats 4000000 in
theorem ok_judge_turned (T : Tx K mg) : FnG Pr w K mg base 5 T.a_judge_turned T.fd_judge_turned ["M", "value"] (spP 2 F_judge_turned) := by
  refine fn_g (k := 4) T.F_judge_turned sc_judge_turned (fun vs H Q E h => h.1) (fun cdv A outer s H vs Q E hgd hr h => ⟨_, (pss_cons (ps_if ((pw_and (pt_val (pe_callB (kIsi (K := K)) (by rfl) T.m_isinstance bt_isinstance (pa_cons (pv 1) (pa_cons (pe_bltn (v := .ty "tuple") (by rfl) T.m_tuple bt_tuple rfl) pa_nil)))) (pw_and (pt_cmpR (kEq (K := K) hr) (pe_callB (kLen (K := K)) (by rfl) T.m_len bt_len (pa_cons (pv 1) pa_nil)) pe_int (nomark _)) (pw_and1 (pt_cmpR (kEq (K := K) hr) (pe_ix (kIx (K := K)) (pv 1) pe_int (fun _ _ => rfl)) pe_str (nomark _)))))).pt (pss_one (ps_ret (pe_ifExp (pt_val (pe_callG ((ok_is_above T).mono (by decide)) hgd hr (by rfl) T.g_is_above T.F_is_above.kp (b_is_above_T T) (pa_cons (pv 0) pa_nil))) pe_non (pe_tup (pa_cons pe_str pa_nil))))) pss_nil)
  (pss_cons (ps_if (pt_not (pt_val (pe_callG ((ok_is_turned_form T).mono (by decide)) hgd hr (by rfl) T.g_is_turned_form T.F_is_turned_form.kp (b_is_turned_form_T T) (pa_cons (pe_callB (kLen (K := K)) (by rfl) T.m_len bt_len (pa_cons (pv 0) pa_nil)) (pa_cons (pv 1) pa_nil))))) (pss_one (ps_ret (pe_tup (pa_cons pe_str pa_nil)))) pss_nil)
  (pss_cons (ps_asg (pe_tup (pa_cons (pe_ix (kIx (K := K)) (pv 1) pe_int (fun _ _ => rfl)) (pa_cons (pe_ix (kIx (K := K)) (pv 1) pe_int (fun _ _ => rfl)) pa_nil))) (pgTup (K := K) (n := 2) rfl (pgs_cons (pg_name (i := 2) sc_judge_turned.nd rfl (Or.inr rfl)) (pgs_cons (pg_name (i := 3) sc_judge_turned.nd rfl (Or.inl rfl)) pgs_nil))))
  (pss_cons (ps_if (pt_val (pe_callB (kAll (K := K) rfl) (by rfl) T.m_all bt_all (pa_cons (pe_lc (own := [("one", 6)]) rfl sc_judge_turned.nd  (piSeq (K := K) (pv 3)) (blkOk_by (by kernel_rfl)) (fun _ _ _ _ _ => (pg_name (i := 6) sc_judge_turned.nd rfl (Or.inl rfl))) (fun _ _ _ _ _ => pts_nil) (fun _ _ _ _ _ => (pe_cmpR (kEq (K := K) hr) (pv 6) pe_int (nomark _)))) pa_nil))) (pss_one (ps_ret (pe_tup (pa_cons pe_str pa_nil)))) pss_nil)
  (pss_cons (ps_setLc (i := 4) (own := [("i", 7), ("one", 6)]) rfl sc_judge_turned.nd rfl rfl (sw_true rfl rfl rfl (by decide +kernel)) (piEnum (K := K) (by rfl) T.m_enumerate (pa_cons (pv 3) pa_nil)) (blkOk_by (by kernel_rfl)) (fun _ _ _ _ _ => (pgTup (K := K) (n := 2) rfl (pgs_cons (pg_name (i := 7) sc_judge_turned.nd rfl (Or.inl rfl)) (pgs_cons (pg_name (i := 6) sc_judge_turned.nd rfl (Or.inl rfl)) pgs_nil)))) (fun _ _ _ _ _ => (pts_one ((pw_and (pt_cmpR (kNe (K := K) hr) (pv 6) pe_int (nomark _)) (pw_and1 (pt_cmpR (kNotIn (K := K) hr) (pv 7) (pv 2) (by rfl))))).pt)) (fun _ _ _ _ _ => (pv 7)))
  (pss_cons (ps_if (pt_cmpR (kNe (K := K) hr) (pv 4) (pe_lst pa_nil) (nomark _)) (pss_one (ps_ret (pe_tup (pa_cons pe_str (pa_cons (pe_ix (kIx (K := K)) (pv 4) pe_int (fun _ _ => rfl)) pa_nil))))) pss_nil)
  (pss_cons (ps_setLc (i := 5) (own := [("i", 7), ("one", 6), ("late", 8)]) rfl sc_judge_turned.nd rfl rfl (sw_true rfl rfl rfl (by decide +kernel)) (piEZ (K := K) (by rfl) T.m_enumerate (by rfl) T.m_zip (pa_cons (pv 3) (pa_cons (pe_callG ((ok_led_row T).mono (by decide)) hgd hr (by rfl) T.g_led_row T.F_led_row.kp (b_led_row_T T) (pa_cons (pv 0) (pa_cons (pv 3) pa_nil))) pa_nil))) (blkOk_by (by kernel_rfl)) (fun _ _ _ _ _ => (pgTup (K := K) (n := 2) rfl (pgs_cons (pg_name (i := 7) sc_judge_turned.nd rfl (Or.inl rfl)) (pgs_cons (pgTup (K := K) (n := 2) rfl (pgs_cons (pg_name (i := 6) sc_judge_turned.nd rfl (Or.inl rfl)) (pgs_cons (pg_name (i := 8) sc_judge_turned.nd rfl (Or.inl rfl)) pgs_nil))) pgs_nil)))) (fun _ _ _ _ _ => (pts_one (pt_cmpR op_gt (pe_op (kMul (K := K)) (pv 6) (pv 8)) pe_int (nomark _)))) (fun _ _ _ _ _ => (pv 7)))
  (pss_one (ps_ret (pe_ifExp (pt_cmpR (kEq (K := K) hr) (pv 5) (pe_lst pa_nil) (nomark _)) pe_non (pe_tup (pa_cons pe_str (pa_cons (pe_ix (kIx (K := K)) (pv 5) pe_int (fun _ _ => rfl)) pa_nil))))))))))))), ?_⟩)
  exact body_p (n := 2) (m := 7) (Γr := [.fro, .fro, .fro, .fro, .fro, .fro, .fro]) (Γl := []) (Γ' := []) (N := ["M", "value", "lot", "x", "outside", "wrong", "one", "i", "late"]) (sem_seq (sem_if (sem_and (sem_tB ((sem_isi ((sem_var (i := 1) rfl)).v)).v) (sem_and (sem_test ((sem_op oe_eq ((sem_cb ca_len (sem_vcons ((sem_var (i := 1) rfl)).v sem_vnil))).v (sem_int).v)).v) (sem_test ((sem_op oe_eq ((sem_op oe_ix ((sem_var (i := 1) rfl)).v (sem_int).v)).v (sem_str).v)).v))) (sem_ret (sem_eIf (sem_tB ((sem_call (sem_acons (sem_var (i := 0) rfl) sem_anil))).v) sem_non (sem_tup (sem_acons sem_str sem_anil)))) sem_nx)
  (sem_seq (sem_if (sem_not (sem_tB ((sem_call (sem_acons (sem_cb ca_len (sem_vcons ((sem_var (i := 0) rfl)).v sem_vnil)) (sem_acons (sem_var (i := 1) rfl) sem_anil)))).v)) (sem_ret (sem_tup (sem_acons sem_str sem_anil))) sem_nx)
  (sem_seq (sem_tgt (sem_tup (sem_acons (sem_op oe_ix ((sem_var (i := 1) rfl)).v (sem_int).v) (sem_acons (sem_op oe_ix ((sem_var (i := 1) rfl)).v (sem_int).v) sem_anil))) (sem_gtup (sem_gscons (sem_gname (i := 2) rfl) (sem_gscons (sem_gname (i := 3) rfl) sem_gsnil))))
  (sem_seq (sem_if (sem_tB ((sem_cb ca_all (sem_vcons ((sem_lc (semIc_seq ((sem_var (i := 3) rfl)).v) (sem_gname (i := 6) rfl) sem_yes (sem_op oe_eq ((sem_var (i := 6) rfl)).v (sem_int).v) (allFro rfl) (by decide))).e.v sem_vnil))).v) (sem_ret (sem_tup (sem_acons sem_str sem_anil))) sem_nx)
  (sem_seq (sem_asg ((sem_lc (semIc_enum (sem_vcons ((sem_var (i := 3) rfl)).v sem_vnil)) (sem_gtup (sem_gscons (sem_gname (i := 7) rfl) (sem_gscons (sem_gname (i := 6) rfl) sem_gsnil))) (sem_and (sem_test ((sem_op oe_ne ((sem_var (i := 6) rfl)).v (sem_int).v)).v) (sem_test ((sem_op oe_in ((sem_var (i := 7) rfl)).v ((sem_var (i := 2) rfl)).v)).v)) (sem_var (i := 7) rfl) (allFro rfl) (by decide))).e (by decide))
  (sem_seq (sem_if (sem_test ((sem_op oe_ne ((sem_var (i := 4) rfl)).v ((sem_lst sem_anil)).e.v)).v) (sem_ret (sem_tup (sem_acons sem_str (sem_acons (sem_op oe_ix ((sem_var (i := 4) rfl)).v (sem_int).v) sem_anil)))) sem_nx)
  (sem_seq (sem_asg ((sem_lc (semIc_ez (sem_vcons ((sem_var (i := 3) rfl)).v (sem_vcons ((sem_call (sem_acons (sem_var (i := 0) rfl) (sem_acons (sem_var (i := 3) rfl) sem_anil)))).v sem_vnil))) (sem_gtup (sem_gscons (sem_gname (i := 7) rfl) (sem_gscons (sem_gtup (sem_gscons (sem_gname (i := 6) rfl) (sem_gscons (sem_gname (i := 8) rfl) sem_gsnil))) sem_gsnil))) (sem_test ((sem_op oe_gt ((sem_op oe_mulX ((sem_var (i := 6) rfl)).v ((sem_var (i := 8) rfl)).v)).v (sem_int).v)).v) (sem_var (i := 7) rfl) (allFro rfl) (by decide))).e (by decide))
  (sem_ret (sem_eIf (sem_test ((sem_op oe_eq ((sem_var (i := 5) rfl)).v ((sem_lst sem_anil)).e.v)).v) sem_non (sem_tup (sem_acons sem_str (sem_acons (sem_op oe_ix ((sem_var (i := 5) rfl)).v (sem_int).v) sem_anil)))))))))))) rfl rfl h
theorem b__law_open_cells_T (T : Tx K mg) : Binds K T.fd__law_open_cells ["script"] [] := T.F__law_open_cells.binds fun _ _ _ _ _ _ us hl => match us, hl with | [_], _ => rfl
theorem ok__law_open_cells (T : Tx K mg) : FnG Pr w K mg base 1 T.a__law_open_cells T.fd__law_open_cells ["script"] (spOpen K) := by
  refine fn_g (k := 0) T.F__law_open_cells sc__law_open_cells (fun vs H Q E ⟨a, ns, e, _⟩ => by rw [e]; rfl) (fun cdv A outer s H vs Q E hgd hr h => ⟨tOpen K, (pss_cons (ps_set (i := 1) sc__law_open_cells.nd rfl (Or.inl rfl) pe_int)
  (pss_cons (ps_for PassesOwn.never rfl (pi_list (pv 0)) (pg_name (i := 2) sc__law_open_cells.nd rfl (Or.inl rfl)) (pss_one (ps_set (i := 1) sc__law_open_cells.nd rfl (Or.inl rfl) (pe_op op_mod (pe_callTy call_int1 (by rfl) T.m_int bt_int (pa_cons (pe_op op_add (pe_op op_add (pe_op op_mul (pv 1) pe_int) (pe_op op_mul (pv 2) pe_int)) pe_int) pa_nil)) pe_int))))
  (pss_cons (ps_setLc (i := 3) (own := [("cell", 2)]) rfl sc__law_open_cells.nd rfl rfl (sw_true rfl rfl rfl (by decide +kernel)) (pi_list (pv 0)) (blkOk_by (by kernel_rfl)) (fun _ _ _ _ _ => (pg_name (i := 2) sc__law_open_cells.nd rfl (Or.inl rfl))) (fun _ _ _ _ _ => pts_nil) (fun _ _ _ _ _ => (pe_callB call_abs (by rfl) T.m_abs bt_abs (pa_cons (pv 2) pa_nil))))
  (pss_one (ps_ret (pe_disp (pps_cons pe_str (pe_revL (pv 3)) (pps_cons pe_str pe_int (pps_cons pe_str (pv 1) (pps_cons pe_str pe_int pps_nil)))) rfl rfl (by simp) (by decide))))))), ?_⟩)
  exact open_body rfl h
theorem b__law_pick_T (T : Tx K mg) : Binds K T.fd__law_pick ["source", "most"] [] := T.F__law_pick.binds fun _ _ _ _ _ _ us hl => match us, hl with | [_, _], _ => rfl
theorem ok__law_pick (T : Tx K mg) : FnG Pr w K mg base 1 T.a__law_pick T.fd__law_pick ["source", "most"] (spX 1 F__law_pick) := by
  refine fn_g (k := 0) T.F__law_pick sc__law_pick (fun vs H Q E h => spX_len h) (fun cdv A outer s H vs Q E hgd hr h => ⟨tPick K, (pss_cons (ps_if (pt_cmpR op_lt (pv 1) pe_int (nomark _)) (pss_one (ps_ret pe_int)) pss_nil)
  (pss_cons (ps_set (i := 2) sc__law_pick.nd rfl (Or.inl rfl) (pe_dget (hu_of hr) (pv 0) pe_str (fun _ _ => rfl)))
  (pss_cons (ps_while PassesOwn.never (pw_and (pt_cmpR op_lt (pe_dget (hu_of hr) (pv 0) pe_str (fun _ _ => rfl)) pe_int (nomark _)) (pw_and1 (pt_cmpR op_gt (pe_callB (kLen (K := K)) (by rfl) T.m_len bt_len (pa_cons (pv 2) pa_nil)) pe_int (nomark _)))).pt (pss_one (ps_dput (hu_of hr) (pv 0) pe_str (pe_bm0 PySem.F.plainAttrs_list PySem.F.slot_list_pop PySem.F.type_list_pop mt_pop (pv 2)) rfl)))
  (pss_cons (ps_set (i := 3) sc__law_pick.nd rfl (Or.inl rfl) (pe_dget (hu_of hr) (pv 0) pe_str (fun _ _ => rfl)))
  (pss_cons (ps_if (pt_cmpR op_gt (pv 3) pe_int (nomark _)) (pss_cons (ps_dput (hu_of hr) (pv 0) pe_str (pe_op op_fdiv (pv 3) (pv 1)) rfl) (pss_one (ps_ret (pe_op op_mod (pe_callTy call_int1 (by rfl) T.m_int bt_int (pa_cons (pv 3) pa_nil)) (pv 1))))) pss_nil)
  (pss_cons (ps_dput (hu_of hr) (pv 0) pe_str (pe_op op_add (pe_dget (hu_of hr) (pv 0) pe_str (fun _ _ => rfl)) pe_int) rfl)
  (pss_cons (ps_set (i := 4) sc__law_pick.nd rfl (Or.inl rfl) (pe_dget (hu_of hr) (pv 0) pe_str (fun _ _ => rfl)))
  (pss_cons (ps_set (i := 5) sc__law_pick.nd rfl (Or.inl rfl) (pe_op op_mod (pe_callTy call_int1 (by rfl) T.m_int bt_int (pa_cons (pe_op op_add (pe_dget (hu_of hr) (pv 0) pe_str (fun _ _ => rfl)) (pe_op op_mul (pv 4) pe_int)) pa_nil)) pe_int))
  (pss_cons (ps_set (i := 5) sc__law_pick.nd rfl (Or.inl rfl) (pe_op op_mod (pe_callTy call_int1 (by rfl) T.m_int bt_int (pa_cons (pe_op op_add (pe_op op_mul (pv 5) (pv 5)) (pe_op op_mul (pv 4) pe_int)) pa_nil)) pe_int))
  (pss_one (ps_ret (pe_op op_mod (pe_callTy call_int1 (by rfl) T.m_int bt_int (pa_cons (pe_op op_fdiv (pv 5) pe_int) pa_nil)) (pv 1))))))))))))), ?_⟩)
  exact pick_x rfl h
theorem b__law_draw_table_T (T : Tx K mg) : Binds K T.fd__law_draw_table ["source", "road"] [] := T.F__law_draw_table.binds fun _ _ _ _ _ _ us hl => match us, hl with | [_, _], _ => rfl
set_option maxHeartbeats 4000000 in
theorem ok__law_draw_table (T : Tx K mg) : FnG Pr w K mg base 2 T.a__law_draw_table T.fd__law_draw_table ["source", "road"] (spX 1 F__law_draw_table) := by
  refine fn_g (k := 1) T.F__law_draw_table sc__law_draw_table (fun vs H Q E h => spX_len h) (fun cdv A outer s H vs Q E hgd hr h => ⟨_, (pss_cons (ps_set (i := 2) sc__law_draw_table.nd rfl (Or.inr rfl) (pe_op (kAdd (K := K)) pe_int (pe_callG ((ok__law_pick T).mono (by decide)) hgd hr (by rfl) T.g__law_pick T.F__law_pick.kp (b__law_pick_T T) (pa_cons (pv 0) (pa_cons (pe_ifExp (ptTru (K := K) (pv 1)) pe_int pe_int) pa_nil)))))
  (pss_cons (ps_set (i := 3) sc__law_draw_table.nd rfl (Or.inr rfl) (pe_lc (own := [("i", 4)]) rfl sc__law_draw_table.nd  (pi_range1 (by rfl) T.m_range (pa_cons (pv 2) pa_nil)) (blkOk_by (by kernel_rfl)) (fun _ _ _ _ _ => (pg_name (i := 4) sc__law_draw_table.nd rfl (Or.inl rfl))) (fun _ _ _ _ _ => pts_nil) (fun _ _ _ _ _ => (pe_lc (own := [("j", 5)]) rfl sc__law_draw_table.nd  (pi_range1 (by rfl) T.m_range (pa_cons (pv 2) pa_nil)) (blkOk_by (by kernel_rfl)) (fun _ _ _ _ _ => (pg_name (i := 5) sc__law_draw_table.nd rfl (Or.inl rfl))) (fun _ _ _ _ _ => pts_nil) (fun _ _ _ _ _ => (pe_op op_sub (pe_callG ((ok__law_pick T).mono (by decide)) hgd hr (by rfl) T.g__law_pick T.F__law_pick.kp (b__law_pick_T T) (pa_cons (pv 0) (pa_cons pe_int pa_nil))) pe_int))))))
  (pss_cons (ps_if (pt_cmpR (kEq (K := K) hr) (pv 1) pe_int (nomark _)) (pss_one (ps_set (i := 3) sc__law_draw_table.nd rfl (Or.inr rfl) (pe_lc (own := [("i", 4), ("row", 6)]) rfl sc__law_draw_table.nd  (piEnum (K := K) (by rfl) T.m_enumerate (pa_cons (pv 3) pa_nil)) (blkOk_by (by kernel_rfl)) (fun _ _ _ _ _ => (pgTup (K := K) (n := 2) rfl (pgs_cons (pg_name (i := 4) sc__law_draw_table.nd rfl (Or.inr rfl)) (pgs_cons (pg_name (i := 6) sc__law_draw_table.nd rfl (Or.inr rfl)) pgs_nil)))) (fun _ _ _ _ _ => pts_nil) (fun _ _ _ _ _ => (pe_lc (own := [("j", 5), ("x", 7)]) rfl sc__law_draw_table.nd  (piEnum (K := K) (by rfl) T.m_enumerate (pa_cons (pv 6) pa_nil)) (blkOk_by (by kernel_rfl)) (fun _ _ _ _ _ => (pgTup (K := K) (n := 2) rfl (pgs_cons (pg_name (i := 5) sc__law_draw_table.nd rfl (Or.inl rfl)) (pgs_cons (pg_name (i := 7) sc__law_draw_table.nd rfl (Or.inl rfl)) pgs_nil)))) (fun _ _ _ _ _ => pts_nil) (fun _ _ _ _ _ => (pe_op (kAdd (K := K)) (pv 7) (pe_op (kMul (K := K)) (pe_callTy call_int1 (by rfl) T.m_int bt_int (pa_cons (pe_cmpR (kEq (K := K) hr) (pv 4) (pv 5) (nomark _)) pa_nil)) (pe_op (kAdd (K := K)) pe_int (pe_callB (kSum (K := K) rfl) (by rfl) T.m_sum bt_sum (pa_cons (pe_lc (own := [("late", 8)]) rfl sc__law_draw_table.nd  (piSeq (K := K) (pv 6)) (blkOk_by (by kernel_rfl)) (fun _ _ _ _ _ => (pg_name (i := 8) sc__law_draw_table.nd rfl (Or.inl rfl))) (fun _ _ _ _ _ => pts_nil) (fun _ _ _ _ _ => (pe_callB call_abs (by rfl) T.m_abs bt_abs (pa_cons (pv 8) pa_nil)))) pa_nil))))))))))) pss_nil)
  (pss_cons (ps_if (pt_cmpR (kEq (K := K) hr) (pv 1) pe_int (nomark _)) (pss_one (ps_set (i := 3) sc__law_draw_table.nd rfl (Or.inr rfl) (pe_lc (own := [("i", 4)]) rfl sc__law_draw_table.nd  (pi_range1 (by rfl) T.m_range (pa_cons (pv 2) pa_nil)) (blkOk_by (by kernel_rfl)) (fun _ _ _ _ _ => (pg_name (i := 4) sc__law_draw_table.nd rfl (Or.inr rfl))) (fun _ _ _ _ _ => pts_nil) (fun _ _ _ _ _ => (pe_lc (own := [("j", 5)]) rfl sc__law_draw_table.nd  (pi_range1 (by rfl) T.m_range (pa_cons (pv 2) pa_nil)) (blkOk_by (by kernel_rfl)) (fun _ _ _ _ _ => (pg_name (i := 5) sc__law_draw_table.nd rfl (Or.inl rfl))) (fun _ _ _ _ _ => pts_nil) (fun _ _ _ _ _ => (pe_op (kAdd (K := K)) (pe_callB (kSum (K := K) rfl) (by rfl) T.m_sum bt_sum (pa_cons (pe_lc (own := [("a", 9), ("b", 10)]) rfl sc__law_draw_table.nd  (piZip (K := K) (by rfl) T.m_zip (pa_cons (pe_ix (kIx (K := K)) (pv 3) (pv 4) (fun _ _ => rfl)) (pa_cons (pe_ix (kIx (K := K)) (pv 3) (pv 5) (fun _ _ => rfl)) pa_nil))) (blkOk_by (by kernel_rfl)) (fun _ _ _ _ _ => (pgTup (K := K) (n := 2) rfl (pgs_cons (pg_name (i := 9) sc__law_draw_table.nd rfl (Or.inl rfl)) (pgs_cons (pg_name (i := 10) sc__law_draw_table.nd rfl (Or.inl rfl)) pgs_nil)))) (fun _ _ _ _ _ => pts_nil) (fun _ _ _ _ _ => (pe_op (kMul (K := K)) (pv 9) (pv 10)))) pa_nil)) (pe_callTy call_int1 (by rfl) T.m_int bt_int (pa_cons (pe_cmpR (kEq (K := K) hr) (pv 4) (pv 5) (nomark _)) pa_nil))))))))) pss_nil)
  (pss_one (ps_ret (pe_callTy (kTup (K := K)) (by rfl) T.m_tuple bt_tuple (pa_cons (pe_lc (own := [("row", 6)]) rfl sc__law_draw_table.nd  (piSeq (K := K) (pv 3)) (blkOk_by (by kernel_rfl)) (fun _ _ _ _ _ => (pg_name (i := 6) sc__law_draw_table.nd rfl (Or.inl rfl))) (fun _ _ _ _ _ => pts_nil) (fun _ _ _ _ _ => (pe_callTy (kTup (K := K)) (by rfl) T.m_tuple bt_tuple (pa_cons (pv 6) pa_nil)))) pa_nil)))))))), ?_⟩)
  exact body_x (n := 1) (m := 9) (Γr := [.fro, .fro, .fro, .fro, .fro, .fro, .fro, .fro, .fro]) (Γl := []) (Γ' := []) (N := ["source", "road", "n", "M", "i", "j", "row", "x", "late", "a", "b"]) (fun src cl => (sem_seq (sem_asg (sem_op oe_add (sem_int).v ((sem_callX (i := 0) rfl (sem_acons (sem_eIf (sem_tru ((sem_var (i := 1) rfl)).v) sem_int sem_int) sem_anil))).v) (by decide))
  (sem_seq (sem_asg ((sem_lc (semIc_rng1 (sem_vcons ((sem_var (i := 2) rfl)).v sem_vnil)) (sem_gname (i := 4) rfl) sem_yes ((sem_lc (semIc_rng1 (sem_vcons ((sem_var (i := 2) rfl)).v sem_vnil)) (sem_gname (i := 5) rfl) sem_yes (sem_op oe_sub ((sem_callX (i := 0) rfl (sem_acons sem_int sem_anil))).v (sem_int).v) (allFro rfl) (by decide))).e (allFro rfl) (by decide))).e (by decide))
  (sem_seq (sem_if (sem_test ((sem_op oe_eq ((sem_var (i := 1) rfl)).v (sem_int).v)).v) (sem_asg ((sem_lc (semIc_enum (sem_vcons ((sem_var (i := 3) rfl)).v sem_vnil)) (sem_gtup (sem_gscons (sem_gname (i := 4) rfl) (sem_gscons (sem_gname (i := 6) rfl) sem_gsnil))) sem_yes ((sem_lc (semIc_enum (sem_vcons ((sem_var (i := 6) rfl)).v sem_vnil)) (sem_gtup (sem_gscons (sem_gname (i := 5) rfl) (sem_gscons (sem_gname (i := 7) rfl) sem_gsnil))) sem_yes (sem_op oe_add ((sem_var (i := 7) rfl)).v ((sem_op oe_mulX ((sem_cb ca_int (sem_vcons ((sem_op oe_eq ((sem_var (i := 4) rfl)).v ((sem_var (i := 5) rfl)).v)).v sem_vnil))).v ((sem_op oe_add (sem_int).v ((sem_cb ca_sum (sem_vcons ((sem_lc (semIc_seq ((sem_var (i := 6) rfl)).v) (sem_gname (i := 8) rfl) sem_yes (sem_cb ca_abs (sem_vcons ((sem_var (i := 8) rfl)).v sem_vnil)) (allFro rfl) (by decide))).e.v sem_vnil))).v)).v)).v) (allFro rfl) (by decide))).e (allFro rfl) (by decide))).e (by decide)) sem_nx)
  (sem_seq (sem_if (sem_test ((sem_op oe_eq ((sem_var (i := 1) rfl)).v (sem_int).v)).v) (sem_asg ((sem_lc (semIc_rng1 (sem_vcons ((sem_var (i := 2) rfl)).v sem_vnil)) (sem_gname (i := 4) rfl) sem_yes ((sem_lc (semIc_rng1 (sem_vcons ((sem_var (i := 2) rfl)).v sem_vnil)) (sem_gname (i := 5) rfl) sem_yes (sem_op oe_add ((sem_cb ca_sum (sem_vcons ((sem_lc (semIc_zip (sem_vcons ((sem_op oe_ix ((sem_var (i := 3) rfl)).v ((sem_var (i := 4) rfl)).v)).v (sem_vcons ((sem_op oe_ix ((sem_var (i := 3) rfl)).v ((sem_var (i := 5) rfl)).v)).v sem_vnil))) (sem_gtup (sem_gscons (sem_gname (i := 9) rfl) (sem_gscons (sem_gname (i := 10) rfl) sem_gsnil))) sem_yes (sem_op oe_mulX ((sem_var (i := 9) rfl)).v ((sem_var (i := 10) rfl)).v) (allFro rfl) (by decide))).e.v sem_vnil))).v ((sem_cb ca_int (sem_vcons ((sem_op oe_eq ((sem_var (i := 4) rfl)).v ((sem_var (i := 5) rfl)).v)).v sem_vnil))).v) (allFro rfl) (by decide))).e (allFro rfl) (by decide))).e (by decide)) sem_nx)
  (sem_ret (sem_cb ca_tup (sem_vcons ((sem_lc (semIc_seq ((sem_var (i := 3) rfl)).v) (sem_gname (i := 6) rfl) sem_yes (sem_cb ca_tup (sem_vcons ((sem_var (i := 6) rfl)).v sem_vnil)) (allFro rfl) (by decide))).e.v sem_vnil)))))))) rfl rfl h
theorem b__law_determinant_T (T : Tx K mg) : Binds K T.fd__law_determinant ["rows"] [] := T.F__law_determinant.binds fun _ _ _ _ _ _ us hl => match us, hl with | [_], _ => rfl
set_option maxHeartbeats 4000000 in
theorem okr__law_determinant (T : Tx K mg) : ∀ j : Nat, FnG Pr w K mg base (1 + j) T.a__law_determinant T.fd__law_determinant ["rows"] (spP 1 (R__law_determinant j))
  | 0 => by
    refine fn_g (k := 0) T.F__law_determinant sc__law_determinant (fun vs H Q E h => h.1) (fun cdv A outer s H vs Q E hgd hr h => ?_)
    obtain ⟨_, ds, U, Pp, C⟩ := h
    exact False.elim C.run
  | j + 1 => by
    have hG__law_determinant := okr__law_determinant T j
    refine fn_g (k := 1 + j) T.F__law_determinant sc__law_determinant (fun vs H Q E h => h.1) (fun cdv A outer s H vs Q E hgd hr h => ⟨_, (pss_cons (ps_if (pt_cmpR (kEq (K := K) hr) (pv 0) (pe_lst pa_nil) (nomark _)) (pss_one (ps_ret pe_int)) pss_nil)
  (pss_cons (ps_set (i := 1) sc__law_determinant.nd rfl (Or.inl rfl) pe_int)
  (pss_cons (ps_for PassesOwn.never rfl (pi_range1 (by rfl) T.m_range (pa_cons (pe_callB (kLen (K := K)) (by rfl) T.m_len bt_len (pa_cons (pv 0) pa_nil)) pa_nil)) (pg_name (i := 2) sc__law_determinant.nd rfl (Or.inr rfl))
  (pss_cons (ps_setLc (i := 3) (own := [("row", 4)]) rfl sc__law_determinant.nd rfl rfl (sw_true rfl rfl rfl (by decide +kernel)) (piSeq (K := K) (pe_slice (kSl (K := K)) (pv 0) (po_some pe_int) po_none)) (blkOk_by (by kernel_rfl)) (fun _ _ _ _ _ => (pg_name (i := 4) sc__law_determinant.nd rfl (Or.inl rfl))) (fun _ _ _ _ _ => pts_nil) (fun _ _ _ _ _ => (pe_op (kAdd (K := K)) (pe_slice (kSl (K := K)) (pv 4) po_none (po_some (pv 2))) (pe_slice (kSl (K := K)) (pv 4) (po_some (pe_op (kAdd (K := K)) (pv 2) pe_int)) po_none))))
  (pss_one (ps_set (i := 1) sc__law_determinant.nd rfl (Or.inl rfl) (pe_op (kAdd (K := K)) (pv 1) (pe_op (kMul (K := K)) (pe_op (kMul (K := K)) (pe_op op_sub pe_int (pe_op (kMul (K := K)) pe_int (pe_op op_modN (pv 2) pe_int))) (pe_ix (kIx (K := K)) (pe_ix (kIx (K := K)) (pv 0) pe_int (fun _ _ => rfl)) (pv 2) (fun _ _ => rfl))) (pe_callG hG__law_determinant hgd hr (by rfl) T.g__law_determinant T.F__law_determinant.kp (b__law_determinant_T T) (pa_cons (pv 3) pa_nil))))))))
  (pss_one (ps_ret (pv 1)))))), ?_⟩)
    exact body_p (n := 1) (m := 4) (Γr := [.fro, .fro, .fro, .fro]) (Γl := []) (Γ' := []) (N := ["rows", "total", "j", "less", "row"]) (sem_seq (sem_if (sem_test ((sem_op oe_eq ((sem_var (i := 0) rfl)).v ((sem_lst sem_anil)).e.v)).v) (sem_ret sem_int) sem_nx)
  (sem_seq (sem_asg sem_int (by decide))
  (sem_seq (sem_for (semI_rng1 (sem_vcons ((sem_cb ca_len (sem_vcons ((sem_var (i := 0) rfl)).v sem_vnil))).v sem_vnil)) (sem_gname (i := 2) rfl)
  (sem_seq (sem_asg ((sem_lc (semIc_seq ((sem_sl ((sem_var (i := 0) rfl)).v (sem_oPart (sem_int).v) sem_oNo)).v) (sem_gname (i := 4) rfl) sem_yes (sem_op oe_add ((sem_sl ((sem_var (i := 4) rfl)).v sem_oNo (sem_oPart ((sem_var (i := 2) rfl)).v))).v ((sem_sl ((sem_var (i := 4) rfl)).v (sem_oPart ((sem_op oe_add ((sem_var (i := 2) rfl)).v (sem_int).v)).v) sem_oNo)).v) (allFro rfl) (by decide))).e (by decide))
  (sem_asg (sem_op oe_add ((sem_var (i := 1) rfl)).v ((sem_op oe_mulX ((sem_op oe_mulX ((sem_op oe_sub (sem_int).v ((sem_op oe_mulX (sem_int).v ((sem_op oe_mod ((sem_var (i := 2) rfl)).v (sem_int).v)).v)).v)).v ((sem_op oe_ix ((sem_op oe_ix ((sem_var (i := 0) rfl)).v (sem_int).v)).v ((sem_var (i := 2) rfl)).v)).v)).v ((sem_call (sem_acons (sem_var (i := 3) rfl) sem_anil))).v)).v) (by decide))))
  (sem_ret (sem_var (i := 1) rfl))))) rfl rfl h
theorem ok__law_determinant (T : Tx K mg) : FnG Pr w K mg base (1 + 5) T.a__law_determinant T.fd__law_determinant ["rows"] (spP 1 F__law_determinant) := okr__law_determinant T 5
theorem b__law_within_T (T : Tx K mg) : Binds K T.fd__law_within ["M", "lot"] [] := T.F__law_within.binds fun _ _ _ _ _ _ us hl => match us, hl with | [_, _], _ => rfl
set_option maxHeartbeats 4000000 in
theorem ok__law_within (T : Tx K mg) : FnG Pr w K mg base 7 T.a__law_within T.fd__law_within ["M", "lot"] (spP 2 F__law_within) := by
  refine fn_g (k := 6) T.F__law_within sc__law_within (fun vs H Q E h => h.1) (fun cdv A outer s H vs Q E hgd hr h => ⟨_, (pss_one (ps_ret (pe_callG ((ok__law_determinant T).mono (by decide)) hgd hr (by rfl) T.g__law_determinant T.F__law_determinant.kp (b__law_determinant_T T) (pa_cons (pe_lc (own := [("i", 2)]) rfl sc__law_within.nd  (piSeq (K := K) (pv 1)) (blkOk_by (by kernel_rfl)) (fun _ _ _ _ _ => (pg_name (i := 2) sc__law_within.nd rfl (Or.inr rfl))) (fun _ _ _ _ _ => pts_nil) (fun _ _ _ _ _ => (pe_lc (own := [("j", 3)]) rfl sc__law_within.nd  (piSeq (K := K) (pv 1)) (blkOk_by (by kernel_rfl)) (fun _ _ _ _ _ => (pg_name (i := 3) sc__law_within.nd rfl (Or.inl rfl))) (fun _ _ _ _ _ => pts_nil) (fun _ _ _ _ _ => (pe_ix (kIx (K := K)) (pe_ix (kIx (K := K)) (pv 0) (pv 2) (fun _ _ => rfl)) (pv 3) (fun _ _ => rfl)))))) pa_nil)))), ?_⟩)
  exact body_p (n := 2) (m := 2) (Γr := [.fro, .fro]) (Γl := []) (Γ' := []) (N := ["M", "lot", "i", "j"]) (sem_ret (sem_call (sem_acons ((sem_lc (semIc_seq ((sem_var (i := 1) rfl)).v) (sem_gname (i := 2) rfl) sem_yes ((sem_lc (semIc_seq ((sem_var (i := 1) rfl)).v) (sem_gname (i := 3) rfl) sem_yes (sem_op oe_ix ((sem_op oe_ix ((sem_var (i := 0) rfl)).v ((sem_var (i := 2) rfl)).v)).v ((sem_var (i := 3) rfl)).v) (allFro rfl) (by decide))).e (allFro rfl) (by decide))).e sem_anil))) rfl rfl h
theorem b__law_lots_T (T : Tx K mg) : Binds K T.fd__law_lots ["n"] [] := T.F__law_lots.binds fun _ _ _ _ _ _ us hl => match us, hl with | [_], _ => rfl
set_option maxHeartbeats 4000000 in
theorem ok__law_lots (T : Tx K mg) : FnG Pr w K mg base 1 T.a__law_lots T.fd__law_lots ["n"] (spP 1 F__law_lots) := by
  refine fn_g (k := 0) T.F__law_lots sc__law_lots (fun vs H Q E h => h.1) (fun cdv A outer s H vs Q E hgd hr h => ⟨_, (pss_cons (ps_set (i := 1) sc__law_lots.nd rfl (Or.inl rfl) (pe_lst (pa_cons (pe_tup pa_nil) pa_nil)))
  (pss_cons (ps_for PassesOwn.never rfl (pi_range1 (by rfl) T.m_range (pa_cons (pv 0) pa_nil)) (pg_name (i := 2) sc__law_lots.nd rfl (Or.inr rfl))
  (pss_one (ps_set (i := 1) sc__law_lots.nd rfl (Or.inl rfl) (pe_op (kAdd (K := K)) (pv 1) (pe_lc (own := [("lot", 3)]) rfl sc__law_lots.nd  (piSeq (K := K) (pv 1)) (blkOk_by (by kernel_rfl)) (fun _ _ _ _ _ => (pg_name (i := 3) sc__law_lots.nd rfl (Or.inl rfl))) (fun _ _ _ _ _ => pts_nil) (fun _ _ _ _ _ => (pe_op (kAdd (K := K)) (pv 3) (pe_tup (pa_cons (pv 2) pa_nil)))))))))
  (pss_one (ps_ret (pe_callB (kSrt (K := K) hr) (by rfl) T.m_sorted bt_sorted (pa_cons (pv 1) pa_nil)))))), ?_⟩)
  exact body_p (n := 1) (m := 3) (Γr := [.fro, .fro, .fro]) (Γl := []) (Γ' := []) (N := ["n", "found", "i", "lot"]) (sem_seq (sem_asg ((sem_lst (sem_acons (sem_tup sem_anil) sem_anil))).e (by decide))
  (sem_seq (sem_for (semI_rng1 (sem_vcons ((sem_var (i := 0) rfl)).v sem_vnil)) (sem_gname (i := 2) rfl)
  (sem_asg (sem_op oe_add ((sem_var (i := 1) rfl)).v ((sem_lc (semIc_seq ((sem_var (i := 1) rfl)).v) (sem_gname (i := 3) rfl) sem_yes (sem_op oe_add ((sem_var (i := 3) rfl)).v ((sem_tup (sem_acons (sem_var (i := 2) rfl) sem_anil))).v) (allFro rfl) (by decide))).e.v) (by decide)))
  (sem_ret ((sem_cbL ca_srt (sem_vcons ((sem_var (i := 1) rfl)).v sem_vnil))).e))) rfl rfl h
theorem b_law_T (T : Tx K mg) : Binds K T.fd_law ["script"] [] := T.F_law.binds fun _ _ _ _ _ _ us hl => match us, hl with | [_], _ => rfl
set_option maxHeartbeats 4000000 in
theorem ok_law (T : Tx K mg) : FnG Pr w K mg base 8 T.a_law T.fd_law ["script"] (spLaw K) := by
  refine fn_g (k := 7) T.F_law sc_law (fun vs H Q E ⟨a, ns, e, _⟩ => by rw [e]; rfl) (fun cdv A outer s H vs Q E hgd hr h => ⟨_, (pss_cons (ps_set (i := 1) sc_law.nd rfl (Or.inr rfl) (pe_callG ((ok__law_open_cells T).mono (by decide)) hgd hr (by rfl) T.g__law_open_cells T.F__law_open_cells.kp (b__law_open_cells_T T) (pa_cons (pv 0) pa_nil)))
  (pss_cons (ps_for PassesOwn.never rfl (pi_range1 (by rfl) T.m_range (pa_cons pe_int pa_nil)) (pg_name (i := 2) sc_law.nd rfl (Or.inl rfl))
  (pss_cons (ps_set (i := 3) sc_law.nd rfl (Or.inr rfl) (pe_callG ((ok__law_draw_table T).mono (by decide)) hgd hr (by rfl) T.g__law_draw_table T.F__law_draw_table.kp (b__law_draw_table_T T) (pa_cons (pv 1) (pa_cons (pe_callG ((ok__law_pick T).mono (by decide)) hgd hr (by rfl) T.g__law_pick T.F__law_pick.kp (b__law_pick_T T) (pa_cons (pv 1) (pa_cons pe_int pa_nil))) pa_nil))))
  (pss_cons (ps_par3 (i := 4) (j := 5) (l := 6) rfl sc_law.nd rfl rfl rfl (by decide) (by decide) (by decide) rfl rfl rfl (pa_cons (pe_callB (kLen (K := K)) (by rfl) T.m_len bt_len (pa_cons (pv 3) pa_nil)) (pa_cons (pe_callG ((ok__law_lots T).mono (by decide)) hgd hr (by rfl) T.g__law_lots T.F__law_lots.kp (b__law_lots_T T) (pa_cons (pe_callB (kLen (K := K)) (by rfl) T.m_len bt_len (pa_cons (pv 3) pa_nil)) pa_nil)) (pa_cons (pe_callB (kRepr (K := K) hgd hr) (by rfl) T.m_repr bt_repr (pa_cons (pv 3) pa_nil)) pa_nil))) (by rfl))
  (pss_cons (ps_setLc (i := 7) (own := [("lot", 8)]) rfl sc_law.nd rfl rfl (sw_true rfl rfl rfl (by decide +kernel)) (piSeq (K := K) (pv 5)) (blkOk_by (by kernel_rfl)) (fun _ _ _ _ _ => (pg_name (i := 8) sc_law.nd rfl (Or.inl rfl))) (fun _ _ _ _ _ => pts_nil) (fun _ _ _ _ _ => (pe_tup (pa_cons (pv 8) (pa_cons (pe_callG ((ok__law_within T).mono (by decide)) hgd hr (by rfl) T.g__law_within T.F__law_within.kp (b__law_within_T T) (pa_cons (pv 3) (pa_cons (pv 8) pa_nil))) pa_nil)))))
  (pss_cons (ps_if ((pw_or (pt_cmpR (kNe (K := K) hr) (pe_callB (kRepr (K := K) hgd hr) (by rfl) T.m_repr bt_repr (pa_cons (pe_callG ((ok_determinants_within T).mono (by decide)) hgd hr (by rfl) T.g_determinants_within T.F_determinants_within.kp (b_determinants_within_T T) (pa_cons (pv 3) pa_nil)) pa_nil)) (pe_callB (kRepr (K := K) hgd hr) (by rfl) T.m_repr bt_repr (pa_cons (pe_callTy (kTup (K := K)) (by rfl) T.m_tuple bt_tuple (pa_cons (pv 7) pa_nil)) pa_nil)) (nomark _)) (pw_or1 (pt_cmpR (kNe (K := K) hr) (pe_callB (kRepr (K := K) hgd hr) (by rfl) T.m_repr bt_repr (pa_cons (pv 3) pa_nil)) (pv 6) (nomark _))))).pt (pss_one (ps_ret pe_bl)) pss_nil)
  (pss_cons (ps_asg (pe_ix (kIx (K := K)) (pv 7) (pe_callG ((ok__law_pick T).mono (by decide)) hgd hr (by rfl) T.g__law_pick T.F__law_pick.kp (b__law_pick_T T) (pa_cons (pv 1) (pa_cons (pe_callB (kLen (K := K)) (by rfl) T.m_len bt_len (pa_cons (pv 7) pa_nil)) pa_nil))) (fun _ _ => rfl)) (pgTup (K := K) (n := 2) rfl (pgs_cons (pg_name (i := 8) sc_law.nd rfl (Or.inl rfl)) (pgs_cons (pg_name (i := 9) sc_law.nd rfl (Or.inl rfl)) pgs_nil))))
  (pss_cons (ps_set (i := 10) sc_law.nd rfl (Or.inl rfl) (pe_callB (kAll (K := K) rfl) (by rfl) T.m_all bt_all (pa_cons (pe_lc (own := [("one", 16), ("late", 15)]) rfl sc_law.nd  (piSeq (K := K) (pv 7)) (blkOk_by (by kernel_rfl)) (fun _ _ _ _ _ => (pgTup (K := K) (n := 2) rfl (pgs_cons (pg_name (i := 16) sc_law.nd rfl (Or.inl rfl)) (pgs_cons (pg_name (i := 15) sc_law.nd rfl (Or.inl rfl)) pgs_nil)))) (fun _ _ _ _ _ => pts_nil) (fun _ _ _ _ _ => (pe_cmpR op_gt (pv 15) pe_int (nomark _)))) pa_nil)))
  (pss_cons (ps_if ((pw_or (pt_cmpR (kNe (K := K) hr) (pe_callB (kRepr (K := K) hgd hr) (by rfl) T.m_repr bt_repr (pa_cons (pe_callG ((ok_determinant_within T).mono (by decide)) hgd hr (by rfl) T.g_determinant_within T.F_determinant_within.kp (b_determinant_within_T T) (pa_cons (pv 3) (pa_cons (pv 8) pa_nil))) pa_nil)) (pe_callB (kRepr (K := K) hgd hr) (by rfl) T.m_repr bt_repr (pa_cons (pv 9) pa_nil)) (nomark _)) (pw_or1 (pt_cmpR (kNe (K := K) hr) (pe_callB (kRepr (K := K) hgd hr) (by rfl) T.m_repr bt_repr (pa_cons (pe_callG ((ok_is_above T).mono (by decide)) hgd hr (by rfl) T.g_is_above T.F_is_above.kp (b_is_above_T T) (pa_cons (pv 3) pa_nil)) pa_nil)) (pe_callB (kRepr (K := K) hgd hr) (by rfl) T.m_repr bt_repr (pa_cons (pv 10) pa_nil)) (nomark _))))).pt (pss_one (ps_ret pe_bl)) pss_nil)
  (pss_cons (ps_set (i := 11) sc_law.nd rfl (Or.inr rfl) (pe_callTy (kTup (K := K)) (by rfl) T.m_tuple bt_tuple (pa_cons (pe_lc (own := [("i", 17)]) rfl sc_law.nd  (pi_range1 (by rfl) T.m_range (pa_cons (pv 4) pa_nil)) (blkOk_by (by kernel_rfl)) (fun _ _ _ _ _ => (pg_name (i := 17) sc_law.nd rfl (Or.inl rfl))) (fun _ _ _ _ _ => pts_nil) (fun _ _ _ _ _ => (pe_op op_sub (pe_callG ((ok__law_pick T).mono (by decide)) hgd hr (by rfl) T.g__law_pick T.F__law_pick.kp (b__law_pick_T T) (pa_cons (pv 1) (pa_cons pe_int pa_nil))) pe_int))) pa_nil)))
  (pss_cons (ps_set (i := 12) sc_law.nd rfl (Or.inl rfl) (pe_callTy (kTup (K := K)) (by rfl) T.m_tuple bt_tuple (pa_cons (pe_lc (own := [("row", 18)]) rfl sc_law.nd  (piSeq (K := K) (pv 3)) (blkOk_by (by kernel_rfl)) (fun _ _ _ _ _ => (pg_name (i := 18) sc_law.nd rfl (Or.inl rfl))) (fun _ _ _ _ _ => pts_nil) (fun _ _ _ _ _ => (pe_callB (kSum (K := K) rfl) (by rfl) T.m_sum bt_sum (pa_cons (pe_lc (own := [("a", 19), ("b", 20)]) rfl sc_law.nd  (piZip (K := K) (by rfl) T.m_zip (pa_cons (pv 18) (pa_cons (pv 11) pa_nil))) (blkOk_by (by kernel_rfl)) (fun _ _ _ _ _ => (pgTup (K := K) (n := 2) rfl (pgs_cons (pg_name (i := 19) sc_law.nd rfl (Or.inl rfl)) (pgs_cons (pg_name (i := 20) sc_law.nd rfl (Or.inl rfl)) pgs_nil)))) (fun _ _ _ _ _ => pts_nil) (fun _ _ _ _ _ => (pe_op (kMul (K := K)) (pv 19) (pv 20)))) pa_nil)))) pa_nil)))
  (pss_cons (ps_if (pt_cmpR (kNe (K := K) hr) (pe_callB (kRepr (K := K) hgd hr) (by rfl) T.m_repr bt_repr (pa_cons (pe_callG ((ok_led_row T).mono (by decide)) hgd hr (by rfl) T.g_led_row T.F_led_row.kp (b_led_row_T T) (pa_cons (pv 3) (pa_cons (pv 11) pa_nil))) pa_nil)) (pe_callB (kRepr (K := K) hgd hr) (by rfl) T.m_repr bt_repr (pa_cons (pv 12) pa_nil)) (nomark _)) (pss_one (ps_ret pe_bl)) pss_nil)
  (pss_cons (ps_if ((pw_and (ptTru (K := K) (pv 10)) (pw_and (pt_val (pe_callB (kAny (K := K) rfl) (by rfl) T.m_any bt_any (pa_cons (pe_lc (own := [("one", 16)]) rfl sc_law.nd  (piSeq (K := K) (pv 11)) (blkOk_by (by kernel_rfl)) (fun _ _ _ _ _ => (pg_name (i := 16) sc_law.nd rfl (Or.inl rfl))) (fun _ _ _ _ _ => pts_nil) (fun _ _ _ _ _ => (pe_cmpR (kNe (K := K) hr) (pv 16) pe_int (nomark _)))) pa_nil))) (pw_and1 (pt_val (pe_callB (kAll (K := K) rfl) (by rfl) T.m_all bt_all (pa_cons (pe_lc (own := [("one", 16), ("late", 15)]) rfl sc_law.nd  (piZip (K := K) (by rfl) T.m_zip (pa_cons (pv 11) (pa_cons (pv 12) pa_nil))) (blkOk_by (by kernel_rfl)) (fun _ _ _ _ _ => (pgTup (K := K) (n := 2) rfl (pgs_cons (pg_name (i := 16) sc_law.nd rfl (Or.inl rfl)) (pgs_cons (pg_name (i := 15) sc_law.nd rfl (Or.inl rfl)) pgs_nil)))) (fun _ _ _ _ _ => pts_nil) (fun _ _ _ _ _ => (pe_cmpR op_le (pe_op (kMul (K := K)) (pv 16) (pv 15)) pe_int (nomark _)))) pa_nil))))))).pt (pss_one (ps_ret pe_bl)) pss_nil)
  (pss_cons (ps_set (i := 13) sc_law.nd rfl (Or.inr rfl) (pe_callG ((ok_turned_paper T).mono (by decide)) hgd hr (by rfl) T.g_turned_paper T.F_turned_paper.kp (b_turned_paper_T T) (pa_cons (pv 3) pa_nil)))
  (pss_cons (ps_if (ptTru (K := K) (pv 10)) (pss_one (ps_if (pt_cmpR (kNe (K := K) hr) (pe_callB (kRepr (K := K) hgd hr) (by rfl) T.m_repr bt_repr (pa_cons (pv 13) pa_nil)) (pe_callB (kRepr (K := K) hgd hr) (by rfl) T.m_repr bt_repr (pa_cons (pe_tup (pa_cons pe_str pa_nil)) pa_nil)) (nomark _)) (pss_one (ps_ret pe_bl)) pss_nil)) (pss_cons (ps_set (i := 14) sc_law.nd rfl (Or.inr rfl) (pe_ix (kIx (K := K)) (pe_callB (kMin (K := K) rfl hr) (by rfl) T.m_min bt_min (pa_cons (pe_lc (own := [("one", 16), ("late", 15)]) rfl sc_law.nd  (piSeq (K := K) (pv 7)) (blkOk_by (by kernel_rfl)) (fun _ _ _ _ _ => (pgTup (K := K) (n := 2) rfl (pgs_cons (pg_name (i := 16) sc_law.nd rfl (Or.inl rfl)) (pgs_cons (pg_name (i := 15) sc_law.nd rfl (Or.inl rfl)) pgs_nil)))) (fun _ _ _ _ _ => (pts_one (pt_cmpR op_le (pv 15) pe_int (nomark _)))) (fun _ _ _ _ _ => (pe_tup (pa_cons (pe_callB (kLen (K := K)) (by rfl) T.m_len bt_len (pa_cons (pv 16) pa_nil)) (pa_cons (pv 16) pa_nil))))) pa_nil)) pe_int (fun _ _ => rfl)))
  (pss_cons (ps_if ((pw_or (pt_cmpR (kNe (K := K) hr) (pe_slice (kSl (K := K)) (pv 13) po_none (po_some pe_int)) (pe_tup (pa_cons pe_str (pa_cons (pv 14) pa_nil))) (nomark _)) (pw_or1 (pt_val (pe_callB (kAll (K := K) rfl) (by rfl) T.m_all bt_all (pa_cons (pe_lc (own := [("one", 16)]) rfl sc_law.nd  (piSeq (K := K) (pe_ix (kIx (K := K)) (pv 13) pe_int (fun _ _ => rfl))) (blkOk_by (by kernel_rfl)) (fun _ _ _ _ _ => (pg_name (i := 16) sc_law.nd rfl (Or.inl rfl))) (fun _ _ _ _ _ => pts_nil) (fun _ _ _ _ _ => (pe_cmpR (kEq (K := K) hr) (pv 16) pe_int (nomark _)))) pa_nil)))))).pt (pss_one (ps_ret pe_bl)) pss_nil)
  (pss_cons (ps_set (i := 15) sc_law.nd rfl (Or.inr rfl) (pe_callTy (kTup (K := K)) (by rfl) T.m_tuple bt_tuple (pa_cons (pe_lc (own := [("row", 18)]) rfl sc_law.nd  (piSeq (K := K) (pv 3)) (blkOk_by (by kernel_rfl)) (fun _ _ _ _ _ => (pg_name (i := 18) sc_law.nd rfl (Or.inl rfl))) (fun _ _ _ _ _ => pts_nil) (fun _ _ _ _ _ => (pe_callB (kSum (K := K) rfl) (by rfl) T.m_sum bt_sum (pa_cons (pe_lc (own := [("a", 19), ("b", 20)]) rfl sc_law.nd  (piZip (K := K) (by rfl) T.m_zip (pa_cons (pv 18) (pa_cons (pe_ix (kIx (K := K)) (pv 13) pe_int (fun _ _ => rfl)) pa_nil))) (blkOk_by (by kernel_rfl)) (fun _ _ _ _ _ => (pgTup (K := K) (n := 2) rfl (pgs_cons (pg_name (i := 19) sc_law.nd rfl (Or.inl rfl)) (pgs_cons (pg_name (i := 20) sc_law.nd rfl (Or.inl rfl)) pgs_nil)))) (fun _ _ _ _ _ => pts_nil) (fun _ _ _ _ _ => (pe_op (kMul (K := K)) (pv 19) (pv 20)))) pa_nil)))) pa_nil)))
  (pss_cons (ps_if ((pw_or (pt_val (pe_callB (kAny (K := K) rfl) (by rfl) T.m_any bt_any (pa_cons (pe_lc (own := [("one", 16), ("two", 21)]) rfl sc_law.nd  (piZip (K := K) (by rfl) T.m_zip (pa_cons (pe_ix (kIx (K := K)) (pv 13) pe_int (fun _ _ => rfl)) (pa_cons (pv 15) pa_nil))) (blkOk_by (by kernel_rfl)) (fun _ _ _ _ _ => (pgTup (K := K) (n := 2) rfl (pgs_cons (pg_name (i := 16) sc_law.nd rfl (Or.inl rfl)) (pgs_cons (pg_name (i := 21) sc_law.nd rfl (Or.inl rfl)) pgs_nil)))) (fun _ _ _ _ _ => pts_nil) (fun _ _ _ _ _ => (pe_cmpR op_gt (pe_op (kMul (K := K)) (pv 16) (pv 21)) pe_int (nomark _)))) pa_nil))) (pw_or1 (pt_cmpR op_le (pe_ix (kIx (K := K)) (pe_ix (kIx (K := K)) (pv 13) pe_int (fun _ _ => rfl)) (pe_ix (kIx (K := K)) (pv 14) pe_int (fun _ _ => rfl)) (fun _ _ => rfl)) pe_int (nomark _))))).pt (pss_one (ps_ret pe_bl)) pss_nil)
  (pss_one (ps_if ((pw_or (pt_val (pe_callB (kAny (K := K) rfl) (by rfl) T.m_any bt_any (pa_cons (pe_lc (own := [("i", 17)]) rfl sc_law.nd  (piSeq (K := K) (pe_slice (kSl (K := K)) (pv 14) (po_some pe_int) po_none)) (blkOk_by (by kernel_rfl)) (fun _ _ _ _ _ => (pg_name (i := 17) sc_law.nd rfl (Or.inl rfl))) (fun _ _ _ _ _ => pts_nil) (fun _ _ _ _ _ => (pe_cmpR (kNe (K := K) hr) (pe_ix (kIx (K := K)) (pv 15) (pv 17) (fun _ _ => rfl)) pe_int (nomark _)))) pa_nil))) (pw_or1 (pt_val (pe_callB (kAny (K := K) rfl) (by rfl) T.m_any bt_any (pa_cons (pe_lc (own := [("i", 17)]) rfl sc_law.nd  (pi_range1 (by rfl) T.m_range (pa_cons (pv 4) pa_nil)) (blkOk_by (by kernel_rfl)) (fun _ _ _ _ _ => (pg_name (i := 17) sc_law.nd rfl (Or.inl rfl))) (fun _ _ _ _ _ => (pts_one (pt_cmpR (kNotIn (K := K) hr) (pv 17) (pv 14) (by rfl)))) (fun _ _ _ _ _ => (pe_cmpR (kNe (K := K) hr) (pe_ix (kIx (K := K)) (pe_ix (kIx (K := K)) (pv 13) pe_int (fun _ _ => rfl)) (pv 17) (fun _ _ => rfl)) pe_int (nomark _)))) pa_nil)))))).pt (pss_one (ps_ret pe_bl)) pss_nil)))))))
  (pss_one (ps_if (pt_cmpR op_notN (pe_callG ((ok_judge_turned T).mono (by decide)) hgd hr (by rfl) T.g_judge_turned T.F_judge_turned.kp (b_judge_turned_T T) (pa_cons (pv 3) (pa_cons (pv 13) pa_nil))) pe_non (nomark _)) (pss_one (ps_ret pe_bl)) pss_nil))))))))))))))))
  (pss_one (ps_ret pe_bl)))), ?_⟩)
  exact law_rest (K := K) (N := ["script", "source", "lap", "M", "n", "lots", "shown", "table", "lot", "number", "due", "x", "led", "told", "wrong", "late", "one", "i", "row", "a", "b", "two"]) (Γr := [.fro, .fro, .fro, .fro, .fro, .fro, .fro, .fro, .fro, .fro, .fro, .fro, .fro, .fro, .fro, .fro, .fro, .fro, .fro, .fro]) (Γ' := []) (to := tNil) (fun src cl => (sem_seq (sem_for (semI_rng1 (sem_vcons (sem_int).v sem_vnil)) (sem_gname (i := 2) rfl)
  (sem_seq (sem_asg (sem_callX (i := 1) rfl (sem_acons (sem_callX (i := 1) rfl (sem_acons sem_int sem_anil)) sem_anil)) (by decide))
  (sem_seq (sem_par3 (sem_acons (sem_cb ca_len (sem_vcons ((sem_var (i := 3) rfl)).v sem_vnil)) (sem_acons (sem_call (sem_acons (sem_cb ca_len (sem_vcons ((sem_var (i := 3) rfl)).v sem_vnil)) sem_anil)) (sem_acons (sem_cb ca_repr (sem_vcons ((sem_var (i := 3) rfl)).v sem_vnil)) sem_anil))) rfl rfl rfl)
  (sem_seq (sem_asg ((sem_lc (semIc_seq ((sem_var (i := 5) rfl)).v) (sem_gname (i := 8) rfl) sem_yes (sem_tup (sem_acons (sem_var (i := 8) rfl) (sem_acons (sem_call (sem_acons (sem_var (i := 3) rfl) (sem_acons (sem_var (i := 8) rfl) sem_anil))) sem_anil))) (allFro rfl) (by decide))).e (by decide))
  (sem_seq (sem_if (sem_or (sem_test ((sem_op oe_ne ((sem_cb ca_repr (sem_vcons ((sem_call (sem_acons (sem_var (i := 3) rfl) sem_anil))).v sem_vnil))).v ((sem_cb ca_repr (sem_vcons ((sem_cb ca_tup (sem_vcons ((sem_var (i := 7) rfl)).v sem_vnil))).v sem_vnil))).v)).v) (sem_test ((sem_op oe_ne ((sem_cb ca_repr (sem_vcons ((sem_var (i := 3) rfl)).v sem_vnil))).v ((sem_var (i := 6) rfl)).v)).v)) (sem_ret sem_bl) sem_nx)
  (sem_seq (sem_tgt (sem_op oe_ix ((sem_var (i := 7) rfl)).v ((sem_callX (i := 1) rfl (sem_acons (sem_cb ca_len (sem_vcons ((sem_var (i := 7) rfl)).v sem_vnil)) sem_anil))).v) (sem_gtup (sem_gscons (sem_gname (i := 8) rfl) (sem_gscons (sem_gname (i := 9) rfl) sem_gsnil))))
  (sem_seq (sem_asg (sem_cb ca_all (sem_vcons ((sem_lc (semIc_seq ((sem_var (i := 7) rfl)).v) (sem_gtup (sem_gscons (sem_gname (i := 16) rfl) (sem_gscons (sem_gname (i := 15) rfl) sem_gsnil))) sem_yes (sem_op oe_gt ((sem_var (i := 15) rfl)).v (sem_int).v) (allFro rfl) (by decide))).e.v sem_vnil)) (by decide))
  (sem_seq (sem_if (sem_or (sem_test ((sem_op oe_ne ((sem_cb ca_repr (sem_vcons ((sem_call (sem_acons (sem_var (i := 3) rfl) (sem_acons (sem_var (i := 8) rfl) sem_anil)))).v sem_vnil))).v ((sem_cb ca_repr (sem_vcons ((sem_var (i := 9) rfl)).v sem_vnil))).v)).v) (sem_test ((sem_op oe_ne ((sem_cb ca_repr (sem_vcons ((sem_call (sem_acons (sem_var (i := 3) rfl) sem_anil))).v sem_vnil))).v ((sem_cb ca_repr (sem_vcons ((sem_var (i := 10) rfl)).v sem_vnil))).v)).v)) (sem_ret sem_bl) sem_nx)
  (sem_seq (sem_asg (sem_cb ca_tup (sem_vcons ((sem_lc (semIc_rng1 (sem_vcons ((sem_var (i := 4) rfl)).v sem_vnil)) (sem_gname (i := 17) rfl) sem_yes (sem_op oe_sub ((sem_callX (i := 1) rfl (sem_acons sem_int sem_anil))).v (sem_int).v) (allFro rfl) (by decide))).e.v sem_vnil)) (by decide))
  (sem_seq (sem_asg (sem_cb ca_tup (sem_vcons ((sem_lc (semIc_seq ((sem_var (i := 3) rfl)).v) (sem_gname (i := 18) rfl) sem_yes (sem_cb ca_sum (sem_vcons ((sem_lc (semIc_zip (sem_vcons ((sem_var (i := 18) rfl)).v (sem_vcons ((sem_var (i := 11) rfl)).v sem_vnil))) (sem_gtup (sem_gscons (sem_gname (i := 19) rfl) (sem_gscons (sem_gname (i := 20) rfl) sem_gsnil))) sem_yes (sem_op oe_mulX ((sem_var (i := 19) rfl)).v ((sem_var (i := 20) rfl)).v) (allFro rfl) (by decide))).e.v sem_vnil)) (allFro rfl) (by decide))).e.v sem_vnil)) (by decide))
  (sem_seq (sem_if (sem_test ((sem_op oe_ne ((sem_cb ca_repr (sem_vcons ((sem_call (sem_acons (sem_var (i := 3) rfl) (sem_acons (sem_var (i := 11) rfl) sem_anil)))).v sem_vnil))).v ((sem_cb ca_repr (sem_vcons ((sem_var (i := 12) rfl)).v sem_vnil))).v)).v) (sem_ret sem_bl) sem_nx)
  (sem_seq (sem_if (sem_and (sem_tru ((sem_var (i := 10) rfl)).v) (sem_and (sem_tB ((sem_cb ca_any (sem_vcons ((sem_lc (semIc_seq ((sem_var (i := 11) rfl)).v) (sem_gname (i := 16) rfl) sem_yes (sem_op oe_ne ((sem_var (i := 16) rfl)).v (sem_int).v) (allFro rfl) (by decide))).e.v sem_vnil))).v) (sem_tB ((sem_cb ca_all (sem_vcons ((sem_lc (semIc_zip (sem_vcons ((sem_var (i := 11) rfl)).v (sem_vcons ((sem_var (i := 12) rfl)).v sem_vnil))) (sem_gtup (sem_gscons (sem_gname (i := 16) rfl) (sem_gscons (sem_gname (i := 15) rfl) sem_gsnil))) sem_yes (sem_op oe_le ((sem_op oe_mulX ((sem_var (i := 16) rfl)).v ((sem_var (i := 15) rfl)).v)).v (sem_int).v) (allFro rfl) (by decide))).e.v sem_vnil))).v))) (sem_ret sem_bl) sem_nx)
  (sem_seq (sem_asg (sem_call (sem_acons (sem_var (i := 3) rfl) sem_anil)) (by decide))
  (sem_seq (sem_if (sem_tru ((sem_var (i := 10) rfl)).v) (sem_if (sem_test ((sem_op oe_ne ((sem_cb ca_repr (sem_vcons ((sem_var (i := 13) rfl)).v sem_vnil))).v ((sem_cb ca_repr (sem_vcons ((sem_tup (sem_acons sem_str sem_anil))).v sem_vnil))).v)).v) (sem_ret sem_bl) sem_nx) (sem_seq (sem_asg (sem_op oe_ix ((sem_cb ca_best (sem_vcons ((sem_lc (semIc_seq ((sem_var (i := 7) rfl)).v) (sem_gtup (sem_gscons (sem_gname (i := 16) rfl) (sem_gscons (sem_gname (i := 15) rfl) sem_gsnil))) (sem_test ((sem_op oe_le ((sem_var (i := 15) rfl)).v (sem_int).v)).v) (sem_tup (sem_acons (sem_cb ca_len (sem_vcons ((sem_var (i := 16) rfl)).v sem_vnil)) (sem_acons (sem_var (i := 16) rfl) sem_anil))) (allFro rfl) (by decide))).e.v sem_vnil))).v (sem_int).v) (by decide))
  (sem_seq (sem_if (sem_or (sem_test ((sem_op oe_ne ((sem_sl ((sem_var (i := 13) rfl)).v sem_oNo (sem_oPart (sem_int).v))).v ((sem_tup (sem_acons sem_str (sem_acons (sem_var (i := 14) rfl) sem_anil)))).v)).v) (sem_tB ((sem_cb ca_all (sem_vcons ((sem_lc (semIc_seq ((sem_op oe_ix ((sem_var (i := 13) rfl)).v (sem_int).v)).v) (sem_gname (i := 16) rfl) sem_yes (sem_op oe_eq ((sem_var (i := 16) rfl)).v (sem_int).v) (allFro rfl) (by decide))).e.v sem_vnil))).v)) (sem_ret sem_bl) sem_nx)
  (sem_seq (sem_asg (sem_cb ca_tup (sem_vcons ((sem_lc (semIc_seq ((sem_var (i := 3) rfl)).v) (sem_gname (i := 18) rfl) sem_yes (sem_cb ca_sum (sem_vcons ((sem_lc (semIc_zip (sem_vcons ((sem_var (i := 18) rfl)).v (sem_vcons ((sem_op oe_ix ((sem_var (i := 13) rfl)).v (sem_int).v)).v sem_vnil))) (sem_gtup (sem_gscons (sem_gname (i := 19) rfl) (sem_gscons (sem_gname (i := 20) rfl) sem_gsnil))) sem_yes (sem_op oe_mulX ((sem_var (i := 19) rfl)).v ((sem_var (i := 20) rfl)).v) (allFro rfl) (by decide))).e.v sem_vnil)) (allFro rfl) (by decide))).e.v sem_vnil)) (by decide))
  (sem_seq (sem_if (sem_or (sem_tB ((sem_cb ca_any (sem_vcons ((sem_lc (semIc_zip (sem_vcons ((sem_op oe_ix ((sem_var (i := 13) rfl)).v (sem_int).v)).v (sem_vcons ((sem_var (i := 15) rfl)).v sem_vnil))) (sem_gtup (sem_gscons (sem_gname (i := 16) rfl) (sem_gscons (sem_gname (i := 21) rfl) sem_gsnil))) sem_yes (sem_op oe_gt ((sem_op oe_mulX ((sem_var (i := 16) rfl)).v ((sem_var (i := 21) rfl)).v)).v (sem_int).v) (allFro rfl) (by decide))).e.v sem_vnil))).v) (sem_test ((sem_op oe_le ((sem_op oe_ix ((sem_op oe_ix ((sem_var (i := 13) rfl)).v (sem_int).v)).v ((sem_op oe_ix ((sem_var (i := 14) rfl)).v (sem_int).v)).v)).v (sem_int).v)).v)) (sem_ret sem_bl) sem_nx)
  (sem_if (sem_or (sem_tB ((sem_cb ca_any (sem_vcons ((sem_lc (semIc_seq ((sem_sl ((sem_var (i := 14) rfl)).v (sem_oPart (sem_int).v) sem_oNo)).v) (sem_gname (i := 17) rfl) sem_yes (sem_op oe_ne ((sem_op oe_ix ((sem_var (i := 15) rfl)).v ((sem_var (i := 17) rfl)).v)).v (sem_int).v) (allFro rfl) (by decide))).e.v sem_vnil))).v) (sem_tB ((sem_cb ca_any (sem_vcons ((sem_lc (semIc_rng1 (sem_vcons ((sem_var (i := 4) rfl)).v sem_vnil)) (sem_gname (i := 17) rfl) (sem_test ((sem_op oe_in ((sem_var (i := 17) rfl)).v ((sem_var (i := 14) rfl)).v)).v) (sem_op oe_ne ((sem_op oe_ix ((sem_op oe_ix ((sem_var (i := 13) rfl)).v (sem_int).v)).v ((sem_var (i := 17) rfl)).v)).v (sem_int).v) (allFro rfl) (by decide))).e.v sem_vnil))).v)) (sem_ret sem_bl) sem_nx))))))
  (sem_if (sem_test ((sem_notN ((sem_call (sem_acons (sem_var (i := 3) rfl) (sem_acons (sem_var (i := 13) rfl) sem_anil)))).v)).v) (sem_ret sem_bl) sem_nx)))))))))))))))
  (sem_ret sem_bl))) rfl law_true h
end
end L94
namespace L94
open PySem PySem.Spec PyProof.Rows L2 Py StX
theorem all_mk {l : PySem.W.OpenLaw} {w : World} {K : PySem.W.Frag} {h : Heap} {mg : Str → Option Value} {fa : Addr} (X : K.In h) (G : h.Ns mainGlobals mg) (hfa : mg "law" = some (.ref fa))
    {f0 : Addr} {od0 an0 : Option Addr} {sl0 : Array (Option Value)} {oc0 kV0 dc0 pm0 cd0 ct0 : Value}
    {f1 : Addr} {od1 an1 : Option Addr} {sl1 : Array (Option Value)} {oc1 kV1 dc1 pm1 cd1 ct1 : Value}
    {f2 : Addr} {od2 an2 : Option Addr} {sl2 : Array (Option Value)} {oc2 kV2 dc2 pm2 cd2 ct2 : Value}
    {f3 : Addr} {od3 an3 : Option Addr} {sl3 : Array (Option Value)} {oc3 kV3 dc3 pm3 cd3 ct3 : Value}
    {f4 : Addr} {od4 an4 : Option Addr} {sl4 : Array (Option Value)} {oc4 kV4 dc4 pm4 cd4 ct4 : Value}
    {f5 : Addr} {od5 an5 : Option Addr} {sl5 : Array (Option Value)} {oc5 kV5 dc5 pm5 cd5 ct5 : Value}
    {f6 : Addr} {od6 an6 : Option Addr} {sl6 : Array (Option Value)} {oc6 kV6 dc6 pm6 cd6 ct6 : Value}
    {f7 : Addr} {od7 an7 : Option Addr} {sl7 : Array (Option Value)} {oc7 kV7 dc7 pm7 cd7 ct7 : Value}
    {f8 : Addr} {od8 an8 : Option Addr} {sl8 : Array (Option Value)} {oc8 kV8 dc8 pm8 cd8 ct8 : Value}
    {f9 : Addr} {od9 an9 : Option Addr} {sl9 : Array (Option Value)} {oc9 kV9 dc9 pm9 cd9 ct9 : Value}
    {f10 : Addr} {od10 an10 : Option Addr} {sl10 : Array (Option Value)} {oc10 kV10 dc10 pm10 cd10 ct10 : Value}
    {f11 : Addr} {od11 an11 : Option Addr} {sl11 : Array (Option Value)} {oc11 kV11 dc11 pm11 cd11 ct11 : Value}
    {f12 : Addr} {od12 an12 : Option Addr} {sl12 : Array (Option Value)} {oc12 kV12 dc12 pm12 cd12 ct12 : Value}
    {f13 : Addr} {od13 an13 : Option Addr} {sl13 : Array (Option Value)} {oc13 kV13 dc13 pm13 cd13 ct13 : Value}
    {f14 : Addr} {od14 an14 : Option Addr} {sl14 : Array (Option Value)} {oc14 kV14 dc14 pm14 cd14 ct14 : Value}
    {f15 : Addr} {od15 an15 : Option Addr} {sl15 : Array (Option Value)} {oc15 kV15 dc15 pm15 cd15 ct15 : Value}
    {f16 : Addr} {od16 an16 : Option Addr} {sl16 : Array (Option Value)} {oc16 kV16 dc16 pm16 cd16 ct16 : Value}
    {f17 : Addr} {od17 an17 : Option Addr} {sl17 : Array (Option Value)} {oc17 kV17 dc17 pm17 cd17 ct17 : Value}
    {f18 : Addr} {od18 an18 : Option Addr} {sl18 : Array (Option Value)} {oc18 kV18 dc18 pm18 cd18 ct18 : Value}
    {f19 : Addr} {od19 an19 : Option Addr} {sl19 : Array (Option Value)} {oc19 kV19 dc19 pm19 cd19 ct19 : Value}
    {f20 : Addr} {od20 an20 : Option Addr} {sl20 : Array (Option Value)} {oc20 kV20 dc20 pm20 cd20 ct20 : Value}
    (a0 : PySem.W.nsIn K mainGlobals "whole_determinant" = some (some (.ref f0))) (l0 : K.lookup f0 = some ⟨oc0, od0, .func (PySem.W.fnOf "whole_determinant" "whole_determinant" (defArgs s_whole_determinant) (defBody s_whole_determinant) (defScope s_whole_determinant) .none kV0 dc0 pm0 an0 cd0 ct0), sl0⟩) (c0 : PySem.W.codeIn K cd0 "whole_determinant" = true) (k0 : PySem.W.keepIn K (.ref f0) = true)
    (a1 : PySem.W.nsIn K mainGlobals "within" = some (some (.ref f1))) (l1 : K.lookup f1 = some ⟨oc1, od1, .func (PySem.W.fnOf "within" "within" (defArgs s_within) (defBody s_within) (defScope s_within) .none kV1 dc1 pm1 an1 cd1 ct1), sl1⟩) (c1 : PySem.W.codeIn K cd1 "within" = true) (k1 : PySem.W.keepIn K (.ref f1) = true)
    (a2 : PySem.W.nsIn K mainGlobals "determinant_within" = some (some (.ref f2))) (l2 : K.lookup f2 = some ⟨oc2, od2, .func (PySem.W.fnOf "determinant_within" "determinant_within" (defArgs s_determinant_within) (defBody s_determinant_within) (defScope s_determinant_within) .none kV2 dc2 pm2 an2 cd2 ct2), sl2⟩) (c2 : PySem.W.codeIn K cd2 "determinant_within" = true) (k2 : PySem.W.keepIn K (.ref f2) = true)
    (a3 : PySem.W.nsIn K mainGlobals "lots_below" = some (some (.ref f3))) (l3 : K.lookup f3 = some ⟨oc3, od3, .func (PySem.W.fnOf "lots_below" "lots_below" (defArgs s_lots_below) (defBody s_lots_below) (defScope s_lots_below) .none kV3 dc3 pm3 an3 cd3 ct3), sl3⟩) (c3 : PySem.W.codeIn K cd3 "lots_below" = true) (k3 : PySem.W.keepIn K (.ref f3) = true)
    (a4 : PySem.W.nsIn K mainGlobals "determinants_within" = some (some (.ref f4))) (l4 : K.lookup f4 = some ⟨oc4, od4, .func (PySem.W.fnOf "determinants_within" "determinants_within" (defArgs s_determinants_within) (defBody s_determinants_within) (defScope s_determinants_within) .none kV4 dc4 pm4 an4 cd4 ct4), sl4⟩) (c4 : PySem.W.codeIn K cd4 "determinants_within" = true) (k4 : PySem.W.keepIn K (.ref f4) = true)
    (a5 : PySem.W.nsIn K mainGlobals "is_above" = some (some (.ref f5))) (l5 : K.lookup f5 = some ⟨oc5, od5, .func (PySem.W.fnOf "is_above" "is_above" (defArgs s_is_above) (defBody s_is_above) (defScope s_is_above) .none kV5 dc5 pm5 an5 cd5 ct5), sl5⟩) (c5 : PySem.W.codeIn K cd5 "is_above" = true) (k5 : PySem.W.keepIn K (.ref f5) = true)
    (a6 : PySem.W.nsIn K mainGlobals "led_row" = some (some (.ref f6))) (l6 : K.lookup f6 = some ⟨oc6, od6, .func (PySem.W.fnOf "led_row" "led_row" (defArgs s_led_row) (defBody s_led_row) (defScope s_led_row) .none kV6 dc6 pm6 an6 cd6 ct6), sl6⟩) (c6 : PySem.W.codeIn K cd6 "led_row" = true) (k6 : PySem.W.keepIn K (.ref f6) = true)
    (a7 : PySem.W.nsIn K mainGlobals "first_wrong_lot" = some (some (.ref f7))) (l7 : K.lookup f7 = some ⟨oc7, od7, .func (PySem.W.fnOf "first_wrong_lot" "first_wrong_lot" (defArgs s_first_wrong_lot) (defBody s_first_wrong_lot) (defScope s_first_wrong_lot) .none kV7 dc7 pm7 an7 cd7 ct7), sl7⟩) (c7 : PySem.W.codeIn K cd7 "first_wrong_lot" = true) (k7 : PySem.W.keepIn K (.ref f7) = true)
    (a8 : PySem.W.nsIn K mainGlobals "first_minors" = some (some (.ref f8))) (l8 : K.lookup f8 = some ⟨oc8, od8, .func (PySem.W.fnOf "first_minors" "first_minors" (defArgs s_first_minors) (defBody s_first_minors) (defScope s_first_minors) .none kV8 dc8 pm8 an8 cd8 ct8), sl8⟩) (c8 : PySem.W.codeIn K cd8 "first_minors" = true) (k8 : PySem.W.keepIn K (.ref f8) = true)
    (a9 : PySem.W.nsIn K mainGlobals "turned_paper" = some (some (.ref f9))) (l9 : K.lookup f9 = some ⟨oc9, od9, .func (PySem.W.fnOf "turned_paper" "turned_paper" (defArgs s_turned_paper) (defBody s_turned_paper) (defScope s_turned_paper) .none kV9 dc9 pm9 an9 cd9 ct9), sl9⟩) (c9 : PySem.W.codeIn K cd9 "turned_paper" = true) (k9 : PySem.W.keepIn K (.ref f9) = true)
    (a10 : PySem.W.nsIn K mainGlobals "is_whole_number" = some (some (.ref f10))) (l10 : K.lookup f10 = some ⟨oc10, od10, .func (PySem.W.fnOf "is_whole_number" "is_whole_number" (defArgs s_is_whole_number) (defBody s_is_whole_number) (defScope s_is_whole_number) .none kV10 dc10 pm10 an10 cd10 ct10), sl10⟩) (c10 : PySem.W.codeIn K cd10 "is_whole_number" = true) (k10 : PySem.W.keepIn K (.ref f10) = true)
    (a11 : PySem.W.nsIn K mainGlobals "is_lot_below" = some (some (.ref f11))) (l11 : K.lookup f11 = some ⟨oc11, od11, .func (PySem.W.fnOf "is_lot_below" "is_lot_below" (defArgs s_is_lot_below) (defBody s_is_lot_below) (defScope s_is_lot_below) .none kV11 dc11 pm11 an11 cd11 ct11), sl11⟩) (c11 : PySem.W.codeIn K cd11 "is_lot_below" = true) (k11 : PySem.W.keepIn K (.ref f11) = true)
    (a12 : PySem.W.nsIn K mainGlobals "is_turned_form" = some (some (.ref f12))) (l12 : K.lookup f12 = some ⟨oc12, od12, .func (PySem.W.fnOf "is_turned_form" "is_turned_form" (defArgs s_is_turned_form) (defBody s_is_turned_form) (defScope s_is_turned_form) .none kV12 dc12 pm12 an12 cd12 ct12), sl12⟩) (c12 : PySem.W.codeIn K cd12 "is_turned_form" = true) (k12 : PySem.W.keepIn K (.ref f12) = true)
    (a13 : PySem.W.nsIn K mainGlobals "judge_turned" = some (some (.ref f13))) (l13 : K.lookup f13 = some ⟨oc13, od13, .func (PySem.W.fnOf "judge_turned" "judge_turned" (defArgs s_judge_turned) (defBody s_judge_turned) (defScope s_judge_turned) .none kV13 dc13 pm13 an13 cd13 ct13), sl13⟩) (c13 : PySem.W.codeIn K cd13 "judge_turned" = true) (k13 : PySem.W.keepIn K (.ref f13) = true)
    (a14 : PySem.W.nsIn K mainGlobals "_law_open_cells" = some (some (.ref f14))) (l14 : K.lookup f14 = some ⟨oc14, od14, .func (PySem.W.fnOf "_law_open_cells" "_law_open_cells" (defArgs s__law_open_cells) (defBody s__law_open_cells) (defScope s__law_open_cells) .none kV14 dc14 pm14 an14 cd14 ct14), sl14⟩) (c14 : PySem.W.codeIn K cd14 "_law_open_cells" = true) (k14 : PySem.W.keepIn K (.ref f14) = true)
    (a15 : PySem.W.nsIn K mainGlobals "_law_pick" = some (some (.ref f15))) (l15 : K.lookup f15 = some ⟨oc15, od15, .func (PySem.W.fnOf "_law_pick" "_law_pick" (defArgs s__law_pick) (defBody s__law_pick) (defScope s__law_pick) .none kV15 dc15 pm15 an15 cd15 ct15), sl15⟩) (c15 : PySem.W.codeIn K cd15 "_law_pick" = true) (k15 : PySem.W.keepIn K (.ref f15) = true)
    (a16 : PySem.W.nsIn K mainGlobals "_law_draw_table" = some (some (.ref f16))) (l16 : K.lookup f16 = some ⟨oc16, od16, .func (PySem.W.fnOf "_law_draw_table" "_law_draw_table" (defArgs s__law_draw_table) (defBody s__law_draw_table) (defScope s__law_draw_table) .none kV16 dc16 pm16 an16 cd16 ct16), sl16⟩) (c16 : PySem.W.codeIn K cd16 "_law_draw_table" = true) (k16 : PySem.W.keepIn K (.ref f16) = true)
    (a17 : PySem.W.nsIn K mainGlobals "_law_determinant" = some (some (.ref f17))) (l17 : K.lookup f17 = some ⟨oc17, od17, .func (PySem.W.fnOf "_law_determinant" "_law_determinant" (defArgs s__law_determinant) (defBody s__law_determinant) (defScope s__law_determinant) .none kV17 dc17 pm17 an17 cd17 ct17), sl17⟩) (c17 : PySem.W.codeIn K cd17 "_law_determinant" = true) (k17 : PySem.W.keepIn K (.ref f17) = true)
    (a18 : PySem.W.nsIn K mainGlobals "_law_within" = some (some (.ref f18))) (l18 : K.lookup f18 = some ⟨oc18, od18, .func (PySem.W.fnOf "_law_within" "_law_within" (defArgs s__law_within) (defBody s__law_within) (defScope s__law_within) .none kV18 dc18 pm18 an18 cd18 ct18), sl18⟩) (c18 : PySem.W.codeIn K cd18 "_law_within" = true) (k18 : PySem.W.keepIn K (.ref f18) = true)
    (a19 : PySem.W.nsIn K mainGlobals "_law_lots" = some (some (.ref f19))) (l19 : K.lookup f19 = some ⟨oc19, od19, .func (PySem.W.fnOf "_law_lots" "_law_lots" (defArgs s__law_lots) (defBody s__law_lots) (defScope s__law_lots) .none kV19 dc19 pm19 an19 cd19 ct19), sl19⟩) (c19 : PySem.W.codeIn K cd19 "_law_lots" = true) (k19 : PySem.W.keepIn K (.ref f19) = true)
    (a20 : PySem.W.nsIn K mainGlobals "law" = some (some (.ref f20))) (l20 : K.lookup f20 = some ⟨oc20, od20, .func (PySem.W.fnOf "law" "law" (defArgs s_law) (defBody s_law) (defScope s_law) .none kV20 dc20 pm20 an20 cd20 ct20), sl20⟩) (c20 : PySem.W.codeIn K cd20 "law" = true) (k20 : PySem.W.keepIn K (.ref f20) = true)
    (z_abs : PySem.W.nsIn K mainGlobals "abs" = some none)
    (z_all : PySem.W.nsIn K mainGlobals "all" = some none)
    (z_any : PySem.W.nsIn K mainGlobals "any" = some none)
    (z_bool : PySem.W.nsIn K mainGlobals "bool" = some none)
    (z_enumerate : PySem.W.nsIn K mainGlobals "enumerate" = some none)
    (z_int : PySem.W.nsIn K mainGlobals "int" = some none)
    (z_isinstance : PySem.W.nsIn K mainGlobals "isinstance" = some none)
    (z_len : PySem.W.nsIn K mainGlobals "len" = some none)
    (z_list : PySem.W.nsIn K mainGlobals "list" = some none)
    (z_min : PySem.W.nsIn K mainGlobals "min" = some none)
    (z_range : PySem.W.nsIn K mainGlobals "range" = some none)
    (z_repr : PySem.W.nsIn K mainGlobals "repr" = some none)
    (z_sorted : PySem.W.nsIn K mainGlobals "sorted" = some none)
    (z_sum : PySem.W.nsIn K mainGlobals "sum" = some none)
    (z_tuple : PySem.W.nsIn K mainGlobals "tuple" = some none)
    (z_zip : PySem.W.nsIn K mainGlobals "zip" = some none)
    : ∃ fd : FuncData, (∀ (z : Shared) (u : Value), BindsTo z fd ⟨[u], []⟩ [("script", u)]) ∧ ∀ base : Heap, K.In base → base.Ns mainGlobals mg → FnG l.prog w K mg base 8 fa fd ["script"] (spLaw K) := by
  have e := hfa.symm.trans (PySem.W.mg_of X G a20)
  cases e
  let T : Tx K mg := {
    m_abs := PySem.W.mg_none_of X G z_abs
    m_all := PySem.W.mg_none_of X G z_all
    m_any := PySem.W.mg_none_of X G z_any
    m_bool := PySem.W.mg_none_of X G z_bool
    m_enumerate := PySem.W.mg_none_of X G z_enumerate
    m_int := PySem.W.mg_none_of X G z_int
    m_isinstance := PySem.W.mg_none_of X G z_isinstance
    m_len := PySem.W.mg_none_of X G z_len
    m_list := PySem.W.mg_none_of X G z_list
    m_min := PySem.W.mg_none_of X G z_min
    m_range := PySem.W.mg_none_of X G z_range
    m_repr := PySem.W.mg_none_of X G z_repr
    m_sorted := PySem.W.mg_none_of X G z_sorted
    m_sum := PySem.W.mg_none_of X G z_sum
    m_tuple := PySem.W.mg_none_of X G z_tuple
    m_zip := PySem.W.mg_none_of X G z_zip
    a_whole_determinant := f0, fd_whole_determinant := _, F_whole_determinant := fun_mk (st := s_whole_determinant) l0 c0 k0, g_whole_determinant := PySem.W.mg_of X G a0
    a_within := f1, fd_within := _, F_within := fun_mk (st := s_within) l1 c1 k1, g_within := PySem.W.mg_of X G a1
    a_determinant_within := f2, fd_determinant_within := _, F_determinant_within := fun_mk (st := s_determinant_within) l2 c2 k2, g_determinant_within := PySem.W.mg_of X G a2
    a_lots_below := f3, fd_lots_below := _, F_lots_below := fun_mk (st := s_lots_below) l3 c3 k3, g_lots_below := PySem.W.mg_of X G a3
    a_determinants_within := f4, fd_determinants_within := _, F_determinants_within := fun_mk (st := s_determinants_within) l4 c4 k4, g_determinants_within := PySem.W.mg_of X G a4
    a_is_above := f5, fd_is_above := _, F_is_above := fun_mk (st := s_is_above) l5 c5 k5, g_is_above := PySem.W.mg_of X G a5
    a_led_row := f6, fd_led_row := _, F_led_row := fun_mk (st := s_led_row) l6 c6 k6, g_led_row := PySem.W.mg_of X G a6
    a_first_wrong_lot := f7, fd_first_wrong_lot := _, F_first_wrong_lot := fun_mk (st := s_first_wrong_lot) l7 c7 k7, g_first_wrong_lot := PySem.W.mg_of X G a7
    a_first_minors := f8, fd_first_minors := _, F_first_minors := fun_mk (st := s_first_minors) l8 c8 k8, g_first_minors := PySem.W.mg_of X G a8
    a_turned_paper := f9, fd_turned_paper := _, F_turned_paper := fun_mk (st := s_turned_paper) l9 c9 k9, g_turned_paper := PySem.W.mg_of X G a9
    a_is_whole_number := f10, fd_is_whole_number := _, F_is_whole_number := fun_mk (st := s_is_whole_number) l10 c10 k10, g_is_whole_number := PySem.W.mg_of X G a10
    a_is_lot_below := f11, fd_is_lot_below := _, F_is_lot_below := fun_mk (st := s_is_lot_below) l11 c11 k11, g_is_lot_below := PySem.W.mg_of X G a11
    a_is_turned_form := f12, fd_is_turned_form := _, F_is_turned_form := fun_mk (st := s_is_turned_form) l12 c12 k12, g_is_turned_form := PySem.W.mg_of X G a12
    a_judge_turned := f13, fd_judge_turned := _, F_judge_turned := fun_mk (st := s_judge_turned) l13 c13 k13, g_judge_turned := PySem.W.mg_of X G a13
    a__law_open_cells := f14, fd__law_open_cells := _, F__law_open_cells := fun_mk (st := s__law_open_cells) l14 c14 k14, g__law_open_cells := PySem.W.mg_of X G a14
    a__law_pick := f15, fd__law_pick := _, F__law_pick := fun_mk (st := s__law_pick) l15 c15 k15, g__law_pick := PySem.W.mg_of X G a15
    a__law_draw_table := f16, fd__law_draw_table := _, F__law_draw_table := fun_mk (st := s__law_draw_table) l16 c16 k16, g__law_draw_table := PySem.W.mg_of X G a16
    a__law_determinant := f17, fd__law_determinant := _, F__law_determinant := fun_mk (st := s__law_determinant) l17 c17 k17, g__law_determinant := PySem.W.mg_of X G a17
    a__law_within := f18, fd__law_within := _, F__law_within := fun_mk (st := s__law_within) l18 c18 k18, g__law_within := PySem.W.mg_of X G a18
    a__law_lots := f19, fd__law_lots := _, F__law_lots := fun_mk (st := s__law_lots) l19 c19 k19, g__law_lots := PySem.W.mg_of X G a19
    a_law := fa, fd_law := _, F_law := fun_mk (st := s_law) l20 c20 k20, g_law := PySem.W.mg_of X G a20
    }
  exact ⟨T.fd_law, fun z u => .of_eq rfl, fun base _ _ => ok_law T⟩
end L94
open PySem PySem.W PyProof.Rows
set_option maxHeartbeats 0 in
theorem PySem.Challenge.cw_cornersmet_k94_whole_determinants_within_holds : PySem.Challenge.rw_cornersmet_k94_whole_determinants_within.Holds := by
  w_on; o_law; k_head; (case hw => w_witness2)
  k_fill
  refine Py.walkG (l := PySem.Challenge.rw_cornersmet_k94_whole_determinants_within) (n := 63) (k := 8) (x := "script") rfl (by decide) rfl ⟨rfl, by decide, by decide⟩ (fun w h Y => PySem.W.kIn_of Y) ?F
  case F =>
    intro w mg fa h KX G hmg
    refine' L94.all_mk KX G hmg ?a0 ?l0 ?c0 ?k0 ?a1 ?l1 ?c1 ?k1 ?a2 ?l2 ?c2 ?k2 ?a3 ?l3 ?c3 ?k3 ?a4 ?l4 ?c4 ?k4 ?a5 ?l5 ?c5 ?k5 ?a6 ?l6 ?c6 ?k6 ?a7 ?l7 ?c7 ?k7 ?a8 ?l8 ?c8 ?k8 ?a9 ?l9 ?c9 ?k9 ?a10 ?l10 ?c10 ?k10 ?a11 ?l11 ?c11 ?k11 ?a12 ?l12 ?c12 ?k12 ?a13 ?l13 ?c13 ?k13 ?a14 ?l14 ?c14 ?k14 ?a15 ?l15 ?c15 ?k15 ?a16 ?l16 ?c16 ?k16 ?a17 ?l17 ?c17 ?k17 ?a18 ?l18 ?c18 ?k18 ?a19 ?l19 ?c19 ?k19 ?a20 ?l20 ?c20 ?k20 ?z_abs ?z_all ?z_any ?z_bool ?z_enumerate ?z_int ?z_isinstance ?z_len ?z_list ?z_min ?z_range ?z_repr ?z_sorted ?z_sum ?z_tuple ?z_zip
    (case a0 => k_is); (case l0 => k_is); (case c0 => k_is); (case k0 => k_is)
    (case a1 => k_is); (case l1 => k_is); (case c1 => k_is); (case k1 => k_is)
    (case a2 => k_is); (case l2 => k_is); (case c2 => k_is); (case k2 => k_is)
    (case a3 => k_is); (case l3 => k_is); (case c3 => k_is); (case k3 => k_is)
    (case a4 => k_is); (case l4 => k_is); (case c4 => k_is); (case k4 => k_is)
    (case a5 => k_is); (case l5 => k_is); (case c5 => k_is); (case k5 => k_is)
    (case a6 => k_is); (case l6 => k_is); (case c6 => k_is); (case k6 => k_is)
    (case a7 => k_is); (case l7 => k_is); (case c7 => k_is); (case k7 => k_is)
    (case a8 => k_is); (case l8 => k_is); (case c8 => k_is); (case k8 => k_is)
    (case a9 => k_is); (case l9 => k_is); (case c9 => k_is); (case k9 => k_is)
    (case a10 => k_is); (case l10 => k_is); (case c10 => k_is); (case k10 => k_is)
    (case a11 => k_is); (case l11 => k_is); (case c11 => k_is); (case k11 => k_is)
    (case a12 => k_is); (case l12 => k_is); (case c12 => k_is); (case k12 => k_is)
    (case a13 => k_is); (case l13 => k_is); (case c13 => k_is); (case k13 => k_is)
    (case a14 => k_is); (case l14 => k_is); (case c14 => k_is); (case k14 => k_is)
    (case a15 => k_is); (case l15 => k_is); (case c15 => k_is); (case k15 => k_is)
    (case a16 => k_is); (case l16 => k_is); (case c16 => k_is); (case k16 => k_is)
    (case a17 => k_is); (case l17 => k_is); (case c17 => k_is); (case k17 => k_is)
    (case a18 => k_is); (case l18 => k_is); (case c18 => k_is); (case k18 => k_is)
    (case a19 => k_is); (case l19 => k_is); (case c19 => k_is); (case k19 => k_is)
    (case a20 => k_is); (case l20 => k_is); (case c20 => k_is); (case k20 => k_is)
    (case z_abs => k_is); (case z_all => k_is); (case z_any => k_is); (case z_bool => k_is)
    (case z_enumerate => k_is); (case z_int => k_is); (case z_isinstance => k_is); (case z_len => k_is)
    (case z_list => k_is); (case z_min => k_is); (case z_range => k_is); (case z_repr => k_is)
    (case z_sorted => k_is); (case z_sum => k_is); (case z_tuple => k_is); (case z_zip => k_is)
namespace L94
end L94
