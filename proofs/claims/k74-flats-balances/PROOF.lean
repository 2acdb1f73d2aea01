import PyProof.Rows.All
import Wide.All
import OpenK.AllK
import Wide.FinOn
import HandS.ForMost
import HandS.Star
import HandS.TupAny
import HandS.Deep
import HandS.Wide
import HandS.Style
import HandS.IsInst
import HandS.Walk
import KE.GoesEnum
import HandS.Conv
import HandS.TupMul
import HandS.Gcd
import KE.SortData
import KE.DataMinMax
import PyProof.ReprRoads
import HandS.Evl
import KE.KDictZip
import PyProof.ReprLen
import HandS.Dict
import HandS.Small
import HandS.TupLen
import HandS.More
import PyProof.NeKinds
import KE.KEqDict
import PyProof.EqAt
import KE.KRevSl
import KE.KTupSum
import HandS.Iter
import KE.KDictPairs
import KE.KDictKeyed
import PySem.Challenge.RW_cornersmet_k74_whole_flats_and_balances
set_option Elab.async false
set_option linter.all false
set_option maxRecDepth 100000
/-! PyA: data, what denotes them, the state relation, the judgements. -/
namespace Py
open PySem L2

abbrev D := PyData
abbrev Env := List (Option D)
abbrev AS := Addr → Prop

/-! ### the wish monad -/
def M (α : Type) : Type := (α → Prop) → Prop
def ret {α : Type} (a : α) : M α := fun Q => Q a
def bnd {α β : Type} (m : M α) (k : α → M β) : M β := fun Q => m fun a => k a Q
def stuck {α : Type} : M α := fun _ => False
theorem bnd_ret {α β : Type} (a : α) (k : α → M β) : bnd (ret a) k = k a := rfl
theorem bnd_stuck {α β : Type} (k : α → M β) : bnd stuck k = stuck := rfl
theorem bnd_assoc {α β γ : Type} (m : M α) (k : α → M β) (l : β → M γ) : bnd (bnd m k) l = bnd m fun a => bnd (k a) l := rfl
theorem ret_app {α : Type} (a : α) (Q : α → Prop) : ret a Q = Q a := rfl
theorem bnd_app {α β : Type} (m : M α) (k : α → M β) (Q : β → Prop) : bnd m k Q = m fun a => k a Q := rfl

/-! ### what denotes a datum: lists, dicts that nobody changes (not in U), tuples -/
mutual
inductive Den (H : Hp) (U : AS) : V → D → Prop
  | non : Den H U .non .none
  | bl (b : Bool) : Den H U (.bl b) (.bool b)
  | int (i : Int) : Den H U (.int i) (.int i)
  | str (x : Str) : Den H U (.str x) (.str x)
  | lst {a : Addr} {xs : List V} {ds : List D} : H a = some (.lst xs) → ¬ U a → DenL H U xs ds → Den H U (.ref a) (.list ds)
  | tup {a : Addr} {xs : List V} {ds : List D} : H a = some (.tup xs) → ¬ U a → DenL H U xs ds → Den H U (.ref a) (.tuple ds)
  | dct {a : Addr} : H a = some (.dK []) → ¬ U a → Den H U (.ref a) (.dict [])
inductive DenL (H : Hp) (U : AS) : List V → List D → Prop
  | nil : DenL H U [] []
  | cons {v : V} {vs : List V} {d : D} {ds : List D} : Den H U v d → DenL H U vs ds → DenL H U (v :: vs) (d :: ds)
end
theorem Den.mono {H H' : Hp} {U U' : AS} (e : ∀ a o, H a = some o → ¬ U a → H' a = some o) (u : ∀ a o, H a = some o → U' a → U a) : ∀ {d : D} {v : V}, Den H U v d → Den H' U' v d := by
  intro d v h
  refine Den.rec (motive_1 := fun v d _ => Den H' U' v d) (motive_2 := fun vs ds _ => DenL H' U' vs ds) ?_ ?_ ?_ ?_ ?_ ?_ ?_ ?_ ?_ h
  · exact .non
  · exact .bl
  · exact .int
  · exact .str
  · intro a xs ds ha hu _ ih; exact .lst (e _ _ ha hu) (fun q => hu (u _ _ ha q)) ih
  · intro a xs ds ha hu _ ih; exact .tup (e _ _ ha hu) (fun q => hu (u _ _ ha q)) ih
  · intro a ha hu; exact .dct (e _ _ ha hu) (fun q => hu (u _ _ ha q))
  · exact .nil
  · intro v vs d ds _ _ h1 h2; exact .cons h1 h2
theorem DenL.mono {H H' : Hp} {U U' : AS} (e : ∀ a o, H a = some o → ¬ U a → H' a = some o) (u : ∀ a o, H a = some o → U' a → U a) : ∀ {ds : List D} {vs : List V}, DenL H U vs ds → DenL H' U' vs ds
  | _, _, .nil => .nil
  | _, _, .cons h t => .cons (h.mono e u) (DenL.mono e u t)
theorem DenL.length {H : Hp} {U : AS} : ∀ {vs : List V} {ds : List D}, DenL H U vs ds → vs.length = ds.length
  | _, _, .nil => rfl
  | _, _, .cons _ t => congrArg (· + 1) t.length
theorem DenL.get {H : Hp} {U : AS} : ∀ {vs : List V} {ds : List D} {i : Nat} {d : D}, DenL H U vs ds → ds[i]? = some d → ∃ v, vs[i]? = some v ∧ Den H U v d
  | _, _, _, _, .nil, h => by simp at h
  | _, _, 0, _, .cons h _, e => by simp at e; subst e; exact ⟨_, rfl, h⟩
  | _, _, i + 1, _, .cons _ t, e => by
    obtain ⟨v, h1, h2⟩ := DenL.get (i := i) t (by simpa using e)
    exact ⟨v, by simpa using h1, h2⟩
theorem DenL.append {H : Hp} {U : AS} : ∀ {vs ws : List V} {ds es : List D}, DenL H U vs ds → DenL H U ws es → DenL H U (vs ++ ws) (ds ++ es)
  | _, _, _, _, .nil, h => h
  | _, _, _, _, .cons h t, q => .cons h (t.append q)
theorem DenL.take {H : Hp} {U : AS} : ∀ {vs : List V} {ds : List D} (n : Nat), DenL H U vs ds → DenL H U (vs.take n) (ds.take n)
  | _, _, 0, _ => .nil
  | _, _, _ + 1, .nil => .nil
  | _, _, n + 1, .cons h t => .cons h (t.take n)
theorem DenL.drop {H : Hp} {U : AS} : ∀ {vs : List V} {ds : List D} (n : Nat), DenL H U vs ds → DenL H U (vs.drop n) (ds.drop n)
  | _, _, 0, h => h
  | _, _, _ + 1, .nil => .nil
  | _, _, n + 1, .cons _ t => t.drop n
theorem DenL.set {H : Hp} {U : AS} {v : V} {d : D} (h : Den H U v d) : ∀ {vs : List V} {ds : List D} (i : Nat), DenL H U vs ds → DenL H U (vs.set i v) (ds.set i d)
  | _, _, _, .nil => .nil
  | _, _, 0, .cons _ t => .cons h t
  | _, _, i + 1, .cons q t => .cons q (DenL.set h i t)
theorem DenL.reverse {H : Hp} {U : AS} {vs : List V} {ds : List D} (h : DenL H U vs ds) : DenL H U vs.reverse ds.reverse := by
  induction ds generalizing vs with
  | nil => cases h; exact .nil
  | cons d ds ih =>
    cases h with
    | cons h1 h2 => rw [List.reverse_cons, List.reverse_cons]; exact (ih h2).append (.cons h1 .nil)

/-! ### a def's frame: what the callers may change (U0), what this code may change (A: the drawing source), what is kept of that (J), the heap at the entry -/
structure Sx where
  A : AS
  J : Hp → Prop
  src : Addr
structure Fx where
  s : Sx
  U0 : AS
  H0 : Hp
abbrev Fx.A (c : Fx) : AS := c.s.A
abbrev Fx.J (c : Fx) : Hp → Prop := c.s.J
abbrev Fx.src (c : Fx) : Addr := c.s.src

structure Fx.Ok (c : Fx) : Prop where
  sub : ∀ a, c.A a → c.U0 a
  st : ∀ H H', c.J H → (∀ a o, c.A a → H a = some o → H' a = some o) → c.J H'

/-- how a name's slot stands: any datum; a list of this def's own that it changes; one of lists; such a list while a loop walks it; the source -/
inductive Md where
  | fro | own | own2 | dic | lent (p : Addr) (vs : List V) | src

inductive Rows (H : Hp) (U : AS) : List Addr → List (List D) → Prop
  | nil : Rows H U [] []
  | cons {q : Addr} {qs : List Addr} {vs : List V} {ds : List D} {dss : List (List D)} : H q = some (.lst vs) → DenL H U vs ds → Rows H U qs dss → Rows H U (q :: qs) (ds :: dss)

abbrev Key2 := List L2.Key
/-- slot: mode, datum, value, own addresses -/
inductive SlotR (c : Fx) (H : Hp) (U : AS) : Md → Option D → Option V → List Addr → Prop
  | no {m : Md} {o : Option V} : SlotR c H U m none o []
  | fro {d : D} {v : V} : Den H U v d → SlotR c H U .fro (some d) (some v) []
  | own {p : Addr} {vs : List V} {ds : List D} : H p = some (.lst vs) → DenL H U vs ds → SlotR c H U .own (some (.list ds)) (some (.ref p)) [p]
  | lent {p : Addr} {vs : List V} {ds : List D} : H p = some (.lst vs) → DenL H U vs ds → SlotR c H U (.lent p vs) (some (.list ds)) (some (.ref p)) [p]
  | own2 {p : Addr} {qs : List Addr} {dss : List (List D)} : H p = some (.lst (qs.map V.ref)) → Rows H U qs dss → SlotR c H U .own2 (some (.list (dss.map .list))) (some (.ref p)) (p :: qs)
  | dic {p : Addr} {kvs : List (Key2 × V)} {ks : List (List Int)} : H p = some (.dT kvs) → kvs.map (·.1) = ks.map (fun k => k.map Sum.inl) → SlotR c H U .dic (some (.list (ks.map fun k => .tuple (k.map .int)))) (some (.ref p)) [p]
  | src {d : D} : SlotR c H U .src (some d) (some (.ref c.src)) []

inductive Slots (c : Fx) (H : Hp) (U : AS) : List Md → Env → St → List Addr → Prop
  | nil : Slots c H U [] [] [] []
  | cons {m : Md} {d : Option D} {o : Option V} {ps qs : List Addr} {Γ : List Md} {ρ : Env} {σ : St} : SlotR c H U m d o ps → Slots c H U Γ ρ σ qs → Slots c H U (m :: Γ) (d :: ρ) (o :: σ) (ps ++ qs)

def Fx.U (c : Fx) (ps : List Addr) : AS := fun a => c.U0 a ∨ a ∈ ps
/-- what stands in a mutable place is no tuple -/
def Loose (H : Hp) (U : AS) : Prop := ∀ a, U a → ∃ o, H a = some o ∧ ∀ xs, o ≠ .tup xs

/-- lists and tuples are no longer than may be -/
def Sz (H : Hp) : Prop := ∀ a xs, (H a = some (.lst xs) ∨ H a = some (.tup xs)) → xs.length ≤ sizeLine

structure R (c : Fx) (Γ : List Md) (ρ : Env) (ps : List Addr) (σ : St) (H : Hp) : Prop where
  ok : c.Ok
  keep : ∀ a o, c.H0 a = some o → ¬ c.A a → H a = some o
  there : ∀ a o, c.H0 a = some o → ∃ o', H a = some o'
  inv : c.J H
  al : Loose H c.U0
  sz : Sz H
  sl : Slots c H (c.U ps) Γ ρ σ ps
  nd : ps.Nodup
  own : ∀ p ∈ ps, c.H0 p = none ∧ ¬ c.U0 p

/-- a step of reckoning: only the source may change -/
structure Stp (c : Fx) (H H' : Hp) : Prop where
  keep : ∀ a o, H a = some o → ¬ c.A a → H' a = some o
  there : ∀ a o, H a = some o → ∃ o', H' a = some o'
  inv : c.J H → c.J H'
  al : Loose H c.U0 → Loose H' c.U0
  sz : Sz H → Sz H'
theorem Stp.refl (c : Fx) (H : Hp) : Stp c H H := ⟨fun _ _ h _ => h, fun _ o h => ⟨o, h⟩, fun h => h, fun h => h, fun h => h⟩
theorem Stp.trans {c : Fx} {H H1 H2 : Hp} (a : Stp c H H1) (b : Stp c H1 H2) : Stp c H H2 :=
  ⟨fun x o h n => b.keep x o (a.keep x o h n) n, fun x o h => let ⟨o', h'⟩ := a.there x o h; b.there x o' h', fun h => b.inv (a.inv h), fun h => b.al (a.al h), fun h => b.sz (a.sz h)⟩
theorem Stp.fresh {c : Fx} {H H' : Hp} {p : Addr} (e : Stp c H H') (h : H' p = none) : H p = none := by
  cases q : H p with
  | none => rfl
  | some o => obtain ⟨o', h'⟩ := e.there p o q; rw [h] at h'; cases h'
/-- all that stood stands -/
theorem Stp.same {c : Fx} (ok : c.Ok) {H H' : Hp} (e : ∀ a o, H a = some o → H' a = some o) (z : Sz H → Sz H') : Stp c H H' :=
  ⟨fun a o h _ => e a o h, fun a o h => ⟨o, e a o h⟩, fun h => ok.st H H' h fun a o _ q => e a o q, fun h a u => let ⟨o, h1, h2⟩ := h a u; ⟨o, e a o h1, h2⟩, z⟩
theorem Sz.upd {H : Hp} {p : Addr} {o : HO} (h : Sz H) (ho : ∀ xs, (o = .lst xs ∨ o = .tup xs) → xs.length ≤ sizeLine) : Sz (upd H p o) := fun a xs q => by
  by_cases e : a = p
  · subst e
    rw [upd_same] at q
    rcases q with q | q
    · exact ho xs (.inl (Option.some.inj q))
    · exact ho xs (.inr (Option.some.inj q))
  · rw [upd_ne e] at q; exact h a xs q
theorem upd_keep {H : Hp} {p : Addr} {o : HO} (h : H p = none) : ∀ a u, H a = some u → upd H p o a = some u := fun a u e => by
  rw [upd_ne (ne_of_none e h)]; exact e
theorem Stp.new {c : Fx} (ok : c.Ok) {H : Hp} {p : Addr} {o : HO} (h : H p = none) (ho : ∀ xs, (o = .lst xs ∨ o = .tup xs) → xs.length ≤ sizeLine) : Stp c H (upd H p o) :=
  Stp.same ok (upd_keep h) fun z => z.upd ho
theorem Stp.lst {c : Fx} (ok : c.Ok) {H : Hp} {p : Addr} {xs : List V} (h : H p = none) (ho : xs.length ≤ sizeLine) : Stp c H (upd H p (.lst xs)) :=
  Stp.new ok h fun ys q => by rcases q with q | q <;> cases q; exact ho
theorem Stp.tup {c : Fx} (ok : c.Ok) {H : Hp} {p : Addr} {xs : List V} (h : H p = none) (ho : xs.length ≤ sizeLine) : Stp c H (upd H p (.tup xs)) :=
  Stp.new ok h fun ys q => by rcases q with q | q <;> cases q; exact ho

theorem Rows.monoOn {H H' : Hp} {U U' : AS} (e : ∀ a o, H a = some o → ¬ U a → H' a = some o) (u : ∀ a o, H a = some o → U' a → U a) :
    ∀ {qs : List Addr} {dss : List (List D)}, (∀ a ∈ qs, ∀ o, H a = some o → H' a = some o) → Rows H U qs dss → Rows H' U' qs dss
  | _, _, _, .nil => .nil
  | _, _, q, .cons h d t => .cons (q _ (List.mem_cons_self ..) _ h) (d.mono e u) (Rows.monoOn e u (fun a ha => q a (List.mem_cons_of_mem _ ha)) t)

/-- the slots over another heap, own lists kept -/
theorem SlotR.mono {c : Fx} {H H' : Hp} {U U' : AS} {m : Md} {d : Option D} {o : Option V} {ps : List Addr} (q : ∀ a ∈ ps, ∀ o, H a = some o → H' a = some o) (e : ∀ a o, H a = some o → ¬ U a → H' a = some o)
    (u : ∀ a o, H a = some o → U' a → U a) (h : SlotR c H U m d o ps) : SlotR c H' U' m d o ps := by
  cases h with
  | no => exact .no
  | fro h => exact .fro (h.mono e u)
  | own h1 h2 => exact .own (q _ (by simp) _ h1) (h2.mono e u)
  | lent h1 h2 => exact .lent (q _ (by simp) _ h1) (h2.mono e u)
  | own2 h1 h2 => exact .own2 (q _ (by simp) _ h1) (h2.monoOn e u fun a ha => q a (List.mem_cons_of_mem _ ha))
  | dic h1 h2 => exact .dic (q _ (by simp) _ h1) h2
  | src => exact .src
theorem Slots.mono {c : Fx} {H H' : Hp} {U U' : AS} {Γ : List Md} {ρ : Env} {σ : St} {ps : List Addr} (q : ∀ a ∈ ps, ∀ o, H a = some o → H' a = some o) (e : ∀ a o, H a = some o → ¬ U a → H' a = some o)
    (u : ∀ a o, H a = some o → U' a → U a) (h : Slots c H U Γ ρ σ ps) : Slots c H' U' Γ ρ σ ps := by
  induction h with
  | nil => exact .nil
  | cons h1 _ ih => exact .cons (h1.mono (fun a ha => q a (List.mem_append_left _ ha)) e u) (ih fun a ha => q a (List.mem_append_right _ ha))

section
variable {c : Fx} {Γ : List Md} {ρ : Env} {ps : List Addr} {σ : St} {H H' : Hp} {v : V} {d : D} {vs : List V} {ds : List D}
theorem R.nA (r : R c Γ ρ ps σ H) {a : Addr} (h : ¬ c.U ps a) : ¬ c.A a := fun q => h (.inl (r.ok.sub a q))
theorem R.ownA (r : R c Γ ρ ps σ H) {p : Addr} (h : p ∈ ps) : ¬ c.A p := fun q => (r.own p h).2 (r.ok.sub p q)
theorem Den.stp (ok : c.Ok) (e : Stp c H H') (h : Den H (c.U ps) v d) : Den H' (c.U ps) v d :=
  h.mono (fun a o q n => e.keep a o q fun z => n (.inl (ok.sub a z))) fun _ _ _ q => q
theorem DenL.stp (ok : c.Ok) (e : Stp c H H') (h : DenL H (c.U ps) vs ds) : DenL H' (c.U ps) vs ds :=
  h.mono (fun a o q n => e.keep a o q fun z => n (.inl (ok.sub a z))) fun _ _ _ q => q
theorem Den.stpA (e : Stp c H H') (h : Den H c.A v d) : Den H' c.A v d := h.mono (fun a o q n => e.keep a o q n) fun _ _ _ q => q
theorem DenL.stpA (e : Stp c H H') (h : DenL H c.A vs ds) : DenL H' c.A vs ds := h.mono (fun a o q n => e.keep a o q n) fun _ _ _ q => q
theorem Den.borrow (ok : c.Ok) (h : Den H (c.U ps) v d) : Den H c.A v d := h.mono (fun _ _ q _ => q) fun a _ _ q => .inl (ok.sub a q)
theorem DenL.borrow (ok : c.Ok) (h : DenL H (c.U ps) vs ds) : DenL H c.A vs ds := h.mono (fun _ _ q _ => q) fun a _ _ q => .inl (ok.sub a q)
theorem R.stp (r : R c Γ ρ ps σ H) (e : Stp c H H') : R c Γ ρ ps σ H' where
  ok := r.ok
  keep := fun a o h n => e.keep a o (r.keep a o h n) n
  there := fun a o h => let ⟨o', h'⟩ := r.there a o h; e.there a o' h'
  inv := e.inv r.inv
  al := e.al r.al
  sz := e.sz r.sz
  sl := r.sl.mono (fun a ha o q => e.keep a o q (r.ownA ha)) (fun a o q n => e.keep a o q (r.nA n)) fun _ _ _ q => q
  nd := r.nd
  own := r.own
theorem Rows.loose {U : AS} {qs : List Addr} {dss : List (List D)} (h : Rows H U qs dss) : ∀ p ∈ qs, ∃ xs, H p = some (.lst xs) := by
  induction h with
  | nil => intro p hp; cases hp
  | cons h1 _ _ ih =>
    intro p hp
    rcases List.mem_cons.mp hp with rfl | hp
    · exact ⟨_, h1⟩
    · exact ih p hp
theorem SlotR.loose {U : AS} {m : Md} {x : Option D} {o : Option V} {qs : List Addr} (h : SlotR c H U m x o qs) : ∀ p ∈ qs, ∃ o, H p = some o ∧ ∀ xs, o ≠ .tup xs := by
  intro p hp
  cases h with
  | no => cases hp
  | fro _ => cases hp
  | own h1 _ => rw [List.mem_singleton.mp hp]; exact ⟨_, h1, fun _ z => by cases z⟩
  | lent h1 _ => rw [List.mem_singleton.mp hp]; exact ⟨_, h1, fun _ z => by cases z⟩
  | own2 h1 h2 =>
    rcases List.mem_cons.mp hp with rfl | hp
    · exact ⟨_, h1, fun _ z => by cases z⟩
    · obtain ⟨xs, e⟩ := h2.loose p hp
      exact ⟨_, e, fun _ z => by cases z⟩
  | dic h1 _ => rw [List.mem_singleton.mp hp]; exact ⟨_, h1, fun _ z => by cases z⟩
  | src => cases hp
theorem Slots.loose {U : AS} (h : Slots c H U Γ ρ σ ps) : ∀ p ∈ ps, ∃ o, H p = some o ∧ ∀ xs, o ≠ .tup xs := by
  induction h with
  | nil => intro p hp; cases hp
  | cons h1 _ ih =>
    intro p hp
    rcases List.mem_append.mp hp with hp | hp
    · exact h1.loose p hp
    · exact ih p hp
theorem R.loose (r : R c Γ ρ ps σ H) : Loose H (c.U ps) := fun a u => by
  rcases u with u | u
  · exact r.al a u
  · exact r.sl.loose a u
theorem R.new (r : R c Γ ρ ps σ H) {p : Addr} (h : H p = none) : ¬ c.U ps p := fun u => by
  obtain ⟨o, h', _⟩ := r.loose p u
  rw [h] at h'; cases h'
theorem Slots.len {U : AS} (h : Slots c H U Γ ρ σ ps) : Γ.length = ρ.length ∧ ρ.length = σ.length := by
  induction h with
  | nil => exact ⟨rfl, rfl⟩
  | cons _ _ ih => exact ⟨congrArg (· + 1) ih.1, congrArg (· + 1) ih.2⟩
theorem Slots.get {U : AS} (h : Slots c H U Γ ρ σ ps) : ∀ {i : Nat} {m : Md} {d : Option D}, Γ[i]? = some m → ρ[i]? = some d →
    ∃ o qs, σ[i]? = some o ∧ SlotR c H U m d o qs ∧ ∀ p ∈ qs, p ∈ ps := by
  induction h with
  | nil => intro i m d h; simp at h
  | cons h1 _ ih =>
    intro i m d hm hd
    cases i with
    | zero =>
      simp at hm hd; subst hm; subst hd
      exact ⟨_, _, rfl, h1, fun p hp => List.mem_append_left _ hp⟩
    | succ i =>
      obtain ⟨o, qs, e1, e2, e3⟩ := ih (i := i) (by simpa using hm) (by simpa using hd)
      exact ⟨o, qs, by simpa using e1, e2, fun p hp => List.mem_append_right _ (e3 p hp)⟩
end

/-- what may be looked at: a datum, or a list of this def's own whose items are data -/
inductive View (c : Fx) (ps : List Addr) (H : Hp) : V → D → Prop
  | den {v : V} {d : D} : Den H (c.U ps) v d → View c ps H v d
  | own {p : Addr} {vs : List V} {ds : List D} : H p = some (.lst vs) → p ∈ ps → DenL H (c.U ps) vs ds → View c ps H (.ref p) (.list ds)
theorem View.stp {c : Fx} {ps : List Addr} {H H' : Hp} {v : V} {d : D} (ok : c.Ok) (hp : ∀ p ∈ ps, ¬ c.A p) (e : Stp c H H') (h : View c ps H v d) : View c ps H' v d := by
  cases h with
  | den h => exact .den (h.stp ok e)
  | own h1 h2 h3 => exact .own (e.keep _ _ h1 (hp _ h2)) h2 (h3.stp ok e)
theorem View.borrow {c : Fx} {ps : List Addr} {H : Hp} {v : V} {d : D} (ok : c.Ok) (hp : ∀ p ∈ ps, ¬ c.A p) (h : View c ps H v d) : Den H c.A v d := by
  cases h with
  | den h => exact h.borrow ok
  | own h1 h2 h3 => exact .lst h1 (hp _ h2) (h3.borrow ok)

/-! ### the judgements over readings -/
section
variable (s : Sx) (Γ : List Md)
/-- an expression's value: a datum | looked at | a new list -/
def SemE (t : TE) (f : Env → M D) : Prop := ∀ c ρ ps σ H Q P, c.s = s → R c Γ ρ ps σ H → f ρ P → (∀ d v H', P d → Stp c H H' → Den H' (c.U ps) v d → Q v H') → t σ H Q
def SemV (t : TE) (f : Env → M D) : Prop := ∀ c ρ ps σ H Q P, c.s = s → R c Γ ρ ps σ H → f ρ P → (∀ d v H', P d → Stp c H H' → View c ps H' v d → Q v H') → t σ H Q
def SemL (t : TE) (f : Env → M (List D)) : Prop := ∀ c ρ ps σ H Q P, c.s = s → R c Γ ρ ps σ H → f ρ P →
  (∀ ds p vs H', P ds → Stp c H H' → H p = none → H' p = some (.lst vs) → DenL H' (fun a => c.U ps a ∨ a = p) vs ds → Q (.ref p) H') → t σ H Q
def SemT (t : TT) (g : Env → M Bool) : Prop := ∀ c ρ ps σ H Q P, c.s = s → R c Γ ρ ps σ H → g ρ P → (∀ b H', P b → Stp c H H' → Q b H') → t σ H Q
/-- arguments -/
def SemA (t : TA) (f : Env → M (List D)) : Prop := ∀ c ρ ps σ H Q P, c.s = s → R c Γ ρ ps σ H → f ρ P → (∀ ds vs H', P ds → Stp c H H' → DenL H' (c.U ps) vs ds → Q vs H') → t σ H Q
end
inductive Views (c : Fx) (ps : List Addr) (H : Hp) : List V → List D → Prop
  | nil : Views c ps H [] []
  | cons {v : V} {vs : List V} {d : D} {ds : List D} : View c ps H v d → Views c ps H vs ds → Views c ps H (v :: vs) (d :: ds)
theorem Views.stp {c : Fx} {ps : List Addr} {H H' : Hp} (ok : c.Ok) (hp : ∀ p ∈ ps, ¬ c.A p) (e : Stp c H H') : ∀ {vs : List V} {ds : List D}, Views c ps H vs ds → Views c ps H' vs ds
  | _, _, .nil => .nil
  | _, _, .cons h t => .cons (h.stp ok hp e) (Views.stp ok hp e t)
def SemAV (s : Sx) (Γ : List Md) (t : TA) (f : Env → M (List D)) : Prop := ∀ c ρ ps σ H Q P, c.s = s → R c Γ ρ ps σ H → f ρ P → (∀ ds vs H', P ds → Stp c H H' → Views c ps H' vs ds → Q vs H') → t σ H Q

theorem SemE.v {s : Sx} {Γ : List Md} {t : TE} {f : Env → M D} (h : SemE s Γ t f) : SemV s Γ t f := fun c ρ ps σ H Q P e r q k =>
  h c ρ ps σ H Q P e r q fun d v H' p e dn => k d v H' p e (.den dn)
def mkL (f : Env → M (List D)) : Env → M D := fun ρ => bnd (f ρ) fun ds => ret (.list ds)
theorem SemL.e {s : Sx} {Γ : List Md} {t : TE} {f : Env → M (List D)} (h : SemL s Γ t f) : SemE s Γ t (mkL f) := fun c ρ ps σ H Q P ec r q k =>
  h c ρ ps σ H Q (fun ds => P (.list ds)) ec r q fun ds p vs H' p' e hn hp dn =>
    k (.list ds) (.ref p) H' p' e (.lst hp (fun u => by
      have := r.new hn; exact this u) (dn.mono (fun _ _ q _ => q) fun _ _ _ u => .inl u))
end Py
/-! PyB: expressions without calls and loops. -/
namespace Py
open PySem L2

/-! ### facts at hand in a state -/
structure Gd (c : Fx) (ps : List Addr) (H : Hp) : Prop where
  ok : c.Ok
  lo : Loose H (c.U ps)
  sz : Sz H
  nA : ∀ p ∈ ps, ¬ c.A p
  inv : c.J H
theorem R.gd {c : Fx} {Γ : List Md} {ρ : Env} {ps : List Addr} {σ : St} {H : Hp} (r : R c Γ ρ ps σ H) : Gd c ps H := ⟨r.ok, r.loose, r.sz, fun p h => r.ownA h, r.inv⟩
theorem Gd.new {c : Fx} {ps : List Addr} {H : Hp} (g : Gd c ps H) {p : Addr} (h : H p = none) : ¬ c.U ps p := fun u => by
  obtain ⟨o, h', _⟩ := g.lo p u
  rw [h] at h'; cases h'
section
variable {c : Fx} {ps : List Addr} {H : Hp} {v w : V} {d : D}
theorem View.int {i : Int} (h : View c ps H v (.int i)) : v = .int i := by cases h with | den h => cases h; rfl
theorem View.bl {b : Bool} (h : View c ps H v (.bool b)) : v = .bl b := by cases h with | den h => cases h; rfl
theorem View.str {b : Str} (h : View c ps H v (.str b)) : v = .str b := by cases h with | den h => cases h; rfl
theorem View.non (h : View c ps H v .none) : v = .non := by cases h with | den h => cases h; rfl
theorem View.non_iff (h : View c ps H v d) : v = .non ↔ d = .none := by
  constructor
  · intro e; subst e
    cases h with | den h => cases h; rfl
  · intro e; subst e; exact h.non
theorem View.lst {ds : List D} (h : View c ps H v (.list ds)) : ∃ a vs, v = .ref a ∧ H a = some (.lst vs) ∧ DenL H (c.U ps) vs ds := by
  cases h with
  | den h => cases h with | lst h1 h2 h3 => exact ⟨_, _, rfl, h1, h3⟩
  | own h1 h2 h3 => exact ⟨_, _, rfl, h1, h3⟩
theorem View.tup {ds : List D} (h : View c ps H v (.tuple ds)) : ∃ a vs, v = .ref a ∧ H a = some (.tup vs) ∧ DenL H (c.U ps) vs ds ∧ ¬ c.U ps a := by
  cases h with | den h => cases h with | tup h1 h2 h3 => exact ⟨_, _, rfl, h1, h3, h2⟩
end

/-! ### names, constants -/
section
variable {s : Sx} {Γ : List Md}
def eVar (i : Nat) : Env → M D := fun ρ => match ρ[i]? with | some (some d) => ret d | _ => stuck
theorem eVar_get {i : Nat} {ρ : Env} {P : D → Prop} (h : eVar i ρ P) : ∃ d, ρ[i]? = some (some d) ∧ P d := by
  unfold eVar at h
  generalize ρ[i]? = z at h ⊢
  rcases z with _ | _ | d
  · cases h
  · cases h
  · exact ⟨d, rfl, h⟩
theorem sem_var {i : Nat} (hm : Γ[i]? = some .fro) : SemE s Γ (tVar i) (eVar i) := by
  intro c ρ ps σ H Q P _ r q k
  obtain ⟨d, e, p⟩ := eVar_get q
  obtain ⟨o, qs, e1, e2, _⟩ := r.sl.get hm e
  cases e2 with
  | fro h => exact ⟨_, e1, k d _ H p (Stp.refl c H) h⟩
theorem sem_own {i : Nat} (hm : Γ[i]? = some .own) : SemV s Γ (tVar i) (eVar i) := by
  intro c ρ ps σ H Q P _ r q k
  obtain ⟨d, e, p⟩ := eVar_get q
  obtain ⟨o, qs, e1, e2, e3⟩ := r.sl.get hm e
  cases e2 with
  | own h1 h2 => exact ⟨_, e1, k _ _ H p (Stp.refl c H) (.own h1 (e3 _ (by simp)) h2)⟩
theorem sem_lent {i : Nat} {p : Addr} {vs : List V} (hm : Γ[i]? = some (.lent p vs)) : SemV s Γ (tVar i) (eVar i) := by
  intro c ρ ps σ H Q P _ r q k
  obtain ⟨d, e, p⟩ := eVar_get q
  obtain ⟨o, qs, e1, e2, e3⟩ := r.sl.get hm e
  cases e2 with
  | lent h1 h2 => exact ⟨_, e1, k _ _ H p (Stp.refl c H) (.own h1 (e3 _ (by simp)) h2)⟩
def eC (d : D) : Env → M D := fun _ => ret d
theorem sem_int {i : Int} : SemE s Γ (tC (.int i)) (eC (.int i)) := fun c ρ ps σ H Q P _ r q k => k _ _ H q (Stp.refl c H) (.int i)
theorem sem_bl {i : Bool} : SemE s Γ (tC (.bl i)) (eC (.bool i)) := fun c ρ ps σ H Q P _ r q k => k _ _ H q (Stp.refl c H) (.bl i)
theorem sem_str {i : Str} : SemE s Γ (tC (.str i)) (eC (.str i)) := fun c ρ ps σ H Q P _ r q k => k _ _ H q (Stp.refl c H) (.str i)
theorem sem_non : SemE s Γ (tC .non) (eC .none) := fun c ρ ps σ H Q P _ r q k => k _ _ H q (Stp.refl c H) .non

/-! ### operators by values -/
/-- r reckons g; what it gives is a datum -/
def OpE (s : Sx) (r : R2) (g : D → D → M D) : Prop := ∀ c ps H x y u v Q P, c.s = s → Gd c ps H → View c ps H u x → View c ps H v y → g x y P → (∀ d w H', P d → Stp c H H' → Den H' (c.U ps) w d → Q w H') → r u v H Q
def UnE (s : Sx) (r : V → Hp → VK → Prop) (g : D → M D) : Prop := ∀ c ps H x u Q P, c.s = s → Gd c ps H → View c ps H u x → g x P → (∀ d w H', P d → Stp c H H' → Den H' (c.U ps) w d → Q w H') → r u H Q
def bin (g : D → D → M D) (a b : Env → M D) : Env → M D := fun ρ => bnd (a ρ) fun x => bnd (b ρ) fun y => g x y
def una (g : D → M D) (a : Env → M D) : Env → M D := fun ρ => bnd (a ρ) g
theorem sem_op {r : R2} {g : D → D → M D} {ta tb : TE} {a b : Env → M D} (o : OpE s r g) (ha : SemV s Γ ta a) (hb : SemV s Γ tb b) : SemE s Γ (tOp r ta tb) (bin g a b) := by
  intro c ρ ps σ H Q P hc r0 q k
  refine ha c ρ ps σ H _ _ hc r0 q fun x u H1 q1 e1 d1 => ?_
  refine hb c ρ ps σ H1 _ _ hc (r0.stp e1) q1 fun y v H2 q2 e2 d2 => ?_
  have r2 := (r0.stp e1).stp e2
  exact o c ps H2 x y u v Q P hc r2.gd (d1.stp r0.ok r2.gd.nA e2) d2 q2 fun d w H3 p e3 dn => k d w H3 p ((e1.trans e2).trans e3) dn
theorem sem_un {r : V → Hp → VK → Prop} {g : D → M D} {ta : TE} {a : Env → M D} (o : UnE s r g) (ha : SemV s Γ ta a) : SemE s Γ (tUn r ta) (una g a) := by
  intro c ρ ps σ H Q P hc r0 q k
  refine ha c ρ ps σ H _ _ hc r0 q fun x u H1 q1 e1 d1 => ?_
  exact o c ps H1 x u Q P hc (r0.stp e1).gd d1 q1 fun d w H3 p e3 dn => k d w H3 p (e1.trans e3) dn

/-- two ints -/
def gI (f : Int → Int → D) : D → D → M D
  | .int i, .int j => ret (f i j)
  | _, _ => stuck
/-- two ints, on a condition -/
def gIc (p : Int → Int → Bool) (f : Int → Int → D) : D → D → M D
  | .int i, .int j => if p i j = true then ret (f i j) else stuck
  | _, _ => stuck
theorem op_i0 {f : Int → Int → V} {g : Int → Int → D} (h : ∀ i j H U, Den H U (f i j) (g i j)) : OpE s (rI0 f) (gI g) := by
  intro c ps H x y u v Q P hc G hx hy q k
  unfold gI at q
  split at q
  · exact ⟨_, _, hx.int, hy.int, k _ _ H q (Stp.refl c H) (h _ _ _ _)⟩
  · cases q
theorem op_ic {C : Int → Int → Prop} {p : Int → Int → Bool} {f : Int → Int → V} {g : Int → Int → D} (hp : ∀ i j, p i j = true → C i j) (h : ∀ i j H U, Den H U (f i j) (g i j)) : OpE s (rI C f) (gIc p g) := by
  intro c ps H x y u v Q P hc G hx hy q k
  unfold gIc at q
  split at q
  · split at q
    · exact ⟨_, _, hx.int, hy.int, hp _ _ (by assumption), k _ _ H q (Stp.refl c H) (h _ _ _ _)⟩
    · cases q
  · cases q
abbrev gSub : D → D → M D := gI fun i j => .int (i - j)
abbrev gLt : D → D → M D := gI fun i j => .bool (decide (i < j))
abbrev gLe : D → D → M D := gI fun i j => .bool (decide (i ≤ j))
abbrev gGt : D → D → M D := gI fun i j => .bool (decide (j < i))
abbrev gGe : D → D → M D := gI fun i j => .bool (decide (j ≤ i))
def mulOk (i j : Int) : Bool := decide (i.natAbs.log2 + j.natAbs.log2 < 1000000)
def divOk (_ j : Int) : Bool := decide (j ≠ 0 ∧ j.natAbs.log2 < 9000)
def modOk (_ j : Int) : Bool := decide (j ≠ 0)
abbrev gFdiv : D → D → M D := gIc divOk fun i j => .int (i.fdiv j)
abbrev gMod : D → D → M D := gIc modOk fun i j => .int (i.fmod j)
def CDivF (_ j : Int) : Prop := j ≠ 0 ∧ j.natAbs.log2 < 9000
theorem divOk_c {i j : Int} (h : divOk i j = true) : CDivF i j := by
  unfold divOk at h
  have h' := of_decide_eq_true h
  exact h'
theorem mulOk_c {i j : Int} (h : mulOk i j = true) : CMulW i j := by
  unfold mulOk at h
  have h' := of_decide_eq_true h
  exact h'
theorem modOk_c {i j : Int} (h : modOk i j = true) : j ≠ 0 := by
  unfold modOk at h
  exact of_decide_eq_true h
theorem op_fdivF {X : Cx} : OpR X (binaryOp .FloorDiv) (rI CDivF fun i j => .int (i.fdiv j)) := opI fun _ _ _ _ _ _ _ hc q => PyProof.Rows.floordiv_int hc.1 q (.inl (PyProof.noPylong_of_log2 hc.2))
abbrev rSubI : R2 := rI0 fun i j => .int (i - j)
abbrev rFdivI : R2 := rI CDivF fun i j => .int (i.fdiv j)
abbrev rModI : R2 := rI (fun _ j => j ≠ 0) fun i j => .int (i.fmod j)
theorem oe_sub : OpE s rSubI gSub := op_i0 fun _ _ _ _ => .int _
theorem oe_fdiv : OpE s rFdivI gFdiv := op_ic (fun i j h => divOk_c h) fun _ _ _ _ => .int _
theorem oe_mod : OpE s rModI gMod := op_ic (fun i j h => modOk_c h) fun _ _ _ _ => .int _
theorem oe_lt : OpE s (rI0 fun i j => .bl (decide (i < j))) gLt := op_i0 fun _ _ _ _ => .bl _
theorem oe_le : OpE s (rI0 fun i j => .bl (decide (i ≤ j))) gLe := op_i0 fun _ _ _ _ => .bl _
theorem oe_gt : OpE s (rI0 fun i j => .bl (decide (j < i))) gGt := op_i0 fun _ _ _ _ => .bl _
theorem oe_ge : OpE s (rI0 fun i j => .bl (decide (j ≤ i))) gGe := op_i0 fun _ _ _ _ => .bl _
def gNeg : D → M D
  | .int i => ret (.int (-i))
  | _ => stuck
theorem oe_neg : UnE s (rU fun i => .int (-i)) gNeg := by
  intro c ps H x u Q P hc G hx q k
  unfold gNeg at q
  split at q
  · exact ⟨_, hx.int, k _ _ H q (Stp.refl c H) (.int _)⟩
  · cases q

/-! ### + of ints, tuples, lists -/
def rAddA (K : PySem.W.Frag) : R2 := fun x y H Q => (rI0 (fun i j => .int (i + j)) x y H Q ∨ rCatA K x y H Q) ∨ rCat x y H Q
theorem op_addA {X : Cx} : OpR X (binaryOp .Add) (rAddA X.K) := (L2.op_add.or op_catA).or op_cat
def lenOk (n : Nat) : Bool := decide (n ≤ 100000)
theorem lenOk_sz {n : Nat} (h : lenOk n = true) : n ≤ sizeLine := Nat.le_trans (of_decide_eq_true h) (by decide)
def gAdd : D → D → M D
  | .int i, .int j => ret (.int (i + j))
  | .tuple a, .tuple b => if lenOk (a.length + b.length) = true then ret (.tuple (a ++ b)) else stuck
  | .list a, .list b => if lenOk (a.length + b.length) = true then ret (.list (a ++ b)) else stuck
  | _, _ => stuck
theorem DenL.nil_iff {H : Hp} {U : AS} {vs : List V} {ds : List D} (h : DenL H U vs ds) : vs = [] ↔ ds = [] := by
  cases h with
  | nil => exact ⟨fun _ => rfl, fun _ => rfl⟩
  | cons _ _ => exact Iff.intro (fun e => nomatch e) (fun e => nomatch e)
theorem oe_add {K : PySem.W.Frag} : OpE s (rAddA K) gAdd := by
  intro c ps H x y u v Q P hc G hx hy q k
  unfold gAdd at q
  split at q
  · exact .inl (.inl ⟨_, _, hx.int, hy.int, k _ _ H q (Stp.refl c H) (.int _)⟩)
  · split at q
    · rename_i a b hl
      obtain ⟨p1, vs, rfl, h1, dn1, n1⟩ := hx.tup
      obtain ⟨p2, ws, rfl, h2, dn2, n2⟩ := hy.tup
      have hz : vs.length + ws.length ≤ sizeLine := by rw [dn1.length, dn2.length]; exact lenOk_sz hl
      refine .inl (.inr ⟨p1, p2, vs, ws, rfl, rfl, SqT.of h1, SqT.of h2, hz, fun e => ?_, fun _ e => ?_, fun _ _ p hp => ?_⟩)
      · have e' := dn1.nil_iff.mp e
        subst e'
        exact k _ _ H q (Stp.refl c H) (.tup h2 n2 dn2)
      · have e' := dn2.nil_iff.mp e
        subst e'
        rw [List.append_nil] at q
        exact k _ _ H q (Stp.refl c H) (.tup h1 n1 dn1)
      · have e := Stp.tup G.ok (xs := vs ++ ws) hp (by rw [List.length_append]; exact hz)
        exact k _ _ _ q e (.tup upd_same (G.new hp) ((dn1.stp G.ok e).append (dn2.stp G.ok e)))
    · cases q
  · split at q
    · rename_i a b hl
      obtain ⟨p1, vs, rfl, h1, dn1⟩ := hx.lst
      obtain ⟨p2, ws, rfl, h2, dn2⟩ := hy.lst
      have hz : vs.length + ws.length ≤ sizeLine := by rw [dn1.length, dn2.length]; exact lenOk_sz hl
      refine .inr ⟨p1, p2, vs, ws, rfl, rfl, h1, h2, hz, fun p hp => ?_⟩
      have e := Stp.lst G.ok (xs := vs ++ ws) hp (by rw [List.length_append]; exact hz)
      exact k _ _ _ q e (.lst upd_same (G.new hp) ((dn1.stp G.ok e).append (dn2.stp G.ok e)))
    · cases q
  · cases q

/-! ### * of ints; a list or a tuple times an int -/
def rMulA (K : PySem.W.Frag) : R2 := fun x y H Q => rI CMulW (fun i j => .int (i * j)) x y H Q ∨ rRep x y H Q
theorem op_mulA {X : Cx} : OpR X (binaryOp .Mult) (rMulA X.K) := op_mulW.or op_rep
def repD : Nat → List D → List D
  | 0, _ => []
  | n + 1, ds => ds ++ repD n ds
theorem DenL.rep {H : Hp} {U : AS} {vs : List V} {ds : List D} (h : DenL H U vs ds) : ∀ n : Nat, DenL H U (List.replicate n vs).flatten (repD n ds)
  | 0 => .nil
  | n + 1 => by rw [List.replicate_succ, List.flatten_cons]; exact h.append (h.rep n)
def gMul : D → D → M D
  | .int i, .int j => if mulOk i j = true then ret (.int (i * j)) else stuck
  | .list a, .int n => if decide (0 ≤ n ∧ n ≤ 1000 ∧ a.length ≤ 100) = true then ret (.list (repD n.toNat a)) else stuck
  | _, _ => stuck
theorem oe_mul {K : PySem.W.Frag} : OpE s (rMulA K) gMul := by
  intro c ps H x y u v Q P hc G hx hy q k
  unfold gMul at q
  split at q
  · split at q
    · exact .inl ⟨_, _, hx.int, hy.int, mulOk_c (by assumption), k _ _ H q (Stp.refl c H) (.int _)⟩
    · cases q
  · split at q
    · rename_i a n hl
      have hb := of_decide_eq_true hl
      obtain ⟨p1, vs, rfl, h1, dn1⟩ := hx.lst
      have hv : vs.length ≤ 100 := by rw [dn1.length]; exact hb.2.2
      have h3 : vs.length * n.toNat ≤ 100 * 1000 := Nat.mul_le_mul hv (by omega)
      have hz : vs.length * n.toNat ≤ sizeLine := Nat.le_trans h3 (by decide)
      refine .inr ⟨p1, n, vs, rfl, hy.int, h1, by omega, by omega, hz, fun p hp => ?_⟩
      have e := Stp.lst G.ok (xs := (List.replicate n.toNat vs).flatten) hp (by rw [List.length_flatten, List.map_replicate, List.sum_replicate_nat, Nat.mul_comm]; exact hz)
      exact k _ _ _ q e (.lst upd_same (G.new hp) ((dn1.stp G.ok e).rep _))
    · cases q
  · cases q

/-! ### == and != of data -/
theorem Den.dp {K : PySem.W.Frag} {H : Hp} {U : AS} : ∀ {d : D} {v : V}, Den H U v d → d.canLay0 = true → Dp K H v d := by
  intro d v h
  refine Den.rec (motive_1 := fun v d _ => d.canLay0 = true → Dp K H v d) (motive_2 := fun vs ds _ => PyData.canLayAll0 ds = true → DpAll K H vs ds) ?_ ?_ ?_ ?_ ?_ ?_ ?_ ?_ ?_ h
  · intro _; exact .non
  · intro b _; exact .bl b
  · intro b _; exact .int b
  · intro b _; exact .str b
  · intro a xs ds ha hu _ ih z; exact .lst (SqL.of ha) (ih (by simpa [PyData.canLay0] using z))
  · intro a xs ds ha hu _ ih z; exact .tup (SqT.of ha) (ih (by simpa [PyData.canLay0] using z))
  · intro a ha hu z; simp [PyData.canLay0] at z
  · intro _; exact .nil
  · intro v vs d ds _ _ h1 h2 z
    have z' : d.canLay0 = true ∧ PyData.canLayAll0 ds = true := by simpa [PyData.canLayAll0] using z
    exact .cons (h1 z'.1) (h2 z'.2)
theorem DenL.dp {K : PySem.W.Frag} {H : Hp} {U : AS} : ∀ {ds : List D} {vs : List V}, DenL H U vs ds → PyData.canLayAll0 ds = true → DpAll K H vs ds
  | _, _, .nil, _ => .nil
  | d :: ds, _, .cons h t, z => by
    have z' : d.canLay0 = true ∧ PyData.canLayAll0 ds = true := by simpa [PyData.canLayAll0] using z
    exact .cons (h.dp z'.1) (t.dp z'.2)
theorem View.dp {K : PySem.W.Frag} {c : Fx} {ps : List Addr} {H : Hp} {v : V} {d : D} (h : View c ps H v d) (z : d.canLay0 = true) : Dp K H v d := by
  cases h with
  | den h => exact h.dp z
  | own h1 _ h3 => exact .lst (SqL.of h1) (h3.dp (by simpa [PyData.canLay0] using z))
def shp (d : D) : Bool := SeqAt.shaped d
theorem shp_lay {d : D} (h : shp d = true) : d.canLay0 = true := SeqAt.canLay_of_shaped h
def gEq : D → D → M D := fun x y => if (shp x && shp y) = true then ret (.bool (PyData.eqv x y)) else stuck
def gNe : D → D → M D := fun x y => if (shp x && shp y) = true then ret (.bool (!PyData.eqv x y)) else stuck
theorem oe_eq {K : PySem.W.Frag} : OpE s (rEqD K) gEq := by
  intro c ps H x y u v Q P hc G hx hy q k
  unfold gEq at q
  split at q
  · rename_i z
    have z' : shp x = true ∧ shp y = true := by simpa using z
    exact ⟨x, y, hx.dp (shp_lay z'.1), hy.dp (shp_lay z'.2), z'.1, z'.2, k _ _ H q (Stp.refl c H) (.bl _)⟩
  · cases q
theorem oe_ne {K : PySem.W.Frag} : OpE s (rNeD K) gNe := by
  intro c ps H x y u v Q P hc G hx hy q k
  unfold gNe at q
  split at q
  · rename_i z
    have z' : shp x = true ∧ shp y = true := by simpa using z
    exact ⟨x, y, hx.dp (shp_lay z'.1), hy.dp (shp_lay z'.2), z'.1, z'.2, k _ _ H q (Stp.refl c H) (.bl _)⟩
  · cases q

/-! ### is None, is True -/
def isNonD : D → Bool
  | .none => true
  | _ => false
def gIsN : D → D → M D := fun x _ => ret (.bool (isNonD x))
def gNotN : D → D → M D := fun x _ => ret (.bool (!isNonD x))
theorem is_non {c : Fx} {ps : List Addr} {H : Hp} {v : V} {d : D} (h : View c ps H v d) : decide (v = .non) = isNonD d := by
  by_cases e : v = .non
  · rw [decide_eq_true e, h.non_iff.mp e]; rfl
  · rw [decide_eq_false e]
    have ne := fun q => e (h.non_iff.mpr q)
    cases d <;> first | rfl | exact absurd rfl ne
abbrev rIsNon : R2 := fun x y H Q => y = .non ∧ Q (.bl (decide (x = .non))) H
abbrev rNotNon : R2 := fun x y H Q => y = .non ∧ Q (.bl (!decide (x = .non))) H
theorem sem_isN {ta : TE} {a : Env → M D} (ha : SemV s Γ ta a) : SemE s Γ (tOp rIsNon ta (tC .non)) (bin gIsN a (eC .none)) := by
  intro c ρ ps σ H Q P hc r0 q k
  refine ha c ρ ps σ H _ _ hc r0 q fun x u H1 q1 e1 d1 => ?_
  refine ⟨rfl, k _ _ H1 q1 e1 ?_⟩
  rw [is_non d1]; exact .bl _
theorem sem_notN {ta : TE} {a : Env → M D} (ha : SemV s Γ ta a) : SemE s Γ (tOp rNotNon ta (tC .non)) (bin gNotN a (eC .none)) := by
  intro c ρ ps σ H Q P hc r0 q k
  refine ha c ρ ps σ H _ _ hc r0 q fun x u H1 q1 e1 d1 => ?_
  refine ⟨rfl, k _ _ H1 q1 e1 ?_⟩
  rw [is_non d1]; exact .bl _
def gB (f : Bool → Bool → Bool) : D → D → M D
  | .bool i, .bool j => ret (.bool (f i j))
  | _, _ => stuck
theorem oe_isB : OpE s rIsB (gB fun a b => decide (a = b)) := by
  intro c ps H x y u v Q P hc G hx hy q k
  unfold gB at q
  split at q
  · exact ⟨_, _, hx.bl, hy.bl, k _ _ H q (Stp.refl c H) (.bl _)⟩
  · cases q
theorem oe_notB : OpE s rNotB (gB fun a b => !decide (a = b)) := by
  intro c ps H x y u v Q P hc G hx hy q k
  unfold gB at q
  split at q
  · exact ⟨_, _, hx.bl, hy.bl, k _ _ H q (Stp.refl c H) (.bl _)⟩
  · cases q

/-! ### tests -/
def tst (e : Env → M D) : Env → M Bool := fun ρ => bnd (e ρ) fun d => match d with | .bool b => ret b | _ => stuck
theorem sem_test {t : TE} {e : Env → M D} (h : SemV s Γ t e) : SemT s Γ (tTest t) (tst e) := by
  intro c ρ ps σ H Q P hc r0 q k
  refine h c ρ ps σ H _ _ hc r0 q fun x u H1 q1 e1 d1 => ?_
  dsimp only at q1
  split at q1
  · exact ⟨_, d1.bl, k _ H1 q1 e1⟩
  · cases q1
theorem sem_tB {t : TE} {e : Env → M D} (h : SemV s Γ t e) : SemT s Γ (tB t) (tst e) := by
  intro c ρ ps σ H Q P hc r0 q k
  refine h c ρ ps σ H _ _ hc r0 q fun x u H1 q1 e1 d1 => ?_
  dsimp only at q1
  split at q1
  · exact ⟨_, d1.bl, k _ H1 q1 e1⟩
  · cases q1
/-- the truth of a bool, an int, a sequence, None -/
def truD : D → M Bool
  | .bool b => ret b
  | .int i => ret (i != 0)
  | .list ds => ret (!ds.isEmpty)
  | .tuple ds => ret (!ds.isEmpty)
  | .none => ret false
  | _ => stuck
def tru (e : Env → M D) : Env → M Bool := fun ρ => bnd (e ρ) truD
theorem DenL.empty {H : Hp} {U : AS} {vs : List V} {ds : List D} (h : DenL H U vs ds) : vs.isEmpty = ds.isEmpty := by cases h <;> rfl
theorem sem_tru {K : PySem.W.Frag} {t : TE} {e : Env → M D} (h : SemV s Γ t e) : SemT s Γ (fun σ H Q => t σ H fun x H' => ∃ k, TruV K x H' k ∧ Q k H') (tru e) := by
  intro c ρ ps σ H Q P hc r0 q k
  refine h c ρ ps σ H _ _ hc r0 q fun x u H1 q1 e1 d1 => ?_
  unfold truD at q1
  split at q1
  · rw [d1.bl]; exact ⟨_, rfl, k _ H1 q1 e1⟩
  · rw [d1.int]; exact ⟨_, rfl, k _ H1 q1 e1⟩
  · obtain ⟨a, vs, rfl, h1, dn⟩ := d1.lst
    refine ⟨_, .inl ⟨vs, SqL.of h1, rfl⟩, k _ H1 ?_ e1⟩
    rw [dn.empty]; exact q1
  · obtain ⟨a, vs, rfl, h1, dn, _⟩ := d1.tup
    refine ⟨_, .inr (.inl ⟨vs, SqT.of h1, rfl⟩), k _ H1 ?_ e1⟩
    rw [dn.empty]; exact q1
  · rw [d1.non]; exact ⟨_, rfl, k _ H1 q1 e1⟩
  · cases q1
def bAnd (a b : Env → M Bool) : Env → M Bool := fun ρ => bnd (a ρ) fun x => if x = true then b ρ else ret false
def bOr (a b : Env → M Bool) : Env → M Bool := fun ρ => bnd (a ρ) fun x => if x = true then ret true else b ρ
def bNot (a : Env → M Bool) : Env → M Bool := fun ρ => bnd (a ρ) fun x => ret (!x)
theorem sem_and {t u : TT} {a b : Env → M Bool} (ha : SemT s Γ t a) (hb : SemT s Γ u b) : SemT s Γ (tAnd t u) (bAnd a b) := by
  intro c ρ ps σ H Q P hc r0 q k
  refine ha c ρ ps σ H _ _ hc r0 q fun x H1 q1 e1 => ?_
  dsimp only at q1
  cases x with
  | true =>
    refine iteT ?_
    rw [if_pos rfl] at q1
    exact hb c ρ ps σ H1 _ _ hc (r0.stp e1) q1 fun y H2 q2 e2 => k y H2 q2 (e1.trans e2)
  | false =>
    refine iteF ?_
    rw [if_neg Bool.false_ne_true] at q1
    exact k _ H1 q1 e1
theorem sem_or {t u : TT} {a b : Env → M Bool} (ha : SemT s Γ t a) (hb : SemT s Γ u b) : SemT s Γ (tOr t u) (bOr a b) := by
  intro c ρ ps σ H Q P hc r0 q k
  refine ha c ρ ps σ H _ _ hc r0 q fun x H1 q1 e1 => ?_
  dsimp only at q1
  cases x with
  | true =>
    refine iteT ?_
    rw [if_pos rfl] at q1
    exact k _ H1 q1 e1
  | false =>
    refine iteF ?_
    rw [if_neg Bool.false_ne_true] at q1
    exact hb c ρ ps σ H1 _ _ hc (r0.stp e1) q1 fun y H2 q2 e2 => k y H2 q2 (e1.trans e2)
theorem sem_not {t : TT} {a : Env → M Bool} (ha : SemT s Γ t a) : SemT s Γ (tNot t) (bNot a) := by
  intro c ρ ps σ H Q P hc r0 q k
  exact ha c ρ ps σ H _ _ hc r0 q fun x H1 q1 e1 => k _ H1 q1 e1
/-- and, or, not as values: bools -/
def vB (a : Env → M Bool) : Env → M D := fun ρ => bnd (a ρ) fun b => ret (.bool b)
def eAnd (a b : Env → M D) : Env → M D := fun ρ => bnd (tst a ρ) fun x => if x = true then b ρ else ret (.bool false)
def eOr (a b : Env → M D) : Env → M D := fun ρ => bnd (tst a ρ) fun x => if x = true then ret (.bool true) else b ρ
def eNot (a : Env → M D) : Env → M D := fun ρ => bnd (tst a ρ) fun x => ret (.bool (!x))
theorem sem_eAnd {t u : TE} {a b : Env → M D} (ha : SemV s Γ t a) (hb : SemE s Γ u b) : SemE s Γ (tAndV t u) (eAnd a b) := by
  intro c ρ ps σ H Q P hc r0 q k
  refine ha c ρ ps σ H _ _ hc r0 q fun x v H1 q1 e1 d1 => ?_
  dsimp only at q1
  split at q1
  · refine ⟨_, d1.bl, ?_⟩
    rename_i bb
    replace q1 : (if bb = true then b ρ else ret (.bool false)) P := q1
    cases bb with
    | true =>
      rw [if_pos rfl] at q1
      refine iteT ?_
      exact hb c ρ ps σ H1 _ _ hc (r0.stp e1) q1 fun d w H2 q2 e2 dn => k d w H2 q2 (e1.trans e2) dn
    | false =>
      rw [if_neg Bool.false_ne_true] at q1
      exact iteF (k _ _ H1 q1 e1 (.bl _))
  · cases q1
theorem sem_eOr {t u : TE} {a b : Env → M D} (ha : SemV s Γ t a) (hb : SemE s Γ u b) : SemE s Γ (tOrV t u) (eOr a b) := by
  intro c ρ ps σ H Q P hc r0 q k
  refine ha c ρ ps σ H _ _ hc r0 q fun x v H1 q1 e1 d1 => ?_
  dsimp only at q1
  split at q1
  · refine ⟨_, d1.bl, ?_⟩
    rename_i bb
    replace q1 : (if bb = true then ret (.bool true) else b ρ) P := q1
    cases bb with
    | true =>
      rw [if_pos rfl] at q1
      exact iteT (k _ _ H1 q1 e1 (.bl _))
    | false =>
      rw [if_neg Bool.false_ne_true] at q1
      refine iteF ?_
      exact hb c ρ ps σ H1 _ _ hc (r0.stp e1) q1 fun d w H2 q2 e2 dn => k d w H2 q2 (e1.trans e2) dn
  · cases q1
theorem sem_eNot {t : TE} {a : Env → M D} (ha : SemV s Γ t a) : SemE s Γ (tNotV t) (eNot a) := by
  intro c ρ ps σ H Q P hc r0 q k
  refine ha c ρ ps σ H _ _ hc r0 q fun x v H1 q1 e1 d1 => ?_
  dsimp only at q1
  split at q1
  · exact ⟨_, d1.bl, k _ _ H1 q1 e1 (.bl _)⟩
  · cases q1
def eIf (g : Env → M Bool) (a b : Env → M D) : Env → M D := fun ρ => bnd (g ρ) fun x => if x = true then a ρ else b ρ
theorem sem_eIf {t : TT} {u w : TE} {g : Env → M Bool} {a b : Env → M D} (hg : SemT s Γ t g) (ha : SemE s Γ u a) (hb : SemE s Γ w b) : SemE s Γ (tIf t u w) (eIf g a b) := by
  intro c ρ ps σ H Q P hc r0 q k
  refine hg c ρ ps σ H _ _ hc r0 q fun x H1 q1 e1 => ?_
  dsimp only at q1
  cases x with
  | true =>
    rw [if_pos rfl] at q1
    refine iteT ?_
    exact ha c ρ ps σ H1 _ _ hc (r0.stp e1) q1 fun d w H2 q2 e2 dn => k d w H2 q2 (e1.trans e2) dn
  | false =>
    rw [if_neg Bool.false_ne_true] at q1
    refine iteF ?_
    exact hb c ρ ps σ H1 _ _ hc (r0.stp e1) q1 fun d w H2 q2 e2 dn => k d w H2 q2 (e1.trans e2) dn
/-- a < b < c of ints (b asked once) -/
def eChain (g g' : D → D → M D) (a b e : Env → M D) : Env → M D := fun ρ => bnd (a ρ) fun x => bnd (b ρ) fun y => bnd (g x y) fun z => match z with
  | .bool k => if k = true then bnd (e ρ) fun w => g' y w else ret (.bool false)
  | _ => stuck
theorem sem_chain {r r' : R2} {g g' : D → D → M D} {ta tb te : TE} {a b e : Env → M D} (o : OpE s r g) (o' : OpE s r' g') (ha : SemV s Γ ta a) (hb : SemV s Γ tb b) (he : SemV s Γ te e) : SemE s Γ (tChain r r' ta tb te) (eChain g g' a b e) := by
  intro c ρ ps σ H Q P hc r0 q k
  refine ha c ρ ps σ H _ _ hc r0 q fun x u H1 q1 e1 d1 => ?_
  refine hb c ρ ps σ H1 _ _ hc (r0.stp e1) q1 fun y v H2 q2 e2 d2 => ?_
  have r2 := (r0.stp e1).stp e2
  refine o c ps H2 x y u v _ _ hc r2.gd (d1.stp r0.ok r2.gd.nA e2) d2 q2 fun z w H3 q3 e3 d3 => ?_
  dsimp only at q3
  split at q3
  · rename_i kk
    cases d3
    refine ⟨kk, rfl, ?_⟩
    cases kk with
    | true =>
      rw [if_pos rfl] at q3
      refine iteT ?_
      have r3 := r2.stp e3
      refine he c ρ ps σ H3 _ _ hc r3 q3 fun z' w' H4 q4 e4 d4 => ?_
      have r4 := r3.stp e4
      exact o' c ps H4 y z' v w' _ _ hc r4.gd ((d2.stp r0.ok r2.gd.nA e3).stp r0.ok r2.gd.nA e4) d4 q4 fun d w H5 p e5 dn => k d w H5 p ((((e1.trans e2).trans e3).trans e4).trans e5) dn
    | false =>
      rw [if_neg Bool.false_ne_true] at q3
      exact iteF (k _ _ H3 q3 ((e1.trans e2).trans e3) (.bl _))
  · cases q3
end
end Py
/-! PyC: places, slices, displays, targets, what is walked, comprehensions. -/
namespace Py
open PySem L2 StX
section
variable {s : Sx} {Γ : List Md}

/-! ### places -/
def gIx : D → D → M D
  | .list ds, .int i => match atI ds i with | some d => ret d | none => stuck
  | .tuple ds, .int i => match atI ds i with | some d => ret d | none => stuck
  | _, _ => stuck
theorem DenL.atI {H : Hp} {U : AS} {vs : List V} {ds : List D} {i : Int} {d : D} (h : DenL H U vs ds) (e : atI ds i = some d) : ∃ v, L2.atI vs i = some v ∧ Den H U v d := by
  unfold L2.atI at e ⊢
  rw [h.length]
  cases z : ixN ds.length i with
  | none => rw [z] at e; cases e
  | some j => rw [z] at e; exact h.get e
theorem oe_ix {K : PySem.W.Frag} : OpE s (rIx K) gIx := by
  intro c ps H x y u v Q P hc G hx hy q k
  unfold gIx at q
  split at q
  · rename_i ds i
    obtain ⟨a, vs, rfl, h1, dn⟩ := hx.lst
    cases z : L2.atI ds i with
    | none => rw [z] at q; cases q
    | some d =>
      rw [z] at q
      obtain ⟨w, e1, e2⟩ := dn.atI z
      exact .inl ⟨a, vs, i, w, rfl, hy.int, SqL.of h1, e1, k _ _ H q (Stp.refl c H) e2⟩
  · rename_i ds i
    obtain ⟨a, vs, rfl, h1, dn, _⟩ := hx.tup
    cases z : L2.atI ds i with
    | none => rw [z] at q; cases q
    | some d =>
      rw [z] at q
      obtain ⟨w, e1, e2⟩ := dn.atI z
      exact .inr (.inl ⟨a, vs, i, w, rfl, hy.int, SqT.of h1, e1, k _ _ H q (Stp.refl c H) e2⟩)
  · cases q

/-! ### slices -/
def SemO (s : Sx) (Γ : List Md) (t : TO) (f : Env → M (Option Int)) : Prop := ∀ c ρ ps σ H Q P, c.s = s → R c Γ ρ ps σ H → f ρ P → (∀ o H', P o → Stp c H H' → Q o H') → t σ H Q
def oNo : Env → M (Option Int) := fun _ => ret none
def oPart (e : Env → M D) : Env → M (Option Int) := fun ρ => bnd (e ρ) fun d => match d with | .int i => ret (some i) | _ => stuck
theorem sem_oNo : SemO s Γ tNoPart oNo := fun c ρ ps σ H Q P _ r q k => k _ H q (Stp.refl c H)
theorem sem_oPart {t : TE} {e : Env → M D} (h : SemV s Γ t e) : SemO s Γ (tPart t) (oPart e) := by
  intro c ρ ps σ H Q P hc r0 q k
  refine h c ρ ps σ H _ _ hc r0 q fun x u H1 q1 e1 d1 => ?_
  dsimp only at q1
  split at q1
  · exact ⟨_, d1.int, k _ H1 q1 e1⟩
  · cases q1
def cutD (ds : List D) (lo hi : Option Int) : List D := (ds.drop (HT.sIx ds.length 0 lo)).take (HT.sIx ds.length ds.length hi - HT.sIx ds.length 0 lo)
theorem DenL.cut {H : Hp} {U : AS} {vs : List V} {ds : List D} (h : DenL H U vs ds) (lo hi : Option Int) : DenL H U (cutV vs lo hi) (cutD ds lo hi) := by
  unfold cutV cutD
  rw [h.length]
  exact (h.drop _).take _
def gSl (d : D) (lo hi : Option Int) : M D := match d with
  | .list ds => ret (.list (cutD ds lo hi))
  | .tuple ds => ret (.tuple (cutD ds lo hi))
  | _ => stuck
def rSlLT (K : PySem.W.Frag) : V → Option Int → Option Int → Hp → VK → Prop := fun x lo hi H Q => rSlL K x lo hi H Q ∨ rSlA K x lo hi H Q
theorem sl_any {X : Cx} : SlR X (rSlLT X.K) := sl_list.or sl_tupA
def eSl (e : Env → M D) (lo hi : Env → M (Option Int)) : Env → M D := fun ρ => bnd (e ρ) fun d => bnd (lo ρ) fun l => bnd (hi ρ) fun h => gSl d l h
theorem sem_sl {K : PySem.W.Frag} {te : TE} {tl th : TO} {e : Env → M D} {lo hi : Env → M (Option Int)} (he : SemV s Γ te e) (hl : SemO s Γ tl lo) (hh : SemO s Γ th hi) : SemE s Γ (tSl (rSlLT K) te tl th) (eSl e lo hi) := by
  intro c ρ ps σ H Q P hc r0 q k
  refine he c ρ ps σ H _ _ hc r0 q fun x u H1 q1 e1 d1 => ?_
  refine hl c ρ ps σ H1 _ _ hc (r0.stp e1) q1 fun l H2 q2 e2 => ?_
  refine hh c ρ ps σ H2 _ _ hc ((r0.stp e1).stp e2) q2 fun h H3 q3 e3 => ?_
  have r3 := ((r0.stp e1).stp e2).stp e3
  have e4 := e1.trans (e2.trans e3)
  have d3 := d1.stp r0.ok r3.gd.nA (e2.trans e3)
  dsimp only at q3
  unfold gSl at q3
  split at q3
  · obtain ⟨a, vs, rfl, h1, dn⟩ := d3.lst
    refine .inl ⟨a, vs, rfl, SqL.of h1, fun p hp => ?_⟩
    have e := Stp.lst r0.ok (xs := cutV vs l h) hp (Nat.le_trans (cutV_length _ _ _) (r3.sz a vs (.inl h1)))
    exact k _ _ _ q3 (e4.trans e) (.lst upd_same (r3.gd.new hp) ((dn.stp r0.ok e).cut l h))
  · obtain ⟨a, vs, rfl, h1, dn, nu⟩ := d3.tup
    refine .inr ⟨a, vs, rfl, SqT.of h1, fun w => ?_, fun _ p hp => ?_⟩
    · refine k _ _ H3 q3 e4 (.tup h1 nu ?_)
      have hcut : cutV vs l h = vs := by
        unfold cutV
        rw [w.1, w.2, List.drop_zero, Nat.sub_zero, List.take_length]
      have := dn.cut l h
      rwa [hcut] at this
    · have e := Stp.tup r0.ok (xs := cutV vs l h) hp (Nat.le_trans (cutV_length _ _ _) (r3.sz a vs (.inr h1)))
      exact k _ _ _ q3 (e4.trans e) (.tup upd_same (r3.gd.new hp) ((dn.stp r0.ok e).cut l h))
  · cases q3

/-! ### argument lists, displays -/
def aNil : Env → M (List D) := fun _ => ret []
def aCons (a : Env → M D) (r : Env → M (List D)) : Env → M (List D) := fun ρ => bnd (a ρ) fun d => bnd (r ρ) fun ds => ret (d :: ds)
def seqD : D → M (List D)
  | .list ds => ret ds
  | .tuple ds => ret ds
  | _ => stuck
def aStar (a : Env → M D) (r : Env → M (List D)) : Env → M (List D) := fun ρ => bnd (a ρ) fun d => bnd (seqD d) fun xs => bnd (r ρ) fun ds => ret (xs ++ ds)
theorem sem_anil : SemA s Γ tNil aNil := fun c ρ ps σ H Q P _ r q k => k _ _ H q (Stp.refl c H) .nil
theorem sem_acons {t : TE} {u : TA} {a : Env → M D} {r : Env → M (List D)} (ha : SemE s Γ t a) (hr : SemA s Γ u r) : SemA s Γ (tCons t u) (aCons a r) := by
  intro c ρ ps σ H Q P hc r0 q k
  refine ha c ρ ps σ H _ _ hc r0 q fun x u H1 q1 e1 d1 => ?_
  refine hr c ρ ps σ H1 _ _ hc (r0.stp e1) q1 fun ds vs H2 q2 e2 d2 => ?_
  exact k _ _ H2 q2 (e1.trans e2) (.cons (d1.stp r0.ok e2) d2)
theorem seqD_get {d : D} {P : List D → Prop} (h : seqD d P) : ∃ ds, (d = .list ds ∨ d = .tuple ds) ∧ P ds := by
  unfold seqD at h
  split at h
  · exact ⟨_, .inl rfl, h⟩
  · exact ⟨_, .inr rfl, h⟩
  · cases h
theorem View.seq {c : Fx} {ps : List Addr} {H : Hp} {v : V} {d : D} {ds : List D} (h : View c ps H v d) (e : d = .list ds ∨ d = .tuple ds) : ∃ a vs, v = .ref a ∧ ((d = .list ds ∧ H a = some (.lst vs)) ∨ (d = .tuple ds ∧ H a = some (.tup vs))) ∧ DenL H (c.U ps) vs ds := by
  rcases e with rfl | rfl
  · obtain ⟨a, vs, e, h1, h2⟩ := h.lst; exact ⟨a, vs, e, .inl ⟨rfl, h1⟩, h2⟩
  · obtain ⟨a, vs, e, h1, h2, _⟩ := h.tup; exact ⟨a, vs, e, .inr ⟨rfl, h1⟩, h2⟩
theorem sem_astar {K : PySem.W.Frag} {t : TE} {u : TA} {a : Env → M D} {r : Env → M (List D)} (ha : SemV s Γ t a) (hr : SemA s Γ u r) : SemA s Γ (tStar K t u) (aStar a r) := by
  intro c ρ ps σ H Q P hc r0 q k
  refine ha c ρ ps σ H _ _ hc r0 q fun x u H1 q1 e1 d1 => ?_
  obtain ⟨ds, ed, q1⟩ := seqD_get q1
  obtain ⟨p, vs, rfl, h1, dn⟩ := d1.seq ed
  refine ⟨p, vs, rfl, ?_, ?_⟩
  · rcases h1 with ⟨_, h1⟩ | ⟨_, h1⟩
    · exact .inr (SqL.of h1)
    · exact .inl (SqT.of h1)
  · refine hr c ρ ps σ H1 _ _ hc (r0.stp e1) q1 fun es ws H2 q2 e2 d2 => ?_
    exact k _ _ H2 q2 (e1.trans e2) ((dn.stp r0.ok e2).append d2)
def eTup (f : Env → M (List D)) : Env → M D := fun ρ => bnd (f ρ) fun ds => if lenOk ds.length = true then ret (.tuple ds) else stuck
theorem sem_tup {t : TA} {f : Env → M (List D)} (h : SemA s Γ t f) : SemE s Γ (tTup t) (eTup f) := by
  intro c ρ ps σ H Q P hc r0 q k
  refine h c ρ ps σ H _ _ hc r0 q fun ds vs H1 q1 e1 d1 => ?_
  dsimp only at q1
  split at q1
  · rename_i hl
    have hz : vs.length ≤ sizeLine := by rw [d1.length]; exact lenOk_sz hl
    refine ⟨hz, fun p hp => ?_⟩
    have e := Stp.tup r0.ok (xs := vs) hp hz
    exact k _ _ _ q1 (e1.trans e) (.tup upd_same ((r0.stp e1).new hp) (d1.stp r0.ok e))
  · cases q1
def lDisp (f : Env → M (List D)) : Env → M (List D) := fun ρ => bnd (f ρ) fun ds => if lenOk ds.length = true then ret ds else stuck
theorem DenL.plus {H : Hp} {U : AS} {p : Addr} {vs : List V} {ds : List D} {o : HO} (hp : H p = none) (h : DenL H U vs ds) : DenL (upd H p o) (fun a => U a ∨ a = p) vs ds :=
  h.mono (fun a u e _ => upd_keep hp a u e) fun a u e z => z.elim id fun z => by rw [z, hp] at e; cases e
theorem sem_lst {t : TA} {f : Env → M (List D)} (h : SemA s Γ t f) : SemL s Γ (tLst t) (lDisp f) := by
  intro c ρ ps σ H Q P hc r0 q k
  refine h c ρ ps σ H _ _ hc r0 q fun ds vs H1 q1 e1 d1 => ?_
  dsimp only at q1
  split at q1
  · rename_i hl
    have hz : vs.length ≤ sizeLine := by rw [d1.length]; exact lenOk_sz hl
    refine ⟨hz, fun p hp => ?_⟩
    have e := Stp.lst r0.ok (xs := vs) hp hz
    exact k _ p vs _ q1 (e1.trans e) (e1.fresh hp) upd_same (d1.plus hp)
  · cases q1
/-- views, for what only looks at its arguments -/
theorem sem_vnil : SemAV s Γ tNil aNil := fun c ρ ps σ H Q P _ r q k => k _ _ H q (Stp.refl c H) .nil
theorem sem_vcons {t : TE} {u : TA} {a : Env → M D} {r : Env → M (List D)} (ha : SemV s Γ t a) (hr : SemAV s Γ u r) : SemAV s Γ (tCons t u) (aCons a r) := by
  intro c ρ ps σ H Q P hc r0 q k
  refine ha c ρ ps σ H _ _ hc r0 q fun x u H1 q1 e1 d1 => ?_
  refine hr c ρ ps σ H1 _ _ hc (r0.stp e1) q1 fun ds vs H2 q2 e2 d2 => ?_
  exact k _ _ H2 q2 (e1.trans e2) (.cons (d1.stp r0.ok (r0.stp e1).gd.nA e2) d2)

/-! ### targets -/
/-- t stores a datum at places of ts -/
def SemG (s : Sx) (Γ : List Md) (t : TG) (ts : List Nat) (g : D → Env → M Env) : Prop := ∀ c ρ ps σ H d v (Q : St → Hp → Prop) (P : Env → Prop), c.s = s → R c Γ ρ ps σ H → Den H (c.U ps) v d → g d ρ P →
  (∀ ρ' σ', P ρ' → R c Γ ρ' ps σ' H → σ'.length = σ.length → (∀ i, i ∉ ts → σ'[i]? = σ[i]?) → Q σ' H) → t v σ H Q
def SemGs (s : Sx) (Γ : List Md) (t : TGs) (ts : List Nat) (g : List D → Env → M Env) : Prop := ∀ c ρ ps σ H ds vs (Q : St → Hp → Prop) (P : Env → Prop), c.s = s → R c Γ ρ ps σ H → DenL H (c.U ps) vs ds → g ds ρ P →
  (∀ ρ' σ', P ρ' → R c Γ ρ' ps σ' H → σ'.length = σ.length → (∀ i, i ∉ ts → σ'[i]? = σ[i]?) → Q σ' H) → t vs σ H Q
theorem SlotR.froEmpty {c : Fx} {H : Hp} {U : AS} {d : Option D} {o : Option V} {ps : List Addr} (h : SlotR c H U .fro d o ps) : ps = [] := by cases h <;> rfl
theorem Slots.setFro {c : Fx} {H : Hp} {U : AS} {ρ : Env} {σ : St} {ps : List Addr} {v : V} {d : D} (dn : Den H U v d) (h : Slots c H U Γ ρ σ ps) : ∀ {i : Nat}, Γ[i]? = some .fro → Slots c H U Γ (ρ.set i (some d)) (σ.set i (some v)) ps := by
  induction h with
  | nil => intro i hm; simp at hm
  | cons h1 h2 ih =>
    intro i hm
    cases i with
    | zero =>
      simp at hm; subst hm
      have e := h1.froEmpty
      subst e
      exact .cons (.fro dn) h2
    | succ i => exact .cons h1 (ih (by simpa using hm))
theorem Slots.setNo {c : Fx} {H : Hp} {U : AS} {ρ : Env} {σ : St} {ps : List Addr} (h : Slots c H U Γ ρ σ ps) : ∀ {i : Nat} {o : Option V}, Γ[i]? = some .fro → Slots c H U Γ (ρ.set i none) (σ.set i o) ps := by
  induction h with
  | nil => intro i o hm; simp at hm
  | cons h1 h2 ih =>
    intro i o hm
    cases i with
    | zero =>
      simp at hm; subst hm
      have e := h1.froEmpty
      subst e
      exact .cons .no h2
    | succ i => exact .cons h1 (ih (by simpa using hm))
theorem R.setFro {c : Fx} {ρ : Env} {ps : List Addr} {σ : St} {H : Hp} {v : V} {d : D} (r : R c Γ ρ ps σ H) (dn : Den H (c.U ps) v d) {i : Nat} (hm : Γ[i]? = some .fro) : R c Γ (ρ.set i (some d)) ps (σ.set i (some v)) H :=
  { r with sl := r.sl.setFro dn hm }
theorem R.setNo {c : Fx} {ρ : Env} {ps : List Addr} {σ : St} {H : Hp} (r : R c Γ ρ ps σ H) {i : Nat} {o : Option V} (hm : Γ[i]? = some .fro) : R c Γ (ρ.set i none) ps (σ.set i o) H :=
  { r with sl := r.sl.setNo hm }
def tgN (i : Nat) : D → Env → M Env := fun d ρ => ret (ρ.set i (some d))
theorem sem_gname {i : Nat} (hm : Γ[i]? = some .fro) : SemG s Γ (gName i) [i] (tgN i) := by
  intro c ρ ps σ H d v Q P hc r dn q k
  exact k _ _ q (r.setFro dn hm) (by simp) fun j hj => by
    rw [List.getElem?_set_ne (fun e => hj (by simp [e]))]
def tgsNil : List D → Env → M Env := fun ds ρ => match ds with | [] => ret ρ | _ => stuck
def tgsCons (g : D → Env → M Env) (r : List D → Env → M Env) : List D → Env → M Env := fun ds ρ => match ds with | d :: ds => bnd (g d ρ) fun ρ' => r ds ρ' | [] => stuck
theorem sem_gsnil : SemGs s Γ gNil [] tgsNil := by
  intro c ρ ps σ H ds vs Q P hc r dn q k
  unfold tgsNil at q
  split at q
  · cases dn; exact ⟨rfl, k _ _ q r rfl fun _ _ => rfl⟩
  · cases q
theorem sem_gscons {t : TG} {u : TGs} {ts us : List Nat} {g : D → Env → M Env} {g' : List D → Env → M Env} (h : SemG s Γ t ts g) (h' : SemGs s Γ u us g') : SemGs s Γ (gCons t u) (ts ++ us) (tgsCons g g') := by
  intro c ρ ps σ H ds vs Q P hc r dn q k
  unfold tgsCons at q
  split at q
  · cases dn with
    | cons d1 d2 =>
      refine ⟨_, _, rfl, ?_⟩
      refine h c ρ ps σ H _ _ _ _ hc r d1 q fun ρ' σ' q1 r1 l1 n1 => ?_
      refine h' c ρ' ps σ' H _ _ _ _ hc r1 d2 q1 fun ρ2 σ2 q2 r2 l2 n2 => ?_
      exact k ρ2 σ2 q2 r2 (l2.trans l1) fun i hi => (n2 i fun z => hi (List.mem_append_right _ z)).trans (n1 i fun z => hi (List.mem_append_left _ z))
  · cases q
def tgTup (n : Nat) (g : List D → Env → M Env) : D → Env → M Env := fun d ρ => match d with | .tuple ds => if ds.length = n then g ds ρ else stuck | _ => stuck
theorem sem_gtup {K : PySem.W.Frag} {n : Nat} {t : TGs} {ts : List Nat} {g : List D → Env → M Env} (h : SemGs s Γ t ts g) : SemG s Γ (gTup K n t) ts (tgTup n g) := by
  intro c ρ ps σ H d v Q P hc r dn q k
  unfold tgTup at q
  split at q
  · split at q
    · rename_i e
      cases dn with
      | tup h1 h2 h3 =>
        refine ⟨_, _, rfl, SqT.of h1, h3.length.trans e, ?_⟩
        exact h c ρ ps σ H _ _ _ _ hc r h3 q k
    · cases q
  · cases q

/-! ### what is walked -/
/-- nothing else changes than what S tells -/
def Later (S : AS) (H H' : Hp) : Prop := ∀ a o, H a = some o → ¬ S a → H' a = some o
theorem Later.refl (S : AS) (H : Hp) : Later S H H := fun _ _ h _ => h
theorem Later.trans {S : AS} {H H1 H2 : Hp} (a : Later S H H1) (b : Later S H1 H2) : Later S H H2 := fun x o h n => b x o (a x o h n) n
theorem Later.mono {S S' : AS} {H H' : Hp} (h : ∀ a o, H a = some o → S a → S' a) (e : Later S H H') : Later S' H H' := fun x o q n => e x o q fun z => n (h x o q z)
/-- the walk J gives the data ds, whatever happens meanwhile outside S; U: what is mutable -/
structure Items (J : It) (S U : AS) (H : Hp) (ds : List D) : Prop where
  len : ds.length ≤ sizeLine
  go : ∀ i H', Later S H H' → i < ds.length → J.go i H'
  stop : ∀ H', Later S H H' → J.stop ds.length H'
  yld : ∀ i d H' x H'', Later S H H' → Later U H H' → ds[i]? = some d → J.yld i H' x H'' → (∀ a o, H' a = some o → H'' a = some o) ∧ (Sz H' → Sz H'') ∧ ∀ U' : AS, (∀ a o, H a = some o → U' a → U a) → (∀ a, H' a = none → ¬ U' a) → Den H'' U' x d
/-- wi walks; lk: which own lists it leans on (none, or a lent one) -/
def SemI (s : Sx) (Γ : List Md) (wi : TI) (f : Env → M (List D)) : Prop := ∀ c ρ ps σ H (R' : It → Hp → Prop) P, c.s = s → R c Γ ρ ps σ H → f ρ P → (∀ ds J H1, P ds → Stp c H H1 → Items J (c.U ps) (c.U ps) H1 ds → R' J H1) → wi σ H R'
/-- in a comprehension: own lists stand still -/
def SemIc (s : Sx) (Γ : List Md) (wi : TI) (f : Env → M (List D)) : Prop := ∀ c ρ ps σ H (R' : It → Hp → Prop) P, c.s = s → R c Γ ρ ps σ H → f ρ P → (∀ ds J H1, P ds → Stp c H H1 → Items J c.A (c.U ps) H1 ds → R' J H1) → wi σ H R'
end
end Py
/-! PyI: what is walked: sequences (list or tuple), ranges, zip and enumerate over either. -/
namespace Py
open PySem L2 StX PySem.Spec PyProof.Rows

/-! ### a list or a tuple -/
def SqB (K : PySem.W.Frag) (b : Bool) (H : Hp) (a : Addr) (xs : List V) : Prop := if b = true then SqL K H a xs else SqT K H a xs
def RawB (b : Bool) (h : Heap) (a : Addr) (its : Array Value) : Prop := if b = true then h.IsList a its else h.IsTuple a its
def ItB (b : Bool) (h : Heap) (i a : Addr) (k : Nat) : Prop := if b = true then h.IsListIter i a k else h.IsTupleIter i a k
def objB (b : Bool) (a : Addr) : Obj := if b = true then { cls := .type "list_iterator", data := .fields #[.ref a, .int 0 0] } else { cls := .type "tuple_iterator", data := .fields #[.ref a, .int 0 0] }
theorem SqB.raw {X : Cx} {pins : List (Addr × Obj)} {σ : L2.St} {H : Hp} {s : Shared} (I : Inv X pins σ H s) {b : Bool} {a : Addr} {xs : List V} (h : SqB X.K b H a xs) : ∃ its : List Value, Vals xs its ∧ RawB b s.heap a its.toArray ∧ a < s.heap.objs.size := by
  cases b with
  | true =>
    obtain ⟨its, r, p, _⟩ := I.list (show SqL X.K H a xs from h)
    exact ⟨its, r, p.isList, p.lt⟩
  | false =>
    obtain ⟨its, r, p, _⟩ := I.tuple (show SqT X.K H a xs from h)
    exact ⟨its, r, p, p.lt⟩
theorem SqB.inj {X : Cx} {pins : List (Addr × Obj)} {σ : L2.St} {H : Hp} {s : Shared} (I : Inv X pins σ H s) {b : Bool} {a : Addr} {xs ys : List V} (h : SqB X.K b H a xs) (h' : SqB X.K b H a ys) : xs = ys := by
  cases b with
  | true => exact I.list_inj (show SqL X.K H a xs from h) h'
  | false => exact I.tuple_inj (show SqT X.K H a xs from h) h'
theorem ItB.at {b : Bool} {h h' : Heap} {i a : Addr} {k : Nat} (q : ItB b h i a k) (e : ∀ o, h.get? i = some o → h'.get? i = some o) : ItB b h' i a k := by
  cases b with
  | true => exact Heap.IsListIter.at (show h.IsListIter i a k from q) fun o z => e o z
  | false => exact Heap.IsTupleIter.at (show h.IsTupleIter i a k from q) fun o z => e o z
theorem ItB.obj {b : Bool} {h : Heap} {i a : Addr} {k : Nat} (q : ItB b h i a k) : ∃ o, h.get? i = some o ∧ ∀ v, o.data ≠ .cell v := by
  cases b with
  | true =>
    obtain ⟨o, e, _, d⟩ := (show h.IsListIter i a k from q)
    exact ⟨o, e, fun v z => by rw [d] at z; cases z⟩
  | false =>
    obtain ⟨o, e, _, d⟩ := (show h.IsTupleIter i a k from q)
    exact ⟨o, e, fun v z => by rw [d] at z; cases z⟩
theorem draws_b {prog : Program} {w : World} {A : Around} (hh : A.handled = none) (b : Bool) (it a : Addr) (hne : a ≠ it) (its : Array Value) :
    Draws prog w A it [it, a] its.size (fun i v => its[i]? = some v) (fun i h => ItB b h it a i ∧ RawB b h a its) := by
  cases b with
  | true => exact Draws.list hh it a hne its
  | false => exact Draws.tuple hh it a hne its
theorem begins_b (b : Bool) (a : Addr) (its : Array Value) : Begins (.ref a) (objB b a) fun h => RawB b h a its := by
  cases b with
  | true => exact begins_list a its
  | false => exact begins_tuple a its
theorem ItB.start {b : Bool} {h : Heap} {i a : Addr} (e : h.get? i = some (objB b a)) : ItB b h i a 0 := by
  cases b with
  | true => exact ⟨_, e, rfl, rfl⟩
  | false => exact ⟨_, e, rfl, rfl⟩

section
variable {X : Cx} {tg : Expr}
def iSeq (K : PySem.W.Frag) (tl : TE) : TI := fun σ H R => tl σ H fun x H1 => (∃ a, x = .ref a ∧ (∃ xs, SqL K H1 a xs) ∧ R (Itl K a) H1) ∨ (∃ a, x = .ref a ∧ (∃ xs, SqT K H1 a xs) ∧ R (Itt K a) H1)
theorem pi_seq {l : Expr} {tl : TE} (hl : PE X l tl) : PI X tg l (iSeq X.K tl) := by
  refine ⟨fun pn st sg Hh Rr In hw => ?_⟩
  refine thn (hl.run pn st sg Hh _ In hw) fun v s1 ⟨x, H1, I1, r1, q1⟩ => ?_
  rcases q1 with ⟨a, e, ⟨xs, hq⟩, q⟩ | ⟨a, e, ⟨xs, hq⟩, q⟩
  · subst e
    cases r1
    obtain ⟨its, rv, p, hz⟩ := I1.list hq
    refine wpAny_pyIter_list p.isList ?_
    refine ⟨s1.heap.objs.size, [s1.heap.objs.size], _, _, H1, rfl, I1.kept (t' := s1.toks) fun b o e => Heap.get?_push_of_some _ e, turn_list a _, ⟨_, Heap.get?_push_size _ rfl, rfl, rfl⟩, fun b hb => ?_, q⟩
    rw [List.mem_singleton.mp hb]
    exact I1.fpOk (Nat.le_refl _) (I1.hok.fresh (Nat.le_refl _))
  · subst e
    cases r1
    obtain ⟨its, rv, p, hz⟩ := I1.tuple hq
    refine wpAny_pyIter_tuple (show s1.heap.IsTuple a its.toArray from p) ?_
    refine ⟨s1.heap.objs.size, [s1.heap.objs.size], _, _, H1, rfl, I1.kept (t' := s1.toks) fun b o e => Heap.get?_push_of_some _ e, turn_tuple a _, ⟨_, Heap.get?_push_size _ rfl, rfl, rfl⟩, fun b hb => ?_, q⟩
    rw [List.mem_singleton.mp hb]
    exact I1.fpOk (Nat.le_refl _) (I1.hok.fresh (Nat.le_refl _))

/-! ### a walk by new tuples (WalksT), told over the layer -/
/-- the state St is bare (the iterator's own records); the sequences it reads stand in H at each turn -/
structure Bare (P : Program) (w : World) (K : PySem.W.Frag) (I : Addr) (fp wr : List Addr) (n : Nat) (go : Nat → Hp → Prop) (val : Nat → Hp → List V → Prop) (stop : Nat → Hp → Prop) (tn : Nat → Heap → Prop) : Prop where
  sub : ∀ b ∈ wr, b ∈ fp
  mem : I ∈ fp
  obj : ∀ i h, tn i h → ∀ b ∈ fp, ∃ o, h.get? b = some o ∧ ∀ v, o.data ≠ .cell v
  keep : ∀ i h h', tn i h → (∀ b ∈ fp, ∀ o, h.get? b = some o → h'.get? b = some o) → tn i h'
  item : ∀ (X : Cx), X.prog = P → X.w = w → X.K = K → X.A.handled = none → ∀ (elts : List Expr) (k : Nat) (pos : Pos) (i : Nat) (pins : List (Addr × Obj)) (s : Shared) (σ : L2.St) (H : Hp) (E : Value → Shared → Prop) (Q : Value → Shared → Prop), Inv X pins σ H s → (∀ b ∈ fp, H b = none) → tn i s.heap → go i H →
    (∀ T vals us h' tk, val i H vals → Vals vals us → us.length ≤ 8 → s.heap.objs.size ≤ T → h'.IsTuple T us.toArray → tn (i + 1) h' → (∀ b o, b ∉ wr → s.heap.get? b = some o → h'.get? b = some o) → Q (.ref T) { s with heap := h', toks := tk }) →
    wpAny (model P w) X.A (pyNext (.ref I)) (fun r s1 => ∃ u, r = some u ∧ wpAny (model P w) X.A (letOwnedTupleGo (.Tuple elts k pos) (.ref I) u) (fun _ s2 => Q u s2) E s1) E s
  done : ∀ (X : Cx), X.prog = P → X.w = w → X.K = K → X.A.handled = none → ∀ (i : Nat) (pins : List (Addr × Obj)) (s : Shared) (σ : L2.St) (H : Hp) (E : Value → Shared → Prop) (Q : Shared → Prop), Inv X pins σ H s → (∀ b ∈ fp, H b = none) → tn i s.heap → stop i H →
    (∀ h' tk, (∀ b o, b ∉ wr → s.heap.get? b = some o → h'.get? b = some o) → Q { s with heap := h', toks := tk }) → wpAny (model P w) X.A (pyNext (.ref I)) (fun r s1 => r = none ∧ Q s1) E s
  self : ∀ (A : Around) (i : Nat) (s : Shared) (Q : Value → Shared → Prop) (E : Value → Shared → Prop), tn i s.heap → Q (.ref I) s → wpAny (model P w) A (pyIter (.ref I)) Q E s
/-- each turn gives a new tuple of what val tells -/
def Itw (go : Nat → Hp → Prop) (val : Nat → Hp → List V → Prop) (stop : Nat → Hp → Prop) : It :=
  ⟨go, fun i H v H' => ∃ T vals, v = .ref T ∧ H T = none ∧ H' = upd H T (.tup vals) ∧ val i H vals ∧ vals.length ≤ 8, stop⟩
theorem turn_bare {P : Program} {w : World} {K : PySem.W.Frag} {I : Addr} {fp wr : List Addr} {n : Nat} {go : Nat → Hp → Prop} {val : Nat → Hp → List V → Prop} {stop : Nat → Hp → Prop} {tn : Nat → Heap → Prop} {elts : List Expr} {k : Nat} {pos : Pos}
    (B : Bare P w K I fp wr n go val stop tn) : Turn P w K (.Tuple elts k pos) (Itw go val stop) fp I tn where
  mem := B.mem
  obj := B.obj
  keep := B.keep
  item := by
    intro X hP hw hK hc i pins s σ H E Iv hf st hg
    have hh := Iv.ok.hd hc
    subst hP hw hK
    refine wpAny_mono (B.item X rfl rfl rfl hh elts k pos i pins s σ H E (fun u s2 => ∃ x H', Inv X pins σ H' s2 ∧ RelV x u ∧ (Itw go val stop).yld i H x H' ∧ tn (i + 1) s2.heap ∧ ∀ b ∈ fp, H' b = none) Iv (fun b hb => (hf b hb).1) st hg
      fun T vals us h' tk hv rv hl hT hi st' hk => ?_) (fun r s1 q => q) fun _ _ q => q
    have hn : H T = none := Iv.hok.fresh hT
    have hz : vals.length ≤ sizeLine := by
      rw [rv.length]
      exact Nat.le_trans hl (by decide)
    have new : ObjOk X.prog X.w (upd H T (.tup vals)) h' T (.tup vals) := ⟨hz, us, rv, hi⟩
    have I1 : Inv X pins σ (upd H T (.tup vals)) { s with heap := h', toks := tk } :=
      Iv.turnedNew (ch := fp) (fun b o hb q => hk b o (fun z => hb (B.sub b z)) q) hf hT new
    refine ⟨.ref T, _, I1, rfl, ⟨T, vals, rfl, hn, rfl, hv, by rw [rv.length]; exact hl⟩, st', fun b hb => ?_⟩
    obtain ⟨o, ho, _⟩ := B.obj i _ st b hb
    have hlt : b < s.heap.objs.size := Heap.lt_size ho
    rw [upd_ne (Nat.ne_of_lt (Nat.lt_of_lt_of_le hlt hT))]
    exact (hf b hb).1
  done := by
    intro X hP hw hK hc i pins s σ H E Iv hf st hg
    have hh := Iv.ok.hd hc
    subst hP hw hK
    exact B.done X rfl rfl rfl hh i pins s σ H E (fun s1 => Inv X pins σ H s1) Iv (fun b hb => (hf b hb).1) st hg fun h' tk hk =>
      Iv.turnedL (ch := fp) (fun b o hb q => hk b o (fun z => hb (B.sub b z)) q) hf
  self := B.self

/-! ### zip of two sequences -/
def goZ (K : PySem.W.Frag) (b1 b2 : Bool) (a b : Addr) : Nat → Hp → Prop := fun i H => ∃ xs ys x y, SqB K b1 H a xs ∧ SqB K b2 H b ys ∧ xs[i]? = some x ∧ ys[i]? = some y
def valZ (K : PySem.W.Frag) (b1 b2 : Bool) (a b : Addr) : Nat → Hp → List V → Prop := fun i H vs => ∃ x y, vs = [x, y] ∧ (∀ xs, SqB K b1 H a xs → xs[i]? = some x) ∧ ∀ ys, SqB K b2 H b ys → ys[i]? = some y
def stopZ (K : PySem.W.Frag) (b1 b2 : Bool) (a b : Addr) : Nat → Hp → Prop := fun i H => ∃ xs ys, SqB K b1 H a xs ∧ SqB K b2 H b ys ∧ i = min xs.length ys.length
def tnZ (b1 b2 : Bool) (z TI TO i1 i2 a b : Addr) : Nat → Heap → Prop := fun i h => IsZip h z TI TO .none ∧ IsTupOf2 h TI (.ref i1) (.ref i2) ∧ (∃ a1 a2, IsTupOf2 h TO a1 a2) ∧ ItB b1 h i1 a i ∧ ItB b2 h i2 b i
theorem bare_zip {P : Program} {w : World} {K : PySem.W.Frag} {b1 b2 : Bool} {z TI TO i1 i2 a b : Addr} (S : ZipSep2 z TI TO i1 i2 [i1, a] [i2, b]) (ha : a ≠ i1) (hb : b ≠ i2) :
    Bare P w K z [z, TI, TO, i1, i2] [z, TO, i1, i2] 0 (goZ K b1 b2 a b) (valZ K b1 b2 a b) (stopZ K b1 b2 a b) (tnZ b1 b2 z TI TO i1 i2 a b) where
  sub := fun c hc => by simp at hc ⊢; rcases hc with rfl | rfl | rfl | rfl <;> simp
  mem := by simp
  obj := fun i h st c hc => by
    obtain ⟨hz, hTI, ⟨x, y, hTO⟩, h1, h2⟩ := st
    have e' : c = z ∨ c = TI ∨ c = TO ∨ c = i1 ∨ c = i2 := by simpa using hc
    rcases e' with q | q | q | q | q
    · rw [q]; exact ⟨_, hz, fun v q => nomatch q⟩
    · rw [q]; exact ⟨_, hTI, fun v q => nomatch q⟩
    · rw [q]; exact ⟨_, hTO, fun v q => nomatch q⟩
    · rw [q]; exact h1.obj
    · rw [q]; exact h2.obj
  keep := fun i h h' st k => by
    obtain ⟨hz, hTI, ⟨x, y, hTO⟩, h1, h2⟩ := st
    exact ⟨k z (by simp) _ hz, k TI (by simp) _ hTI, ⟨x, y, k TO (by simp) _ hTO⟩, h1.at fun o q => k i1 (by simp) o q, h2.at fun o q => k i2 (by simp) o q⟩
  item := by
    intro X hP hw hK hh elts k pos i pins s σ H E Q Iv hf st hg hQ
    subst hP hw hK
    obtain ⟨hz, hTI, hTO, h1, h2⟩ := st
    obtain ⟨xs, ys, x, y, hqx, hqy, hx, hy⟩ := hg
    obtain ⟨its, rv, p, la⟩ := hqx.raw Iv
    obtain ⟨its2, rv2, p2, lb⟩ := hqy.raw Iv
    have WT := WalksT.zipD2 (prog := X.prog) (w := X.w) (A := X.A) S (draws_b (A := X.A.in1) hh b1 i1 a ha its.toArray) (draws_b (A := X.A.in1) hh b2 i2 b hb its2.toArray)
    have hi1 : i < xs.length := (List.getElem?_eq_some_iff.mp hx).1
    have hi2 : i < ys.length := (List.getElem?_eq_some_iff.mp hy).1
    have l1 := rv.length
    have l2 := rv2.length
    refine WT.item i s _ E (by simp only [List.size_toArray]; omega) ⟨hz, hTI, hTO, ⟨h1, p⟩, ⟨h2, p2⟩⟩ fun T vals h' tk hv hT hi hm hk => ?_
    refine ⟨_, rfl, WT.go elts k pos i T _ _ E hm fun h'' st' hk2 => ?_⟩
    obtain ⟨x1, x2, e1, e2, rfl⟩ := hv
    obtain ⟨u1, hu1, r1⟩ := rv.get hx
    obtain ⟨u2, hu2, r2⟩ := rv2.get hy
    have e1' : u1 = x1 := Option.some.inj (hu1.symm.trans (by simpa using e1))
    have e2' : u2 = x2 := Option.some.inj (hu2.symm.trans (by simpa using e2))
    subst e1' e2'
    obtain ⟨sz, sTI, sTO, ⟨s1, _⟩, ⟨s2, _⟩⟩ := st'
    refine hQ T [x, y] [u1, u2] h'' tk ⟨x, y, rfl, fun l hl => by rw [hl.inj Iv hqx]; exact hx, fun l hl => by rw [hl.inj Iv hqy]; exact hy⟩ (.cons r1 (.cons r2 .nil)) (by simp) hT
      (hi.at fun o q => hk2 T o (WT.apart i T _ hm) q) ⟨sz, sTI, sTO, s1, s2⟩ fun c o hc q => hk2 c o hc (hk c o hc q)
  done := by
    intro X hP hw hK hh i pins s σ H E Q Iv hf st hg hQ
    subst hP hw hK
    obtain ⟨hz, hTI, hTO, h1, h2⟩ := st
    obtain ⟨xs, ys, hqx, hqy, hi⟩ := hg
    obtain ⟨its, rv, p, la⟩ := hqx.raw Iv
    obtain ⟨its2, rv2, p2, lb⟩ := hqy.raw Iv
    have WT := WalksT.zipD2 (prog := X.prog) (w := X.w) (A := X.A) S (draws_b (A := X.A.in1) hh b1 i1 a ha its.toArray) (draws_b (A := X.A.in1) hh b2 i2 b hb its2.toArray)
    have l1 := rv.length
    have l2 := rv2.length
    have hi' : min its.toArray.size its2.toArray.size = i := by simp only [List.size_toArray]; omega
    exact WT.done s _ E (by rw [hi']; exact ⟨hz, hTI, hTO, ⟨h1, p⟩, ⟨h2, p2⟩⟩) fun h' tk hk => ⟨rfl, hQ h' tk hk⟩
  self := fun A i s Q E st h => wpAny_pyIter_zip st.1 h
def iZipB (K : PySem.W.Frag) (ta : TA) : TI := fun σ H R => ta σ H fun vs H1 => ∃ a b b1 b2 xs ys, vs = [.ref a, .ref b] ∧ SqB K b1 H1 a xs ∧ SqB K b2 H1 b ys ∧ R (Itw (goZ K b1 b2 a b) (valZ K b1 b2 a b) (stopZ K b1 b2 a b)) H1
theorem pi_zipB {X : Cx} {e e2 : Expr} {ta : TA} {p pos tpos : Pos} {elts : List Expr} {kk : Nat} (hg : Gl X "zip") (hm : X.mg "zip" = none) (ha : PA X [e, e2] ta)
    (hs : starEach [e, e2] X.env = (false, eval e X.env) :: starEach [e2] X.env := by rfl) (hpl : (backTo pos (starEach [e2] X.env)).any (·.1) = false := by rfl) :
    PI X (.Tuple elts kk tpos) (.Call (.Name "zip" p) [e, e2] [] pos) (iZipB X.K ta) := by
  refine ⟨fun pn st sg Hh Rr In hw => ?_⟩
  refine Call_ (ld_blt In hg hm PyProof.Rows.boot_zip (PyProof.Rows.callWith_type1 (thn (ha.run pos pn st sg Hh _ In hw) fun us s1 ⟨vs, H1, I1, r1, q1⟩ => ?_) hs hpl))
  obtain ⟨a, b, b1, b2, xs, ys, ex, hqx, hqy, q⟩ := q1
  subst ex
  cases r1 with
  | cons r rr =>
    cases rr with
    | cons r' rr =>
      cases rr
      cases r
      cases r'
      obtain ⟨its, rv, p1, la⟩ := hqx.raw I1
      obtain ⟨its2, rv2, p2, lb⟩ := hqy.raw I1
      refine zip_begins2 (begins_b b1 a its.toArray) (begins_b b2 b its2.toArray) p1 p2 fun h' hz hTI hTO h1 h2 hsz hk => wpAny_pyIter_zip hz ?_
      have I2 : Inv X pn sg H1 { s1 with heap := h' } := I1.kept (t' := s1.toks) hk
      have S := zip_sep2 (N := s1.heap.objs.size) (fp1 := [a]) (fp2 := [b]) (by simpa using la) (by simpa using lb)
      refine ⟨s1.heap.objs.size + 4, [s1.heap.objs.size + 4, s1.heap.objs.size + 2, s1.heap.objs.size + 3, s1.heap.objs.size, s1.heap.objs.size + 1], _, _, H1, rfl, I2,
        turn_bare (bare_zip S (Nat.ne_of_lt la) (Nat.ne_of_lt (Nat.lt_succ_of_lt lb))), ⟨hz, hTI, ⟨_, _, hTO⟩, ItB.start h1, ItB.start h2⟩, fun c hcm => ?_, q⟩
      have e' : c = s1.heap.objs.size + 4 ∨ c = s1.heap.objs.size + 2 ∨ c = s1.heap.objs.size + 3 ∨ c = s1.heap.objs.size ∨ c = s1.heap.objs.size + 1 := by simpa using hcm
      have hle : s1.heap.objs.size ≤ c := by
        rcases e' with z | z | z | z | z
        · rw [z]; exact Nat.le_add_right _ _
        · rw [z]; exact Nat.le_add_right _ _
        · rw [z]; exact Nat.le_add_right _ _
        · rw [z]; exact Nat.le_refl _
        · rw [z]; exact Nat.le_add_right _ _
      exact I1.fpOk hle (I1.hok.fresh hle)

/-! ### enumerate of a sequence -/
theorem meets_enum1 {v : Value} {o : Obj} {Hb : Heap → Prop} (B : Begins v o Hb) :
    Meets (Builtin.«enumerate.__new__» ⟨[.type "enumerate", v], []⟩) (fun _ R s => Hb s.heap ∧
      R (.ok (.ret (.ref (s.heap.push o).objs.size))) { s with heap := (s.heap.push o).push { cls := .type "enumerate", data := .fields #[.none, .bool false, .ref s.heap.objs.size, rawInt 0, .none, .none] } }) :=
  .of_wp fun prog w A R s h => by
    obtain ⟨hp, g, d, tk, os⟩ := s; obtain ⟨hl, h⟩ := h
    have hsub := sub_enumerate
    have q1 : ∀ {A' : Around} {E : Value → Shared → Prop} {Q : Value → Shared → Prop}, Q (.ref hp.objs.size) ⟨(hp.push o), g, d, tk, os⟩ → wpAny (model prog w) A' (pyIter v) Q E ⟨hp, g, d, tk, os⟩ :=
      fun q => B.iter prog w _ _ ⟨hp, g, d, tk, os⟩ _ hl q
    wp_walk
    refine wpAny_stack_any fun st => wpAny_pure ?_
    split
    · rename_i c _ _ _ _ _
      cases (c == Value.type "enumerate")
      · wp_walk using q1
        exact ⟨_, rfl, h⟩
      · wp_walk using q1
        exact ⟨_, rfl, h⟩
    · wp_walk using q1
      exact ⟨_, rfl, h⟩
theorem enum_one {prog : Program} {w : World} {A : Around} {E : Value → Shared → Prop} {s : Shared} {v : Value} {o : Obj} {Hb : Heap → Prop} {Q : Value → Shared → Prop} (B : Begins v o Hb) (h1 : Hb s.heap)
    (h : ∀ h', IsEnum h' (s.heap.objs.size + 1) s.heap.objs.size 0 .none → h'.get? s.heap.objs.size = some o → h'.objs.size = s.heap.objs.size + 2 →
      (∀ b u, s.heap.get? b = some u → h'.get? b = some u) → Q (.ref (s.heap.objs.size + 1)) { s with heap := h' }) :
    wpAny (model prog w) A (call (.type "enumerate") [v]) Q E s := by
  refine callType_new F.called_enumerate (by decide) (F.typeCall_enumerate_1 _) (F.newCall_enumerate_1 _) (fun obj => F.args_object_init_2 obj _) F.entry_enumerate_new (meets_enum1 B) ⟨h1, ?_⟩
  have hz : (s.heap.push o).objs.size = s.heap.objs.size + 1 := Heap.size_push ..
  show _ ∧ _
  rw [hz]
  have he : IsEnum ((s.heap.push o).push { cls := .type "enumerate", data := .fields #[.none, .bool false, .ref s.heap.objs.size, rawInt 0, .none, .none] }) (s.heap.objs.size + 1) s.heap.objs.size 0 .none := by
    have hq := Heap.get?_push_size (s.heap.push o) (o := { cls := .type "enumerate", data := .fields #[.none, .bool false, .ref s.heap.objs.size, rawInt 0, .none, .none] }) rfl
    rw [hz] at hq; exact hq
  refine ⟨⟨_, he, rfl⟩, h _ he (Heap.get?_push_of_some _ (Heap.get?_push_size _ B.free)) (by rw [Heap.size_push, hz]) fun b u x => Heap.get?_push_of_some _ (Heap.get?_push_of_some _ x)⟩
def goE (K : PySem.W.Frag) (b : Bool) (a : Addr) : Nat → Hp → Prop := fun i H => ∃ xs x, SqB K b H a xs ∧ xs[i]? = some x
def valE (K : PySem.W.Frag) (b : Bool) (a : Addr) : Nat → Hp → List V → Prop := fun i H vs => ∃ x, vs = [.int (i : Nat), x] ∧ ∀ xs, SqB K b H a xs → xs[i]? = some x
def stopE (K : PySem.W.Frag) (b : Bool) (a : Addr) : Nat → Hp → Prop := fun i H => ∃ xs, SqB K b H a xs ∧ i = xs.length
def tnE (b : Bool) (e it a : Addr) : Nat → Heap → Prop := fun i h => (∃ old, IsEnum h e it (0 + ((i : Nat) : Int)) old) ∧ ItB b h it a i
theorem bare_enum {P : Program} {w : World} {K : PySem.W.Frag} {b : Bool} {e it a : Addr} (hei : e ≠ it) (hea : e ≠ a) (ha : a ≠ it) :
    Bare P w K e [e, it] [e, it] 0 (goE K b a) (valE K b a) (stopE K b a) (tnE b e it a) where
  sub := fun c hc => hc
  mem := by simp
  obj := fun i h st c hc => by
    obtain ⟨⟨old, he⟩, h1⟩ := st
    have e' : c = e ∨ c = it := by simpa using hc
    rcases e' with q | q
    · rw [q]; exact ⟨_, he, fun v q => nomatch q⟩
    · rw [q]; exact h1.obj
  keep := fun i h h' st k => by
    obtain ⟨⟨old, he⟩, h1⟩ := st
    exact ⟨⟨old, k e (by simp) _ he⟩, h1.at fun o q => k it (by simp) o q⟩
  item := by
    intro X hP hw hK hh elts k pos i pins s σ H E Q Iv hf st hg hQ
    subst hP hw hK
    obtain ⟨he, h1⟩ := st
    obtain ⟨xs, x, hqx, hx⟩ := hg
    obtain ⟨its, rv, p, la⟩ := hqx.raw Iv
    have WT := WalksT.enumFrom (prog := X.prog) (w := X.w) (A := X.A) 0 (draws_b (A := X.A.in1) hh b it a ha its.toArray) e hei (by simp [hei, hea]) (by simp)
    have hi1 : i < xs.length := (List.getElem?_eq_some_iff.mp hx).1
    have l1 := rv.length
    refine WT.item i s _ E (by simp only [List.size_toArray]; omega) ⟨he, h1, p⟩ fun T vals h' tk hv hT hi hm hk => ?_
    refine ⟨_, rfl, WT.go elts k pos i T _ _ E hm fun h'' st' hk2 => ?_⟩
    obtain ⟨t, x1, e1, rfl⟩ := hv
    obtain ⟨u1, hu1, r1⟩ := rv.get hx
    have e1' : u1 = x1 := Option.some.inj (hu1.symm.trans (by simpa using e1))
    subst e1'
    obtain ⟨se, s1, _⟩ := st'
    refine hQ T [.int (i : Nat), x] [.int (0 + (i : Int)) t, u1] h'' tk ⟨x, rfl, fun l hl => by rw [hl.inj Iv hqx]; exact hx⟩ (.cons ⟨t, by rw [Int.zero_add]⟩ (.cons r1 .nil)) (by simp) hT
      (hi.at fun o q => hk2 T o (WT.apart i T _ hm) q) ⟨se, s1⟩ fun c o hc q => hk2 c o hc (hk c o hc q)
  done := by
    intro X hP hw hK hh i pins s σ H E Q Iv hf st hg hQ
    subst hP hw hK
    obtain ⟨he, h1⟩ := st
    obtain ⟨xs, hqx, hi⟩ := hg
    obtain ⟨its, rv, p, la⟩ := hqx.raw Iv
    have WT := WalksT.enumFrom (prog := X.prog) (w := X.w) (A := X.A) 0 (draws_b (A := X.A.in1) hh b it a ha its.toArray) e hei (by simp [hei, hea]) (by simp)
    have l1 := rv.length
    have hi' : its.toArray.size = i := by simp only [List.size_toArray]; omega
    exact WT.done s _ E (by rw [hi']; exact ⟨he, h1, p⟩) fun h' tk hk => ⟨rfl, hQ h' tk hk⟩
  self := fun A i s Q E st h => let ⟨⟨_, he⟩, _⟩ := st; wpAny_pyIter_enum he h
def iEnumB (K : PySem.W.Frag) (ta : TA) : TI := fun σ H R => ta σ H fun vs H1 => ∃ a b xs, vs = [.ref a] ∧ SqB K b H1 a xs ∧ R (Itw (goE K b a) (valE K b a) (stopE K b a)) H1
theorem pi_enumB {X : Cx} {e : Expr} {ta : TA} {p pos tpos : Pos} {elts : List Expr} {kk : Nat} (hg : Gl X "enumerate") (hm : X.mg "enumerate" = none) (ha : PA X [e] ta) (hs : starEach [e] X.env = [(false, eval e X.env)] := by rfl) :
    PI X (.Tuple elts kk tpos) (.Call (.Name "enumerate" p) [e] [] pos) (iEnumB X.K ta) := by
  refine ⟨fun pn st sg Hh Rr In hw => ?_⟩
  refine Call_ (ld_blt In hg hm boot_enumerate (PyProof.Rows.callWith_type1 (thn (ha.run pos pn st sg Hh _ In hw) fun us s1 ⟨vs, H1, I1, r1, q1⟩ => ?_) hs rfl))
  obtain ⟨a, b, xs, ex, hqx, q⟩ := q1
  subst ex
  cases r1 with
  | cons r rr =>
    cases rr
    cases r
    obtain ⟨its, rv, p1, la⟩ := hqx.raw I1
    refine enum_one (begins_b b a its.toArray) p1 fun h' he hit hsz hk => wpAny_pyIter_enum he ?_
    have I2 : Inv X pn sg H1 { s1 with heap := h' } := I1.kept (t' := s1.toks) hk
    refine ⟨s1.heap.objs.size + 1, [s1.heap.objs.size + 1, s1.heap.objs.size], _, _, H1, rfl, I2, turn_bare (bare_enum (Nat.succ_ne_self _) (Nat.ne_of_gt (Nat.lt_succ_of_lt la)) (Nat.ne_of_lt la)), ⟨⟨.none, he⟩, ItB.start hit⟩, fun c hc => ?_, q⟩
    have e' : c = s1.heap.objs.size + 1 ∨ c = s1.heap.objs.size := by simpa using hc
    have hle : s1.heap.objs.size ≤ c := by
      rcases e' with z | z
      · rw [z]; exact Nat.le_add_right _ _
      · rw [z]; exact Nat.le_refl _
    exact I1.fpOk hle (I1.hok.fresh hle)
end
end Py
/-! PyJ: the data that a walk gives; comprehensions. -/
namespace Py
open PySem L2 StX

section
variable {s : Sx} {Γ : List Md} {K : PySem.W.Frag}
theorem View.seqA {c : Fx} {ps : List Addr} {H : Hp} {v : V} {d : D} {ds : List D} (ok : c.Ok) (nA : ∀ p ∈ ps, ¬ c.A p) (h : View c ps H v d) (e : d = .list ds ∨ d = .tuple ds) :
    ∃ a vs b, v = .ref a ∧ SqB K b H a vs ∧ DenL H (c.U ps) vs ds ∧ ¬ c.A a ∧ (H a = some (.lst vs) ∧ b = true ∨ H a = some (.tup vs) ∧ b = false) := by
  have nU : ∀ {a}, ¬ c.U ps a → ¬ c.A a := fun h z => h (.inl (ok.sub _ z))
  rcases e with rfl | rfl
  · cases h with
    | den h => cases h with | lst h1 h2 h3 => exact ⟨_, _, true, rfl, SqL.of h1, h3, nU h2, .inl ⟨h1, rfl⟩⟩
    | own h1 h2 h3 => exact ⟨_, _, true, rfl, SqL.of h1, h3, nA _ h2, .inl ⟨h1, rfl⟩⟩
  · cases h with
    | den h => cases h with | tup h1 h2 h3 => exact ⟨_, _, false, rfl, SqT.of h1, h3, nU h2, .inr ⟨h1, rfl⟩⟩
theorem Den.seqU {H : Hp} {U : AS} {v : V} {d : D} {ds : List D} (h : Den H U v d) (e : d = .list ds ∨ d = .tuple ds) :
    ∃ a vs b, v = .ref a ∧ SqB K b H a vs ∧ DenL H U vs ds ∧ ¬ U a ∧ (H a = some (.lst vs) ∧ b = true ∨ H a = some (.tup vs) ∧ b = false) := by
  rcases e with rfl | rfl
  · cases h with | lst h1 h2 h3 => exact ⟨_, _, true, rfl, SqL.of h1, h3, h2, .inl ⟨h1, rfl⟩⟩
  · cases h with | tup h1 h2 h3 => exact ⟨_, _, false, rfl, SqT.of h1, h3, h2, .inr ⟨h1, rfl⟩⟩
theorem sz_seq {H : Hp} {a : Addr} {vs : List V} {b : Bool} (z : Sz H) (h : H a = some (.lst vs) ∧ b = true ∨ H a = some (.tup vs) ∧ b = false) : vs.length ≤ sizeLine := by
  rcases h with ⟨h, _⟩ | ⟨h, _⟩
  · exact z a vs (.inl h)
  · exact z a vs (.inr h)
/-- such a sequence still stands -/
theorem seq_later {H H' : Hp} {S : AS} {a : Addr} {vs : List V} {b : Bool} (h : H a = some (.lst vs) ∧ b = true ∨ H a = some (.tup vs) ∧ b = false) (n : ¬ S a) (l : Later S H H') : SqB K b H' a vs := by
  rcases h with ⟨h, rfl⟩ | ⟨h, rfl⟩
  · exact SqL.of (l a _ h n)
  · exact SqT.of (l a _ h n)
theorem items_list {H : Hp} {S U : AS} {a : Addr} {vs : List V} {ds : List D} (h : H a = some (.lst vs)) (n : ¬ S a) (dn : DenL H U vs ds) (z : Sz H) : Items (Itl K a) S U H ds where
  len := by rw [← dn.length]; exact z a vs (.inl h)
  go := fun i H' l hi => ⟨vs, vs[i]'(by rw [dn.length]; exact hi), SqL.of (l a _ h n), by simp [dn.length, hi]⟩
  stop := fun H' l => ⟨vs, SqL.of (l a _ h n), by rw [dn.length]; exact Nat.le_refl _⟩
  yld := fun i d H' x H'' l lu hd y => by
    obtain ⟨rfl, y⟩ := y
    obtain ⟨v, e1, e2⟩ := dn.get hd
    have e := y vs (SqL.of (l a _ h n))
    rw [e1] at e; cases e
    exact ⟨fun _ _ q => q, fun q => q, fun U' hu _ => e2.mono (fun b o q nn => lu b o q nn) hu⟩
theorem items_tup {H : Hp} {S U : AS} {a : Addr} {vs : List V} {ds : List D} (h : H a = some (.tup vs)) (n : ¬ S a) (dn : DenL H U vs ds) (z : Sz H) : Items (Itt K a) S U H ds where
  len := by rw [← dn.length]; exact z a vs (.inr h)
  go := fun i H' l hi => ⟨vs, vs[i]'(by rw [dn.length]; exact hi), SqT.of (l a _ h n), by simp [dn.length, hi]⟩
  stop := fun H' l => ⟨vs, SqT.of (l a _ h n), by rw [dn.length]; exact Nat.le_refl _⟩
  yld := fun i d H' x H'' l lu hd y => by
    obtain ⟨rfl, y⟩ := y
    obtain ⟨v, e1, e2⟩ := dn.get hd
    have e := y vs (SqT.of (l a _ h n))
    rw [e1] at e; cases e
    exact ⟨fun _ _ q => q, fun q => q, fun U' hu _ => e2.mono (fun b o q nn => lu b o q nn) hu⟩
def itSeq (e : Env → M D) : Env → M (List D) := fun ρ => bnd (e ρ) seqD
theorem semI_seq {t : TE} {e : Env → M D} (h : SemE s Γ t e) : SemI s Γ (iSeq K t) (itSeq e) := by
  intro c ρ ps σ H R' P hc r0 q k
  refine h c ρ ps σ H _ _ hc r0 q fun d v H1 q1 e1 d1 => ?_
  obtain ⟨ds, ed, q1⟩ := seqD_get q1
  obtain ⟨a, vs, b, rfl, _, dn, nu, hh⟩ := d1.seqU (K := K) ed
  have r1 := r0.stp e1
  rcases hh with ⟨h1, _⟩ | ⟨h1, _⟩
  · exact .inl ⟨a, rfl, ⟨vs, SqL.of h1⟩, k ds _ H1 q1 e1 (items_list h1 nu dn r1.sz)⟩
  · exact .inr ⟨a, rfl, ⟨vs, SqT.of h1⟩, k ds _ H1 q1 e1 (items_tup h1 nu dn r1.sz)⟩
theorem semIc_seq {t : TE} {e : Env → M D} (h : SemV s Γ t e) : SemIc s Γ (iSeq K t) (itSeq e) := by
  intro c ρ ps σ H R' P hc r0 q k
  refine h c ρ ps σ H _ _ hc r0 q fun d v H1 q1 e1 d1 => ?_
  obtain ⟨ds, ed, q1⟩ := seqD_get q1
  have r1 := r0.stp e1
  obtain ⟨a, vs, b, rfl, _, dn, nu, hh⟩ := d1.seqA (K := K) r0.ok r1.gd.nA ed
  rcases hh with ⟨h1, _⟩ | ⟨h1, _⟩
  · exact .inl ⟨a, rfl, ⟨vs, SqL.of h1⟩, k ds _ H1 q1 e1 (items_list h1 nu dn r1.sz)⟩
  · exact .inr ⟨a, rfl, ⟨vs, SqT.of h1⟩, k ds _ H1 q1 e1 (items_tup h1 nu dn r1.sz)⟩

/-! ### range -/
def rangeD (lo : Int) (n : Nat) : List D := (List.range n).map fun i => .int (lo + (i : Nat))
theorem items_range {H : Hp} {S U : AS} {lo : Int} {n : Nat} (hz : n ≤ sizeLine) : Items (Itr lo n) S U H (rangeD lo n) where
  len := by unfold rangeD; simpa using hz
  go := fun i H' l hi => by
    show i < n
    unfold rangeD at hi
    simpa using hi
  stop := fun H' l => by show n ≤ _; unfold rangeD; simp
  yld := fun i d H' x H'' l lu hd y => by
    obtain ⟨rfl, rfl⟩ := y
    unfold rangeD at hd
    rw [List.getElem?_map, Option.map_eq_some_iff] at hd
    obtain ⟨j, hj, rfl⟩ := hd
    have e : j = i := by
      rw [List.getElem?_range] at hj
      · exact (Option.some.inj hj).symm
      · exact Nat.lt_of_not_le fun z => by rw [List.getElem?_eq_none (by simpa using z)] at hj; cases hj
    subst e
    exact ⟨fun _ _ q => q, fun q => q, fun _ _ _ => .int _⟩
def rngOk (n : Int) : Bool := decide (-100000 ≤ n ∧ n ≤ 100000)
theorem rngOk_b {n : Int} (h : rngOk n = true) : -100000 ≤ n ∧ n ≤ 100000 := by
  unfold rngOk at h
  exact of_decide_eq_true h
def itRng1 (f : Env → M (List D)) : Env → M (List D) := fun ρ => bnd (f ρ) fun ds => match ds with
  | [.int n] => if rngOk n = true then ret (rangeD 0 n.toNat) else stuck
  | _ => stuck
def itRng2 (f : Env → M (List D)) : Env → M (List D) := fun ρ => bnd (f ρ) fun ds => match ds with
  | [.int m, .int n] => if (rngOk m && rngOk n) = true then ret (rangeD m (n - m).toNat) else stuck
  | _ => stuck
theorem Views.one {c : Fx} {ps : List Addr} {H : Hp} {vs : List V} {d : D} (h : Views c ps H vs [d]) : ∃ v, vs = [v] ∧ View c ps H v d := by
  cases h with
  | cons h t => cases t; exact ⟨_, rfl, h⟩
theorem Views.two {c : Fx} {ps : List Addr} {H : Hp} {vs : List V} {d e : D} (h : Views c ps H vs [d, e]) : ∃ v w, vs = [v, w] ∧ View c ps H v d ∧ View c ps H w e := by
  cases h with
  | cons h t =>
    obtain ⟨w, rfl, h2⟩ := t.one
    exact ⟨_, _, rfl, h, h2⟩
theorem sz_1e5 {n : Nat} (h : n ≤ 200000) : n ≤ sizeLine := Nat.le_trans h (by decide)
theorem rng1_any {t : TA} {f : Env → M (List D)} (h : SemAV s Γ t f) {c : Fx} {ρ : Env} {ps : List Addr} {σ : St} {H : Hp} {R' : It → Hp → Prop} {P : List D → Prop} (hc : c.s = s) (r0 : R c Γ ρ ps σ H) (q : itRng1 f ρ P) {S : AS}
    (k : ∀ ds J H1, P ds → Stp c H H1 → Items J S (c.U ps) H1 ds → R' J H1) : iRng1 t σ H R' := by
  refine h c ρ ps σ H _ _ hc r0 q fun ds vs H1 q1 e1 d1 => ?_
  dsimp only at q1
  split at q1
  · rename_i n
    split at q1
    · rename_i hr
      have b := rngOk_b hr
      obtain ⟨v, rfl, dv⟩ := d1.one
      exact ⟨n, by rw [dv.int], by omega, by omega, k _ _ H1 q1 e1 (items_range (sz_1e5 (by omega)))⟩
    · cases q1
  · cases q1
theorem semI_rng1 {t : TA} {f : Env → M (List D)} (h : SemAV s Γ t f) : SemI s Γ (iRng1 t) (itRng1 f) := fun c ρ ps σ H R' P hc r0 q k => rng1_any h hc r0 q k
theorem semIc_rng1 {t : TA} {f : Env → M (List D)} (h : SemAV s Γ t f) : SemIc s Γ (iRng1 t) (itRng1 f) := fun c ρ ps σ H R' P hc r0 q k => rng1_any h hc r0 q k
theorem rng2_any {t : TA} {f : Env → M (List D)} (h : SemAV s Γ t f) {c : Fx} {ρ : Env} {ps : List Addr} {σ : St} {H : Hp} {R' : It → Hp → Prop} {P : List D → Prop} (hc : c.s = s) (r0 : R c Γ ρ ps σ H) (q : itRng2 f ρ P) {S : AS}
    (k : ∀ ds J H1, P ds → Stp c H H1 → Items J S (c.U ps) H1 ds → R' J H1) : iRng2 t σ H R' := by
  refine h c ρ ps σ H _ _ hc r0 q fun ds vs H1 q1 e1 d1 => ?_
  dsimp only at q1
  split at q1
  · rename_i m n
    split at q1
    · rename_i hr
      have hr' : rngOk m = true ∧ rngOk n = true := by simpa using hr
      have b1 := rngOk_b hr'.1
      have b2 := rngOk_b hr'.2
      obtain ⟨v, w, rfl, dv, dw⟩ := d1.two
      exact ⟨m, n, by rw [dv.int, dw.int], ⟨by omega, by omega, by omega, by omega⟩, k _ _ H1 q1 e1 (items_range (sz_1e5 (by omega)))⟩
    · cases q1
  · cases q1
theorem semI_rng2 {t : TA} {f : Env → M (List D)} (h : SemAV s Γ t f) : SemI s Γ (iRng2 t) (itRng2 f) := fun c ρ ps σ H R' P hc r0 q k => rng2_any h hc r0 q k
theorem semIc_rng2 {t : TA} {f : Env → M (List D)} (h : SemAV s Γ t f) : SemIc s Γ (iRng2 t) (itRng2 f) := fun c ρ ps σ H R' P hc r0 q k => rng2_any h hc r0 q k

/-! ### zip, enumerate -/
def zipD : List D → List D → List D
  | d :: ds, e :: es => .tuple [d, e] :: zipD ds es
  | _, _ => []
theorem zipD_len : ∀ (ds es : List D), (zipD ds es).length = min ds.length es.length
  | [], _ => by simp [zipD]
  | _ :: _, [] => by simp [zipD]
  | d :: ds, e :: es => by simp [zipD, zipD_len ds es]
theorem zipD_get : ∀ {ds es : List D} {i : Nat} {x : D}, (zipD ds es)[i]? = some x → ∃ d e, ds[i]? = some d ∧ es[i]? = some e ∧ x = .tuple [d, e]
  | [], _, _, _, h => by simp [zipD] at h
  | _ :: _, [], _, _, h => by simp [zipD] at h
  | d :: ds, e :: es, 0, x, h => by simp [zipD] at h; exact ⟨d, e, rfl, rfl, h.symm⟩
  | d :: ds, e :: es, i + 1, x, h => by
    obtain ⟨a, b, h1, h2, h3⟩ := zipD_get (ds := ds) (es := es) (i := i) (by simpa [zipD] using h)
    exact ⟨a, b, by simpa using h1, by simpa using h2, h3⟩
def enumD : Nat → List D → List D
  | _, [] => []
  | k, d :: ds => .tuple [.int (k : Nat), d] :: enumD (k + 1) ds
theorem enumD_len : ∀ (k : Nat) (ds : List D), (enumD k ds).length = ds.length
  | _, [] => rfl
  | k, d :: ds => by simp [enumD, enumD_len (k + 1) ds]
theorem enumD_get : ∀ {k : Nat} {ds : List D} {i : Nat} {x : D}, (enumD k ds)[i]? = some x → ∃ d, ds[i]? = some d ∧ x = .tuple [.int ((k + i : Nat) : Int), d]
  | _, [], _, _, h => by simp [enumD] at h
  | k, d :: ds, 0, x, h => by simp [enumD] at h; exact ⟨d, rfl, h.symm⟩
  | k, d :: ds, i + 1, x, h => by
    obtain ⟨a, h1, h2⟩ := enumD_get (k := k + 1) (ds := ds) (i := i) (by simpa [enumD] using h)
    refine ⟨a, by simpa using h1, ?_⟩
    rw [h2, show k + 1 + i = k + (i + 1) by omega]
theorem items_zip {H : Hp} {S U : AS} {a b : Addr} {b1 b2 : Bool} {vs ws : List V} {ds es : List D} (h1 : H a = some (.lst vs) ∧ b1 = true ∨ H a = some (.tup vs) ∧ b1 = false) (h2 : H b = some (.lst ws) ∧ b2 = true ∨ H b = some (.tup ws) ∧ b2 = false)
    (n1 : ¬ S a) (n2 : ¬ S b) (d1 : DenL H U vs ds) (d2 : DenL H U ws es) (z : Sz H) : Items (Itw (goZ K b1 b2 a b) (valZ K b1 b2 a b) (stopZ K b1 b2 a b)) S U H (zipD ds es) where
  len := by rw [zipD_len, ← d1.length]; exact Nat.le_trans (Nat.min_le_left _ _) (sz_seq z h1)
  go := fun i H' l hi => by
    rw [zipD_len] at hi
    have i1 : i < vs.length := by rw [d1.length]; omega
    have i2 : i < ws.length := by rw [d2.length]; omega
    exact ⟨vs, ws, vs[i], ws[i], seq_later h1 n1 l, seq_later h2 n2 l, by simp [i1], by simp [i2]⟩
  stop := fun H' l => ⟨vs, ws, seq_later h1 n1 l, seq_later h2 n2 l, by rw [zipD_len, d1.length, d2.length]⟩
  yld := fun i x H' v H'' l lu hd y => by
    obtain ⟨T, vals, rfl, hn, rfl, ⟨x1, y1, rfl, f1, f2⟩, hl⟩ := y
    obtain ⟨d, e, g1, g2, rfl⟩ := zipD_get hd
    obtain ⟨u1, a1, a2⟩ := d1.get g1
    obtain ⟨u2, c1, c2⟩ := d2.get g2
    have p1 := f1 vs (seq_later h1 n1 l)
    have p2 := f2 ws (seq_later h2 n2 l)
    rw [a1] at p1; cases p1
    rw [c1] at p2; cases p2
    have up : ∀ aa o, H aa = some o → ¬ U aa → (upd H' T (.tup [x1, y1])) aa = some o := fun aa o q nn => upd_keep hn aa o (lu aa o q nn)
    refine ⟨upd_keep hn, fun zz => zz.upd fun xs q => ?_, fun U' hu nu => .tup upd_same (nu T hn) (.cons (a2.mono up hu) (.cons (c2.mono up hu) .nil))⟩
    rcases q with q | q <;> cases q
    show 2 ≤ sizeLine
    decide
theorem items_enum {H : Hp} {S U : AS} {a : Addr} {b : Bool} {vs : List V} {ds : List D} (h1 : H a = some (.lst vs) ∧ b = true ∨ H a = some (.tup vs) ∧ b = false)
    (n1 : ¬ S a) (d1 : DenL H U vs ds) (z : Sz H) : Items (Itw (goE K b a) (valE K b a) (stopE K b a)) S U H (enumD 0 ds) where
  len := by rw [enumD_len, ← d1.length]; exact sz_seq z h1
  go := fun i H' l hi => by
    rw [enumD_len] at hi
    have i1 : i < vs.length := by rw [d1.length]; omega
    exact ⟨vs, vs[i], seq_later h1 n1 l, by simp [i1]⟩
  stop := fun H' l => ⟨vs, seq_later h1 n1 l, by rw [enumD_len, d1.length]⟩
  yld := fun i x H' v H'' l lu hd y => by
    obtain ⟨T, vals, rfl, hn, rfl, ⟨x1, rfl, f1⟩, hl⟩ := y
    obtain ⟨d, g1, rfl⟩ := enumD_get hd
    obtain ⟨u1, a1, a2⟩ := d1.get g1
    have p1 := f1 vs (seq_later h1 n1 l)
    rw [a1] at p1; cases p1
    have up : ∀ aa o, H aa = some o → ¬ U aa → (upd H' T (.tup [.int (i : Nat), x1])) aa = some o := fun aa o q nn => upd_keep hn aa o (lu aa o q nn)
    refine ⟨upd_keep hn, fun zz => zz.upd fun xs q => ?_, fun U' hu nu => .tup upd_same (nu T hn) (.cons (by rw [Nat.zero_add]; exact .int _) (.cons (a2.mono up hu) .nil))⟩
    rcases q with q | q <;> cases q
    show 2 ≤ sizeLine
    decide
def itZip (f : Env → M (List D)) : Env → M (List D) := fun ρ => bnd (f ρ) fun l => match l with
  | [x, y] => bnd (seqD x) fun ds => bnd (seqD y) fun es => ret (zipD ds es)
  | _ => stuck
def itEnum (f : Env → M (List D)) : Env → M (List D) := fun ρ => bnd (f ρ) fun l => match l with
  | [x] => bnd (seqD x) fun ds => ret (enumD 0 ds)
  | _ => stuck
theorem semI_zip {t : TA} {f : Env → M (List D)} (h : SemA s Γ t f) : SemI s Γ (iZipB K t) (itZip f) := by
  intro c ρ ps σ H R' P hc r0 q k
  refine h c ρ ps σ H _ _ hc r0 q fun ds vs H1 q1 e1 d1 => ?_
  dsimp only at q1
  split at q1
  · rename_i x y
    obtain ⟨l1, z1, q1⟩ := seqD_get q1
    obtain ⟨l2, z2, q1⟩ := seqD_get q1
    cases d1 with
    | cons dx dr =>
      cases dr with
      | cons dy dr =>
        cases dr
        obtain ⟨a, us, b1, rfl, hs1, dn1, nu1, hh1⟩ := dx.seqU (K := K) z1
        obtain ⟨b, ws, b2, rfl, hs2, dn2, nu2, hh2⟩ := dy.seqU (K := K) z2
        exact ⟨a, b, b1, b2, us, ws, rfl, hs1, hs2, k _ _ H1 q1 e1 (items_zip hh1 hh2 nu1 nu2 dn1 dn2 (r0.stp e1).sz)⟩
  · cases q1
theorem semIc_zip {t : TA} {f : Env → M (List D)} (h : SemAV s Γ t f) : SemIc s Γ (iZipB K t) (itZip f) := by
  intro c ρ ps σ H R' P hc r0 q k
  refine h c ρ ps σ H _ _ hc r0 q fun ds vs H1 q1 e1 d1 => ?_
  dsimp only at q1
  split at q1
  · rename_i x y
    obtain ⟨l1, z1, q1⟩ := seqD_get q1
    obtain ⟨l2, z2, q1⟩ := seqD_get q1
    obtain ⟨v, w, rfl, dx, dy⟩ := d1.two
    have g := (r0.stp e1).gd
    obtain ⟨a, us, b1, rfl, hs1, dn1, nu1, hh1⟩ := dx.seqA (K := K) g.ok g.nA z1
    obtain ⟨b, ws, b2, rfl, hs2, dn2, nu2, hh2⟩ := dy.seqA (K := K) g.ok g.nA z2
    exact ⟨a, b, b1, b2, us, ws, rfl, hs1, hs2, k _ _ H1 q1 e1 (items_zip hh1 hh2 nu1 nu2 dn1 dn2 g.sz)⟩
  · cases q1
theorem semI_enum {t : TA} {f : Env → M (List D)} (h : SemA s Γ t f) : SemI s Γ (iEnumB K t) (itEnum f) := by
  intro c ρ ps σ H R' P hc r0 q k
  refine h c ρ ps σ H _ _ hc r0 q fun ds vs H1 q1 e1 d1 => ?_
  dsimp only at q1
  split at q1
  · rename_i x
    obtain ⟨l1, z1, q1⟩ := seqD_get q1
    cases d1 with
    | cons dx dr =>
      cases dr
      obtain ⟨a, us, b1, rfl, hs1, dn1, nu1, hh1⟩ := dx.seqU (K := K) z1
      exact ⟨a, b1, us, rfl, hs1, k _ _ H1 q1 e1 (items_enum hh1 nu1 dn1 (r0.stp e1).sz)⟩
  · cases q1
theorem semIc_enum {t : TA} {f : Env → M (List D)} (h : SemAV s Γ t f) : SemIc s Γ (iEnumB K t) (itEnum f) := by
  intro c ρ ps σ H R' P hc r0 q k
  refine h c ρ ps σ H _ _ hc r0 q fun ds vs H1 q1 e1 d1 => ?_
  dsimp only at q1
  split at q1
  · rename_i x
    obtain ⟨l1, z1, q1⟩ := seqD_get q1
    obtain ⟨v, rfl, dx⟩ := d1.one
    have g := (r0.stp e1).gd
    obtain ⟨a, us, b1, rfl, hs1, dn1, nu1, hh1⟩ := dx.seqA (K := K) g.ok g.nA z1
    exact ⟨a, b1, us, rfl, hs1, k _ _ H1 q1 e1 (items_enum hh1 nu1 dn1 g.sz)⟩
  · cases q1
end
end Py
/-! PyK: comprehensions. -/
namespace Py
open PySem L2 StX

section
variable {s : Sx} {Γ : List Md}
def wipeD (ρ : Env) : List Nat → Env
  | [] => ρ
  | v :: vs => (wipeD ρ vs).set v none
theorem R.wiped {c : Fx} {ρ : Env} {ps : List Addr} {σ : St} {H : Hp} (r : R c Γ ρ ps σ H) : ∀ {vs : List Nat}, (∀ i ∈ vs, Γ[i]? = some .fro) → R c Γ (wipeD ρ vs) ps (wipe σ vs) H
  | [], _ => r
  | v :: vs, h => (r.wiped fun i hi => h i (List.mem_cons_of_mem _ hi)).setNo (h v (List.mem_cons_self ..))
theorem wipe_get {σ : St} {i : Nat} : ∀ {vs : List Nat}, i ∈ vs → i < σ.length → (wipe σ vs)[i]? = some none
  | [], h, _ => absurd h (by simp)
  | v :: vs, h, hl => by
    unfold wipe
    by_cases e : v = i
    · subst e
      rw [List.getElem?_set_self (by rw [wipe_length]; exact hl)]
    · rw [List.getElem?_set_ne e]
      exact wipe_get ((List.mem_cons.mp h).resolve_left fun z => e z.symm) hl
theorem wipe_again {σ σ' : St} {vs ts : List Nat} (hl : σ'.length = (wipe σ vs).length) (hs : ∀ i, i ∉ ts → σ'[i]? = (wipe σ vs)[i]?) (ht : ∀ i ∈ ts, i ∈ vs) : wipe σ' vs = wipe σ vs := by
  apply List.ext_getElem?
  intro i
  have l1 := wipe_length σ vs
  by_cases hi : i ∈ vs
  · by_cases hz : i < σ.length
    · rw [wipe_get hi (by rw [hl, l1]; exact hz), wipe_get hi hz]
    · rw [List.getElem?_eq_none (by rw [wipe_length, hl, l1]; omega), List.getElem?_eq_none (by rw [l1]; omega)]
  · rw [wipe_out hi]
    exact hs i fun z => hi (ht i z)

theorem upd_off {H : Hp} {S : AS} {a p : Addr} {o : HO} (hp : S p) (n : ¬ S a) : upd H p o a = H a := upd_ne fun z => n (by rw [z]; exact hp)
theorem upd_offm {H : Hp} {S : AS} {a p : Addr} {o : HO} (hp : ¬ S p) (n : S a) : upd H p o a = H a := upd_ne fun z => hp (by rw [← z]; exact n)
/-- one more place that changes: the list that a comprehension makes -/
def Fx.plus (c : Fx) (p : Addr) : Fx := { c with U0 := fun a => c.U0 a ∨ a = p }
theorem SlotR.ofSrc {c c' : Fx} (e : c'.s = c.s) {H : Hp} {U : AS} {m : Md} {d : Option D} {o : Option V} {ps : List Addr} (h : SlotR c H U m d o ps) : SlotR c' H U m d o ps := by
  cases h with
  | no => exact .no
  | fro h => exact .fro h
  | own h1 h2 => exact .own h1 h2
  | lent h1 h2 => exact .lent h1 h2
  | own2 h1 h2 => exact .own2 h1 h2
  | dic h1 h2 => exact .dic h1 h2
  | src =>
    have q : c'.src = c.src := by show c'.s.src = c.s.src; rw [e]
    rw [← q]; exact .src
theorem Slots.ofSrc {c c' : Fx} (e : c'.s = c.s) {H : Hp} {U : AS} {ρ : Env} {σ : St} {ps : List Addr} (h : Slots c H U Γ ρ σ ps) : Slots c' H U Γ ρ σ ps := by
  induction h with
  | nil => exact .nil
  | cons h1 _ ih => exact .cons (h1.ofSrc e) ih
theorem R.fresh0 {c : Fx} {ρ : Env} {ps : List Addr} {σ : St} {H : Hp} (r : R c Γ ρ ps σ H) {p : Addr} (h : H p = none) : c.H0 p = none := by
  cases q : c.H0 p with
  | none => rfl
  | some o => obtain ⟨o', h'⟩ := r.there p o q; rw [h] at h'; cases h'
theorem R.nU0 {c : Fx} {ρ : Env} {ps : List Addr} {σ : St} {H : Hp} (r : R c Γ ρ ps σ H) {p : Addr} (h : H p = none) : ¬ c.U0 p := fun u => by
  obtain ⟨o, h', _⟩ := r.al p u
  rw [h] at h'; cases h'
theorem R.plus {c : Fx} {ρ : Env} {ps : List Addr} {σ : St} {H : Hp} (r : R c Γ ρ ps σ H) {p : Addr} (h : H p = none) : R (c.plus p) Γ ρ ps σ (upd H p (.lst [])) where
  ok := ⟨fun a q => .inl (r.ok.sub a q), r.ok.st⟩
  keep := fun a o q n => upd_keep h a o (r.keep a o q n)
  there := fun a o q => let ⟨o', q'⟩ := r.there a o q; ⟨o', upd_keep h a o' q'⟩
  inv := r.ok.st H _ r.inv fun a o _ q => upd_keep h a o q
  al := fun a u => by
    rcases u with u | rfl
    · obtain ⟨o, q, n⟩ := r.al a u
      exact ⟨o, upd_keep h a o q, n⟩
    · exact ⟨_, upd_same, fun xs z => by cases z⟩
  sz := r.sz.upd fun xs q => by rcases q with q | q <;> cases q; exact Nat.zero_le _
  sl := (Slots.ofSrc (c := c) (c' := c.plus p) rfl r.sl).mono (fun a _ o q => upd_keep h a o q) (fun a o q _ => upd_keep h a o q) fun a o q u => by
    rcases u with (u | rfl) | u
    · exact .inl u
    · rw [h] at q; cases q
    · exact .inr u
  nd := r.nd
  own := fun a ha => ⟨(r.own a ha).1, fun u => by
    rcases u with u | rfl
    · exact (r.own a ha).2 u
    · obtain ⟨xs, q, _⟩ := r.sl.loose a ha
      rw [h] at q; cases q⟩
/-- a list of the callers' changes (here: the comprehension's own) -/
theorem R.updU0 {c : Fx} {ρ : Env} {ps : List Addr} {σ : St} {H : Hp} (r : R c Γ ρ ps σ H) {p : Addr} {xs ys : List V} (hu : c.U0 p) (hA : ¬ c.A p) (h0 : c.H0 p = none) (h : H p = some (.lst xs)) (hz : ys.length ≤ sizeLine) : R c Γ ρ ps σ (upd H p (.lst ys)) where
  ok := r.ok
  keep := fun a o q n => by rw [upd_ne (ne_of_none q h0)]; exact r.keep a o q n
  there := fun a o q => by
    rw [upd_ne (ne_of_none q h0)]; exact r.there a o q
  inv := r.ok.st H _ r.inv fun a o u q => by rw [upd_offm (S := c.A) hA u]; exact q
  al := fun a u => by
    by_cases e : a = p
    · subst e; exact ⟨_, upd_same, fun xs z => by cases z⟩
    · rw [upd_ne e]; exact r.al a u
  sz := r.sz.upd fun zs q => by rcases q with q | q <;> cases q; exact hz
  sl := r.sl.mono (fun a ha o q => by rw [upd_off (S := c.U0) hu (r.own a ha).2]; exact q) (fun a o q n => by rw [upd_off (S := c.U ps) (.inl hu) n]; exact q) fun _ _ _ q => q
  nd := r.nd
  own := r.own

def lcW (tg : D → Env → M Env) (cond : Env → M Bool) (elt : Env → M D) (ρ : Env) : List D → M (List D)
  | [] => ret []
  | d :: ds => bnd (tg d ρ) fun ρ' => bnd (cond ρ') fun b => if b = true then bnd (elt ρ') fun y => bnd (lcW tg cond elt ρ ds) fun ys => ret (y :: ys) else lcW tg cond elt ρ ds
def eLc (its : Env → M (List D)) (tg : D → Env → M Env) (cond : Env → M Bool) (elt : Env → M D) (vs : List Nat) : Env → M (List D) := fun ρ => bnd (its ρ) fun ds => lcW tg cond elt (wipeD ρ vs) ds
def cYes : Env → M Bool := fun _ => ret true
theorem sem_yes : SemT s Γ tYes cYes := fun c ρ ps σ H Q P _ r q k => k true H q (Stp.refl c H)

/-- what holds between two turns of a comprehension -/
structure LcI (c : Fx) (Γ : List Md) (ρw : Env) (ps : List Addr) (σw : St) (H1 : Hp) (p : Addr) (n i : Nat) (H : Hp) (ys : List D) : Prop where
  keep : ∀ a o, H1 a = some o → ¬ c.A a → H a = some o
  there : ∀ a o, H1 a = some o → ∃ o', H a = some o'
  r : R (c.plus p) Γ ρw ps σw H
  acc : ∃ vs, H p = some (.lst vs) ∧ DenL H ((c.plus p).U ps) vs ys ∧ vs.length ≤ i
theorem sem_lc {wi : TI} {g : TG} {tt : TT} {te : TE} {vs ts : List Nat} {its : Env → M (List D)} {tg : D → Env → M Env} {cond : Env → M Bool} {elt : Env → M D}
    (hi : SemIc s Γ wi its) (hg : SemG s Γ g ts tg) (ht : SemT s Γ tt cond) (he : SemE s Γ te elt) (hv : ∀ i ∈ vs, Γ[i]? = some .fro) (hts : ∀ i ∈ ts, i ∈ vs) : SemL s Γ (tLc wi g tt te vs) (eLc its tg cond elt vs) := by
  intro c ρ ps σ H Q P hc r0 q k
  refine hi c ρ ps σ H _ _ hc r0 q fun ds J H1 q1 e1 it => ?_
  intro p hp
  have r1 := r0.stp e1
  have n0 := r1.fresh0 hp
  have nA : ¬ c.A p := fun z => r1.nU0 hp (r1.ok.sub p z)
  have rp := (r1.wiped hv).plus hp
  refine ⟨fun i m H' => m = ds.length - i ∧ i ≤ ds.length ∧ ∃ ys, LcI c Γ (wipeD ρ vs) ps (wipe σ vs) H1 p ds.length i H' ys ∧ lcW tg cond elt (wipeD ρ vs) (ds.drop i) (fun zs => P (ys ++ zs)),
    ⟨ds.length, by simp, Nat.zero_le _, [], ⟨fun a o h _ => upd_keep hp a o h, fun a o h => ⟨o, upd_keep hp a o h⟩, rp, ⟨[], upd_same, .nil, Nat.le_refl _⟩⟩, q1⟩, ?_⟩
  rintro i m H' ⟨rfl, hle, ys, I, w⟩
  have lA : Later c.A H1 H' := I.keep
  have lU : Later (c.U ps) H1 H' := fun a o h n => I.keep a o h fun z => n (.inl (r1.ok.sub a z))
  by_cases hlt : i < ds.length
  · refine .inr ⟨it.go i H' lA hlt, fun H'' => (ds.length - (i + 1) = ds.length - (i + 1) ∧ i + 1 ≤ ds.length ∧ ∃ zs, LcI c Γ (wipeD ρ vs) ps (wipe σ vs) H1 p ds.length (i + 1) H'' zs ∧ lcW tg cond elt (wipeD ρ vs) (ds.drop (i + 1)) (fun ws => P (zs ++ ws))),
      fun H'' h => ⟨ds.length - (i + 1), by omega, h⟩, fun x H'' y => ?_⟩
    have hd : ds[i]? = some ds[i] := by simp [hlt]
    obtain ⟨same, sz, den⟩ := it.yld i ds[i] H' x H'' lA lU hd y
    have stp2 : Stp (c.plus p) H' H'' := Stp.same I.r.ok same sz
    have r2 := I.r.stp stp2
    have dx : Den H'' ((c.plus p).U ps) x ds[i] := den _ (fun a o h u => by
      rcases u with (u | rfl) | u
      · exact .inl u
      · rw [hp] at h; cases h
      · exact .inr u) fun a h => I.r.new h
    rw [List.drop_eq_getElem_cons hlt] at w
    have hc' : (c.plus p).s = s := hc
    refine hg (c.plus p) (wipeD ρ vs) ps (wipe σ vs) H'' _ _ _ _ hc' r2 dx w fun ρ' σ' w2 r3 l3 s3 => ?_
    refine ⟨wipe_again l3 s3 hts, ?_⟩
    refine ht (c.plus p) ρ' ps σ' H'' _ _ hc' r3 w2 fun b H3 w3 e3 => ?_
    have r4 := r3.stp e3
    have kp3 : ∀ a o, H1 a = some o → ¬ c.A a → H3 a = some o := fun a o h n => e3.keep a o (same a o (I.keep a o h n)) n
    have th3 : ∀ a o, H1 a = some o → ∃ o', H3 a = some o' := fun a o h => let ⟨o1, h1⟩ := I.there a o h; e3.there a o1 (same a o1 h1)
    obtain ⟨acc, ha, dacc, hlen⟩ := I.acc
    have da3 : H3 p = some (.lst acc) ∧ DenL H3 ((c.plus p).U ps) acc ys := ⟨e3.keep _ _ (same _ _ ha) nA, (dacc.stp I.r.ok stp2).stp r3.ok e3⟩
    dsimp only at w3
    cases b with
    | true =>
      rw [if_pos rfl] at w3
      rw [if_pos rfl]
      refine he (c.plus p) ρ' ps σ' H3 _ _ hc' r4 w3 fun yd v H4 w4 e4 dv => ?_
      have ha4 : H4 p = some (.lst acc) := e4.keep _ _ da3.1 nA
      have d4 : DenL H4 ((c.plus p).U ps) acc ys := da3.2.stp r4.ok e4
      have lz : acc.length < sizeLine := Nat.lt_of_lt_of_le (Nat.lt_of_le_of_lt hlen hlt) it.len
      have hz : (acc ++ [v]).length ≤ sizeLine := by rw [List.length_append]; exact lz
      have rw4 : R (c.plus p) Γ (wipeD ρ vs) ps (wipe σ vs) H4 := (r2.stp e3).stp e4
      have up : ∀ a o, H4 a = some o → ¬ (c.plus p).U ps a → (upd H4 p (.lst (acc ++ [v]))) a = some o := fun a o h n => by
        rw [upd_off (S := (c.plus p).U ps) (.inl (.inr rfl)) n]; exact h
      refine ⟨acc, ha4, lz, rfl, hlt, ys ++ [yd], ⟨fun a o h n => ?_, fun a o h => ?_, rw4.updU0 (.inr rfl) nA n0 ha4 hz, ⟨acc ++ [v], upd_same, ?_, ?_⟩⟩, ?_⟩
      · rw [upd_ne (ne_of_none h hp)]; exact e4.keep a o (kp3 a o h n) n
      · rw [upd_ne (ne_of_none h hp)]
        obtain ⟨o1, h1⟩ := th3 a o h
        exact e4.there a o1 h1
      · exact (d4.mono up fun _ _ _ z => z).append (.cons (dv.mono up fun _ _ _ z => z) .nil)
      · rw [List.length_append]; exact Nat.succ_le_succ hlen
      · have w5 : lcW tg cond elt (wipeD ρ vs) (ds.drop (i + 1)) (fun zs => P (ys ++ (yd :: zs))) := w4
        have ee : (fun zs => P (ys ++ [yd] ++ zs)) = fun zs => P (ys ++ (yd :: zs)) := by
          funext zs
          rw [List.append_assoc]
          rfl
        rw [ee]
        exact w5
    | false =>
      rw [if_neg Bool.false_ne_true] at w3
      rw [if_neg Bool.false_ne_true]
      have rw3 : R (c.plus p) Γ (wipeD ρ vs) ps (wipe σ vs) H3 := r2.stp e3
      exact ⟨rfl, hlt, ys, ⟨kp3, th3, rw3, ⟨acc, da3.1, da3.2, Nat.le_succ_of_le hlen⟩⟩, w3⟩
  · have e : i = ds.length := by omega
    subst e
    rw [List.drop_length] at w
    have w' : P (ys ++ []) := w
    rw [List.append_nil] at w'
    obtain ⟨acc, ha, dacc, hlen⟩ := I.acc
    refine .inl ⟨it.stop H' lA, k ys p acc H' w' (e1.trans ⟨I.keep, I.there, fun _ => I.r.inv, fun _ a u => I.r.al a (.inl u), fun _ => I.r.sz⟩) (e1.fresh hp) ha (dacc.mono (fun a o h _ => h) fun a o h u => ?_)⟩
    rcases u with (u | u) | rfl
    · exact .inl (.inl u)
    · exact .inr u
    · exact .inl (.inr rfl)
end
end Py
/-! PyS: statements. -/
namespace Py
open PySem L2 StX

inductive Out where
  | nx (ρ : Env) | rt (d : D) | bk (ρ : Env) | ct (ρ : Env)

/-- what stands behind the code -/
structure Fin (c : Fx) (H : Hp) : Prop where
  keep : ∀ a o, c.H0 a = some o → ¬ c.A a → H a = some o
  there : ∀ a o, c.H0 a = some o → ∃ o', H a = some o'
  inv : c.J H
  al : Loose H c.U0
  sz : Sz H
section
variable {s : Sx} {Γ Γ' Γl : List Md}
theorem R.fin {c : Fx} {ρ : Env} {ps : List Addr} {σ : St} {H : Hp} (r : R c Γ ρ ps σ H) : Fin c H := ⟨r.keep, r.there, r.inv, r.al, r.sz⟩
structure Ek (c : Fx) (Γl Γ' : List Md) (P : Out → Prop) (E : Ends) : Prop where
  nx : ∀ ρ ps σ H, P (.nx ρ) → R c Γ' ρ ps σ H → E.nx σ H
  rt : ∀ d v H, P (.rt d) → Fin c H → Den H c.U0 v d → E.rt v H
  bk : ∀ ρ ps σ H, P (.bk ρ) → R c Γl ρ ps σ H → E.bk σ H
  ct : ∀ ρ ps σ H, P (.ct ρ) → R c Γl ρ ps σ H → E.ct σ H
def SemS (s : Sx) (Γl Γ Γ' : List Md) (t : TS) (f : Env → M Out) : Prop := ∀ c ρ ps σ H E P, c.s = s → R c Γ ρ ps σ H → f ρ P → Ek c Γl Γ' P E → t E σ H

/-! ### slots stored -/
theorem Slots.put {c : Fx} {H : Hp} {U : AS} {ρ : Env} {σ : St} {ps : List Addr} {m : Md} {d : Option D} {o : Option V} {qs : List Addr} (n : SlotR c H U m d o qs) (h : Slots c H U Γ ρ σ ps) (nd : ps.Nodup) (nq : qs.Nodup) (dj : ∀ a ∈ qs, a ∉ ps) :
    ∀ {i : Nat}, i < Γ.length → ∃ ps', Slots c H U (Γ.set i m) (ρ.set i d) (σ.set i o) ps' ∧ ps'.Nodup ∧ (∀ a ∈ ps', a ∈ ps ∨ a ∈ qs) := by
  induction h with
  | nil => intro i hi; exact absurd hi (by simp)
  | @cons m1 d1 o1 p1 q1 Γ1 ρ1 σ1 h1 h2 ih =>
    intro i hi
    have nd' := List.nodup_append.mp nd
    cases i with
    | zero =>
      refine ⟨qs ++ q1, .cons n h2, List.nodup_append.mpr ⟨nq, nd'.2.1, fun a ha b hb e => dj a ha (List.mem_append_right _ (e ▸ hb))⟩, fun a ha => ?_⟩
      rcases List.mem_append.mp ha with ha | ha
      · exact .inr ha
      · exact .inl (List.mem_append_right _ ha)
    | succ i =>
      obtain ⟨ps', s', n', m'⟩ := ih nd'.2.1 (fun a ha z => dj a ha (List.mem_append_right _ z)) (i := i) (by simpa using hi)
      refine ⟨p1 ++ ps', .cons h1 s', List.nodup_append.mpr ⟨nd'.1, n', fun a ha b hb e => ?_⟩, fun a ha => ?_⟩
      · subst e
        rcases m' a hb with z | z
        · exact nd'.2.2 a ha a z rfl
        · exact dj a z (List.mem_append_left _ ha)
      · rcases List.mem_append.mp ha with ha | ha
        · exact .inl (List.mem_append_left _ ha)
        · rcases m' a ha with z | z
          · exact .inl (List.mem_append_right _ z)
          · exact .inr z
/-- fewer own places -/
theorem R.ofSlots {c : Fx} {ρ ρ' : Env} {ps ps' qs : List Addr} {σ σ' : St} {H : Hp} {Γ' : List Md} (r : R c Γ ρ ps σ H) (sl : Slots c H (fun a => c.U ps a ∨ a ∈ qs) Γ' ρ' σ' ps') (nd : ps'.Nodup) (sub : ∀ a ∈ ps', a ∈ ps ∨ a ∈ qs) (nq : ∀ a ∈ qs, c.H0 a = none ∧ ¬ c.U0 a) :
    R c Γ' ρ' ps' σ' H :=
  { ok := r.ok, keep := r.keep, there := r.there, inv := r.inv, al := r.al, sz := r.sz, nd := nd
    sl := sl.mono (fun _ _ _ q => q) (fun _ _ q _ => q) fun a o q u => by
      rcases u with u | u
      · exact .inl (.inl u)
      · rcases sub a u with z | z
        · exact .inl (.inr z)
        · exact .inr z
    own := fun a ha => (sub a ha).elim (r.own a) (nq a) }
/-- a slot gets a datum: any mode behind -/
theorem R.put {c : Fx} {ρ : Env} {ps : List Addr} {σ : St} {H : Hp} (r : R c Γ ρ ps σ H) {i : Nat} {v : V} {d : D} (hi : i < Γ.length) (dn : Den H (c.U ps) v d) : ∃ ps', R c (Γ.set i .fro) (ρ.set i (some d)) ps' (σ.set i (some v)) H := by
  obtain ⟨ps', h1, h2, h3⟩ := r.sl.put (SlotR.fro dn) r.nd List.nodup_nil (fun a ha => absurd ha (by simp)) hi
  exact ⟨ps', r.ofSlots (qs := []) (h1.mono (fun _ _ _ q => q) (fun _ _ q _ => q) fun a o q u => u.elim id fun z => absurd z (by simp)) h2 h3 fun a ha => absurd ha (by simp)⟩
theorem R.forget {c : Fx} {ρ : Env} {ps : List Addr} {σ : St} {H : Hp} (r : R c Γ ρ ps σ H) {i : Nat} {m : Md} {o : Option V} (hi : i < Γ.length) : ∃ ps', R c (Γ.set i m) (ρ.set i none) ps' (σ.set i o) H := by
  obtain ⟨ps', h1, h2, h3⟩ := r.sl.put (SlotR.no (m := m) (o := o)) r.nd List.nodup_nil (fun a ha => absurd ha (by simp)) hi
  exact ⟨ps', r.ofSlots (qs := []) (h1.mono (fun _ _ _ q => q) (fun _ _ q _ => q) fun a o q u => u.elim id fun z => absurd z (by simp)) h2 h3 fun a ha => absurd ha (by simp)⟩
/-- a slot gets a new list as its own -/
theorem R.putOwn {c : Fx} {ρ : Env} {ps : List Addr} {σ : St} {H H' : Hp} (r : R c Γ ρ ps σ H) (e : Stp c H H') {i : Nat} {p : Addr} {vs : List V} {ds : List D} (hi : i < Γ.length) (hn : H p = none) (hp : H' p = some (.lst vs))
    (dn : DenL H' (fun a => c.U ps a ∨ a = p) vs ds) : ∃ ps', R c (Γ.set i .own) (ρ.set i (some (.list ds))) ps' (σ.set i (some (.ref p))) H' := by
  have r' := r.stp e
  have nU := r.new hn
  have sl' : Slots c H' (fun a => c.U ps a ∨ a ∈ [p]) Γ ρ σ ps := r.sl.mono (fun a ha o q => e.keep a o q (r.ownA ha)) (fun a o q n => e.keep a o q (r.nA n)) fun a o q u => u.elim id fun z => by
    rw [List.mem_singleton.mp z, hn] at q; cases q
  have dn' : DenL H' (fun a => c.U ps a ∨ a ∈ [p]) vs ds := dn.mono (fun _ _ q _ => q) fun a o q u => u.imp id fun z => List.mem_singleton.mp z
  obtain ⟨ps', h1, h2, h3⟩ := sl'.put (SlotR.own hp dn') r.nd (by simp) (fun a ha z => nU (.inr (by rw [List.mem_singleton.mp ha] at z; exact z))) hi
  exact ⟨ps', r'.ofSlots (qs := [p]) h1 h2 h3 fun a ha => by
    rw [List.mem_singleton.mp ha]
    exact ⟨r.fresh0 hn, r.nU0 hn⟩⟩

/-! ### blocks -/
def oThen (o : Out) (k : Env → M Out) : M Out := match o with
  | .nx ρ => k ρ
  | o => ret o
def sSeq (f g : Env → M Out) : Env → M Out := fun ρ => bnd (f ρ) fun o => oThen o g
def sNx : Env → M Out := fun ρ => ret (.nx ρ)
theorem sem_nx : SemS s Γl Γ Γ tNext sNx := fun c ρ ps σ H E P hc r q k => k.nx ρ ps σ H q r
theorem sem_seq {t u : TS} {f g : Env → M Out} {Γ1 : List Md} (h : SemS s Γl Γ Γ1 t f) (h' : SemS s Γl Γ1 Γ' u g) : SemS s Γl Γ Γ' (tSeq t u) (sSeq f g) := by
  intro c ρ ps σ H E P hc r q k
  refine h c ρ ps σ H _ _ hc r q ⟨fun ρ' ps' σ' H' p r' => ?_, fun d v H' p fi dn => k.rt d v H' p fi dn, fun ρ' ps' σ' H' p r' => k.bk ρ' ps' σ' H' p r', fun ρ' ps' σ' H' p r' => k.ct ρ' ps' σ' H' p r'⟩
  exact h' c ρ' ps' σ' H' _ _ hc r' p k
def sAsg (i : Nat) (e : Env → M D) : Env → M Out := fun ρ => bnd (e ρ) fun d => ret (.nx (ρ.set i (some d)))
theorem sem_asg {i : Nat} {t : TE} {e : Env → M D} (h : SemE s Γ t e) (hi : i < Γ.length) : SemS s Γl Γ (Γ.set i .fro) (tAsg t (gName i)) (sAsg i e) := by
  intro c ρ ps σ H E P hc r q k
  refine h c ρ ps σ H _ _ hc r q fun d v H1 q1 e1 dn => ?_
  obtain ⟨ps', r'⟩ := (r.stp e1).put hi dn
  exact k.nx _ ps' _ H1 q1 r'
def sOwn (i : Nat) (e : Env → M (List D)) : Env → M Out := fun ρ => bnd (e ρ) fun ds => ret (.nx (ρ.set i (some (.list ds))))
theorem sem_asgOwn {i : Nat} {t : TE} {e : Env → M (List D)} (h : SemL s Γ t e) (hi : i < Γ.length) : SemS s Γl Γ (Γ.set i .own) (tAsg t (gName i)) (sOwn i e) := by
  intro c ρ ps σ H E P hc r q k
  refine h c ρ ps σ H _ _ hc r q fun ds p vs H1 q1 e1 hn hp dn => ?_
  obtain ⟨ps', r'⟩ := r.putOwn e1 hi hn hp dn
  exact k.nx _ ps' _ H1 q1 r'
/-- a target of names: all data -/
def sTgt (e : Env → M D) (g : D → Env → M Env) : Env → M Out := fun ρ => bnd (e ρ) fun d => bnd (g d ρ) fun ρ' => ret (.nx ρ')
theorem sem_tgt {t : TE} {g : TG} {ts : List Nat} {e : Env → M D} {tg : D → Env → M Env} (h : SemE s Γ t e) (hg : SemG s Γ g ts tg) : SemS s Γl Γ Γ (tAsg t g) (sTgt e tg) := by
  intro c ρ ps σ H E P hc r q k
  refine h c ρ ps σ H _ _ hc r q fun d v H1 q1 e1 dn => ?_
  exact hg c ρ ps σ H1 d v _ _ hc (r.stp e1) dn q1 fun ρ' σ' p r' _ _ => k.nx ρ' ps σ' H1 p r'
/-- a, b = x, y (two names) -/
def sPar (i j : Nat) (f : Env → M (List D)) : Env → M Out := fun ρ => bnd (f ρ) fun l => match l with
  | [x, y] => ret (.nx ((ρ.set i (some x)).set j (some y)))
  | _ => stuck
theorem sem_par {i j : Nat} {t : TA} {f : Env → M (List D)} (h : SemA s Γ t f) (hi : Γ[i]? = some .fro) (hj : Γ[j]? = some .fro) : SemS s Γl Γ Γ (tPar i j t) (sPar i j f) := by
  intro c ρ ps σ H E P hc r q k
  refine h c ρ ps σ H _ _ hc r q fun ds vs H1 q1 e1 dn => ?_
  dsimp only at q1
  split at q1
  · cases dn with
    | cons d1 dr =>
      cases dr with
      | cons d2 dr =>
        cases dr
        exact ⟨_, _, rfl, k.nx _ ps _ H1 q1 (((r.stp e1).setFro d1 hi).setFro d2 hj)⟩
  · cases q1
def sPar3 (i j l : Nat) (f : Env → M (List D)) : Env → M Out := fun ρ => bnd (f ρ) fun w => match w with
  | [x, y, z] => ret (.nx (((ρ.set i (some x)).set j (some y)).set l (some z)))
  | _ => stuck
theorem sem_par3 {i j l : Nat} {t : TA} {f : Env → M (List D)} (h : SemA s Γ t f) (hi : Γ[i]? = some .fro) (hj : Γ[j]? = some .fro) (hl : Γ[l]? = some .fro) : SemS s Γl Γ Γ (tPar3 i j l t) (sPar3 i j l f) := by
  intro c ρ ps σ H E P hc r q k
  refine h c ρ ps σ H _ _ hc r q fun ds vs H1 q1 e1 dn => ?_
  dsimp only at q1
  split at q1
  · cases dn with
    | cons d1 dr =>
      cases dr with
      | cons d2 dr =>
        cases dr with
        | cons d3 dr =>
          cases dr
          exact ⟨_, _, _, rfl, k.nx _ ps _ H1 q1 ((((r.stp e1).setFro d1 hi).setFro d2 hj).setFro d3 hl)⟩
  · cases q1
def sRet (e : Env → M D) : Env → M Out := fun ρ => bnd (e ρ) fun d => ret (.rt d)
theorem sem_ret {t : TE} {e : Env → M D} (h : SemE s Γ t e) : SemS s Γl Γ Γ' (tRet t) (sRet e) := by
  intro c ρ ps σ H E P hc r q k
  refine h c ρ ps σ H _ _ hc r q fun d v H1 q1 e1 dn => ?_
  exact k.rt d v H1 q1 (r.stp e1).fin (dn.mono (fun _ _ z _ => z) fun a o z u => .inl u)
def sRetN : Env → M Out := fun _ => ret (.rt .none)
theorem sem_retN : SemS s Γl Γ Γ' tRetN sRetN := fun c ρ ps σ H E P hc r q k => k.rt _ _ H q r.fin .non
def sIf (g : Env → M Bool) (f f' : Env → M Out) : Env → M Out := fun ρ => bnd (g ρ) fun b => if b = true then f ρ else f' ρ
theorem sem_if {t : TT} {u w : TS} {g : Env → M Bool} {f f' : Env → M Out} (hg : SemT s Γ t g) (h : SemS s Γl Γ Γ' u f) (h' : SemS s Γl Γ Γ' w f') : SemS s Γl Γ Γ' (tIfS t u w) (sIf g f f') := by
  intro c ρ ps σ H E P hc r q k
  refine hg c ρ ps σ H _ _ hc r q fun b H1 q1 e1 => ?_
  dsimp only at q1
  cases b with
  | true =>
    rw [if_pos rfl] at q1
    exact iteT (h c ρ ps σ H1 _ _ hc (r.stp e1) q1 k)
  | false =>
    rw [if_neg Bool.false_ne_true] at q1
    exact iteF (h' c ρ ps σ H1 _ _ hc (r.stp e1) q1 k)
def sNever : Env → M Out := fun _ => stuck
theorem sem_never : SemS s Γl Γ Γ' tNever sNever := fun c ρ ps σ H E P hc r q k => False.elim q
def sBk : Env → M Out := fun ρ => ret (.bk ρ)
def sCt : Env → M Out := fun ρ => ret (.ct ρ)
theorem sem_bk : SemS s Γ Γ Γ' tBreak sBk := fun c ρ ps σ H E P hc r q k => k.bk ρ ps σ H q r
theorem sem_ct : SemS s Γ Γ Γ' tCont sCt := fun c ρ ps σ H E P hc r q k => k.ct ρ ps σ H q r

/-! ### own lists -/
theorem Slots.upd1 {c : Fx} {H H' : Hp} {U : AS} {ρ : Env} {σ : St} {ps : List Addr} {p : Addr} {vs : List V} {ds : List D} (h : Slots c H U Γ ρ σ ps) (nd : ps.Nodup) (same : ∀ a o, a ≠ p → H a = some o → H' a = some o) (hU : U p) (hp : H' p = some (.lst vs)) (dn : DenL H' U vs ds) :
    ∀ {i : Nat} {es : List D}, Γ[i]? = some .own → ρ[i]? = some (some (.list es)) → σ[i]? = some (some (.ref p)) → Slots c H' U Γ (ρ.set i (some (.list ds))) σ ps := by
  have e : ∀ a o, H a = some o → ¬ U a → H' a = some o := fun a o q n => same a o (fun z => n (by rw [z]; exact hU)) q
  induction h with
  | nil => intro i es h; simp at h
  | @cons m1 d1 o1 p1 q1 Γ1 ρ1 σ1 h1 h2 ih =>
    intro i es hm hd ho
    have nd' := List.nodup_append.mp nd
    cases i with
    | zero =>
      simp at hm hd ho
      subst hm hd ho
      cases h1 with
      | own a1 a2 =>
        refine .cons (.own hp dn) (h2.mono (fun a ha o q => same a o (fun z => ?_) q) e fun _ _ _ q => q)
        rw [z] at ha
        exact nd'.2.2 p (by simp) p ha rfl
    | succ i =>
      have hm' : Γ1[i]? = some .own := by simpa using hm
      have hd' : ρ1[i]? = some (some (.list es)) := by simpa using hd
      have ho' : σ1[i]? = some (some (.ref p)) := by simpa using ho
      obtain ⟨o, qs, e1, e2, e3⟩ := h2.get hm' hd'
      rw [ho'] at e1
      cases e1
      cases e2 with
      | own a1 a2 =>
        have hpq : p ∈ q1 := e3 p (by simp)
        refine .cons (h1.mono (fun a ha o q => same a o (fun z => ?_) q) e fun _ _ _ q => q) (ih nd'.2.1 hm' hd' ho')
        rw [z] at ha
        exact nd'.2.2 p ha p hpq rfl
/-- the own list in slot i becomes another one -/
theorem R.updOwn {c : Fx} {ρ : Env} {ps : List Addr} {σ : St} {H : Hp} (r : R c Γ ρ ps σ H) {i : Nat} {p : Addr} {xs vs : List V} {es ds : List D} (hm : Γ[i]? = some .own) (hd : ρ[i]? = some (some (.list es))) (ho : σ[i]? = some (some (.ref p)))
    (hp : p ∈ ps) (h : H p = some (.lst xs)) (hz : vs.length ≤ sizeLine) (dn : DenL H (c.U ps) vs ds) : R c Γ (ρ.set i (some (.list ds))) ps σ (upd H p (.lst vs)) where
  ok := r.ok
  keep := fun a o q n => by rw [upd_ne (ne_of_none q (r.own p hp).1)]; exact r.keep a o q n
  there := fun a o q => by rw [upd_ne (ne_of_none q (r.own p hp).1)]; exact r.there a o q
  inv := r.ok.st H _ r.inv fun a o u q => by rw [upd_offm (S := c.A) (r.ownA hp) u]; exact q
  al := fun a u => by rw [upd_offm (S := c.U0) (r.own p hp).2 u]; exact r.al a u
  sz := r.sz.upd fun zs q => by rcases q with q | q <;> cases q; exact hz
  sl := r.sl.upd1 r.nd (fun a o n q => by rw [upd_ne n]; exact q) (.inr hp) upd_same (dn.mono (fun a o q n => by rw [upd_off (S := c.U ps) (.inr hp) n]; exact q) fun _ _ _ q => q) hm hd ho
  nd := r.nd
  own := r.own
theorem R.ownAt {c : Fx} {ρ : Env} {ps : List Addr} {σ : St} {H : Hp} (r : R c Γ ρ ps σ H) {i : Nat} {d : D} (hm : Γ[i]? = some .own) (hd : ρ[i]? = some (some d)) : ∃ p xs ds, σ[i]? = some (some (.ref p)) ∧ d = .list ds ∧ p ∈ ps ∧ H p = some (.lst xs) ∧ DenL H (c.U ps) xs ds := by
  obtain ⟨o, qs, e1, e2, e3⟩ := r.sl.get hm hd
  cases e2 with
  | own a1 a2 => exact ⟨_, _, _, e1, rfl, e3 _ (by simp), a1, a2⟩
/-- i.append(e) -/
def sApp (i : Nat) (e : Env → M D) : Env → M Out := fun ρ => bnd (eVar i ρ) fun l => bnd (e ρ) fun d => match l with
  | .list ds => if lenOk (ds.length + 1) = true then ret (.nx (ρ.set i (some (.list (ds ++ [d]))))) else stuck
  | _ => stuck
theorem sem_app {K : PySem.W.Frag} {i : Nat} {t : TE} {e : Env → M D} (hm : Γ[i]? = some .own) (h : SemE s Γ t e) : SemS s Γl Γ Γ (tDrop (tBM K "list" rAppend (tVar i) (tCons t tNil))) (sApp i e) := by
  intro c ρ ps σ H E P hc r q k
  obtain ⟨l, hl, q⟩ := eVar_get q
  obtain ⟨p, xs, ds, ho, rfl, hp, h1, dn⟩ := r.ownAt hm hl
  refine ⟨_, ho, Or.inl ⟨rfl, _, SqL.of h1⟩, ?_⟩
  refine h c ρ ps σ H _ _ hc r q fun d v H1 q1 e1 d1 => ?_
  have q1 : (if lenOk (ds.length + 1) = true then ret (.nx (ρ.set i (some (.list (ds ++ [d]))))) else stuck) P := q1
  · split at q1
    · rename_i hz
      have hz' := lenOk_sz hz
      have r1 := r.stp e1
      have h1' : H1 p = some (.lst xs) := e1.keep _ _ h1 (r.ownA hp)
      have lz : xs.length < sizeLine := by rw [dn.length]; exact hz'
      refine ⟨p, xs, v, rfl, rfl, h1', lz, k.nx _ ps σ _ q1 (r1.updOwn hm hl ho hp h1' (by rw [List.length_append]; exact lz) ((dn.stp r.ok e1).append (.cons d1 .nil)))⟩
    · exact False.elim q1
/-- i[j] = e -/
def sSetI (i : Nat) (j e : Env → M D) : Env → M Out := fun ρ => bnd (e ρ) fun d => bnd (eVar i ρ) fun l => bnd (j ρ) fun x => match l, x with
  | .list ds, .int n => match ixN ds.length n with | some m => ret (.nx (ρ.set i (some (.list (ds.set m d))))) | none => stuck
  | _, _ => stuck
theorem sem_setI {i : Nat} {t u : TE} {e j : Env → M D} (hm : Γ[i]? = some .own) (h : SemE s Γ t e) (hj : SemV s Γ u j) : SemS s Γl Γ Γ (tAsg t (L2.gSub (tVar i) u rSetL)) (sSetI i j e) := by
  intro c ρ ps σ H E P hc r q k
  refine h c ρ ps σ H _ _ hc r q fun d v H1 q1 e1 d1 => ?_
  have r1 := r.stp e1
  obtain ⟨l, hl, q1⟩ := eVar_get q1
  obtain ⟨p, xs, ds, ho, rfl, hp, h1, dn⟩ := r1.ownAt hm hl
  refine ⟨_, ho, ?_⟩
  refine hj c ρ ps σ H1 _ _ hc r1 q1 fun x w H2 q2 e2 d2 => ?_
  have r2 := r1.stp e2
  cases x with
  | int n =>
    have q2 : (match ixN ds.length n with | some m => ret (Out.nx (ρ.set i (some (.list (ds.set m d))))) | none => (stuck : M Out)) P := q2
    cases z : ixN ds.length n with
    | none => rw [z] at q2; exact False.elim q2
    | some m =>
      rw [z] at q2
      have h2' : H2 p = some (.lst xs) := e2.keep _ _ h1 (r.ownA hp)
      have dn2 := dn.stp r.ok e2
      refine ⟨p, xs, n, m, rfl, d2.int, h2', by rw [dn.length]; exact z, k.nx _ ps σ _ q2 (r2.updOwn hm hl ho hp h2' (by rw [List.length_set]; exact r2.sz p xs (.inl h2')) (DenL.set (d1.stp r.ok e2) m dn2))⟩
  | _ => exact False.elim q2
/-- j = i, i own and not asked again: handed on as a datum -/
def sMove (j i : Nat) : Env → M Out := fun ρ => bnd (eVar i ρ) fun d => ret (.nx ((ρ.set i none).set j (some d)))
theorem R.frozen {c : Fx} {ρ : Env} {ps : List Addr} {σ : St} {H : Hp} (r : R c Γ ρ ps σ H) {i : Nat} {d : D} {p : Addr} (hm : Γ[i]? = some .own) (hd : ρ[i]? = some (some d)) (ho : σ[i]? = some (some (.ref p))) :
    ∃ ps', R c Γ (ρ.set i none) ps' σ H ∧ Den H (c.U ps') (.ref p) d ∧ ∀ a ∈ ps', a ∈ ps := by
  have key : ∀ {Γ : List Md} {ρ : Env} {σ : St} {ps : List Addr} {U : AS}, Slots c H U Γ ρ σ ps → ps.Nodup → ∀ {i : Nat}, Γ[i]? = some .own → ρ[i]? = some (some d) → σ[i]? = some (some (.ref p)) →
      ∃ ps', Slots c H U Γ (ρ.set i none) σ ps' ∧ ps'.Nodup ∧ (∀ a ∈ ps', a ∈ ps) ∧ p ∉ ps' ∧ ∃ vs ds, d = .list ds ∧ H p = some (.lst vs) ∧ DenL H U vs ds := by
    intro Γ ρ σ ps U h
    induction h with
    | nil => intro _ i hm; simp at hm
    | @cons m1 d1 o1 p1 q1 Γ1 ρ1 σ1 h1 h2 ih =>
      intro nd i hm hd ho
      have nd' := List.nodup_append.mp nd
      cases i with
      | zero =>
        simp at hm hd ho
        subst hm hd ho
        cases h1 with
        | own a1 a2 =>
          refine ⟨[] ++ q1, .cons .no h2, nd'.2.1, fun a ha => List.mem_append_right _ ha, fun z => nd'.2.2 p (by simp) p z rfl, _, _, rfl, a1, a2⟩
      | succ i =>
        obtain ⟨ps', s1, s2, s3, s4, s5⟩ := ih nd'.2.1 (i := i) (by simpa using hm) (by simpa using hd) (by simpa using ho)
        have hp : p ∈ q1 := by
          obtain ⟨o, qs, e1, e2, e3⟩ := h2.get (i := i) (by simpa using hm) (by simpa using hd)
          have ho' : σ1[i]? = some (some (.ref p)) := by simpa using ho
          rw [ho'] at e1; cases e1
          cases e2 with
          | own a1 a2 => exact e3 p (by simp)
        refine ⟨p1 ++ ps', .cons h1 s1, List.nodup_append.mpr ⟨nd'.1, s2, fun a ha b hb e => nd'.2.2 a ha b (s3 b hb) e⟩, fun a ha => ?_, fun z => ?_, s5⟩
        · rcases List.mem_append.mp ha with ha | ha
          · exact List.mem_append_left _ ha
          · exact List.mem_append_right _ (s3 a ha)
        · rcases List.mem_append.mp z with z | z
          · exact nd'.2.2 p z p hp rfl
          · exact s4 z
  obtain ⟨ps', h1, h2, h3, h4, vs, ds, rfl, h5, h6⟩ := key r.sl r.nd hm hd ho
  have mon : ∀ a o, H a = some o → c.U ps' a → c.U ps a := fun a o _ u => u.imp id (h3 a)
  have hp : p ∈ ps := by
    obtain ⟨q, xs, es, e1, e2, e3, _⟩ := r.ownAt hm hd
    rw [ho] at e1; cases e1
    exact e3
  refine ⟨ps', r.ofSlots (qs := []) (h1.mono (fun _ _ _ q => q) (fun _ _ q _ => q) fun a o q u => u.elim id fun z => absurd z (by simp)) h2 (fun a ha => .inl (h3 a ha)) fun a ha => absurd ha (by simp),
    .lst h5 (fun u => u.elim (r.own p hp).2 h4) (h6.mono (fun _ _ q _ => q) mon), h3⟩
theorem sem_move {i j : Nat} (hm : Γ[i]? = some .own) (hj : Γ[j]? = some .fro) : SemS s Γl Γ Γ (tAsg (tVar i) (gName j)) (sMove j i) := by
  intro c ρ ps σ H E P hc r q k
  obtain ⟨l, hl, q⟩ := eVar_get q
  obtain ⟨p, xs, ds, ho, e0, hp, h1, dn⟩ := r.ownAt hm hl
  obtain ⟨ps', r', d', _⟩ := r.frozen hm hl ho
  exact ⟨_, ho, k.nx _ ps' _ H q (r'.setFro d' hj)⟩
/-- return of an own list -/
def sRetOwn (i : Nat) : Env → M Out := fun ρ => bnd (eVar i ρ) fun d => ret (.rt d)
theorem sem_retOwn {i : Nat} (hm : Γ[i]? = some .own) : SemS s Γl Γ Γ' (tRet (tVar i)) (sRetOwn i) := by
  intro c ρ ps σ H E P hc r q k
  obtain ⟨l, hl, q⟩ := eVar_get q
  obtain ⟨p, xs, ds, ho, e0, hp, h1, dn⟩ := r.ownAt hm hl
  obtain ⟨ps', r', d', _⟩ := r.frozen hm hl ho
  exact ⟨_, ho, k.rt _ _ H q r.fin (d'.mono (fun _ _ z _ => z) fun a o z u => .inl u)⟩
/-- from here on the own list in slot i is a datum: a step without a text of its own -/
def sFrz (f : Env → M Out) : Env → M Out := f
theorem R.toFro {c : Fx} {ρ : Env} {ps : List Addr} {σ : St} {H : Hp} (r : R c Γ ρ ps σ H) {i : Nat} (hm : Γ[i]? = some .own) : ∃ ps', R c (Γ.set i .fro) ρ ps' σ H := by
  have hi : i < Γ.length := (List.getElem?_eq_some_iff.mp hm).1
  have hl := r.sl.len
  cases hd : ρ[i]? with
  | none => rw [List.getElem?_eq_none_iff] at hd; omega
  | some od =>
    cases od with
    | none =>
      have hs : i < σ.length := by omega
      obtain ⟨ps', r'⟩ := r.forget (i := i) (m := .fro) (o := σ[i]) hi
      have e1 : ρ.set i none = ρ := by
        apply List.ext_getElem?
        intro j
        by_cases e : i = j
        · subst e; rw [List.getElem?_set_self (by omega), hd]
        · rw [List.getElem?_set_ne e]
      rw [e1, List.set_getElem_self] at r'
      exact ⟨ps', r'⟩
    | some d =>
      obtain ⟨p, xs, ds, ho, e0, hp, h1, dn⟩ := r.ownAt hm hd
      obtain ⟨ps', r', d', sub⟩ := r.frozen hm hd ho
      obtain ⟨ps2, r2⟩ := r'.put hi d'
      have e1 : (ρ.set i none).set i (some d) = ρ := by
        rw [List.set_set]
        apply List.ext_getElem?
        intro j
        by_cases e : i = j
        · subst e; rw [List.getElem?_set_self (by omega), hd]
        · rw [List.getElem?_set_ne e]
      have e2 : σ.set i (some (.ref p)) = σ := by
        apply List.ext_getElem?
        intro j
        by_cases e : i = j
        · subst e; rw [List.getElem?_set_self (by omega), ho]
        · rw [List.getElem?_set_ne e]
      rw [e1, e2] at r2
      exact ⟨ps2, r2⟩
theorem sem_frz {i : Nat} {t : TS} {f : Env → M Out} (hm : Γ[i]? = some .own) (h : SemS s Γl (Γ.set i .fro) Γ' t f) : SemS s Γl Γ Γ' t (sFrz f) := by
  intro c ρ ps σ H E P hc r q k
  obtain ⟨ps', r'⟩ := r.toFro hm
  exact h c ρ ps' σ H E P hc r' q k
/-- .. at an end: the slot is forgotten, its mode free -/
theorem sem_end {i : Nat} {m : Md} {t : TS} {f : Env → M Out} (hi : i < Γ.length) (h : SemS s Γl (Γ.set i m) Γ' t f) (hf : ∀ ρ, f ρ = f (ρ.set i none)) : SemS s Γl Γ Γ' t f := by
  intro c ρ ps σ H E P hc r q k
  rw [hf] at q
  have hs : i < σ.length := by have := r.sl.len; omega
  obtain ⟨ps', r'⟩ := r.forget (i := i) (m := m) (o := σ[i]) hi
  rw [List.set_getElem_self] at r'
  exact h c _ ps' σ H E P hc r' q k
end
end Py
/-! PyL: loops. -/
namespace Py
open PySem L2 StX
section
variable {s : Sx} {Γ Γ' Γl : List Md}
/-- the same def, seen from a later place: what stands there is kept too -/
def Fx.at (c : Fx) (ps : List Addr) (H : Hp) : Fx := { c with H0 := fun a => if a ∈ ps then none else H a }
theorem Fx.at_none {c : Fx} {ps : List Addr} {H : Hp} {a : Addr} (h : (c.at ps H).H0 a = none) : a ∈ ps ∨ H a = none := by
  have h' : (if a ∈ ps then none else H a) = none := h
  by_cases q : a ∈ ps
  · exact .inl q
  · rw [if_neg q] at h'; exact .inr h'
theorem Fx.at_some {c : Fx} {ps : List Addr} {H : Hp} {a : Addr} {o : HO} (n : a ∉ ps) (h : H a = some o) : (c.at ps H).H0 a = some o := by
  show (if a ∈ ps then none else H a) = some o
  rw [if_neg n]; exact h
theorem R.enter {c : Fx} {ρ : Env} {ps : List Addr} {σ : St} {H : Hp} (r : R c Γ ρ ps σ H) : R (c.at ps H) Γ ρ ps σ H where
  ok := ⟨r.ok.sub, r.ok.st⟩
  keep := fun a o h _ => by
    have h' : (if a ∈ ps then none else H a) = some o := h
    by_cases q : a ∈ ps
    · rw [if_pos q] at h'; cases h'
    · rw [if_neg q] at h'; exact h'
  there := fun a o h => by
    have h' : (if a ∈ ps then none else H a) = some o := h
    by_cases q : a ∈ ps
    · rw [if_pos q] at h'; cases h'
    · rw [if_neg q] at h'; exact ⟨o, h'⟩
  inv := r.inv
  al := r.al
  sz := r.sz
  sl := Slots.ofSrc (c := c) (c' := c.at ps H) rfl r.sl
  nd := r.nd
  own := fun p hp => ⟨if_pos hp, (r.own p hp).2⟩
theorem R.leave {c : Fx} {ρ ρ0 : Env} {ps ps0 : List Addr} {σ σ0 : St} {H H1 : Hp} {Γ0 : List Md} (r0 : R c Γ0 ρ0 ps0 σ0 H1) (r : R (c.at ps0 H1) Γ ρ ps σ H) : R c Γ ρ ps σ H where
  ok := r0.ok
  keep := fun a o h n => r.keep a o (Fx.at_some (fun z => by rw [(r0.own a z).1] at h; cases h) (r0.keep a o h n)) n
  there := fun a o h => let ⟨o1, h1⟩ := r0.there a o h; r.there a o1 (Fx.at_some (fun z => by rw [(r0.own a z).1] at h; cases h) h1)
  inv := r.inv
  al := r.al
  sz := r.sz
  sl := Slots.ofSrc (c := c.at ps0 H1) (c' := c) rfl r.sl
  nd := r.nd
  own := fun p hp => ⟨(Fx.at_none (r.own p hp).1).elim (fun z => (r0.own p z).1) fun z => r0.fresh0 z, (r.own p hp).2⟩
theorem Fin.leave {c : Fx} {ρ0 : Env} {ps0 : List Addr} {σ0 : St} {H H1 : Hp} {Γ0 : List Md} (r0 : R c Γ0 ρ0 ps0 σ0 H1) (r : Fin (c.at ps0 H1) H) : Fin c H :=
  ⟨fun a o h n => r.keep a o (Fx.at_some (fun z => by rw [(r0.own a z).1] at h; cases h) (r0.keep a o h n)) n,
   fun a o h => let ⟨o1, h1⟩ := r0.there a o h; r.there a o1 (Fx.at_some (fun z => by rw [(r0.own a z).1] at h; cases h) h1), r.inv, r.al, r.sz⟩

def oLoop (o : Out) (k : Env → M Out) : M Out := match o with
  | .nx ρ => k ρ
  | .ct ρ => k ρ
  | .bk ρ => ret (.nx ρ)
  | .rt d => ret (.rt d)
def forW (tg : D → Env → M Env) (body : Env → M Out) : List D → Env → M Out
  | [], ρ => ret (.nx ρ)
  | d :: ds, ρ => bnd (tg d ρ) fun ρ' => bnd (body ρ') fun o => oLoop o (forW tg body ds)
def sFor (its : Env → M (List D)) (tg : D → Env → M Env) (body : Env → M Out) : Env → M Out := fun ρ => bnd (its ρ) fun ds => forW tg body ds ρ
theorem sem_for {wi : TI} {g : TG} {tb : TS} {ts : List Nat} {its : Env → M (List D)} {tg : D → Env → M Env} {body : Env → M Out} (hi : SemI s Γ wi its) (hg : SemG s Γ g ts tg) (hb : SemS s Γ Γ Γ tb body) :
    SemS s Γl Γ Γ (tFor wi g tb) (sFor its tg body) := by
  intro c ρ ps σ H E P hc r q k
  refine hi c ρ ps σ H _ _ hc r q fun ds J H1 q1 e1 it => ?_
  have r1 := r.stp e1
  refine ⟨fun i m σ' H' => m = ds.length - i ∧ i ≤ ds.length ∧ ∃ ρ' ps', R (c.at ps H1) Γ ρ' ps' σ' H' ∧ forW tg body (ds.drop i) ρ' P, ⟨ds.length, by simp, Nat.zero_le _, ρ, ps, r1.enter, q1⟩, ?_⟩
  rintro i m σ' H' ⟨rfl, hle, ρ', ps', r', w⟩
  have lU : Later (c.U ps) H1 H' := fun a o h n => r'.keep a o (Fx.at_some (fun z => n (.inr z)) h) fun z => n (.inl (r1.ok.sub a z))
  by_cases hlt : i < ds.length
  · refine .inr ⟨it.go i H' lU hlt, fun σ2 H2 => ds.length - (i + 1) = ds.length - (i + 1) ∧ i + 1 ≤ ds.length ∧ ∃ ρ2 ps2, R (c.at ps H1) Γ ρ2 ps2 σ2 H2 ∧ forW tg body (ds.drop (i + 1)) ρ2 P, fun σ2 H2 h => ⟨ds.length - (i + 1), by omega, h⟩, fun x H'' y => ?_⟩
    have hd : ds[i]? = some ds[i] := by simp [hlt]
    obtain ⟨same, sz, den⟩ := it.yld i ds[i] H' x H'' lU lU hd y
    have r2 := r'.stp (Stp.same r'.ok same sz)
    have dx : Den H'' ((c.at ps H1).U ps') x ds[i] := den _ (fun a o h u => by
      rcases u with u | u
      · exact .inl u
      · rcases Fx.at_none (r'.own a u).1 with z | z
        · exact .inr z
        · rw [h] at z; cases z) fun a h => r'.new h
    rw [List.drop_eq_getElem_cons hlt] at w
    have hc' : (c.at ps H1).s = s := hc
    refine hg (c.at ps H1) ρ' ps' σ' H'' _ _ _ _ hc' r2 dx w fun ρ2 σ2 w2 r3 _ _ => ?_
    refine hb (c.at ps H1) ρ2 ps' σ2 H'' _ _ hc' r3 w2 ⟨fun ρ3 ps3 σ3 H3 p r4 => ?_, fun d v H3 p fi dn => ?_, fun ρ3 ps3 σ3 H3 p r4 => ?_, fun ρ3 ps3 σ3 H3 p r4 => ?_⟩
    · exact ⟨rfl, hlt, ρ3, ps3, r4, p⟩
    · exact k.rt d v H3 p (fi.leave r1) dn
    · exact k.nx ρ3 ps3 σ3 H3 p (r1.leave r4)
    · exact ⟨rfl, hlt, ρ3, ps3, r4, p⟩
  · have e : i = ds.length := by omega
    subst e
    rw [List.drop_length] at w
    exact .inl ⟨it.stop H' lU, k.nx ρ' ps' σ' H' w (r1.leave r')⟩
def whW (g : Env → M Bool) (body : Env → M Out) : Nat → Env → M Out
  | 0, _ => stuck
  | n + 1, ρ => bnd (g ρ) fun b => if b = true then bnd (body ρ) fun o => oLoop o (whW g body n) else ret (.nx ρ)
def sWhile (fuel : Env → Nat) (g : Env → M Bool) (body : Env → M Out) : Env → M Out := fun ρ => whW g body (fuel ρ) ρ
theorem sem_while {t : TT} {tb : TS} {fuel : Env → Nat} {g : Env → M Bool} {body : Env → M Out} (hg : SemT s Γ t g) (hb : SemS s Γ Γ Γ tb body) : SemS s Γl Γ Γ (tWhile t tb) (sWhile fuel g body) := by
  intro c ρ ps σ H E P hc r q k
  refine ⟨fun m σ' H' => ∃ ρ' ps', R c Γ ρ' ps' σ' H' ∧ whW g body m ρ' P, ⟨fuel ρ, ρ, ps, r, q⟩, ?_⟩
  rintro m σ' H' ⟨ρ', ps', r', w⟩
  cases m with
  | zero => exact False.elim w
  | succ m =>
    refine hg c ρ' ps' σ' H' _ _ hc r' w fun b H1 q1 e1 => ?_
    dsimp only at q1
    cases b with
    | true =>
      rw [if_pos rfl] at q1
      rw [if_pos rfl]
      refine ⟨fun σ2 H2 => ∃ ρ2 ps2, R c Γ ρ2 ps2 σ2 H2 ∧ whW g body m ρ2 P, fun σ2 H2 h => ⟨m, Nat.lt_succ_self m, h⟩, ?_⟩
      exact hb c ρ' ps' σ' H1 _ _ hc (r'.stp e1) q1 ⟨fun ρ3 ps3 σ3 H3 p r4 => ⟨ρ3, ps3, r4, p⟩, fun d v H3 p fi dn => k.rt d v H3 p fi dn, fun ρ3 ps3 σ3 H3 p r4 => k.nx ρ3 ps3 σ3 H3 p r4, fun ρ3 ps3 σ3 H3 p r4 => ⟨ρ3, ps3, r4, p⟩⟩
    | false =>
      rw [if_neg Bool.false_ne_true] at q1
      rw [if_neg Bool.false_ne_true]
      exact k.nx ρ' ps' σ' H1 q1 (r'.stp e1)
end
end Py
/-! PyF: defs and their calls (no repr under way: guards). -/
namespace Py
open PySem PySem.Spec PyProof.Rows L2 StX

section
variable {P : Program} {w : World} {K : PySem.W.Frag} {mg : Str → Option Value} {base : Heap}
structure FnG (P : Program) (w : World) (K : PySem.W.Frag) (mg : Str → Option Value) (base : Heap) (k : Nat) (f : Addr) (fd : FuncData) (ps : List Str) (sp : Sp) : Prop where
  len : ∀ vs H Q E, sp vs H Q E → vs.length = ps.length
  run : ∀ (A : Around) (outer : List PySem.Env) (s : Shared) (H : Hp) (args : Args) (us : List Value) (vs : List V) (Q : VK) (E : XK), A.guards = some [] → Room k A → Env0 P w K mg base A outer s H → BindsTo s fd args (ps.zip us) → Vals vs us → sp vs H Q E →
    codeAny (model P w) A (.call (.ref f) args) (CR CX0 outer P w H s Q E) s
theorem FnG.mono {j k : Nat} {f : Addr} {fd : FuncData} {ps : List Str} {sp : Sp} (F : FnG P w K mg base j f fd ps sp) (h : j ≤ k) : FnG P w K mg base k f fd ps sp :=
  ⟨F.len, fun A outer s H args us vs Q E hg hr => F.run A outer s H args us vs Q E hg (hr.mono h)⟩
theorem guards_deeper (A : Around) (env : PySem.Env) : (A.deeper env).guards = A.guards := rfl
theorem fn_g {k : Nat} {x qual : Str} {st : Stmt} {f : Addr} {fd : FuncData} {N ps : List Str} {sp : Sp} (F : Fun K x qual st f fd) (S : FnScope N ps (defScope st)) (len : ∀ vs H Q E, sp vs H Q E → vs.length = ps.length)
    (hbody : ∀ (cdv : Value) (A : Around) (outer : List PySem.Env) (s : Shared) (H : Hp) (vs : List V) (Q : VK) (E : XK), A.guards = some [] → Room k (A.deeper (envOfC qual (defScope st) s.heap.objs.size f cdv)) → sp vs H Q E →
      ∃ t, PSs (cxOf CX0 P w K mg base N qual (defScope st) f cdv A outer s H E).nox (defBody st) t ∧ t { nx := fun _ H' => Q .non H', rt := Q } (start N vs) H) : FnG P w K mg base (k + 1) f fd ps sp := by
  obtain ⟨oc, od, kV, doc, pm, an, cdv, ct, osl, rfl, lk, hcd⟩ := F.ex
  refine ⟨len, fun A outer s H args us vs Q E hgd hr e0 hb r hsp => ?_⟩
  have hl := len _ _ _ _ hsp
  have inK : K.In s.heap := e0.mod.kin.keeps fun b o e => (e0.bs b o e).1
  have noL : s.heap.NoLimit := e0.mod.nolimit.keeps fun b o e => (e0.bs b o e).1
  have kinds : ∀ y ∈ ps.zip us, (defScope st).names.lookup y.1 = some .local ∨ ((defScope st).names.lookup y.1 = some .cell ∧ ((cellsFrom (s.heap.objs.size + 1) (defScope st).names []).lookup y.1).isSome = true) := by
    rintro ⟨n, v⟩ hy
    rcases S.par n (List.of_mem_zip hy).1 with z | z
    · exact .inl z
    · exact .inr ⟨z, PySem.W.cellsFrom_some _ _ _ (.inl z)⟩
  refine codeAny_call_function hr.depth (inK _ _ lk) rfl S.co S.gen rfl (PySem.W.codeRec_of inK hcd) (hb _ _ _ _ ?_)
  refine wpAny_newFunctionEnv_cells S.kind kinds fun env he s1 xx => ?_
  subst he
  refine ⟨noL.keeps xx.toInCall.keep, codeAny_func ?_⟩
  obtain ⟨t, ht, hq⟩ := hbody cdv A outer s H vs Q E hgd (hr.deeper _) hsp
  have In := inv_start (CX := CX0) (E := E) S hr.hd e0 hl r xx
  refine wpAny_mono (ht.nox.run [] s1 (start N vs) H _ In hq) (fun fl s' hs => ?_) fun e s' hs => hs
  cases fl with
  | ret u =>
    obtain ⟨v, σ', H', J, rv, q⟩ := hs
    exact ⟨v, H', J.os, J.bare, J.base, J.hok, rv, q⟩
  | next =>
    obtain ⟨σ', H', J, q⟩ := hs
    exact ⟨V.non, H', J.os, J.bare, J.base, J.hok, rfl, q⟩
  | brk =>
    obtain ⟨_, _, _, q⟩ := hs
    exact False.elim q
  | cont =>
    obtain ⟨_, _, _, q⟩ := hs
    exact False.elim q
end

section
variable {X : Cx} {k : Nat} {f : Addr} {fd : FuncData} {ps : List Str} {sp : Sp} {x : Str} {p pos : Pos} {e : Expr} {es : List Expr} {t : TA}
theorem run_g {pins : List (Addr × Obj)} {σ : L2.St} {H : Hp} {s : Shared} {Q : VK} {us : List Value} {vs : List V} (F : FnG X.prog X.w X.K X.mg X.base k f fd ps sp) (hgd : X.A.guards = some []) (hr : Room k X.A) (hb : Binds X.K fd ps [])
    (In : Inv X pins σ H s) (r : Vals vs us) (h : sp vs H Q E0) : wpAny (model X.prog X.w) X.A (call (.ref f) us) (EP X pins σ Q) X.xe s := by
  have hl : (us ++ []).length = ps.length := by rw [List.append_nil, ← r.length]; exact F.len _ _ _ _ h
  have hb' := hb s us In.kIn hl
  rw [List.append_nil] at hb'
  refine wpAny_call (codeAny_mono (F.run X.A X.stack s H ⟨us, []⟩ us vs Q E0 hgd hr In.env0 hb' r h) fun rr s' hq => ?_)
  cases rr with
  | error e => exact False.elim hq
  | ok fl =>
    cases fl with
    | ret u => exact In.after hq
    | next => exact False.elim hq
    | brk => exact False.elim hq
    | cont => exact False.elim hq
def tCallG (sp : Sp) (t : TA) : TE := fun σ H Q => t σ H fun vs H1 => sp vs H1 Q E0
theorem pe_callG (F : FnG X.prog X.w X.K X.mg X.base k f fd ps sp) (hgd : X.A.guards = some []) (hr : Room k X.A) (hg : Gl X x) (hm : X.mg x = some (.ref f)) (hk : PySem.W.keepIn X.K (.ref f) = true) (hb : Binds X.K fd ps [])
    (ha : PA X (e :: es) t) (hdb : (x == ("__debug__" : Str)) = false := by decide) (he : starEach (e :: es) X.env = (false, eval e X.env) :: starEach es X.env := by rfl) (hpl : (backTo pos (starEach es X.env)).any (·.1) = false := by rfl) :
    PE X (.Call (.Name x p) (e :: es) [] pos) (tCallG sp t) := by
  refine ⟨fun pn st sg Hh Qq In hw => ?_⟩
  refine wpAny_Call_Name_kw (ld_glob In hg hm ?_ hdb)
  refine PySem.W.callWith_K (h₀ := X.base) In.ok.mod.kin hk (thn (ha.run pos pn st sg Hh _ In hw) fun us s1 ⟨vs, H1, I1, r, q⟩ => ⟨I1.kIn, ?_⟩) he hpl
  exact run_g F hgd hr hb I1 r q
end

/-! ### promises by functions of data -/
def pureS : Sx := ⟨fun _ => False, fun _ => True, 0⟩
structure SxOk (s : Sx) : Prop where
  st : ∀ H H', s.J H → (∀ a o, s.A a → H a = some o → H' a = some o) → s.J H'
theorem pureOk : SxOk pureS := ⟨fun _ _ _ _ => trivial⟩
def outD : Out → M D
  | .rt d => ret d
  | .nx _ => ret .none
  | _ => stuck
/-- the function of data that a body is: N places, the parameters first -/
def fnD (m : Nat) (f : Env → M Out) : List D → M D := fun ds => bnd (f (ds.map some ++ List.replicate m none)) outD
/-- what a call wants: the arguments' data, what may change (U) -/
structure Call (s : Sx) (F : List D → M D) (vs : List V) (H : Hp) (Q : VK) (ds : List D) (U : AS) (P : D → Prop) : Prop where
  den : DenL H U vs ds
  sub : ∀ a, s.A a → U a
  al : Loose H U
  sz : Sz H
  inv : s.J H
  run : F ds P
  out : ∀ d v H', P d → Stp ⟨s, U, H⟩ H H' → Den H' U v d → Q v H'
def spP (n : Nat) (F : List D → M D) : Sp := fun vs H Q _ => vs.length = n ∧ ∃ ds U P, Call pureS F vs H Q ds U P
/-- the first argument is the source -/
def spS (s : Sx) (n : Nat) (F : List D → M D) : Sp := fun vs H Q _ => vs.length = n + 1 ∧ ∃ ws, vs = .ref s.src :: ws ∧ ∃ ds U P, Call s F ws H Q ds U P
theorem slots_start {c : Fx} {H : Hp} {U : AS} {Γr : List Md} : ∀ {vs : List V} {ds : List D}, DenL H U vs ds → Slots c H U (List.replicate ds.length .fro ++ Γr) (ds.map some ++ List.replicate Γr.length none) (vs.map some ++ List.replicate Γr.length none) []
  | _, _, .nil => by
    show Slots c H U Γr (List.replicate Γr.length none) (List.replicate Γr.length none) []
    induction Γr with
    | nil => exact .nil
    | cons m Γr ih =>
      have := Slots.cons (SlotR.no (c := c) (H := H) (U := U) (m := m) (o := none)) ih
      exact this
  | _, _, .cons h t => by
    have := Slots.cons (SlotR.fro (c := c) h) (slots_start (c := c) (Γr := Γr) t)
    exact this
theorem U_nil {c : Fx} : ∀ a, c.U [] a → c.U0 a := fun a u => u.elim id fun z => absurd z (by simp)
/-- the body of a def without the source -/
theorem body_p {n m : Nat} {N : List Str} {Γr Γ' Γl : List Md} {t : TS} {f : Env → M Out} {vs : List V} {H : Hp} {Q : VK} {E : XK} (h : SemS pureS Γl (List.replicate n .fro ++ Γr) Γ' t f) (hN : N.length = n + m) (hm : Γr.length = m)
    (hs : spP n (fnD m f) vs H Q E) : t { nx := fun _ H' => Q .non H', rt := Q } (start N vs) H := by
  obtain ⟨hl, ds, U, P, C⟩ := hs
  have dl : ds.length = n := by rw [← C.den.length]; exact hl
  have ok : Fx.Ok ⟨pureS, U, H⟩ := ⟨C.sub, pureOk.st⟩
  have r0 : R ⟨pureS, U, H⟩ (List.replicate n .fro ++ Γr) (ds.map some ++ List.replicate m none) [] (start N vs) H := by
    refine ⟨ok, fun a o q _ => q, fun a o q => ⟨o, q⟩, C.inv, C.al, C.sz, ?_, List.nodup_nil, fun p hp => absurd hp (by simp)⟩
    have e1 : L2.start N vs = vs.map some ++ List.replicate Γr.length none := by
      unfold L2.start
      rw [hN, hl, hm, Nat.add_sub_cancel_left]
    rw [e1, ← dl, ← hm]
    exact slots_start (C.den.mono (fun _ _ q _ => q) fun a _ _ u => U_nil a u)
  refine h ⟨pureS, U, H⟩ _ [] _ H _ _ rfl r0 C.run ⟨fun ρ ps σ H' p r => ?_, fun d v H' p fi dn => ?_, fun ρ ps σ H' p r => False.elim p, fun ρ ps σ H' p r => False.elim p⟩
  · exact C.out .none .non H' p ⟨fun a o q n => r.keep a o q n, r.there, fun _ => r.inv, fun _ => r.al, fun _ => r.sz⟩ .non
  · exact C.out d v H' p ⟨fun a o q n => fi.keep a o q n, fi.there, fun _ => fi.inv, fun _ => fi.al, fun _ => fi.sz⟩ dn
/-- with the source in the first place -/
def fnS (m : Nat) (f : Env → M Out) : List D → M D := fun ds => bnd (f (some .none :: (ds.map some ++ List.replicate m none))) outD
theorem body_s {s : Sx} (so : SxOk s) {n m : Nat} {N : List Str} {Γr Γ' Γl : List Md} {t : TS} {f : Env → M Out} {vs : List V} {H : Hp} {Q : VK} {E : XK} (h : SemS s Γl (.src :: (List.replicate n .fro ++ Γr)) Γ' t f) (hN : N.length = n + 1 + m) (hm : Γr.length = m)
    (hs : spS s n (fnS m f) vs H Q E) : t { nx := fun _ H' => Q .non H', rt := Q } (start N vs) H := by
  obtain ⟨hl, ws, rfl, ds, U, P, C⟩ := hs
  have hl' : ws.length = n := by simpa using hl
  have dl : ds.length = n := by rw [← C.den.length]; exact hl'
  have ok : Fx.Ok ⟨s, U, H⟩ := ⟨C.sub, so.st⟩
  have r0 : R ⟨s, U, H⟩ (.src :: (List.replicate n .fro ++ Γr)) (some .none :: (ds.map some ++ List.replicate m none)) [] (start N (.ref s.src :: ws)) H := by
    refine ⟨ok, fun a o q _ => q, fun a o q => ⟨o, q⟩, C.inv, C.al, C.sz, ?_, List.nodup_nil, fun p hp => absurd hp (by simp)⟩
    have e1 : L2.start N (.ref s.src :: ws) = some (.ref s.src) :: (ws.map some ++ List.replicate Γr.length none) := by
      unfold L2.start
      rw [hN, hl, hm, Nat.add_sub_cancel_left]
      rfl
    rw [e1, ← dl, ← hm]
    have q := slots_start (c := ⟨s, U, H⟩) (Γr := Γr) (C.den.mono (fun _ _ q _ => q) fun a _ _ u => U_nil (c := ⟨s, U, H⟩) a u)
    exact Slots.cons (SlotR.src (c := ⟨s, U, H⟩) (d := .none)) q
  refine h ⟨s, U, H⟩ _ [] _ H _ _ rfl r0 C.run ⟨fun ρ ps σ H' p r => ?_, fun d v H' p fi dn => ?_, fun ρ ps σ H' p r => False.elim p, fun ρ ps σ H' p r => False.elim p⟩
  · exact C.out .none .non H' p ⟨fun a o q n => r.keep a o q n, r.there, fun _ => r.inv, fun _ => r.al, fun _ => r.sz⟩ .non
  · exact C.out d v H' p ⟨fun a o q n => fi.keep a o q n, fi.there, fun _ => fi.inv, fun _ => fi.al, fun _ => fi.sz⟩ dn

section
variable {s : Sx} {Γ : List Md}
def eCall (n : Nat) (F : List D → M D) (f : Env → M (List D)) : Env → M D := fun ρ => bnd (f ρ) fun ds => if ds.length = n then F ds else stuck
theorem sem_call {n : Nat} {F : List D → M D} {t : TA} {f : Env → M (List D)} (h : SemA s Γ t f) : SemE s Γ (tCallG (spP n F) t) (eCall n F f) := by
  intro c ρ ps σ H Q P hc r q k
  refine h c ρ ps σ H _ _ hc r q fun ds vs H1 q1 e1 dn => ?_
  have r1 := r.stp e1
  dsimp only at q1
  split at q1
  · rename_i hl
    refine ⟨dn.length.trans hl, ds, c.U ps, P, dn, fun a z => False.elim z, r1.loose, r1.sz, trivial, q1, fun d v H2 p e2 d2 => ?_⟩
    have same : ∀ a o, H1 a = some o → H2 a = some o := fun a o q => e2.keep a o q fun z => False.elim z
    exact k d v H2 p (e1.trans (Stp.same r.ok same e2.sz)) d2
  · exact False.elim q1
/-- a call that draws from the source -/
def eCallS (i n : Nat) (F : List D → M D) (f : Env → M (List D)) : Env → M D := fun ρ => bnd (eVar i ρ) fun _ => eCall n F f ρ
theorem sem_callS {i n : Nat} {F : List D → M D} {t : TA} {f : Env → M (List D)} (hi : Γ[i]? = some .src) (h : SemA s Γ t f) : SemE s Γ (tCallG (spS s n F) (tCons (tVar i) t)) (eCallS i n F f) := by
  intro c ρ ps σ H Q P hc r q k
  subst hc
  obtain ⟨d0, hd, q⟩ := eVar_get q
  obtain ⟨o, qs, ho, hs, _⟩ := r.sl.get hi hd
  cases hs with
  | src =>
    refine ⟨_, ho, ?_⟩
    refine h c ρ ps σ H _ _ rfl r q fun ds vs H1 q1 e1 dn => ?_
    have r1 := r.stp e1
    dsimp only at q1
    split at q1
    · rename_i hl
      refine ⟨congrArg (· + 1) (dn.length.trans hl), vs, rfl, ds, c.U ps, P, dn, fun a z => .inl (r.ok.sub a z), r1.loose, r1.sz, r1.inv, q1, fun d v H2 p e2 d2 => ?_⟩
      exact k d v H2 p (e1.trans ⟨e2.keep, e2.there, e2.inv, fun _ a u => e2.al r1.loose a (.inl u), e2.sz⟩) d2
    · exact False.elim q1
end
end Py
section
set_option maxHeartbeats 1000000
/-! PyG: builtin functions: their readings over any data. -/
namespace Py
open PySem L2 StX PyProof.Rows
open PySem.W (AlikeAll minD maxD min_list_data min_tuple_data max_list_data max_tuple_data dataLe dataKind SortsAt AllAlike Sortable EachIs)

section
variable {X : Cx}
/-! ### in, not in -/
def rInX (neg : Bool) (K : PySem.W.Frag) : R2 := fun x y H Q => ∃ d ds, Dp K H x d ∧ (Dp K H y (.list ds) ∨ Dp K H y (.tuple ds)) ∧ shp d = true ∧ PyData.canLayAll0 ds = true ∧ Q (.bl (xor neg (ds.any fun z => PyData.eqv z d))) H
theorem room_shp {A : Around} {d : D} {n : Nat} (h : shp d = true) (hu : A.units + 65 < cLine) : A.units + 1 + min n d.depth < cLine := by
  have h' : (d.canLay0 && decide (d.depth ≤ 64)) = true := h
  rw [Bool.and_eq_true] at h'
  have := of_decide_eq_true h'.2
  omega
theorem op_inX (hu : X.A.units + 65 < cLine) : OpR X (compareOp .In) (rInX false X.K) := by
  intro pins s σ H x y v u Q I rx ry h
  obtain ⟨d, ds, hd, he, sd, se, q⟩ := h
  obtain ⟨as, r1⟩ := Dp.reads I d x v hd rx
  rcases he with he | he
  · obtain ⟨bs, r2⟩ := Dp.reads I (.list ds) y u he ry
    exact SeqAt.in_list_reads r2 r1 se (shp_lay sd) (room_shp sd hu) ⟨.bl _, H, I, rfl, by simpa using q⟩
  · obtain ⟨bs, r2⟩ := Dp.reads I (.tuple ds) y u he ry
    exact SeqAt.in_tuple_reads r2 r1 se (shp_lay sd) (room_shp sd hu) ⟨.bl _, H, I, rfl, by simpa using q⟩
theorem op_notInX (hu : X.A.units + 65 < cLine) : OpR X (compareOp .NotIn) (rInX true X.K) := by
  intro pins s σ H x y v u Q I rx ry h
  obtain ⟨d, ds, hd, he, sd, se, q⟩ := h
  obtain ⟨as, r1⟩ := Dp.reads I d x v hd rx
  rcases he with he | he
  · obtain ⟨bs, r2⟩ := Dp.reads I (.list ds) y u he ry
    exact SeqAt.notIn_list_reads r2 r1 se (shp_lay sd) (room_shp sd hu) ⟨.bl _, H, I, rfl, by simpa using q⟩
  · obtain ⟨bs, r2⟩ := Dp.reads I (.tuple ds) y u he ry
    exact SeqAt.notIn_tuple_reads r2 r1 se (shp_lay sd) (room_shp sd hu) ⟨.bl _, H, I, rfl, by simpa using q⟩

/-! ### < of alike data -/
def cmpOk (x y : D) : Bool := W.alike x y && shp x && !isNonD x
def rLtD (K : PySem.W.Frag) : R2 := fun x y H Q => ∃ d e, Dp K H x d ∧ Dp K H y e ∧ cmpOk d e = true ∧ Q (.bl (W.dataLt d e)) H
theorem ne_non {d : D} (h : isNonD d = false) : d ≠ .none := fun e => by rw [e] at h; cases h
theorem cmpOk_of {x y : D} (h : cmpOk x y = true) : W.alike x y = true ∧ x.depth ≤ 64 ∧ x ≠ .none := by
  unfold cmpOk at h
  rw [Bool.and_eq_true, Bool.and_eq_true] at h
  have h' : (x.canLay0 && decide (x.depth ≤ 64)) = true := h.1.2
  rw [Bool.and_eq_true] at h'
  exact ⟨h.1.1, of_decide_eq_true h'.2, ne_non (by simpa using h.2)⟩
theorem op_ltD (hu : X.A.units + 65 < cLine) : OpR X (compareOp .Lt) (rLtD X.K) := by
  intro pins s σ H x y v u Q I rx ry h
  obtain ⟨d, e, hd, he, ok, q⟩ := h
  obtain ⟨as, r1⟩ := Dp.reads I d x v hd rx
  obtain ⟨bs, r2⟩ := Dp.reads I e y u he ry
  obtain ⟨k1, k2, k3⟩ := cmpOk_of ok
  exact W.rcLt_alike d e _ s v u as bs r1 r2 k1 k3 (by omega) _ _ _ _ ⟨.bl _, H, I, rfl, q⟩

/-! ### min, max of a list or a tuple of alike data -/
theorem Dp.at' {K : PySem.W.Frag} {H : Hp} : ∀ {vs : List V} {ds : List D}, DpAll K H vs ds → ∀ {i : Nat} {v : V}, vs[i]? = some v → ∃ d, ds[i]? = some d ∧ Dp K H v d
  | _, _, .nil, i, v, e => by simp at e
  | _, _, .cons h t, 0, v, e => by simp at e; subst e; exact ⟨_, rfl, h⟩
  | _, _, .cons h t, i + 1, v, e => by
    obtain ⟨d, e1, e2⟩ := Dp.at' t (i := i) (by simpa using e)
    exact ⟨d, by simpa using e1, e2⟩
theorem vals_at' : ∀ {vs : List V} {us : List Value}, Vals vs us → ∀ {i : Nat} {u : Value}, us[i]? = some u → ∃ v, vs[i]? = some v ∧ RelV v u
  | _, _, .nil, i, u, e => by simp at e
  | _, _, .cons r t, 0, u, e => by simp at e; subst e; exact ⟨_, rfl, r⟩
  | _, _, .cons r t, i + 1, u, e => by
    obtain ⟨v, e1, e2⟩ := vals_at' t (i := i) (by simpa using e)
    exact ⟨v, by simpa using e1, e2⟩
def alls (ds : List D) : Bool := ds.all fun x => shp x && !isNonD x && ds.all fun y => W.alike x y
theorem alls_of {ds : List D} (h : alls ds = true) : AlikeAll ds ∧ PyData.depthAll ds ≤ 64 ∧ PyData.canLayAll0 ds = true ∧ (∀ d ∈ ds, d.depth ≤ 64) := by
  unfold alls at h
  have h1 : ∀ x ∈ ds, shp x = true ∧ isNonD x = false ∧ ∀ y ∈ ds, W.alike x y = true := fun x hx => by
    have h2 := List.all_eq_true.mp h x hx
    rw [Bool.and_eq_true, Bool.and_eq_true] at h2
    exact ⟨h2.1.1, by simpa using h2.1.2, fun y hy => List.all_eq_true.mp h2.2 y hy⟩
  have dp : ∀ d ∈ ds, d.depth ≤ 64 := fun d hd => by
    have h' : (d.canLay0 && decide (d.depth ≤ 64)) = true := (h1 d hd).1
    rw [Bool.and_eq_true] at h'
    exact of_decide_eq_true h'.2
  refine ⟨⟨fun x hx y hy => (h1 x hx).2.2 y hy, fun x hx => ne_non (h1 x hx).2.1⟩, ?_, ?_, dp⟩
  · clear h h1
    induction ds with
    | nil => exact Nat.zero_le _
    | cons d ds ih =>
      exact Nat.max_le.mpr ⟨dp d (by simp), ih fun x hx => dp x (by simp [hx])⟩
  · have h3 : ∀ d ∈ ds, d.canLay0 = true := fun d hd => shp_lay (h1 d hd).1
    clear h h1 dp
    induction ds with
    | nil => rfl
    | cons d ds ih =>
      show (d.canLay0 && PyData.canLayAll0 ds) = true
      rw [h3 d (by simp), ih fun x hx => h3 x (by simp [hx])]; rfl
/-- the items of a list or a tuple -/
def SqAny (K : PySem.W.Frag) (H : Hp) (a : Addr) (vs : List V) : Prop := SqL K H a vs ∨ SqT K H a vs
def rBest (f : D → List D → D) (K : PySem.W.Frag) : List V → Hp → VK → Prop := fun xs H Q => ∃ a vs d ds, xs = [.ref a] ∧ SqAny K H a vs ∧ DpAll K H vs (d :: ds) ∧ alls (d :: ds) = true ∧ ∀ (i : Nat) v, vs[i]? = some v → (d :: ds)[i]? = some (f d ds) → Q v H
theorem best_fin {pins : List (Addr × Obj)} {s : Shared} {σ : L2.St} {H : Hp} {Q : VK} {vs : List V} {its : List Value} {d : D} {ds : List D} {f : D → List D → D} (I : Inv X pins σ H s) (rv : Vals vs its) (hd : DpAll X.K H vs (d :: ds)) (ok : alls (d :: ds) = true) (hf : f d ds ∈ d :: ds)
    (q : ∀ (i : Nat) v, vs[i]? = some v → (d :: ds)[i]? = some (f d ds) → Q v H) {i : Nat} {v : Value} {h' : Heap} {tk : Nat} {bs : List Addr} (hv : its.toArray[i]? = some v) (r : Reads h' v (f d ds) bs) (hk : ∀ b o, s.heap.get? b = some o → h'.get? b = some o) :
    EP X pins σ Q v { s with heap := h', toks := tk } := by
  obtain ⟨w, e1, e2⟩ := vals_at' rv (i := i) (u := v) (by simpa using hv)
  obtain ⟨g, e3, e4⟩ := Dp.at' hd e1
  obtain ⟨cs, r'⟩ := Dp.reads I g w v e4 e2
  obtain ⟨ha, _, _, _⟩ := alls_of ok
  have hg : g ∈ d :: ds := List.mem_of_getElem? e3
  have e : g = f d ds := W.alike_unique g (f d ds) v cs bs (ha.1 g hg _ hf) (Reads.keeps hk r') r
  subst e
  exact ⟨w, H, I.kept hk, e2, q i w e1 e3⟩
theorem fold_mem (g : D → D → D) (hg : ∀ a y, g a y = a ∨ g a y = y) : ∀ (xs : List D) (x : D), xs.foldl g x ∈ x :: xs
  | [], x => by simp
  | y :: ys, x => by
    rw [List.foldl_cons]
    rcases List.mem_cons.mp (fold_mem g hg ys (g x y)) with h | h
    · rw [h]
      rcases hg x y with e | e <;> rw [e] <;> simp
    · simp [h]
theorem minD_mem (x : D) (xs : List D) : minD x xs ∈ x :: xs := fold_mem _ (fun a y => by
  by_cases h : W.dataLt y a = true
  · exact .inr (if_pos h)
  · exact .inl (if_neg h)) xs x
theorem maxD_mem (x : D) (xs : List D) : maxD x xs ∈ x :: xs := fold_mem _ (fun a y => by
  by_cases h : W.dataLt a y = true
  · exact .inr (if_pos h)
  · exact .inl (if_neg h)) xs x
theorem cr_minD (hc : X.calm = true) (hu : X.A.units + 66 < cLine) : CallR X (.builtin "min") (rBest minD X.K) := by
  intro pins s σ H xs us Q I r h
  obtain ⟨a, vs, d, ds, rfl, hs, hd, ok, q⟩ := h
  obtain ⟨ha, hdp, _, _⟩ := alls_of ok
  rw [Vals.ref1 r]
  rcases hs with hs | hs
  · obtain ⟨its, rv, hl, _⟩ := I.list hs
    obtain ⟨as, hr⟩ := Dp.readsAll I _ _ _ hd rv
    exact min_list_data (I.ok.hd hc) hl.isList (by simpa using hr) ha (by omega) fun i v h' tk bs hv hr' hk => best_fin I rv hd ok (minD_mem d ds) q hv hr' hk
  · obtain ⟨its, rv, hl, _⟩ := I.tuple hs
    obtain ⟨as, hr⟩ := Dp.readsAll I _ _ _ hd rv
    exact min_tuple_data (I.ok.hd hc) hl (by simpa using hr) ha (by omega) fun i v h' tk bs hv hr' hk => best_fin I rv hd ok (minD_mem d ds) q hv hr' hk
theorem cr_maxD (hc : X.calm = true) (hu : X.A.units + 66 < cLine) : CallR X (.builtin "max") (rBest maxD X.K) := by
  intro pins s σ H xs us Q I r h
  obtain ⟨a, vs, d, ds, rfl, hs, hd, ok, q⟩ := h
  obtain ⟨ha, hdp, _, _⟩ := alls_of ok
  rw [Vals.ref1 r]
  rcases hs with hs | hs
  · obtain ⟨its, rv, hl, _⟩ := I.list hs
    obtain ⟨as, hr⟩ := Dp.readsAll I _ _ _ hd rv
    exact max_list_data (I.ok.hd hc) hl.isList (by simpa using hr) ha (by omega) fun i v h' tk bs hv hr' hk => best_fin I rv hd ok (maxD_mem d ds) q hv hr' hk
  · obtain ⟨its, rv, hl, _⟩ := I.tuple hs
    obtain ⟨as, hr⟩ := Dp.readsAll I _ _ _ hd rv
    exact max_tuple_data (I.ok.hd hc) hl (by simpa using hr) ha (by omega) fun i v h' tk bs hv hr' hk => best_fin I rv hd ok (maxD_mem d ds) q hv hr' hk

/-! ### repr -/
def rpOk (d : D) : Bool := d.showable && !d.hasDict && d.canLay0 && decide (d.depth ≤ 64) && decide (d.shown.length ≤ sizeLine)
def rRepr (K : PySem.W.Frag) : List V → Hp → VK → Prop := fun xs H Q => ∃ x d, xs = [x] ∧ Dp K H x d ∧ rpOk d = true ∧ Q (.str d.shown) H
theorem cr_repr (hg : X.A.guards = some []) (hu : X.A.units + 66 < cLine) : CallR X (.builtin "repr") (rRepr X.K) := by
  intro pins s σ H xs us Q I r h
  obtain ⟨x, d, rfl, hd, ok, q⟩ := h
  unfold rpOk at ok
  simp only [Bool.and_eq_true, decide_eq_true_eq] at ok
  obtain ⟨⟨⟨⟨o1, o2⟩, o3⟩, o4⟩, o5⟩ := ok
  obtain ⟨u, rfl, rx⟩ := vals1 r
  have fin : ∀ tk t, EP X pins σ Q (.str d.shown t) { s with toks := tk } := fun tk t => ⟨.str d.shown, H, I.tok tk, ⟨t, rfl⟩, q⟩
  have obj : ∀ a, u = .ref a → wpAny (model X.prog X.w) X.A (call (.builtin "repr") [u]) (EP X pins σ Q) X.xe s := fun a e => by
    obtain ⟨as, rd⟩ := Dp.reads I d x u hd rx
    rw [e] at rd ⊢
    exact repr_of_reads' rd o1 (fun z => by rw [z] at o2; cases o2) hg (by omega) (fun _ _ q => q) (fun h' t tk hk => ⟨.str d.shown, H, I.kept hk, ⟨t, rfl⟩, q⟩) o5
  cases hd with
  | non =>
    cases rx
    exact P.repr_of_none (fin _ _)
  | bl b =>
    cases rx
    exact P.repr_of_bool (by
      have := fin (s.toks + 1) s.toks
      cases b <;> exact this)
  | int i =>
    obtain ⟨t, rfl⟩ := rx
    exact P.repr_of_int (of_decide_eq_true o1) (fin _ _)
  | str w =>
    obtain ⟨t, rfl⟩ := rx
    exact P.repr_of_str (fin _ _) o5
  | lst hs ha => cases rx; exact obj _ rfl
  | tup hs ha => cases rx; exact obj _ rfl
end
end Py
end
section
set_option maxHeartbeats 1000000
/-! PyH: sorted of data (a first empty tuple among them too), tuple * int. -/
namespace Py
open PySem L2 StX PyProof.Rows PySem.Calls
open PySem.W (AlikeAll dataLe dataKind SortsAt AllAlike Sortable EachIs kas_first_eq kas_mapM looks_reads sortingHeap copyHeap sorted_vals sortVals_data each_keys dataKind_some dataKind_inv rcLt_alike eqAt_alikeAll rcLt_alikeAll firstLt_toks Looks)

section
variable {prog : Program} {w : World} {M : Model} {A : Around} {E : Value → Shared → Prop} {s : Shared}
/-- the first items of tuples, or none -/
theorem firsts_any : ∀ (vs : List Value) (xss : List (List Value)) {Q : List (Option Value) → Shared → Prop}, EachIs (fun v xs => ∃ a o n, v = Value.ref a ∧ s.heap.get? a = some o ∧ o.cls = .type "tuple" ∧ o.data = .seq (List.toArray xs) n) vs xss → Q (xss.map fun xs => xs[0]?) s →
    wpAny M A (vs.mapM firstOfTuple') Q E s
  | [], _, _, t, h => by cases t; rw [List.mapM_nil]; exact wpAny_pure h
  | v :: vs, _, Q, t, h => by
    cases t with
    | @cons _ xs _ xss t1 t2 =>
      obtain ⟨a, o, n, rfl, ho, hc, hd⟩ := t1
      rw [List.mapM_cons]
      refine wpAny_bind ?_
      rw [kas_first_eq]
      refine wpAny_bind (Looks.here (show Looks M s.heap (typeOf (.ref a)) o.cls from (Looks.ld ho).andThen .now) ?_)
      rw [hc, if_neg (by first | decide | simp)]
      refine wpAny_bind (listItems_at ho hd (wpAny_pure ?_))
      exact wpAny_bind (firsts_any vs xss (Q := fun bs s' => wpAny M A (pure ((List.toArray xs)[0]? :: bs)) Q E s') t2 (wpAny_pure (by simpa using h)))
theorem kind_empty {v : Value} {vs : List Value} {xss : List (List Value)} {Q : SortKind → Shared → Prop} (t : EachIs (fun v xs => ∃ a o n, v = Value.ref a ∧ s.heap.get? a = some o ∧ o.cls = .type "tuple" ∧ o.data = .seq (List.toArray xs) n) (v :: vs) ([] :: xss)) (h : Q oneType' s) :
    wpAny M A (keyKind' (List.toArray (v :: vs))) Q E s := by
  have hT : ∀ u ∈ v :: vs, Looks M s.heap (typeOf u) (.type "tuple") := fun u hu => by
    obtain ⟨xs, _, a, o, n, rfl, ho, hc, hd⟩ := t.left u hu
    rw [← hc]
    exact (Looks.ld ho).andThen .now
  rw [keyKind'_eq, List.mapM_toArray, map_eq_pure_bind]
  refine wpAny_bind (wpAny_bind (firsts_any _ _ t (wpAny_pure ?_)))
  rw [if_neg (by simp), if_neg (by simp)]
  rw [oneTypeOnly'_eq, List.mapM_toArray, map_eq_pure_bind]
  refine wpAny_bind (wpAny_bind (wpAny_bind (kas_mapM (r := Value.type "tuple") _ (fun v hv Q' hq => (hT v hv).here hq) (wpAny_pure ?_))))
  have hall : ((List.map (fun _ => Value.type "tuple") (v :: vs)).toArray.all fun x => x == Value.type "tuple") = true := by
    simp only [List.all_toArray, List.all_map, List.all_eq_true]
    intro _ _
    exact beq_self_eq_true _
  have h0 : (List.map (fun _ => Value.type "tuple") (v :: vs)).toArray[0]? = some (Value.type "tuple") := by simp
  rw [h0]
  simp only [hall, if_true]
  exact wpAny_pure (wpAny_pure h)
theorem oneLt_tuple {xs ys : List D} {a b : Value} {as bs : List Addr} {Q : Bool → Shared → Prop} (ra : Reads s.heap a (.tuple xs) as) (rb : Reads s.heap b (.tuple ys) bs) (h : W.alikeAll xs ys = true)
    (hu : A.units + min (PyData.depth (.tuple xs)) (PyData.depth (.tuple ys)) < cLine) (hq : Q (W.dataLt (.tuple xs) (.tuple ys)) s) : wpAny (model prog w) A (oneLt' true a b) Q E s := by
  cases ra with
  | @tuple l o vs n _ as₁ h1 h2 h3 h4 =>
    cases rb with
    | @tuple l' o' vs' n' _ bs₁ k1 k2 k3 k4 =>
      have n1 : vs.size = xs.length := by simpa using SeqAt.ReadsAll.length _ _ _ h4
      have n2 : vs'.size = ys.length := by simpa using SeqAt.ReadsAll.length _ _ _ k4
      rw [W.dataLt_tuple, ← W.firstLt_toks xs ys h, ← n1, ← n2] at hq
      rw [oneLt'_eq]
      simp only [if_true]
      refine wpAny_bind (wpAny_cRoomFor (SeqAt.room_here hu) ?_)
      obtain ⟨cls, dd, data, sl⟩ := o
      obtain ⟨cls', dd', data', sl'⟩ := o'
      simp only at h2 h3 k2 k3
      subst h2 h3 k2 k3
      refine wpAny_bind (wpAny_callSpecialIfBound?_slot (T := "tuple") ⟨_, h1, rfl⟩ F.slot_tuple_lt (call_meets F.slot_tuple_lt ⟨_, h1, rfl⟩ F.entry_tuple_lt (F.args_tuple_lt_2 _ _) (SeqAt.tuple_ltAt l l' vs vs' n n' dd dd' sl sl' (SeqAt.pairEq xs ys) fun j => W.dataLt (xs.getD j .none) (ys.getD j .none))
        ⟨h1, k1, fun j j1 j2 => ?_, fun j j1 j2 hj => ?_, ?_⟩))
      · have := W.eqAt_alikeAll xs ys A.in1 s vs.toList vs'.toList _ _ h4 k4 h (SeqAt.room_in hu) j (by simpa using j1) (by simpa using j2)
        simpa using this
      · have := W.rcLt_alikeAll xs ys A.in1 s vs.toList vs'.toList _ _ h4 k4 h (SeqAt.room_in hu) j (by simpa using j1) (by simpa using j2) hj
        simpa using this
      · exact wpAny_truthy_bool hq
end

section
variable {prog : Program} {w : World} {A : Around} {s : Shared}
/-- tuples, the first an empty one -/
def FirstEmpty (ds : List D) : Prop := (∃ r, ds = .tuple [] :: r) ∧ ∀ d ∈ ds, ∃ xs, d = .tuple xs
theorem sorts_empty {vs : List Value} {ds : List D} (e : EachIs (fun v d => ∃ as, Reads s.heap v d as) vs ds) (hal : AllAlike ds) (hk : FirstEmpty ds) (hu : ∀ d, d ∈ ds → A.units + d.depth < cLine) : SortsAt prog w A s (dataKind s.heap ds) vs := by
  refine ⟨fun v hv => ?_, oneType', ?_, fun h2 E Q hq => ?_⟩
  · obtain ⟨d, hd, as, r⟩ := e.left v hv
    exact ⟨_, dataKind_some hal hd r⟩
  · intro E x y a b Q ha hb hq
    obtain ⟨d, as, hd, ra, rfl⟩ := dataKind_inv ha
    obtain ⟨d', as', hd', rb, rfl⟩ := dataKind_inv hb
    obtain ⟨xs, rfl⟩ := hk.2 d hd
    obtain ⟨ys, rfl⟩ := hk.2 d' hd'
    rw [keyLt'_oneType]
    exact oneLt_tuple ra rb (by have := hal _ hd _ hd'; simpa [W.alike] using this) (Nat.lt_of_le_of_lt (Nat.add_le_add_left (Nat.min_le_left _ _) _) (hu _ hd)) hq
  · obtain ⟨r, er⟩ := hk.1
    subst er
    cases e with
    | @cons v _ vs _ e1 e2 =>
      have go : ∀ {us : List Value} {es : List D}, EachIs (fun v d => ∃ as, Reads s.heap v d as) us es → (∀ d ∈ es, ∃ xs, d = .tuple xs) → ∃ xss, EachIs (fun v xs => ∃ a o n, v = Value.ref a ∧ s.heap.get? a = some o ∧ o.cls = .type "tuple" ∧ o.data = .seq (List.toArray xs) n) us xss := by
        intro us es h
        induction h with
        | nil => intro _; exact ⟨[], .nil⟩
        | cons h1 _ ih =>
          intro ht
          obtain ⟨xss, t⟩ := ih fun d hd => ht d (List.mem_cons_of_mem _ hd)
          obtain ⟨xs, rfl⟩ := ht _ (List.mem_cons_self ..)
          obtain ⟨as, r⟩ := h1
          cases r with
          | @tuple l o vs n _ _ k1 k2 k3 k4 =>
            exact ⟨vs.toList :: xss, .cons ⟨l, o, n, rfl, k1, k2, by simpa using k3⟩ t⟩
      obtain ⟨xss, t⟩ := go e2 fun d hd => hk.2 d (List.mem_cons_of_mem _ hd)
      obtain ⟨as, r1⟩ := e1
      cases r1 with
      | @tuple l o vs0 n _ _ k1 k2 k3 k4 =>
        have k5 : vs0.toList = [] := by
          have := SeqAt.ReadsAll.length _ _ _ k4
          exact List.eq_nil_of_length_eq_zero this
        refine kind_empty (.cons ⟨l, o, n, rfl, k1, k2, ?_⟩ t) hq
        have : vs0 = List.toArray [] := by
          apply Array.toList_inj.mp
          rw [k5]
        rw [this] at k3
        exact k3
def isTup1 : D → Bool
  | .tuple (_ :: _) => true
  | _ => false
def isTupD : D → Bool
  | .tuple _ => true
  | _ => false
def srtOk (ds : List D) : Bool := alls ds && (ds.all isTup1 || ds.all (fun d => !isTupD d) || (match ds with | .tuple [] :: _ => ds.all isTupD | _ => false))
theorem srtOk_of {ds : List D} (h : srtOk ds = true) : alls ds = true ∧ (Sortable ds ∨ FirstEmpty ds) := by
  unfold srtOk at h
  rw [Bool.and_eq_true, Bool.or_eq_true, Bool.or_eq_true] at h
  refine ⟨h.1, ?_⟩
  obtain ⟨ha, hb⟩ := h
  rcases hb with (hb | hb) | hb
  · refine .inl (.inl fun d hd => ?_)
    have := List.all_eq_true.mp hb d hd
    unfold isTup1 at this
    split at this
    · exact ⟨_, _, rfl⟩
    · cases this
  · refine .inl (.inr fun d hd => ⟨(alls_of ha).1.2 d hd, fun xs e => ?_⟩)
    have := List.all_eq_true.mp hb d hd
    rw [e] at this
    cases this
  · refine .inr ?_
    split at hb
    · refine ⟨⟨_, rfl⟩, fun d hd => ?_⟩
      have := List.all_eq_true.mp hb d hd
      unfold isTupD at this
      split at this
      · exact ⟨_, rfl⟩
      · cases this
    · cases hb
theorem sorts_any {vs : List Value} {ds : List D} (e : EachIs (fun v d => ∃ as, Reads s.heap v d as) vs ds) (h : srtOk ds = true) (hu : A.units + 65 < cLine) : SortsAt prog w A s (dataKind s.heap ds) vs := by
  obtain ⟨ha, hk⟩ := srtOk_of h
  obtain ⟨⟨h1, _⟩, _, _, h2⟩ := alls_of ha
  rcases hk with hk | hk
  · exact SortsAt.data e h1 hk fun d hd => by have := h2 d hd; omega
  · exact sorts_empty e h1 hk fun d hd => by have := h2 d hd; omega
end

section
variable {X : Cx}
def leD : D → D → Bool := dataLe false id
/-- the items with their data, sorted by these -/
def rSortD (K : PySem.W.Frag) : List V → Hp → VK → Prop := fun xs H Q => ∃ a vs ds, xs = [.ref a] ∧ SqL K H a vs ∧ DpAll K H vs ds ∧ srtOk ds = true ∧ ∀ p, H p = none → Q (.ref p) (upd H p (.lst (((vs.zip ds).mergeSort fun x y => leD x.2 y.2).map (·.1))))
theorem zip_each {R : Value → V × D → Prop} : ∀ {its : List Value} {vs : List V} {ds : List D}, Vals vs its → vs.length = ds.length → (∀ v u d, RelV v u → (v, d) ∈ vs.zip ds → R u (v, d)) → EachIs R its (vs.zip ds)
  | _, _, [], .nil, _, _ => .nil
  | _, _, d :: ds, .cons r t, hl, h => .cons (h _ _ _ r (by simp)) (zip_each t (by simpa using hl) fun v u e r' hm => h v u e r' (by simp [hm]))
theorem each_vals : ∀ {its : List Value} {bs : List (V × D)}, EachIs (fun u b => RelV b.1 u) its bs → Vals (bs.map (·.1)) its
  | _, _, .nil => .nil
  | _, _, .cons r t => .cons r (each_vals t)
theorem DpAll.len {K : PySem.W.Frag} {H : Hp} : ∀ {vs : List V} {ds : List D}, DpAll K H vs ds → vs.length = ds.length
  | _, _, .nil => rfl
  | _, _, .cons _ t => congrArg (· + 1) (DpAll.len t)
theorem cr_sortD (hu : X.A.units + 67 < cLine) : CallR X (.builtin "sorted") (rSortD X.K) := by
  intro pins s σ H xs us Q I r h
  obtain ⟨a, vs, ds, rfl, hs, hd, ok, q⟩ := h
  rw [Vals.ref1 r]
  obtain ⟨its, rv, hl, hz⟩ := I.list hs
  have hl2 := DpAll.len hd
  have rds : ∀ v u d, RelV v u → (v, d) ∈ vs.zip ds → ∃ as, Reads s.heap u d as := fun v u d rr hm => by
    obtain ⟨i, hi, e⟩ := List.getElem_of_mem hm
    have e1 : vs[i]? = some v := by
      have := congrArg Prod.fst e
      simp at this
      rw [← this]
      simp
    obtain ⟨d', e2, dp⟩ := Dp.at' hd e1
    have e3 : ds[i]? = some d := by
      have := congrArg Prod.snd e
      simp at this
      rw [← this]
      simp
    rw [e3] at e2
    cases e2
    exact Dp.reads I d v u dp rr
  have er : EachIs (fun v (b : V × D) => ∃ as, Reads s.heap v b.2 as) its (vs.zip ds) := zip_each rv hl2 fun v u d rr hm => rds v u d rr hm
  have ev : EachIs (fun u (b : V × D) => RelV b.1 u) its (vs.zip ds) := zip_each rv hl2 fun v u d rr hm => rr
  have em : (vs.zip ds).map (·.2) = ds := by
    rw [List.map_snd_zip]
    omega
  have er' : EachIs (fun v (b : V × D) => ∃ as, Reads (sortingHeap (copyHeap s.heap its) (s.heap.objs.size + 1) its) v b.2 as) its (vs.zip ds) := er.mono fun _ _ ⟨as, r⟩ => ⟨as, PyProof.Rows.Reads.keeps (fun _ _ => W.sorting_copy_old) r⟩
  have hal : AllAlike ((vs.zip ds).map fun b => b.2) := by
    rw [em]
    exact (alls_of (srtOk_of ok).1).1.1
  have S : SortsAt X.prog X.w X.A.in1.in1 { s with heap := sortingHeap (copyHeap s.heap its) (s.heap.objs.size + 1) its } (dataKind (sortingHeap (copyHeap s.heap its) (s.heap.objs.size + 1) its) ((vs.zip ds).map fun b => b.2)) its := by
    have e1 : srtOk ((vs.zip ds).map fun b => b.2) = true := by rw [em]; exact ok
    exact sorts_any (s := { s with heap := sortingHeap (copyHeap s.heap its) (s.heap.objs.size + 1) its }) (W.each_map (R := fun v d => ∃ as, Reads (sortingHeap (copyHeap s.heap its) (s.heap.objs.size + 1) its) v d as) (fun b : V × D => b.2) er') e1 (by show X.A.units + 1 + 1 + 65 < cLine; omega)
  have hout := sortVals_data (enc := fun b : V × D => b.2) (R := fun u (b : V × D) => RelV b.1 u) false ev er' hal
  refine sorted_vals hl.isList S (by rw [← rv.length]; exact hz) ?_
  generalize W.sortVals (dataKind (sortingHeap (copyHeap s.heap its) (s.heap.objs.size + 1) its) ((vs.zip ds).map fun b => b.2)) false its its = out at hout ⊢
  have hv := each_vals hout
  have hm : (vs.zip ds).mergeSort (dataLe false fun b : V × D => b.2) = (vs.zip ds).mergeSort fun x y => leD x.2 y.2 := rfl
  rw [hm] at hv
  have hlen : (((vs.zip ds).mergeSort fun x y => leD x.2 y.2).map (·.1)).length ≤ sizeLine := by
    rw [List.length_map, List.length_mergeSort, List.length_zip]
    exact Nat.le_trans (Nat.min_le_left _ _) hz
  generalize (((vs.zip ds).mergeSort fun x y => leD x.2 y.2).map (·.1)) = ws at hv hlen q
  obtain ⟨ep, he'⟩ := PyProof.Rows.sortedAll_at s.heap its (List.toArray out)
  exact ⟨.ref _, upd H (s.heap.objs.size + 1) (.lst ws), I.laid (t' := s.toks) (fun _ _ => PyProof.Rows.sortedAll_old) (Nat.le_succ _) ⟨hlen, out, ep, hv, he'⟩, rfl, q _ (I.hok.fresh (Nat.le_succ _))⟩
end
end Py
namespace Py
open PySem L2 StX PySem.Spec PyProof.Rows PySem.Calls
open PySem.AutoSeq1 (wpAny_loadPart')
theorem tuple_mul1 (l : Addr) (items : Array Value) (n : Nat) (dd : Option Addr) (sl : Array (Option Value)) (u : Tok) :
    Meets (Builtin.«tuple.__mul__» ⟨[.ref l, .int 1 u], []⟩) (fun _ R s => s.heap.get? l = some { cls := .type "tuple", dict := dd, data := .seq items n, slots := sl } ∧
      R (.ok (.ret (Value.ref l))) s) :=
  .of_wp fun prog w A R s h => by
    obtain ⟨hp, g, d, tk, os⟩ := s
    obtain ⟨hl, h⟩ := h
    have f1 := AutoSeq1.idx_int
    have c1 : (items.isEmpty || (1 : Int) == 1) = true := by simp
    wp_walk using wpAny_loadPart' hl
    repeat (first
      | (refine wpAny_ite_false (decide_eq_false (by decide)) ?_; wp_walk using wpAny_loadPart' hl)
      | (refine wpAny_ite_true (decide_eq_true c1) ?_; wp_walk using wpAny_loadPart' hl))
    exact ⟨_, rfl, h⟩
def rRep1 (K : PySem.W.Frag) : R2 := fun x y H Q => ∃ l xs, x = .ref l ∧ y = .int 1 ∧ SqT K H l xs ∧ Q x H
theorem op_rep1 {X : Cx} : OpR X (binaryOp .Mult) (rRep1 X.K) := by
  intro pins s σ H x y v u Q I rx ry h
  obtain ⟨l, xs, rfl, rfl, hT, q⟩ := h
  cases rx
  obtain ⟨t, rfl⟩ := ry
  obtain ⟨its, r, ⟨⟨cls, dd, data, sl⟩, ho, hc, n, hd⟩, hs⟩ := I.tuple hT
  simp only at hc hd
  subst hc hd
  exact wpAny_binaryOp_repeat_ref (T := "tuple") (U := "int") (by decide) ⟨_, ho, rfl⟩ (fun s' => typeIs_int s' 1 t) noFill_tuple_mul F.fills_int_mul F.slot_int_rmul repeat_tuple F.slot_int_index.lookup
    (call_meets F.slot_int_rmul (typeIs_int s 1 t) F.entry_int_rmul (F.args_int_rmul_2 _ _) (int_rmul_tuple 1 t l its.toArray n dd sl)
      ⟨ho, rfl, ⟨_, ho, rfl⟩, call_meets F.slot_tuple_mul ⟨_, ho, rfl⟩ F.entry_tuple_mul (F.args_tuple_mul_2 _ _) (tuple_mul1 l its.toArray n dd sl t) ⟨ho, ⟨.ref l, H, I, rfl, q⟩⟩⟩)
def rMulX (K : PySem.W.Frag) : R2 := fun x y H Q => rMulA K x y H Q ∨ (rRepT K x y H Q ∨ rRep1 K x y H Q)
theorem op_mulX {X : Cx} : OpR X (binaryOp .Mult) (rMulX X.K) := op_mulA.or (op_repT.or op_rep1)
def gMulX : D → D → M D := fun x y => match x, y with
  | .tuple a, .int n => if decide (1 ≤ n ∧ n ≤ 1000 ∧ a ≠ [] ∧ a.length ≤ 100) = true then ret (.tuple (repD n.toNat a)) else stuck
  | x, y => gMul x y
theorem repD_one (a : List D) : repD 1 a = a := by simp [repD]
theorem oe_mulX {s : Sx} {K : PySem.W.Frag} : OpE s (rMulX K) gMulX := by
  intro c ps H x y u v Q P hc G hx hy q k
  unfold gMulX at q
  split at q
  · split at q
    · rename_i a n hl
      have hb := of_decide_eq_true hl
      obtain ⟨p1, vs, rfl, h1, dn1, n1⟩ := hx.tup
      have hv : vs.length ≤ 100 := by rw [dn1.length]; exact hb.2.2.2
      have hne : vs ≠ [] := fun e => hb.2.2.1 (dn1.nil_iff.mp e)
      by_cases e1 : n = 1
      · subst e1
        refine .inr (.inr ⟨p1, vs, rfl, hy.int, SqT.of h1, ?_⟩)
        have q' : P (.tuple (repD 1 a)) := q
        rw [repD_one] at q'
        exact k _ _ H q' (Stp.refl c H) (.tup h1 n1 dn1)
      · refine .inr (.inl ⟨p1, n, vs, rfl, hy.int, SqT.of h1, hne, by omega, hb.2.1, by omega, fun p hp => ?_⟩)
        have h3 : vs.length * n.toNat ≤ 100 * 1000 := Nat.mul_le_mul hv (by omega)
        have e := Stp.tup G.ok (xs := (List.replicate n.toNat vs).flatten) hp (by rw [List.length_flatten, List.map_replicate, List.sum_replicate_nat, Nat.mul_comm]; exact Nat.le_trans h3 (by decide))
        exact k _ _ _ q e (.tup upd_same (G.new hp) ((dn1.stp G.ok e).rep _))
    · cases q
  · exact .inl (oe_mul c ps H x y u v Q P hc G hx hy q k)
end Py
end
section
set_option maxHeartbeats 1000000
/-! PyM: builtin functions over data. -/
namespace Py
open PySem L2 StX
open PySem.W (minD maxD)
/-- r reckons G of the arguments: a datum -/
def CaE (s : Sx) (r : List V → Hp → VK → Prop) (g : List D → M D) : Prop := ∀ c ps H vs ds Q P, c.s = s → Gd c ps H → Views c ps H vs ds → g ds P → (∀ d w H', P d → Stp c H H' → Den H' (c.U ps) w d → Q w H') → r vs H Q
def CaL (s : Sx) (r : List V → Hp → VK → Prop) (g : List D → M (List D)) : Prop := ∀ c ps H vs ds Q P, c.s = s → Gd c ps H → Views c ps H vs ds → g ds P →
  (∀ es p ws H', P es → Stp c H H' → H p = none → H' p = some (.lst ws) → DenL H' (fun a => c.U ps a ∨ a = p) ws es → Q (.ref p) H') → r vs H Q
section
variable {s : Sx} {Γ : List Md} {K : PySem.W.Frag}
def cal (g : List D → M D) (f : Env → M (List D)) : Env → M D := fun ρ => bnd (f ρ) g
def calL (g : List D → M (List D)) (f : Env → M (List D)) : Env → M (List D) := fun ρ => bnd (f ρ) g
theorem sem_cb {r : List V → Hp → VK → Prop} {g : List D → M D} {t : TA} {f : Env → M (List D)} (o : CaE s r g) (h : SemAV s Γ t f) : SemE s Γ (tCB r t) (cal g f) := by
  intro c ρ ps σ H Q P hc r0 q k
  refine h c ρ ps σ H _ _ hc r0 q fun ds vs H1 q1 e1 d1 => ?_
  exact o c ps H1 vs ds Q P hc (r0.stp e1).gd d1 q1 fun d w H2 p e2 dn => k d w H2 p (e1.trans e2) dn
theorem sem_cbL {r : List V → Hp → VK → Prop} {g : List D → M (List D)} {t : TA} {f : Env → M (List D)} (o : CaL s r g) (h : SemAV s Γ t f) : SemL s Γ (tCB r t) (calL g f) := by
  intro c ρ ps σ H Q P hc r0 q k
  refine h c ρ ps σ H _ _ hc r0 q fun ds vs H1 q1 e1 d1 => ?_
  exact o c ps H1 vs ds Q P hc (r0.stp e1).gd d1 q1 fun es p ws H2 pp e2 hn hp dn => k es p ws H2 pp (e1.trans e2) (e1.fresh hn) hp dn
theorem View.seqK {c : Fx} {ps : List Addr} {H : Hp} {v : V} {d : D} {ds : List D} (h : View c ps H v d) (e : d = .list ds ∨ d = .tuple ds) : ∃ a vs, v = .ref a ∧ SqAny K H a vs ∧ DenL H (c.U ps) vs ds ∧ vs.length = ds.length := by
  obtain ⟨a, vs, rfl, h1, dn⟩ := h.seq e
  refine ⟨a, vs, rfl, ?_, dn, dn.length⟩
  rcases h1 with ⟨_, h1⟩ | ⟨_, h1⟩
  · exact .inl (SqL.of h1)
  · exact .inr (SqT.of h1)
/-- len -/
def cLen : List D → M D
  | [.list ds] => ret (.int ds.length)
  | [.tuple ds] => ret (.int ds.length)
  | _ => stuck
def rLenA (K : PySem.W.Frag) : List V → Hp → VK → Prop := fun xs H Q => ∃ p ys, xs = [.ref p] ∧ (SqL K H p ys ∨ SqT K H p ys) ∧ Q (.int ys.length) H
theorem ca_len : CaE s (rLenA K) cLen := by
  intro c ps H vs ds Q P hc G hv q k
  unfold cLen at q
  split at q
  · obtain ⟨v, rfl, hw⟩ := hv.one
    obtain ⟨a, ws, rfl, hs, dn, hl⟩ := hw.seqK (K := K) (.inl rfl)
    exact ⟨a, ws, rfl, hs, by rw [hl]; exact k _ _ H q (Stp.refl c H) (.int _)⟩
  · obtain ⟨v, rfl, hw⟩ := hv.one
    obtain ⟨a, ws, rfl, hs, dn, hl⟩ := hw.seqK (K := K) (.inr rfl)
    exact ⟨a, ws, rfl, hs, by rw [hl]; exact k _ _ H q (Stp.refl c H) (.int _)⟩
  · cases q
/-- abs, int, min and max of two -/
def cAbs : List D → M D
  | [.int i] => ret (.int (if i < 0 then -i else i))
  | _ => stuck
def rAbs : List V → Hp → VK → Prop := fun xs H Q => ∃ i, xs = [.int i] ∧ Q (.int (if i < 0 then -i else i)) H
theorem ca_abs : CaE s rAbs cAbs := by
  intro c ps H vs ds Q P hc G hv q k
  unfold cAbs at q
  split at q
  · obtain ⟨v, rfl, hw⟩ := hv.one
    exact ⟨_, by rw [hw.int], k _ _ H q (Stp.refl c H) (.int _)⟩
  · cases q
def cInt : List D → M D
  | [.int i] => ret (.int i)
  | [.bool b] => ret (.int (if b then 1 else 0))
  | _ => stuck
def rInt1 : List V → Hp → VK → Prop := fun xs H Q => (∃ i, xs = [.int i] ∧ Q (.int i) H) ∨ ∃ k, xs = [.bl k] ∧ Q (.int (if k then 1 else 0)) H
theorem ca_int : CaE s rInt1 cInt := by
  intro c ps H vs ds Q P hc G hv q k
  unfold cInt at q
  split at q
  · obtain ⟨v, rfl, hw⟩ := hv.one
    exact .inl ⟨_, by rw [hw.int], k _ _ H q (Stp.refl c H) (.int _)⟩
  · obtain ⟨v, rfl, hw⟩ := hv.one
    exact .inr ⟨_, by rw [hw.bl], k _ _ H q (Stp.refl c H) (.int _)⟩
  · cases q
def cMax2 : List D → M D
  | [.int i, .int j] => ret (.int (if j > i then j else i))
  | _ => stuck
def cMin2 : List D → M D
  | [.int i, .int j] => ret (.int (if j < i then j else i))
  | _ => stuck
abbrev rMx2 : List V → Hp → VK → Prop := fun xs H Q => ∃ i j, xs = [.int i, .int j] ∧ Q (.int (if j > i then j else i)) H
abbrev rMn2 : List V → Hp → VK → Prop := fun xs H Q => ∃ i j, xs = [.int i, .int j] ∧ Q (.int (if j < i then j else i)) H
theorem ca_max2 : CaE s rMx2 cMax2 := by
  intro c ps H vs ds Q P hc G hv q k
  unfold cMax2 at q
  split at q
  · obtain ⟨v, w, rfl, h1, h2⟩ := hv.two
    exact ⟨_, _, by rw [h1.int, h2.int], k _ _ H q (Stp.refl c H) (.int _)⟩
  · cases q
theorem ca_min2 : CaE s rMn2 cMin2 := by
  intro c ps H vs ds Q P hc G hv q k
  unfold cMin2 at q
  split at q
  · obtain ⟨v, w, rfl, h1, h2⟩ := hv.two
    exact ⟨_, _, by rw [h1.int, h2.int], k _ _ H q (Stp.refl c H) (.int _)⟩
  · cases q
def cGcd : List D → M D
  | [.int i, .int j] => ret (.int ((Nat.gcd i.natAbs j.natAbs : Nat) : Int))
  | _ => stuck
theorem ca_gcd : CaE s rGcd cGcd := by
  intro c ps H vs ds Q P hc G hv q k
  unfold cGcd at q
  split at q
  · obtain ⟨v, w, rfl, h1, h2⟩ := hv.two
    exact ⟨_, _, by rw [h1.int, h2.int], k _ _ H q (Stp.refl c H) (.int _)⟩
  · cases q
/-- lists of ints, of bools -/
def intsD : List D → Option (List Int)
  | [] => some []
  | .int i :: r => (intsD r).map (i :: ·)
  | _ => none
def boolsD : List D → Option (List Bool)
  | [] => some []
  | .bool i :: r => (boolsD r).map (i :: ·)
  | _ => none
theorem DenL.ints {H : Hp} {U : AS} : ∀ {ds : List D} {vs : List V} {ns : List Int}, DenL H U vs ds → intsD ds = some ns → vs = ns.map V.int
  | [], _, ns, h, e => by cases h; cases e; rfl
  | d :: ds, _, ns, h, e => by
    cases h with
    | cons h1 h2 =>
      unfold intsD at e
      split at e
      · rename_i he; cases he
      · rename_i i r he
        cases he
        obtain ⟨ms, e1, rfl⟩ := Option.map_eq_some_iff.mp e
        cases h1
        rw [h2.ints e1]; rfl
      · cases e
theorem DenL.bools {H : Hp} {U : AS} : ∀ {ds : List D} {vs : List V} {ns : List Bool}, DenL H U vs ds → boolsD ds = some ns → vs = ns.map V.bl
  | [], _, ns, h, e => by cases h; cases e; rfl
  | d :: ds, _, ns, h, e => by
    cases h with
    | cons h1 h2 =>
      unfold boolsD at e
      split at e
      · rename_i he; cases he
      · rename_i i r he
        cases he
        obtain ⟨ms, e1, rfl⟩ := Option.map_eq_some_iff.mp e
        cases h1
        rw [h2.bools e1]; rfl
      · cases e
def cSum : List D → M D
  | [.list ds] => match intsD ds with | some ns => ret (.int ns.sum) | none => stuck
  | _ => stuck
theorem ca_sum : CaE s (rSum K) cSum := by
  intro c ps H vs ds Q P hc G hv q k
  unfold cSum at q
  split at q
  · cases e : intsD _ with
    | none => rw [e] at q; cases q
    | some ns =>
      rw [e] at q
      obtain ⟨v, rfl, hw⟩ := hv.one
      obtain ⟨a, ws, rfl, h1, dn⟩ := hw.lst
      exact ⟨a, ns, rfl, by rw [← dn.ints e]; exact SqL.of h1, k _ _ H q (Stp.refl c H) (.int _)⟩
  · cases q
def cAll : List D → M D
  | [.list ds] => match boolsD ds with | some ns => ret (.bool (ns.all id)) | none => stuck
  | _ => stuck
def cAny : List D → M D
  | [.list ds] => match boolsD ds with | some ns => ret (.bool (ns.any id)) | none => stuck
  | _ => stuck
theorem ca_all : CaE s (rAll K) cAll := by
  intro c ps H vs ds Q P hc G hv q k
  unfold cAll at q
  split at q
  · cases e : boolsD _ with
    | none => rw [e] at q; cases q
    | some ns =>
      rw [e] at q
      obtain ⟨v, rfl, hw⟩ := hv.one
      obtain ⟨a, ws, rfl, h1, dn⟩ := hw.lst
      exact ⟨a, ns, rfl, by rw [← dn.bools e]; exact SqL.of h1, k _ _ H q (Stp.refl c H) (.bl _)⟩
  · cases q
theorem ca_any : CaE s (rAny K) cAny := by
  intro c ps H vs ds Q P hc G hv q k
  unfold cAny at q
  split at q
  · cases e : boolsD _ with
    | none => rw [e] at q; cases q
    | some ns =>
      rw [e] at q
      obtain ⟨v, rfl, hw⟩ := hv.one
      obtain ⟨a, ws, rfl, h1, dn⟩ := hw.lst
      exact ⟨a, ns, rfl, by rw [← dn.bools e]; exact SqL.of h1, k _ _ H q (Stp.refl c H) (.bl _)⟩
  · cases q
/-- min, max of a sequence of alike data -/
def cBest (f : D → List D → D) : List D → M D
  | [.list (d :: ds)] => if alls (d :: ds) = true then ret (f d ds) else stuck
  | [.tuple (d :: ds)] => if alls (d :: ds) = true then ret (f d ds) else stuck
  | _ => stuck
theorem ca_best {f : D → List D → D} : CaE s (rBest f K) (cBest f) := by
  intro c ps H vs ds Q P hc G hv q k
  have fin : ∀ (x : D) d es, (x = .list (d :: es) ∨ x = .tuple (d :: es)) → ds = [x] → alls (d :: es) = true → ret (f d es) P → rBest f K vs H Q := fun x d es hx e ok q' => by
    subst e
    obtain ⟨v, rfl, hw⟩ := hv.one
    obtain ⟨a, ws, rfl, hs, dn, _⟩ := hw.seqK (K := K) hx
    refine ⟨a, ws, d, es, rfl, hs, dn.dp (alls_of ok).2.2.1, ok, fun i w e1 e2 => ?_⟩
    obtain ⟨w', e3, dw⟩ := dn.get e2
    rw [e1] at e3
    cases e3
    exact k _ w H q' (Stp.refl c H) dw
  unfold cBest at q
  split at q
  · split at q
    · exact fin _ _ _ (.inl rfl) rfl (by assumption) q
    · cases q
  · split at q
    · exact fin _ _ _ (.inr rfl) rfl (by assumption) q
    · cases q
  · cases q
/-- tuple(x) -/
def cTup : List D → M D
  | [.list ds] => ret (.tuple ds)
  | [.tuple ds] => ret (.tuple ds)
  | _ => stuck
def rTupOf (K : PySem.W.Frag) : List V → Hp → VK → Prop := fun xs H Q => ∃ p ys, xs = [.ref p] ∧ ((SqL K H p ys ∧ ∀ l, H l = none → Q (.ref l) (upd H l (.tup ys))) ∨ (SqT K H p ys ∧ Q (.ref p) H))
theorem ca_tup : CaE s (rTupOf K) cTup := by
  intro c ps H vs ds Q P hc G hv q k
  unfold cTup at q
  split at q
  · obtain ⟨v, rfl, hw⟩ := hv.one
    obtain ⟨a, ws, rfl, h1, dn⟩ := hw.lst
    refine ⟨a, ws, rfl, .inl ⟨SqL.of h1, fun l hl => ?_⟩⟩
    have e := Stp.tup G.ok (xs := ws) hl (G.sz a ws (.inl h1))
    exact k _ _ _ q e (.tup upd_same (G.new hl) (dn.stp G.ok e))
  · obtain ⟨v, rfl, hw⟩ := hv.one
    obtain ⟨a, ws, rfl, h1, dn, hn⟩ := hw.tup
    exact ⟨a, ws, rfl, .inr ⟨SqT.of h1, k _ _ H q (Stp.refl c H) (.tup h1 hn dn)⟩⟩
  · cases q
/-- list(x) -/
def cLst : List D → M (List D)
  | [.list ds] => ret ds
  | [.tuple ds] => ret ds
  | _ => stuck
def rLstOf (K : PySem.W.Frag) : List V → Hp → VK → Prop := fun xs H Q => ∃ p ys, xs = [.ref p] ∧ (SqL K H p ys ∨ SqT K H p ys) ∧ ∀ l, H l = none → Q (.ref l) (upd H l (.lst ys))
theorem DenL.plus' {H : Hp} {U : AS} {p : Addr} {vs : List V} {ds : List D} {o : HO} (hp : H p = none) (h : DenL H U vs ds) : DenL (upd H p o) (fun a => U a ∨ a = p) vs ds := h.plus hp
theorem ca_lst : CaL s (rLstOf K) cLst := by
  intro c ps H vs ds Q P hc G hv q k
  have fin : ∀ (x : D) es, (x = .list es ∨ x = .tuple es) → ds = [x] → ret es P → rLstOf K vs H Q := fun x es hx e q' => by
    subst e
    obtain ⟨v, rfl, hw⟩ := hv.one
    obtain ⟨a, ws, rfl, h1, dn⟩ := hw.seq hx
    have hz : ws.length ≤ sizeLine := by
      rcases h1 with ⟨_, h1⟩ | ⟨_, h1⟩
      · exact G.sz a ws (.inl h1)
      · exact G.sz a ws (.inr h1)
    refine ⟨a, ws, rfl, ?_, fun l hl => ?_⟩
    · rcases h1 with ⟨_, h1⟩ | ⟨_, h1⟩
      · exact .inl (SqL.of h1)
      · exact .inr (SqT.of h1)
    · exact k es l ws _ q' (Stp.lst G.ok (xs := ws) hl hz) hl upd_same (dn.plus hl)
  unfold cLst at q
  split at q
  · exact fin _ _ (.inl rfl) rfl q
  · exact fin _ _ (.inr rfl) rfl q
  · cases q
/-- sorted(list) -/
def cSrt : List D → M (List D)
  | [.list ds] => if srtOk ds = true then ret (ds.mergeSort leD) else stuck
  | _ => stuck
theorem DenL.mem {H : Hp} {U : AS} : ∀ {vs : List V} {ds : List D}, DenL H U vs ds → ∀ b ∈ vs.zip ds, Den H U b.1 b.2
  | _, _, .nil, b, h => by simp at h
  | _, _, .cons h t, b, hb => by
    rcases List.mem_cons.mp hb with rfl | hb
    · exact h
    · exact t.mem b hb
theorem denL_of {H : Hp} {U : AS} : ∀ {bs : List (V × D)}, (∀ b ∈ bs, Den H U b.1 b.2) → DenL H U (bs.map (·.1)) (bs.map (·.2))
  | [], _ => .nil
  | b :: bs, h => .cons (h b (by simp)) (denL_of fun x hx => h x (by simp [hx]))
theorem DenL.srt {H : Hp} {U : AS} {vs : List V} {ds : List D} (h : DenL H U vs ds) : DenL H U (((vs.zip ds).mergeSort fun x y => leD x.2 y.2).map (·.1)) (ds.mergeSort leD) := by
  have e : ((vs.zip ds).mergeSort fun x y => leD x.2 y.2).map (·.2) = ds.mergeSort leD := by
    have := List.map_mergeSort (r := fun x y : V × D => leD x.2 y.2) (s := leD) (f := fun x : V × D => x.2) (l := vs.zip ds) (fun a _ b _ => rfl)
    rw [this, List.map_snd_zip]
    have := h.length
    omega
  rw [← e]
  exact denL_of fun b hb => h.mem b ((List.mergeSort_perm _ _).mem_iff.mp hb)
theorem ca_srt : CaL s (rSortD K) cSrt := by
  intro c ps H vs ds Q P hc G hv q k
  unfold cSrt at q
  split at q
  · split at q
    · rename_i es ok
      obtain ⟨v, rfl, hw⟩ := hv.one
      obtain ⟨a, ws, rfl, h1, dn⟩ := hw.lst
      have d2 := dn.srt
      refine ⟨a, ws, es, rfl, SqL.of h1, dn.dp (alls_of (srtOk_of ok).1).2.2.1, ok, fun p hp => ?_⟩
      have hz : (((ws.zip es).mergeSort fun x y => leD x.2 y.2).map (·.1)).length ≤ sizeLine := by
        rw [List.length_map, List.length_mergeSort, List.length_zip]
        exact Nat.le_trans (Nat.min_le_left _ _) (G.sz a ws (.inl h1))
      exact k _ p _ _ q (Stp.lst G.ok hp hz) hp upd_same (d2.plus hp)
    · cases q
  · cases q
/-- repr -/
def cRepr : List D → M D
  | [d] => if rpOk d = true then ret (.str d.shown) else stuck
  | _ => stuck
theorem ca_repr : CaE s (rRepr K) cRepr := by
  intro c ps H vs ds Q P hc G hv q k
  unfold cRepr at q
  split at q
  · split at q
    · rename_i d ok
      obtain ⟨v, rfl, hw⟩ := hv.one
      have lay : d.canLay0 = true := by
        have ok' := ok
        unfold rpOk at ok'
        simp only [Bool.and_eq_true] at ok'
        exact ok'.1.1.2
      exact ⟨v, d, rfl, hw.dp lay, ok, k _ _ H q (Stp.refl c H) (.str _)⟩
    · cases q
  · cases q
/-- in, not in -/
def gIn (neg : Bool) : D → D → M D
  | d, .list ds => if (shp d && PyData.canLayAll0 ds) = true then ret (.bool (xor neg (ds.any fun z => PyData.eqv z d))) else stuck
  | d, .tuple ds => if (shp d && PyData.canLayAll0 ds) = true then ret (.bool (xor neg (ds.any fun z => PyData.eqv z d))) else stuck
  | _, _ => stuck
theorem oe_in {neg : Bool} : OpE s (rInX neg K) (gIn neg) := by
  intro c ps H x y u v Q P hc G hx hy q k
  unfold gIn at q
  split at q
  · split at q
    · rename_i ds z
      rw [Bool.and_eq_true] at z
      exact ⟨_, ds, hx.dp (shp_lay z.1), .inl (hy.dp (by simpa [PyData.canLay0] using z.2)), z.1, z.2, k _ _ H q (Stp.refl c H) (.bl _)⟩
    · cases q
  · split at q
    · rename_i ds z
      rw [Bool.and_eq_true] at z
      exact ⟨_, ds, hx.dp (shp_lay z.1), .inr (hy.dp (by simpa [PyData.canLay0] using z.2)), z.1, z.2, k _ _ H q (Stp.refl c H) (.bl _)⟩
    · cases q
  · cases q
/-- < of tuples -/
def gLtD : D → D → M D := fun x y => if (cmpOk x y && shp y) = true then ret (.bool (W.dataLt x y)) else stuck
theorem oe_ltD : OpE s (rLtD K) gLtD := by
  intro c ps H x y u v Q P hc G hx hy q k
  unfold gLtD at q
  split at q
  · rename_i z
    rw [Bool.and_eq_true] at z
    have z1 := z.1
    unfold cmpOk at z1
    simp only [Bool.and_eq_true] at z1
    exact ⟨x, y, hx.dp (shp_lay z1.1.2), hy.dp (shp_lay z.2), z.1, k _ _ H q (Stp.refl c H) (.bl _)⟩
  · cases q
/-- isinstance -/
def tyD : D → String
  | .none => "NoneType"
  | .bool _ => "bool"
  | .int _ => "int"
  | .str _ => "str"
  | .list _ => "list"
  | .tuple _ => "tuple"
  | .dict _ => "dict"
def tIsi (K : PySem.W.Frag) (t : TE) (n : String) : TE := tCB (rIsi K) (tCons t (tCons (tC (.ty n)) tNil))
def gIsi (n : String) : D → M D := fun d => match kitB (tyD d) n with | some b => ret (.bool b) | none => stuck
theorem View.tyx {c : Fx} {ps : List Addr} {H : Hp} {v : V} {d : D} (h : View c ps H v d) : TyX K H v (.type (tyD d)) := by
  cases h with
  | den h =>
    cases h with
    | non => exact .base .non
    | bl b => exact .base (.bl b)
    | int i => exact .base (.int i)
    | str x => exact .base (.str x)
    | lst h1 => exact .base (.lst h1)
    | tup h1 => exact .base (.tup h1)
    | dct h1 => exact .base (.dK h1)
  | own h1 => exact .base (.lst h1)
theorem sem_isi {t : TE} {e : Env → M D} {n : String} (h : SemV s Γ t e) : SemE s Γ (tIsi K t n) (una (gIsi n) e) := by
  intro c ρ ps σ H Q P hc r0 q k
  refine h c ρ ps σ H _ _ hc r0 q fun d v H1 q1 e1 d1 => ?_
  unfold gIsi at q1
  cases hb : kitB (tyD d) n with
  | none => rw [hb] at q1; cases q1
  | some b =>
    rw [hb] at q1
    exact ⟨v, .ty n, _, _, b, rfl, .ty n, d1.tyx, kit_ty hb, k _ _ H1 q1 e1 (.bl _)⟩
end
end Py
end
section
set_option maxHeartbeats 1000000
/-! PyN: small things for printed walks. -/
namespace Py
open PySem L2 StX
theorem bt_len : bootBuiltins "len" = some (.builtin "len") := PySem.boot_len
theorem bt_abs : bootBuiltins "abs" = some (.builtin "abs") := by decide +kernel
theorem bt_max : bootBuiltins "max" = some (.builtin "max") := by decide +kernel
theorem bt_min : bootBuiltins "min" = some (.builtin "min") := by decide +kernel
theorem bt_sum : bootBuiltins "sum" = some (.builtin "sum") := by decide +kernel
theorem bt_all : bootBuiltins "all" = some (.builtin "all") := by decide +kernel
theorem bt_any : bootBuiltins "any" = some (.builtin "any") := by decide +kernel
theorem bt_repr : bootBuiltins "repr" = some (.builtin "repr") := by decide +kernel
theorem bt_sorted : bootBuiltins "sorted" = some (.builtin "sorted") := by decide +kernel
theorem bt_isinstance : bootBuiltins "isinstance" = some (.builtin "isinstance") := by decide +kernel
theorem bt_int : bootBuiltins "int" = some (.type "int") := by decide +kernel
theorem bt_bool : bootBuiltins "bool" = some (.type "bool") := by decide +kernel
theorem bt_str : bootBuiltins "str" = some (.type "str") := by decide +kernel
theorem bt_list : bootBuiltins "list" = some (.type "list") := by decide +kernel
theorem bt_tuple : bootBuiltins "tuple" = some (.type "tuple") := by decide +kernel
theorem bt_dict : bootBuiltins "dict" = some (.type "dict") := by decide +kernel
theorem _root_.L2.Room.u65 {k : Nat} {A : Around} (r : Room k A) : A.units + 65 < cLine := by have := r.un; omega
theorem _root_.L2.Room.u66 {k : Nat} {A : Around} (r : Room k A) : A.units + 66 < cLine := by have := r.un; omega
theorem _root_.L2.Room.u67 {k : Nat} {A : Around} (r : Room k A) : A.units + 67 < cLine := by have := r.un; omega
def froAt (Γ : List Md) (i : Nat) : Bool := match Γ[i]? with | some .fro => true | _ => false
theorem allFro {Γ : List Md} {vs : List Nat} (h : vs.all (froAt Γ) = true) : ∀ i ∈ vs, Γ[i]? = some .fro := fun i hi => by
  have := List.all_eq_true.mp h i hi
  unfold froAt at this
  split at this
  · assumption
  · cases this
section
variable {s : Sx} {Γ : List Md}
theorem DenL.rg {H : Hp} {U : AS} (a b : Int) : DenL H U (rgV a b) (rangeD a (b - a).toNat) := by
  unfold rgV rangeD
  generalize (b - a).toNat = n
  induction n with
  | zero => exact .nil
  | succ n ih =>
    rw [List.range_succ, List.map_append, List.map_append]
    exact ih.append (.cons (.int _) .nil)
def eTupRg (e : Env → M D) : Env → M D := fun ρ => bnd (e ρ) fun d => match d with
  | .int n => if rngOk n = true then ret (.tuple (rangeD 0 (n - 0).toNat)) else stuck
  | _ => stuck
theorem sem_tupRg {t : TE} {e : Env → M D} (h : SemV s Γ t e) : SemE s Γ (tTupRg (tRg1 t)) (eTupRg e) := by
  intro c ρ ps σ H Q P hc r0 q k
  refine h c ρ ps σ H _ _ hc r0 q fun d v H1 q1 e1 d1 => ?_
  dsimp only at q1
  split at q1
  · split at q1
    · rename_i n hr
      have hb := rngOk_b hr
      refine ⟨n, d1.int, (⟨by omega, by omega, by omega, by omega, by omega⟩ : RgOk 0 n), fun p hp => ?_⟩
      have r1 := r0.stp e1
      have e := Stp.tup r1.ok (xs := rgV 0 n) hp (by rw [rgV_length]; exact sz_1e5 (by omega))
      exact k _ _ _ q1 (e1.trans e) (.tup upd_same (r1.new hp) (DenL.rg 0 n))
    · cases q1
  · cases q1
end

/-! ### the walk's rules with K said -/
section
variable {X : Cx} {K : PySem.W.Frag}
theorem kIx (h : X.K = K := by rfl) : IxR X (rIx K) := by subst h; exact ix_seq
theorem kSl (h : X.K = K := by rfl) : SlR X (rSlLT K) := by subst h; exact sl_any
theorem kAdd (h : X.K = K := by rfl) : OpR X (binaryOp .Add) (rAddA K) := by subst h; exact op_addA
theorem kMul (h : X.K = K := by rfl) : OpR X (binaryOp .Mult) (rMulX K) := by subst h; exact op_mulX
theorem kEq {k : Nat} (r : Room k X.A) (h : X.K = K := by rfl) : OpR X (compareOp .Eq) (rEqD K) := by subst h; exact op_eqD r.units
theorem kNe {k : Nat} (r : Room k X.A) (h : X.K = K := by rfl) : OpR X (compareOp .NotEq) (rNeD K) := by subst h; exact op_neD r.units
theorem kIn {k : Nat} (r : Room k X.A) (h : X.K = K := by rfl) : OpR X (compareOp .In) (rInX false K) := by subst h; exact op_inX r.u65
theorem kNotIn {k : Nat} (r : Room k X.A) (h : X.K = K := by rfl) : OpR X (compareOp .NotIn) (rInX true K) := by subst h; exact op_notInX r.u65
theorem kLtD {k : Nat} (r : Room k X.A) (h : X.K = K := by rfl) : OpR X (compareOp .Lt) (rLtD K) := by subst h; exact op_ltD r.u65
theorem kLen (h : X.K = K := by rfl) : CallR X (.builtin "len") (rLenA K) := by subst h; exact call_len_seq
theorem kSum (hc : X.calm = true) (h : X.K = K := by rfl) : CallR X (.builtin "sum") (rSum K) := by subst h; exact cr_sum hc
theorem kAll (hc : X.calm = true) (h : X.K = K := by rfl) : CallR X (.builtin "all") (rAll K) := by subst h; exact cr_all hc
theorem kAny (hc : X.calm = true) (h : X.K = K := by rfl) : CallR X (.builtin "any") (rAny K) := by subst h; exact cr_any hc
theorem kTup (h : X.K = K := by rfl) : CallR X (.type "tuple") (rTupOf K) := by subst h; exact call_tuple_of
theorem kLst (h : X.K = K := by rfl) : CallR X (.type "list") (rLstOf K) := by subst h; exact call_list_of
theorem kMin {k : Nat} (hc : X.calm = true) (r : Room k X.A) (h : X.K = K := by rfl) : CallR X (.builtin "min") (rBest PySem.W.minD K) := by subst h; exact cr_minD hc r.u66
theorem kMax {k : Nat} (hc : X.calm = true) (r : Room k X.A) (h : X.K = K := by rfl) : CallR X (.builtin "max") (rBest PySem.W.maxD K) := by subst h; exact cr_maxD hc r.u66
theorem kSrt {k : Nat} (r : Room k X.A) (h : X.K = K := by rfl) : CallR X (.builtin "sorted") (rSortD K) := by subst h; exact cr_sortD r.u67
theorem kRepr {k : Nat} (hg : X.A.guards = some []) (r : Room k X.A) (h : X.K = K := by rfl) : CallR X (.builtin "repr") (rRepr K) := by subst h; exact cr_repr hg r.u66
theorem kIsi (h : X.K = K := by rfl) : CallR X (.builtin "isinstance") (rIsi K) := by subst h; exact call_isi
theorem piSeq {tg l : Expr} {tl : TE} (hl : PE X l tl) (h : X.K = K := by rfl) : PI X tg l (iSeq K tl) := by subst h; exact pi_seq hl
theorem paStar {e : Expr} {es : List Expr} {te : TE} {t : TA} {p : Pos} (he : PE X e te) (hr : PA X es t) (h : X.K = K := by rfl) (hs : starEach (.Starred e p :: es) X.env = (true, eval e X.env) :: starEach es X.env := by rfl) : PA X (.Starred e p :: es) (tStar K te t) := by
  subst h; exact pa_star he hr hs
theorem piZip {e e2 : Expr} {ta : TA} {p pos tpos : Pos} {elts : List Expr} {kk : Nat} (hg : Gl X "zip") (hm : X.mg "zip" = none) (ha : PA X [e, e2] ta) (h : X.K = K := by rfl)
    (hs : starEach [e, e2] X.env = (false, eval e X.env) :: starEach [e2] X.env := by rfl) (hs2 : (backTo pos (starEach [e2] X.env)).any (·.1) = false := by rfl) :
    PI X (.Tuple elts kk tpos) (.Call (.Name "zip" p) [e, e2] [] pos) (iZipB K ta) := by subst h; exact pi_zipB hg hm ha hs hs2
theorem piEnum {e : Expr} {ta : TA} {p pos tpos : Pos} {elts : List Expr} {kk : Nat} (hg : Gl X "enumerate") (hm : X.mg "enumerate" = none) (ha : PA X [e] ta) (h : X.K = K := by rfl) (hs : starEach [e] X.env = [(false, eval e X.env)] := by rfl) :
    PI X (.Tuple elts kk tpos) (.Call (.Name "enumerate" p) [e] [] pos) (iEnumB K ta) := by subst h; exact pi_enumB hg hm ha hs
theorem pgTup {es : List Expr} {k : Nat} {t : TGs} {n : Nat} {pos : Pos} (hc : X.calm = true) (hp : PGs X es t) (h : X.K = K := by rfl) (hn : (assignEach es X.env).length = n := by rfl) (hst : (assignEach es X.env).findIdx? (·.1) = none := by rfl) :
    PG X (.Tuple es k pos) (gTup K n t) := by subst h; exact pg_tup hc hp hn hst
theorem ptTru {a : Expr} {ta : TE} (ha : PE X a ta) (he : ∀ whole, isTrue a X.env whole = (do let v ← whole; standAt a.pos; holding [v] (truthy v)) := by intro _; rfl) (h : X.K = K := by rfl) :
    PT X a (fun σ H Q => ta σ H fun x H' => ∃ k, TruV K x H' k ∧ Q k H') := by subst h; exact pt_truth ha he
end
end Py
end
section
set_option maxHeartbeats 1000000
/-! PyP: the laws' own source of numbers: a dict with a list of cells. -/
namespace Py
open PySem L2 StX
/-- the dict at src, its cells at cl -/
def kCells : Key := .inr "cells"
def kLeft : Key := .inr "left"
def kMixed : Key := .inr "mixed"
def kTurn : Key := .inr "turn"
def srcKv (cl : Addr) (l m t : Int) : List (Key × V) := [(kCells, .ref cl), (kLeft, .int l), (kMixed, .int m), (kTurn, .int t)]
structure Src (src cl : Addr) (H : Hp) (ns : List Int) (l m t : Int) : Prop where
  d : H src = some (.dK (srcKv cl l m t))
  c : H cl = some (.lst (ns.map V.int))
theorem k_lc : kLeft ≠ kCells := by decide +kernel
theorem k_mc : kMixed ≠ kCells := by decide +kernel
theorem k_tc : kTurn ≠ kCells := by decide +kernel
theorem k_ml : kMixed ≠ kLeft := by decide +kernel
theorem k_tl : kTurn ≠ kLeft := by decide +kernel
theorem k_tm : kTurn ≠ kMixed := by decide +kernel
section
variable {cl : Addr} {l m t : Int}
theorem src_cells : valV (srcKv cl l m t) kCells = some (.ref cl) := by
  simp [valV, srcKv]
theorem src_left : valV (srcKv cl l m t) kLeft = some (.int l) := by
  simp [valV, srcKv, k_lc.symm]
theorem src_mixed : valV (srcKv cl l m t) kMixed = some (.int m) := by
  simp [valV, srcKv, k_mc.symm, k_ml.symm]
theorem src_turn : valV (srcKv cl l m t) kTurn = some (.int t) := by
  simp [valV, srcKv, k_tc.symm, k_tl.symm, k_tm.symm]
theorem put_left (x : Int) : putK (srcKv cl l m t) kLeft (.int x) = srcKv cl x m t := by
  simp [putK, srcKv, k_lc.symm, k_ml, k_tl]
theorem put_turn (x : Int) : putK (srcKv cl l m t) kTurn (.int x) = srcKv cl l m x := by
  simp [putK, srcKv, k_tc.symm, k_tl.symm, k_tm.symm]
theorem put_mixed (x : Int) : putK (srcKv cl l m t) kMixed (.int x) = srcKv cl l x t := by
  simp [putK, srcKv, k_mc.symm, k_ml.symm, k_tm]
end
def sxOf (src cl : Addr) : Sx := ⟨fun a => a = src ∨ a = cl, fun H => src ≠ cl ∧ ∃ ns l m t, Src src cl H ns l m t, src⟩
theorem sxOk (src cl : Addr) : SxOk (sxOf src cl) := ⟨fun H H' ⟨h0, ns, l, m, t, h⟩ e => ⟨h0, ns, l, m, t, e _ _ (.inl rfl) h.d, e _ _ (.inr rfl) h.c⟩⟩
/-- what pick gives: any number below -/
def anyBelow (n : Int) : M D := fun P => ∀ k : Int, 0 ≤ k → k < n → P (.int k)
def F_pick : List D → M D := fun ds => match ds with
  | [.int n] => if n < 2 then ret (.int 0) else if n < 1073741824 then anyBelow n else stuck
  | _ => stuck
theorem Src.stp {src cl : Addr} {U : AS} {H H' : Hp} {ns ns' : List Int} {l m t l' m' t' : Int} (ne : src ≠ cl) (h : Src src cl H ns l m t) (h' : Src src cl H' ns' l' m' t') (o : ∀ a, a ≠ src → a ≠ cl → H' a = H a) (hl : ns'.length ≤ ns.length) : Stp ⟨sxOf src cl, U, H⟩ H H' where
  keep := fun a x q n => by rw [o a (fun e => n (.inl e)) (fun e => n (.inr e))]; exact q
  there := fun a x q => by
    by_cases e1 : a = src
    · subst e1; exact ⟨_, h'.d⟩
    · by_cases e2 : a = cl
      · subst e2; exact ⟨_, h'.c⟩
      · exact ⟨x, by rw [o a e1 e2]; exact q⟩
  inv := fun _ => ⟨ne, _, _, _, _, h'⟩
  al := fun lo a u => by
    by_cases e1 : a = src
    · subst e1; exact ⟨_, h'.d, fun xs z => by cases z⟩
    · by_cases e2 : a = cl
      · subst e2; exact ⟨_, h'.c, fun xs z => by cases z⟩
      · rw [o a e1 e2]; exact lo a u
  sz := fun z a xs q => by
    by_cases e1 : a = src
    · subst e1; rw [h'.d] at q; rcases q with q | q <;> cases q
    · by_cases e2 : a = cl
      · subst e2
        rw [h'.c] at q
        rcases q with q | q <;> cases q
        have := z a _ (.inl h.c)
        simp only [List.length_map] at this ⊢
        omega
      · rw [o a e1 e2] at q; exact z a xs q
theorem Src.put {src cl : Addr} {H : Hp} {ns : List Int} {l m t l' m' t' : Int} (ne : src ≠ cl) (h : Src src cl H ns l m t) : Src src cl (upd H src (.dK (srcKv cl l' m' t'))) ns l' m' t' :=
  ⟨upd_same, by rw [upd_ne ne.symm]; exact h.c⟩
def cStr (x : Str) : TE := tC (.str x)
def tPick (K : PySem.W.Frag) : TS :=
  tSeq (tIfS (tTest (tOp (rI0 fun i j => .bl (decide (i < j))) (tVar 1) (tC (.int 2)))) (tRet (tC (.int 0))) tNext)
  (tSeq (tAsg (tDGet (tVar 0) (tC (.str "cells"))) (gName 2))
  (tSeq (tWhile (tAnd (tTest (tOp (rI0 fun i j => .bl (decide (i < j))) (tDGet (tVar 0) (tC (.str "left"))) (tC (.int 2)))) (tTest (tOp (rI0 fun i j => .bl (decide (j < i))) (tCB (rLenA K) (tCons (tVar 2) tNil)) (tC (.int 0)))))
    (sDPut (tVar 0) (tC (.str "left")) (tBM0 K "list" rPop (tVar 2))))
  (tSeq (tAsg (tDGet (tVar 0) (tC (.str "left"))) (gName 3))
  (tSeq (tIfS (tTest (tOp (rI0 fun i j => .bl (decide (j < i))) (tVar 3) (tC (.int 1)))) (tSeq (sDPut (tVar 0) (tC (.str "left")) (tOp (rI CDiv fun i j => .int (i / j)) (tVar 3) (tVar 1))) (tRet (tOp (rI (fun _ j => 0 < j) fun i j => .int (i % j)) (tCB rInt1 (tCons (tVar 3) tNil)) (tVar 1)))) tNext)
  (tSeq (sDPut (tVar 0) (tC (.str "turn")) (tOp (rI0 fun i j => .int (i + j)) (tDGet (tVar 0) (tC (.str "turn"))) (tC (.int 1))))
  (tSeq (tAsg (tDGet (tVar 0) (tC (.str "turn"))) (gName 4))
  (tSeq (tAsg (tOp (rI (fun _ j => 0 < j) fun i j => .int (i % j)) (tCB rInt1 (tCons (tOp (rI0 fun i j => .int (i + j)) (tDGet (tVar 0) (tC (.str "mixed"))) (tOp (rI CMul fun i j => .int (i * j)) (tVar 4) (tC (.int 104729)))) tNil)) (tC (.int 998244353))) (gName 5))
  (tSeq (tAsg (tOp (rI (fun _ j => 0 < j) fun i j => .int (i % j)) (tCB rInt1 (tCons (tOp (rI0 fun i j => .int (i + j)) (tOp (rI CMul fun i j => .int (i * j)) (tVar 5) (tVar 5)) (tOp (rI CMul fun i j => .int (i * j)) (tVar 4) (tC (.int 17)))) tNil)) (tC (.int 2147483647))) (gName 5))
  (tRet (tOp (rI (fun _ j => 0 < j) fun i j => .int (i % j)) (tCB rInt1 (tCons (tOp (rI CDiv fun i j => .int (i / j)) (tVar 5) (tC (.int 16))) tNil)) (tVar 1)))))))))))
theorem last_map {α β : Type} (f : α → β) (xs : List α) (h : xs ≠ []) : (xs.map f)[(xs.map f).length - 1]? = some (f (xs.getLast h)) := by
  rw [List.getElem?_map, List.length_map, ← List.getLast?_eq_getElem?, List.getLast?_eq_some_getLast h]; rfl
theorem pick_body {K : PySem.W.Frag} {src cl : Addr} {N : List Str} {vs : List V} {H : Hp} {Q : VK} {E : XK} (hN : N.length = 6) (h : spS (sxOf src cl) 1 F_pick vs H Q E) : tPick K { nx := fun _ H' => Q .non H', rt := Q } (L2.start N vs) H := by
  obtain ⟨hl, ws, rfl, ds, U, P, C⟩ := h
  obtain ⟨ne, ns, l, m, t, hs⟩ := C.inv
  have run := C.run
  unfold F_pick at run
  split at run
  · rename_i n
    have e0 := C.den
    cases e0 with
    | cons d1 d2 =>
      cases d2
      cases d1
      have est : L2.start N [V.ref src, .int n] = [some (.ref src), some (.int n), none, none, none, none] := by
        unfold L2.start
        rw [hN]; rfl
      show tPick K _ (L2.start N [V.ref src, .int n]) H
      rw [est]
      by_cases h2 : n < 2
      · rw [if_pos h2] at run
        refine ⟨_, rfl, n, 2, rfl, rfl, true, congrArg V.bl (decide_eq_true h2), iteT ?_⟩
        exact C.out _ _ H run (Stp.refl _ H) (.int 0)
      · rw [if_neg h2] at run
        by_cases h3 : n < 1073741824
        · rw [if_pos h3] at run
          have fin : ∀ k : Int, ∀ H' ns' l' m' t', 0 ≤ k → k < n → Src src cl H' ns' l' m' t' → (∀ a, a ≠ src → a ≠ cl → H' a = H a) → ns'.length ≤ ns.length → Q (.int k) H' := fun k H' ns' l' m' t' k0 k1 s' o hl' =>
            C.out _ _ H' (run k k0 k1) (hs.stp ne s' o hl') (.int k)
          refine ⟨_, rfl, n, 2, rfl, rfl, false, congrArg V.bl (decide_eq_false h2), iteF ?_⟩
          -- cells
          refine ⟨_, rfl, src, .ref cl, rfl, ?_, ?_⟩
          · have := DGet.k (k := kCells) hs.d
            rw [src_cells] at this; exact this
          -- while
          refine ⟨fun k σ H' => ∃ ns' l', σ = [some (.ref src), some (.int n), some (.ref cl), none, none, none] ∧ k = ns'.length ∧ Src src cl H' ns' l' m t ∧ (∀ a, a ≠ src → a ≠ cl → H' a = H a) ∧ ns'.length ≤ ns.length, ⟨ns.length, ns, l, rfl, rfl, hs, fun _ _ _ => rfl, Nat.le_refl _⟩, ?_⟩
          rintro k σ H' ⟨ns', l', rfl, rfl, s', o', hl'⟩
          have g1 : ∀ {H' ns' l' m' t'}, Src src cl H' ns' l' m' t' → DGet H' src (.str "left") (some (.int l')) := fun s => by
            have := DGet.k (k := kLeft) s.d
            rw [src_left] at this; exact this
          have g2 : ∀ {H' ns' l' m' t'}, Src src cl H' ns' l' m' t' → DGet H' src (.str "turn") (some (.int t')) := fun s => by
            have := DGet.k (k := kTurn) s.d
            rw [src_turn] at this; exact this
          have g3 : ∀ {H' ns' l' m' t'}, Src src cl H' ns' l' m' t' → DGet H' src (.str "mixed") (some (.int m')) := fun s => by
            have := DGet.k (k := kMixed) s.d
            rw [src_mixed] at this; exact this
          have p1 : ∀ {H' ns' l' m' t'} (x : Int), Src src cl H' ns' l' m' t' → DPut H' src (.str "left") (.int x) (upd H' src (.dK (srcKv cl x m' t'))) := fun x s => by
            have := DPut.k (k := kLeft) (v := .int x) s.d (by show 4 < sizeLine; decide)
            rw [put_left] at this; exact this
          have p2 : ∀ {H' ns' l' m' t'} (x : Int), Src src cl H' ns' l' m' t' → DPut H' src (.str "turn") (.int x) (upd H' src (.dK (srcKv cl l' m' x))) := fun x s => by
            have := DPut.k (k := kTurn) (v := .int x) s.d (by show 4 < sizeLine; decide)
            rw [put_turn] at this; exact this
          have oput : ∀ {H' : Hp} {o : HO}, (∀ a, a ≠ src → a ≠ cl → H' a = H a) → ∀ a, a ≠ src → a ≠ cl → (upd H' src o) a = H a := fun o' a a1 a2 => by rw [upd_ne a1]; exact o' a a1 a2
          -- behind the loop
          have after : ∀ ns' l' H', Src src cl H' ns' l' m t → (∀ a, a ≠ src → a ≠ cl → H' a = H a) → ns'.length ≤ ns.length → ∀ D : Ends, D.rt = Q → (tSeq (tAsg (tDGet (tVar 0) (tC (.str "left"))) (gName 3))
            (tSeq (tIfS (tTest (tOp (rI0 fun i j => .bl (decide (j < i))) (tVar 3) (tC (.int 1)))) (tSeq (sDPut (tVar 0) (tC (.str "left")) (tOp (rI CDiv fun i j => .int (i / j)) (tVar 3) (tVar 1))) (tRet (tOp (rI (fun _ j => 0 < j) fun i j => .int (i % j)) (tCB rInt1 (tCons (tVar 3) tNil)) (tVar 1)))) tNext)
            (tSeq (sDPut (tVar 0) (tC (.str "turn")) (tOp (rI0 fun i j => .int (i + j)) (tDGet (tVar 0) (tC (.str "turn"))) (tC (.int 1))))
            (tSeq (tAsg (tDGet (tVar 0) (tC (.str "turn"))) (gName 4))
            (tSeq (tAsg (tOp (rI (fun _ j => 0 < j) fun i j => .int (i % j)) (tCB rInt1 (tCons (tOp (rI0 fun i j => .int (i + j)) (tDGet (tVar 0) (tC (.str "mixed"))) (tOp (rI CMul fun i j => .int (i * j)) (tVar 4) (tC (.int 104729)))) tNil)) (tC (.int 998244353))) (gName 5))
            (tSeq (tAsg (tOp (rI (fun _ j => 0 < j) fun i j => .int (i % j)) (tCB rInt1 (tCons (tOp (rI0 fun i j => .int (i + j)) (tOp (rI CMul fun i j => .int (i * j)) (tVar 5) (tVar 5)) (tOp (rI CMul fun i j => .int (i * j)) (tVar 4) (tC (.int 17)))) tNil)) (tC (.int 2147483647))) (gName 5))
            (tRet (tOp (rI (fun _ j => 0 < j) fun i j => .int (i % j)) (tCB rInt1 (tCons (tOp (rI CDiv fun i j => .int (i / j)) (tVar 5) (tC (.int 16))) tNil)) (tVar 1)))))))))
              D [some (.ref src), some (.int n), some (.ref cl), none, none, none] H' := by
            intro ns' l' H' s' o' hl' D hD
            refine ⟨_, rfl, src, .int l', rfl, g1 s', ?_⟩
            by_cases h5 : 1 < l'
            · refine ⟨_, rfl, l', 1, rfl, rfl, true, congrArg V.bl (decide_eq_true h5), iteT ?_⟩
              refine ⟨_, rfl, _, rfl, l', n, rfl, rfl, ⟨by omega, h3⟩, _, rfl, src, _, rfl, p1 (l' / n) s', ?_⟩
              refine ⟨_, rfl, .inl ⟨l', rfl, _, rfl, l', n, rfl, rfl, by omega, ?_⟩⟩
              show D.rt (.int (l' % n)) _
              rw [hD]
              exact fin (l' % n) _ ns' _ m t (Int.emod_nonneg _ (by omega)) (Int.emod_lt_of_pos _ (by omega)) (s'.put ne) (oput o') hl'
            · refine ⟨_, rfl, l', 1, rfl, rfl, false, congrArg V.bl (decide_eq_false h5), iteF ?_⟩
              refine ⟨_, rfl, src, .int t, rfl, g2 s', t, 1, rfl, rfl, _, rfl, src, _, rfl, p2 (t + 1) s', ?_⟩
              have s2 : Src src cl (upd H' src (.dK (srcKv cl l' m (t + 1)))) ns' l' m (t + 1) := s'.put ne
              refine ⟨_, rfl, src, .int (t + 1), rfl, g2 s2, ?_⟩
              have b1 : 0 ≤ (m + (t + 1) * 104729) % 998244353 ∧ (m + (t + 1) * 104729) % 998244353 < 998244353 := by omega
              have c1 : CMul ((m + (t + 1) * 104729) % 998244353) ((m + (t + 1) * 104729) % 998244353) := .inl (by omega)
              have c2 : CMul (t + 1) 104729 := .inr (by decide)
              have c3 : CMul (t + 1) 17 := .inr (by decide)
              have c4 : ∀ i : Int, CDiv i 16 := fun i => by unfold CDiv; decide
              refine ⟨_, rfl, src, .int m, rfl, g3 s2, _, rfl, t + 1, 104729, rfl, rfl, c2, m, _, rfl, rfl, .inl ⟨_, rfl, _, 998244353, rfl, rfl, (show (0 : Int) < 998244353 by decide), ?_⟩⟩
              refine ⟨_, rfl, _, rfl, _, _, rfl, rfl, c1, _, rfl, t + 1, 17, rfl, rfl, c3, _, _, rfl, rfl, .inl ⟨_, rfl, _, 2147483647, rfl, rfl, (show (0 : Int) < 2147483647 by decide), ?_⟩⟩
              refine ⟨_, rfl, _, 16, rfl, rfl, c4 _, .inl ⟨_, rfl, _, rfl, _, n, rfl, rfl, (show (0 : Int) < n by omega), ?_⟩⟩
              show D.rt (.int (_ % n)) _
              rw [hD]
              exact fin _ _ ns' l' m (t + 1) (Int.emod_nonneg _ (by omega)) (Int.emod_lt_of_pos _ (by omega)) s2 (oput o') hl'
          refine ⟨_, rfl, src, .int l', rfl, g1 s', l', 2, rfl, rfl, ?_⟩
          by_cases h6 : l' < 2
          · refine ⟨true, congrArg V.bl (decide_eq_true h6), iteT ?_⟩
            refine ⟨_, rfl, cl, ns'.map V.int, rfl, .inl (SqL.of s'.c), _, 0, rfl, rfl, ?_⟩
            by_cases h7 : ns' = []
            · subst h7
              refine ⟨false, rfl, iteF ?_⟩
              exact after [] l' H' s' o' hl' _ rfl
            · have hp : 0 < ns'.length := List.length_pos_iff.mpr h7
              refine ⟨true, congrArg V.bl (decide_eq_true (show (0 : Int) < ((ns'.map V.int).length : Int) by rw [List.length_map]; omega)), iteT ?_⟩
              refine ⟨fun σ2 H2 => ∃ ns2 l2, σ2 = [some (.ref src), some (.int n), some (.ref cl), none, none, none] ∧ ns2.length < ns'.length ∧ Src src cl H2 ns2 l2 m t ∧ (∀ a, a ≠ src → a ≠ cl → H2 a = H a) ∧ ns2.length ≤ ns.length,
                fun σ2 H2 ⟨ns2, l2, a, b, c, d, e⟩ => ⟨ns2.length, b, ns2, l2, a, rfl, c, d, e⟩, ?_⟩
              refine ⟨_, rfl, .inl ⟨rfl, _, SqL.of s'.c⟩, cl, ns'.map V.int, _, rfl, rfl, s'.c, last_map V.int ns' h7, ?_⟩
              have s2 : Src src cl (upd H' cl (.lst (ns'.map V.int).dropLast)) ns'.dropLast l' m t := ⟨by rw [upd_ne ne]; exact s'.d, by rw [upd_same, List.map_dropLast]⟩
              refine ⟨_, rfl, src, _, rfl, p1 _ s2, ns'.dropLast, _, rfl, by rw [List.length_dropLast]; omega, s2.put ne, fun a a1 a2 => ?_, by rw [List.length_dropLast]; omega⟩
              rw [upd_ne a1, upd_ne a2]
              exact o' a a1 a2
          · refine ⟨false, congrArg V.bl (decide_eq_false h6), iteF ?_⟩
            refine iteF ?_
            exact after ns' l' H' s' o' hl' _ rfl
        · rw [if_neg h3] at run
          exact False.elim run
  · exact False.elim run

/-! ### how it is opened -/
/-- all that stood stands; a new source -/
def spOpen (K : PySem.W.Frag) : Sp := fun vs H Q _ => ∃ (a : Addr) (ns : List Int), vs = [.ref a] ∧ SqL K H a (ns.map V.int) ∧ ns.length ≤ 100000 ∧ Sz H ∧ ∀ H' src cl, (∀ b o, H b = some o → H' b = some o) → src ≠ cl → (∃ ns l m t, Src src cl H' ns l m t) → Sz H' → Q (.ref src) H'
def tOpen (K : PySem.W.Frag) : TS :=
  tSeq (tAsg (tC (.int 11)) (gName 1))
  (tSeq (tFor (iList K (tVar 0)) (gName 2) (tAsg (tOp (rI (fun _ j => 0 < j) fun i j => .int (i % j)) (tCB rInt1 (tCons (tOp (rI0 fun i j => .int (i + j)) (tOp (rI0 fun i j => .int (i + j)) (tOp (rI CMul fun i j => .int (i * j)) (tVar 1) (tC (.int 69069))) (tOp (rI CMul fun i j => .int (i * j)) (tVar 2) (tC (.int 31)))) (tC (.int 5))) tNil)) (tC (.int 2147483629))) (gName 1)))
  (tSeq (tAsg (tLc (iList K (tVar 0)) (gName 2) tYes (tCB rAbs (tCons (tVar 2) tNil)) [2]) (gName 3))
  (tRet (tDisp [(tC (.str "cells"), tRevL K (tVar 3)), (tC (.str "left"), tC (.int 1)), (tC (.str "mixed"), tVar 1), (tC (.str "turn"), tC (.int 0))]))))
theorem seq_up {K : PySem.W.Frag} {H H' : Hp} {a : Addr} {xs : List V} (e : ∀ b o, H b = some o → H' b = some o) (h : SqL K H a xs) : SqL K H' a xs := Evl.ex_l e h
def absI (i : Int) : Int := if i < 0 then -i else i
theorem merge_src {cl : Addr} {l m t : Int} : mergeK [] (srcKv cl l m t) = srcKv cl l m t := by
  simp [mergeK, putK, srcKv, k_lc.symm, k_mc.symm, k_tc.symm, k_ml.symm, k_tl.symm, k_tm.symm]
theorem open_body {K : PySem.W.Frag} {N : List Str} {vs : List V} {H : Hp} {Q : VK} {E : XK} (hN : N.length = 4) (h : spOpen K vs H Q E) : tOpen K { nx := fun _ H' => Q .non H', rt := Q } (L2.start N vs) H := by
  obtain ⟨a, ns, rfl, hS, hlen, hz, q⟩ := h
  have est : L2.start N [V.ref a] = [some (.ref a), none, none, none] := by
    unfold L2.start
    rw [hN]; rfl
  show tOpen K _ (L2.start N [V.ref a]) H
  rw [est]
  have lz : (ns.map V.int).length < sizeLine := by rw [List.length_map]; exact Nat.lt_of_le_of_lt hlen (by decide)
  refine ⟨_, rfl, a, rfl, ⟨_, hS⟩, for_list (K := K) (a := a) (xs := ns.map V.int) (fun i σ H' => ∃ x2 st, σ = [some (.ref a), some (.int st), x2, none] ∧ H' = H) ⟨none, 11, rfl, rfl⟩ (fun i σ H' _ ⟨_, _, _, e⟩ => by rw [e]; exact hS) (fun i x σ H' hx ⟨x2, st, e1, e2⟩ => ?_) (fun σ H' ⟨x2, st, e1, e2⟩ => ?_)⟩
  · subst e1 e2
    rw [List.getElem?_map, Option.map_eq_some_iff] at hx
    obtain ⟨n, hn, rfl⟩ := hx
    exact ⟨_, rfl, st, 69069, rfl, rfl, .inr (by decide), _, rfl, n, 31, rfl, rfl, .inr (by decide), _, _, rfl, rfl, _, _, rfl, rfl, .inl ⟨_, rfl, _, 2147483629, rfl, rfl, (show (0 : Int) < 2147483629 by decide), some (.int n), _, rfl, rfl⟩⟩
  · subst e1 e2
    refine ⟨_, rfl, a, rfl, ⟨_, hS⟩, fun Dd hD => ?_⟩
    have up1 : ∀ zs b o, H' b = some o → (upd H' Dd (.lst zs)) b = some o := fun zs b o e => by rw [upd_ne (ne_of_none e hD)]; exact e
    refine lc_list (K := K) (a := a) (xs := ns.map V.int) (fun i H2 => H2 = upd H' Dd (.lst (((ns.take i).map absI).map V.int))) rfl (fun i H2 _ e => by rw [e]; exact seq_up (up1 _) hS) (fun i x H2 hx e => ?_) (fun H2 e => ?_)
    · subst e
      rw [List.getElem?_map, Option.map_eq_some_iff] at hx
      obtain ⟨n, hn, rfl⟩ := hx
      refine ⟨rfl, ?_⟩
      refine iteT (B := False) ?_
      refine ⟨_, rfl, n, rfl, _, upd_same, ?_, ?_⟩
      · rw [List.length_map, List.length_map, List.length_take]
        exact Nat.lt_of_le_of_lt (Nat.min_le_right _ _) (by rw [List.length_map] at lz; exact lz)
      · rw [upd_upd]
        congr 2
        rw [List.take_add_one, hn]
        simp [absI]
    · subst e
      rw [List.length_map, List.take_length]
      intro p hp
      have hDp : Dd ≠ p := fun e => by rw [e, upd_same] at hp; cases hp
      refine ⟨_, rfl, Dd, _, rfl, SqL.of (by rw [upd_ne hDp, upd_same]), fun c hc => ?_⟩
      have hcp : c ≠ p := fun e => by rw [e, upd_same] at hc; cases hc
      refine ⟨_, rfl, by rw [upd_ne hcp.symm, upd_same], srcKv c 1 st 0, rfl, by show 4 ≤ 15; decide, ?_⟩
      rw [merge_src]
      have hHp : H' p = none := by rw [upd_ne hDp.symm] at hp; exact hp
      have hHc : H' c = none := by
        rw [upd_ne hcp] at hc
        by_cases e : c = Dd
        · rw [e, upd_same] at hc; cases hc
        · rw [upd_ne e] at hc; exact hc
      have e1 : ∀ ys : List Int, ((ys.map V.int).reverse) = (ys.reverse).map V.int := fun ys => by rw [List.map_reverse]
      refine q _ p c (fun b o e => ?_) hcp.symm ⟨_, 1, st, 0, upd_same, by rw [upd_ne hcp, upd_same, e1]⟩ ?_
      · rw [upd_ne (ne_of_none e hHp), upd_ne (ne_of_none e hHc), upd_ne (ne_of_none e hHp), upd_ne (ne_of_none e hD)]; exact e
      · have lz2 : ∀ ys : List V, ys.length = ns.length → ys.length ≤ sizeLine := fun ys e => by rw [e]; exact Nat.le_trans hlen (by decide)
        refine Sz.upd (Sz.upd (Sz.upd (Sz.upd hz ?_) ?_) ?_) ?_
        · intro xs e; rcases e with e | e <;> cases e; exact lz2 _ (by simp)
        · intro xs e; rcases e with e | e <;> cases e
        · intro xs e; rcases e with e | e <;> cases e; exact lz2 _ (by simp)
        · intro xs e; rcases e with e | e <;> cases e
end Py
end
section
set_option maxHeartbeats 1000000
/-! PyQ: calls with the source, the law's own body, the head. -/
namespace Py
open PySem PySem.Spec PyProof.Rows L2 StX
/-- the first argument is some source -/
def spX (n : Nat) (F : List D → M D) : Sp := fun vs H Q E => ∃ src cl, spS (sxOf src cl) n F vs H Q E
theorem spX_len {n : Nat} {F : List D → M D} {vs : List V} {H : Hp} {Q : VK} {E : XK} (h : spX n F vs H Q E) : vs.length = n + 1 := by
  obtain ⟨_, _, h⟩ := h
  exact h.1
section
variable {src cl : Addr} {Γ : List Md}
theorem sem_callX {i n : Nat} {F : List D → M D} {t : TA} {f : Py.Env → M (List D)} (hi : Γ[i]? = some .src) (h : SemA (sxOf src cl) Γ t f) : SemE (sxOf src cl) Γ (tCallG (spX n F) (tCons (tVar i) t)) (eCallS i n F f) := by
  intro c ρ ps σ H Q P hc r q k
  obtain ⟨d0, hd, q⟩ := eVar_get q
  obtain ⟨o, qs, ho, hs, _⟩ := r.sl.get hi hd
  cases hs with
  | src =>
    refine ⟨_, ho, ?_⟩
    refine h c ρ ps σ H _ _ hc r q fun ds vs H1 q1 e1 dn => ?_
    have r1 := r.stp e1
    dsimp only at q1
    split at q1
    · rename_i hl
      have hs : c.src = src := by show c.s.src = src; rw [hc]; rfl
      have hA : ∀ a, (sxOf src cl).A a → c.U ps a := fun a z => .inl (r.ok.sub a (by show c.s.A a; rw [hc]; exact z))
      refine ⟨src, cl, congrArg (· + 1) (dn.length.trans hl), vs, by rw [hs]; rfl, ds, c.U ps, P, dn, hA, r1.loose, r1.sz, by have := r1.inv; unfold Fx.J at this; rw [hc] at this; exact this, q1, fun d v H2 p e2 d2 => ?_⟩
      refine k d v H2 p (e1.trans ⟨fun a o q n => e2.keep a o q fun z => n (by show c.s.A a; rw [hc]; exact z), e2.there, fun z => by show c.s.J H2; rw [hc]; exact e2.inv (by have z' : c.s.J H1 := z; rw [hc] at z'; exact z'), fun _ a u => e2.al r1.loose a (.inl u), e2.sz⟩) d2
    · exact False.elim q1
end
/-- the body of a def with the source in its first place -/
theorem body_x {n m : Nat} {N : List Str} {Γr Γ' Γl : List Md} {t : TS} {f : Py.Env → M Out} {vs : List V} {H : Hp} {Q : VK} {E : XK} (h : ∀ src cl, SemS (sxOf src cl) Γl (.src :: (List.replicate n .fro ++ Γr)) Γ' t f) (hN : N.length = n + 1 + m) (hm : Γr.length = m)
    (hs : spX n (fnS m f) vs H Q E) : t { nx := fun _ H' => Q .non H', rt := Q } (L2.start N vs) H := by
  obtain ⟨src, cl, hs⟩ := hs
  exact body_s (sxOk src cl) (h src cl) hN hm hs
theorem pick_x {K : PySem.W.Frag} {N : List Str} {vs : List V} {H : Hp} {Q : VK} {E : XK} (hN : N.length = 6) (h : spX 1 F_pick vs H Q E) : tPick K { nx := fun _ H' => Q .non H', rt := Q } (L2.start N vs) H := by
  obtain ⟨src, cl, h⟩ := h
  exact pick_body hN h

/-! ### the law's own body -/
def spLaw (K : PySem.W.Frag) : Sp := fun vs H Q _ => ∃ (a : Addr) (ns : List Int), vs = [.ref a] ∧ SqL K H a (ns.map V.int) ∧ ns.length ≤ 63 ∧ Sz H ∧ ∀ H', Q (.bl true) H'
/-- behind source = open(script) -/
theorem law_rest {K : PySem.W.Frag} {N : List Str} {to : TA} {Γr Γ' : List Md} {t : TS} {f : Py.Env → M Out} {vs : List V} {H : Hp} {Q : VK} {E : XK} (h : ∀ src cl, SemS (sxOf src cl) [] (.fro :: .src :: Γr) Γ' t f) (hN : N.length = Γr.length + 2)
    (hf : f (none :: some .none :: List.replicate Γr.length none) fun o => o = .rt (.bool true)) (hs : spLaw K vs H Q E) :
    tSeq (tAsg (tCallG (spOpen K) (tCons (tVar 0) tNil)) (gName 1)) t { nx := fun _ H' => Q .non H', rt := Q } (L2.start N vs) H := by
  obtain ⟨a, ns, rfl, hS, hl, hz, q⟩ := hs
  have est : L2.start N [V.ref a] = some (.ref a) :: none :: List.replicate Γr.length none := by
    unfold L2.start
    rw [hN]; rfl
  rw [est]
  refine ⟨_, rfl, a, ns, rfl, hS, by omega, hz, fun H' src cl up ne inv hz' => ?_⟩
  obtain ⟨xs, l, m, tt, hsrc⟩ := inv
  have ok : Fx.Ok ⟨sxOf src cl, fun z => z = src ∨ z = cl, H'⟩ := ⟨fun z q => q, (sxOk src cl).st⟩
  have slots : ∀ Γ : List Md, Slots ⟨sxOf src cl, fun z => z = src ∨ z = cl, H'⟩ H' (Fx.U ⟨sxOf src cl, fun z => z = src ∨ z = cl, H'⟩ []) Γ (List.replicate Γ.length none) (List.replicate Γ.length none) [] := by
    intro Γ
    induction Γ with
    | nil => exact .nil
    | cons m Γ ih => exact Slots.cons (SlotR.no (m := m) (o := none)) ih
  have r0 : R ⟨sxOf src cl, fun z => z = src ∨ z = cl, H'⟩ (.fro :: .src :: Γr) (none :: some .none :: List.replicate Γr.length none) [] (some (.ref a) :: some (.ref src) :: List.replicate Γr.length none) H' := by
    refine ⟨ok, fun z o q _ => q, fun z o q => ⟨o, q⟩, ⟨ne, xs, l, m, tt, hsrc⟩, fun z u => ?_, hz', ?_, List.nodup_nil, fun p hp => absurd hp (by simp)⟩
    · rcases u with rfl | rfl
      · exact ⟨_, hsrc.d, fun xs z => by cases z⟩
      · exact ⟨_, hsrc.c, fun xs z => by cases z⟩
    · exact Slots.cons (SlotR.no (m := .fro) (o := some (.ref a))) (Slots.cons (SlotR.src (c := ⟨sxOf src cl, fun z => z = src ∨ z = cl, H'⟩) (d := .none)) (slots Γr))
  show t _ (some (.ref a) :: some (.ref src) :: List.replicate Γr.length none) H'
  refine h src cl _ _ [] _ H' _ _ rfl r0 hf ⟨(fun ρ ps σ H2 p r => nomatch p), (fun d v H2 p fi dn => ?_), (fun ρ ps σ H2 p r => nomatch p), (fun ρ ps σ H2 p r => nomatch p)⟩
  cases p
  cases dn
  exact q H2

/-! ### the head: as L2.law_call, for a def that may ask for texts of values (no repr is under way) -/
theorem sz_only {H : Hp} (h : Only H) : Sz H := fun a xs q => by
  rcases h a with z | ⟨o, ys, z⟩
  · rw [z] at q; rcases q with q | q <;> cases q
  · rw [z] at q; rcases q with q | q <;> cases q
theorem heap_of {P : Program} {w : World} {K : PySem.W.Frag} {sh : Shared} {a : Addr} {us : List Value} {ns : List Int} (kin : K.In sh.heap) (ob : sh.heap.get? a = some { cls := .type "list", data := .seq us.toArray }) (hi : IntsAre us ns) (hl : ns.length ≤ sizeLine) :
    ∃ H : Hp, Only H ∧ SqL K H a (ns.map V.int) ∧ HOk P w H sh.heap ∧ (∀ b, H b ≠ none → b = a) ∧ (H a ≠ none → K.lookup a = none) := by
  have rel : Vals (ns.map V.int) us := vals_ints hi
  have ln := hi.length
  cases hk : K.lookup a with
  | some o =>
    have eo := kin a o hk
    rw [ob] at eo
    cases eo
    refine ⟨fun _ => none, fun _ => .inl rfl, .inr ⟨_, us.toArray, _, hk, rfl, rfl, rfl, ?_, ?_⟩, fun b u z => ?_, fun b z => absurd rfl z, fun z => absurd rfl z⟩
    · rw [List.size_toArray, ln]; exact hl
    · simpa using rel
    · have z' : (none : Option HO) = some u := z
      cases z'
  | none =>
    let ho : HO := .frz { cls := .type "list", data := .seq us.toArray } (.lst (ns.map V.int))
    let H : Hp := fun b => if b = a then some ho else none
    have at_a : H a = some ho := if_pos rfl
    have off : ∀ {b}, b ≠ a → H b = none := fun e => if_neg e
    refine ⟨H, fun b => ?_, .inl (.inr ⟨_, at_a⟩), fun b u z => ?_, fun b z => ?_, fun _ => rfl⟩
    · by_cases e : b = a
      · subst e; exact .inr ⟨_, _, at_a⟩
      · exact .inl (off e)
    · by_cases e : b = a
      · subst e
        rw [at_a] at z
        cases z
        exact ⟨ob, by rw [List.length_map]; exact hl, us, _, rel, ob⟩
      · rw [off e] at z; cases z
    · by_cases e : b = a
      · exact e
      · exact absurd (off e) z
theorem callG {P : Program} {w : World} {K : PySem.W.Frag} {mg mb : Str → Option Value} {k : Nat} {fa a : Addr} {fd : FuncData} {x : Str} {sp : Sp} {sh : Shared} {us : List Value} {ns : List Int}
    (kin : K.In sh.heap) (gl : sh.heap.Ns mainGlobals mg) (bl : sh.heap.Ns builtinsNs mb) (bo : ∀ y : Str, y ≠ "__name__" → mb y = bootBuiltins y) (lim : sh.heap.NoLimit) (gn : sh.gens = #[])
    (ob : sh.heap.get? a = some { cls := .type "list", data := .seq us.toArray }) (hi : IntsAre us ns) (hl : ns.length ≤ sizeLine) (hr : Room k callerA)
    (F : ∀ base : Heap, K.In base → base.Ns mainGlobals mg → FnG P w K mg base k fa fd [x] sp) (bind : ∀ (z : Shared) (u : Value), BindsTo z fd ⟨[u], []⟩ [(x, u)])
    (hsp : ∀ H : Hp, Only H → SqL K H a (ns.map V.int) → sp [.ref a] H (fun v _ => v = .bl true) fun _ _ _ => False) :
    codeAny (model P w) callerA (.call (.ref fa) ⟨[.ref a], []⟩) (fun r z => r = .ok (.ret (.bool true)) ∧ OldK sh.heap z.heap ∧ z.os = sh.os ∧ AllBare z.gens) sh := by
  obtain ⟨H, only, seq, hok, hA, hK⟩ := heap_of (P := P) (w := w) kin ob hi hl
  have hid : ∀ {b : Addr} {o : Obj}, sh.heap.get? b = some o → H b = none → (hidT sh.heap H).get? b = some o := fun e n => hidT_get e n
  have notA : ∀ {b : Addr} {o : Obj}, sh.heap.get? b = some o → (∀ es ep, o.data = .dict es ep → H b = none) := fun {b o} e es ep d => by
    cases q : H b with
    | none => rfl
    | some u =>
      have eb : b = a := hA b (by rw [q]; simp)
      rw [eb, ob] at e
      cases e
      have d' : Data.seq us.toArray _ = Data.dict es ep := d
      cases d'
  have ns' : ∀ {b : Addr} {g : Str → Option Value}, sh.heap.Ns b g → (hidT sh.heap H).Ns b g := fun {b g} ⟨o, es, ep, e, d, r⟩ => ⟨o, es, ep, hid e (notA e es ep d), d, r⟩
  have kin' : K.In (hidT sh.heap H) := fun b o e => hid (kin b o e) (by
    cases q : H b with
    | none => rfl
    | some u =>
      have eb : b = a := hA b (by rw [q]; simp)
      rw [eb] at e q
      rw [hK (by rw [q]; simp)] at e
      cases e)
  have md : Mod K mg (hidT sh.heap H) := ⟨kin', ns' gl, ⟨mb, ns' bl, bo⟩, let ⟨mc, h1, h2⟩ := lim; ⟨mc, ns' h1, h2⟩⟩
  have en : Env0 P w K mg (hidT sh.heap H) callerA [] sh H := ⟨rfl, md, fun b o e => of_hidT e, Nat.le_of_eq (hidT_size _ _), trivial, fun b hb => absurd (show b ∈ ([] : List Addr) from hb) (by simp), hok, .of_eq gn⟩
  refine codeAny_mono ((F _ kin' (ns' gl)).run callerA [] sh H ⟨[.ref a], []⟩ [.ref a] [.ref a] _ _ rfl hr en (bind sh (.ref a)) (.cons rfl .nil) (hsp H only seq)) fun r z h => ?_
  cases r with
  | error e => exact (show False from h).elim
  | ok fl =>
    cases fl with
    | ret u =>
      obtain ⟨v, H', os, bare, un, hok', r', q⟩ := h
      have q' : v = .bl true := q
      subst q'
      obtain rfl : u = Value.bool true := r'
      refine ⟨rfl, OldK.of_keep fun b o e => ?_, os, bare⟩
      cases q : H b with
      | none => exact un.keep b o e q (by intro z; exact absurd (show b ∈ ([] : List Addr) from z) (by simp)) (by simp)
      | some y =>
        rcases only b with z | ⟨ob2, xs, z⟩
        · rw [q] at z; cases z
        · have z2 := un.frzs b ob2 _ z
          obtain ⟨e1, _⟩ := hok b _ z
          obtain ⟨e2, _⟩ := hok' b _ z2
          rw [e] at e1
          cases e1
          exact e2
    | _ => exact (show False from h).elim
theorem walkG {l : PySem.W.OpenLaw} {n k : Nat} {q : Program} {loose : List Str} {XP : (Str → Option Value) → Heap → Prop} {YP : World → Heap → Prop} {d : DefRec} {K : Params → PySem.W.Frag} {x : Str}
    (hn : l.most = some n) (hn2 : n ≤ 63) (hdf : d.params.defaults = []) (hr : Room k callerA) (hY : ∀ (w : World) (h : Heap), YP w h → (K w.params).In h)
    (F : ∀ (w : World) (mg : Str → Option Value) (fa : Addr) (h : Heap), (K w.params).In h → h.Ns mainGlobals mg → mg d.name = some (.ref fa) →
      ∃ fd : FuncData, (∀ (z : Shared) (u : Value), BindsTo z fd ⟨[u], []⟩ [(x, u)]) ∧ ∀ base : Heap, (K w.params).In base → base.Ns mainGlobals mg → FnG l.prog w (K w.params) mg base k fa fd [x] (spLaw (K w.params))) :
    PySem.W.WalkO q loose XP YP l.row.toRowW d [] (fun f vs => PySem.call f vs) := by
  refine Att.attach_call hn hdf fun w z0 z1 mg mb fa o pm cd doc a us ns G Y ho hd hcd hmg hobj hints hlen hg => ?_
  have kin := hY w _ Y
  obtain ⟨fd, bd, hF⟩ := F w mg fa _ kin G.T.g hmg
  exact callG kin G.T.g G.T.b G.T.builtins G.T.nolimit hg hobj hints (Nat.le_trans (Nat.le_trans hlen hn2) (by decide)) hr hF bd fun H on seq => ⟨a, ns, rfl, seq, Nat.le_trans hlen hn2, sz_only on, fun _ => rfl⟩
end Py
end
section
set_option maxHeartbeats 1000000
/-! PyV: a list of lists of one's own; a list times an int. -/
namespace Py
open PySem L2 StX
section
variable {s : Sx} {Γ Γ' Γl : List Md} {K : PySem.W.Frag}
/-! ### [x] * n -/
def repL (a b : Env → M D) : Env → M (List D) := fun ρ => bnd (a ρ) fun x => bnd (b ρ) fun y => match x, y with
  | .list ds, .int n => if decide (0 ≤ n ∧ n ≤ 1000 ∧ ds.length ≤ 100) = true then ret (repD n.toNat ds) else stuck
  | _, _ => stuck
theorem sem_repL {ta tb : TE} {a b : Env → M D} (ha : SemV s Γ ta a) (hb : SemV s Γ tb b) : SemL s Γ (tOp (rMulX K) ta tb) (repL a b) := by
  intro c ρ ps σ H Q P hc r0 q k
  refine ha c ρ ps σ H _ _ hc r0 q fun x u H1 q1 e1 d1 => ?_
  refine hb c ρ ps σ H1 _ _ hc (r0.stp e1) q1 fun y v H2 q2 e2 d2 => ?_
  have r2 := (r0.stp e1).stp e2
  have d1 := d1.stp r0.ok r2.gd.nA e2
  dsimp only at q2
  split at q2
  · split at q2
    · rename_i ds n _ hl
      have hb := of_decide_eq_true hl
      obtain ⟨p1, vs, rfl, h1, dn1⟩ := d1.lst
      have hv : vs.length ≤ 100 := by rw [dn1.length]; exact hb.2.2
      have h3 : vs.length * n.toNat ≤ 100 * 1000 := Nat.mul_le_mul hv (by omega)
      have hz : vs.length * n.toNat ≤ sizeLine := Nat.le_trans h3 (by decide)
      refine .inl (.inr ⟨p1, n, vs, rfl, d2.int, h1, by omega, by omega, hz, fun p hp => ?_⟩)
      have hz2 : (List.replicate n.toNat vs).flatten.length ≤ sizeLine := by rw [List.length_flatten, List.map_replicate, List.sum_replicate_nat, Nat.mul_comm]; exact hz
      have e := Stp.lst r0.ok (xs := (List.replicate n.toNat vs).flatten) hp hz2
      exact k _ p _ _ q2 ((e1.trans e2).trans e) ((e1.trans e2).fresh hp) upd_same ((dn1.rep _).plus hp)
    · cases q2
  · cases q2

/-! ### rows of one's own -/
theorem Rows.len {H : Hp} {U : AS} : ∀ {qs : List Addr} {dss : List (List D)}, Rows H U qs dss → qs.length = dss.length
  | _, _, .nil => rfl
  | _, _, .cons _ _ t => congrArg (· + 1) t.len
theorem Rows.get {H : Hp} {U : AS} : ∀ {qs : List Addr} {dss : List (List D)} {j : Nat} {ds : List D}, Rows H U qs dss → dss[j]? = some ds → ∃ q vs, qs[j]? = some q ∧ H q = some (.lst vs) ∧ DenL H U vs ds
  | _, _, _, _, .nil, e => by simp at e
  | _, _, 0, _, .cons h1 h2 _, e => by simp at e; subst e; exact ⟨_, _, rfl, h1, h2⟩
  | _, _, j + 1, _, .cons _ _ t, e => by
    obtain ⟨q, vs, a, b, c⟩ := t.get (j := j) (by simpa using e)
    exact ⟨q, vs, by simpa using a, b, c⟩
theorem Rows.set {H : Hp} {U : AS} {q : Addr} {vs : List V} {ds : List D} (h1 : H q = some (.lst vs)) (h2 : DenL H U vs ds) : ∀ {qs : List Addr} {dss : List (List D)} (j : Nat), Rows H U qs dss → Rows H U (qs.set j q) (dss.set j ds)
  | _, _, _, .nil => .nil
  | _, _, 0, .cons _ _ t => .cons h1 h2 t
  | _, _, j + 1, .cons a b t => .cons a b (Rows.set h1 h2 j t)
theorem Slots.updP {c : Fx} {H H' : Hp} {U : AS} {Γ : List Md} {ρ : Env} {σ : St} {ps : List Addr} (h : Slots c H U Γ ρ σ ps) {q : Addr} (hU : U q) (same : ∀ a o, a ≠ q → H a = some o → H' a = some o) {m : Md} {d d' : Option D} {o : Option V} {qs0 qs' : List Addr} (hq : q ∈ qs0) (new : SlotR c H' U m d' o qs') (pm : qs'.Perm qs0) :
    ∀ {i : Nat}, ps.Nodup → (∀ qs, SlotR c H U m d o qs → qs = qs0) → Γ[i]? = some m → ρ[i]? = some d → σ[i]? = some o → ∃ ps', Slots c H' U Γ (ρ.set i d') σ ps' ∧ ps'.Perm ps := by
  have e : ∀ a u, H a = some u → ¬ U a → H' a = some u := fun a u q1 n => same a u (fun z => n (by rw [z]; exact hU)) q1
  induction h with
  | nil => intro i _ _ hm; simp at hm
  | @cons m1 d1 o1 p1 q1 Γ1 ρ1 σ1 h1 h2 ih =>
    intro i nd un hm hd ho
    have nd' := List.nodup_append.mp nd
    cases i with
    | zero =>
      simp at hm hd ho
      subst hm hd ho
      have ep := un _ h1
      subst ep
      refine ⟨qs' ++ q1, .cons new (h2.mono (fun a ha u w => same a u (fun z => ?_) w) e fun _ _ _ w => w), pm.append_right _⟩
      rw [z] at ha
      exact nd'.2.2 q hq q ha rfl
    | succ i =>
      have hm' : Γ1[i]? = some m := by simpa using hm
      have hd' : ρ1[i]? = some d := by simpa using hd
      have ho' : σ1[i]? = some o := by simpa using ho
      obtain ⟨ps', s', p'⟩ := ih (i := i) nd'.2.1 un hm' hd' ho'
      obtain ⟨o2, qs2, e1, e2, e3⟩ := h2.get hm' hd'
      rw [ho'] at e1; cases e1
      have eq2 := un _ e2
      subst eq2
      refine ⟨p1 ++ ps', .cons (h1.mono (fun a ha u w => same a u (fun z => ?_) w) e fun _ _ _ w => w) s', p'.append_left _⟩
      rw [z] at ha
      exact nd'.2.2 q ha q (e3 q hq) rfl
/-- own places in another order -/
theorem R.perm {c : Fx} {ρ : Env} {ps ps' : List Addr} {σ : St} {H : Hp} (r : R c Γ ρ ps σ H) {ρ' : Env} {H' : Hp} (keep : ∀ a o, a ∉ ps → H a = some o → H' a = some o) (there : ∀ a, a ∈ ps → ∃ o, H' a = some o) (sz : Sz H') (sl : Slots c H' (c.U ps) Γ ρ' σ ps') (pm : ps'.Perm ps) : R c Γ ρ' ps' σ H' where
  ok := r.ok
  keep := fun a o q n => keep a o (fun z => by rw [(r.own a z).1] at q; cases q) (r.keep a o q n)
  there := fun a o q => let ⟨o', q'⟩ := r.there a o q; ⟨o', keep a o' (fun z => by rw [(r.own a z).1] at q; cases q) q'⟩
  inv := r.ok.st H _ r.inv fun a o u q => keep a o (fun z => r.ownA z u) q
  al := fun a u => let ⟨o, h1, h2⟩ := r.al a u; ⟨o, keep a o (fun z => (r.own a z).2 u) h1, h2⟩
  sz := sz
  sl := sl.mono (fun _ _ _ q => q) (fun _ _ q _ => q) fun a o q u => u.imp id fun z => pm.mem_iff.mp z
  nd := pm.nodup_iff.mpr r.nd
  own := fun a ha => r.own a (pm.mem_iff.mp ha)
theorem R.own2At {c : Fx} {ρ : Env} {ps : List Addr} {σ : St} {H : Hp} (r : R c Γ ρ ps σ H) {i : Nat} {d : D} (hm : Γ[i]? = some .own2) (hd : ρ[i]? = some (some d)) :
    ∃ p qs dss, σ[i]? = some (some (.ref p)) ∧ d = .list (dss.map .list) ∧ H p = some (.lst (qs.map V.ref)) ∧ Rows H (c.U ps) qs dss ∧ (∀ a ∈ p :: qs, a ∈ ps) ∧ (p :: qs).Nodup := by
  have key : ∀ {Γ : List Md} {ρ : Env} {σ : St} {ps : List Addr} {U : AS}, Slots c H U Γ ρ σ ps → ps.Nodup → ∀ {i : Nat}, Γ[i]? = some .own2 → ρ[i]? = some (some d) →
      ∃ p qs dss, σ[i]? = some (some (.ref p)) ∧ d = .list (dss.map .list) ∧ H p = some (.lst (qs.map V.ref)) ∧ Rows H U qs dss ∧ (∀ a ∈ p :: qs, a ∈ ps) ∧ (p :: qs).Nodup := by
    intro Γ ρ σ ps U h
    induction h with
    | nil => intro _ i hm; simp at hm
    | @cons m1 d1 o1 p1 q1 Γ1 ρ1 σ1 h1 h2 ih =>
      intro nd i hm hd
      have nd' := List.nodup_append.mp nd
      cases i with
      | zero =>
        simp at hm hd
        subst hm hd
        cases h1 with
        | @own2 p qs dss a1 a2 => exact ⟨p, qs, dss, rfl, rfl, a1, a2, fun a ha => List.mem_append_left _ ha, nd'.1⟩
      | succ i =>
        obtain ⟨p, qs, dss, a, b, c1, d1, e1, f1⟩ := ih nd'.2.1 (i := i) (by simpa using hm) (by simpa using hd)
        exact ⟨p, qs, dss, by simpa using a, b, c1, d1, fun x hx => List.mem_append_right _ (e1 x hx), f1⟩
  exact key r.sl r.nd hm hd
theorem atI_map {α β : Type} (f : α → β) (xs : List α) (i : Int) : L2.atI (xs.map f) i = (L2.atI xs i).map f := by
  unfold L2.atI
  rw [List.length_map]
  cases ixN xs.length i with
  | none => rfl
  | some j => simp
/-- rows[a][b] -/
theorem sem_ix2 {i : Nat} {ta tb : TE} {a b : Env → M D} (hm : Γ[i]? = some .own2) (ha : SemV s Γ ta a) (hb : SemV s Γ tb b) : SemE s Γ (tOp (rIx K) (tOp (rIx K) (tVar i) ta) tb) (bin gIx (bin gIx (eVar i) a) b) := by
  intro c ρ ps σ H Q P hc r q k
  obtain ⟨d, hd, q⟩ := eVar_get q
  obtain ⟨p, qs, dss, ho, rfl, hp, rw0, sub, nd⟩ := r.own2At hm hd
  refine ⟨_, ho, ?_⟩
  refine ha c ρ ps σ H _ _ hc r q fun x u H1 q1 e1 d1 => ?_
  have r1 := r.stp e1
  have hp1 : H1 p = some (.lst (qs.map V.ref)) := e1.keep _ _ hp (r.ownA (sub p (by simp)))
  have rw1 : Rows H1 (c.U ps) qs dss := rw0.monoOn (fun z o q n => e1.keep z o q (r.nA n)) (fun _ _ _ q => q) fun z hz o q => e1.keep z o q (r.ownA (sub z (by simp [hz])))
  cases x with
  | int n =>
    have q1 : (match L2.atI (dss.map PyData.list) n with | some d => ret d | none => (stuck : M D)) (fun y => bnd (b ρ) (fun z => gIx y z) P) := q1
    rw [atI_map] at q1
    cases hz : L2.atI dss n with
    | none => rw [hz] at q1; exact False.elim q1
    | some row =>
      rw [hz] at q1
      have q2 : bnd (b ρ) (fun z => gIx (.list row) z) P := q1
      have hj : ∃ j, ixN dss.length n = some j ∧ dss[j]? = some row := by
        unfold L2.atI at hz
        cases zz : ixN dss.length n with
        | none => rw [zz] at hz; cases hz
        | some j => rw [zz] at hz; exact ⟨j, rfl, hz⟩
      obtain ⟨j, j1, j2⟩ := hj
      obtain ⟨qa, vs, g1, g2, g3⟩ := rw1.get j2
      have hat : L2.atI (qs.map V.ref) n = some (.ref qa) := by
        rw [atI_map]
        unfold L2.atI
        rw [rw1.len, j1]
        simp [g1]
      refine .inl ⟨p, _, n, _, rfl, d1.int, SqL.of hp1, hat, ?_⟩
      refine hb c ρ ps σ H1 _ _ hc r1 q2 fun y v H2 q3 e2 d2 => ?_
      have qin : qa ∈ ps := sub qa (by simp [List.mem_of_getElem? g1])
      have g2' : H2 qa = some (.lst vs) := e2.keep _ _ g2 (r.ownA qin)
      have dn2 := g3.stp r.ok e2
      cases y with
      | int m =>
        have q3 : (match L2.atI row m with | some d => ret d | none => (stuck : M D)) P := q3
        cases z : L2.atI row m with
        | none => rw [z] at q3; exact False.elim q3
        | some d =>
          rw [z] at q3
          obtain ⟨w, w1, w2⟩ := dn2.atI z
          exact .inl ⟨qa, vs, m, w, rfl, d2.int, SqL.of g2', w1, k _ _ H2 q3 (e1.trans e2) w2⟩
      | _ => exact False.elim q3
  | _ => exact False.elim q1
/-- len(rows) -/
theorem sem_len2 {i : Nat} (hm : Γ[i]? = some .own2) : SemE s Γ (tCB (rLenA K) (tCons (tVar i) tNil)) (cal cLen (aCons (eVar i) aNil)) := by
  intro c ρ ps σ H Q P hc r q k
  obtain ⟨d, hd, q⟩ := eVar_get q
  obtain ⟨p, qs, dss, ho, rfl, hp, rw0, sub, nd⟩ := r.own2At hm hd
  have q' : P (.int ((dss.map PyData.list).length : Nat)) := q
  refine ⟨_, ho, p, _, rfl, .inl (SqL.of hp), ?_⟩
  have e : (qs.map V.ref).length = (dss.map PyData.list).length := by rw [List.length_map, List.length_map, rw0.len]
  rw [e]
  exact k _ _ H q' (Stp.refl c H) (.int _)
/-- rows[a][b] = e -/
def putRow (i : Nat) (l x row y d : D) (ρ : Env) : M Out := match l, x, row, y with
  | .list rows, .int n, .list r, .int m => match ixN rows.length n with
    | some j => match ixN r.length m with
      | some k => ret (.nx (ρ.set i (some (.list (rows.set j (.list (r.set k d)))))))
      | none => stuck
    | none => stuck
  | _, _, _, _ => stuck
def sSet2 (i : Nat) (a b e : Env → M D) : Env → M Out := fun ρ => bnd (e ρ) fun d => bnd (eVar i ρ) fun l => bnd (a ρ) fun x => bnd (gIx l x) fun row => bnd (b ρ) fun y => putRow i l x row y d ρ
theorem own2_uniq {c : Fx} {H : Hp} {U : AS} {p : Addr} {qs : List Addr} {d : D} (hp : H p = some (.lst (qs.map V.ref))) : ∀ qs', SlotR c H U .own2 (some d) (some (.ref p)) qs' → qs' = p :: qs := by
  intro qs' h
  cases h with
  | @own2 _ qs2 dss a1 a2 =>
    rw [hp] at a1
    have e : qs.map V.ref = qs2.map V.ref := by injection a1 with a1; injection a1
    have inj : ∀ x y : List Addr, x.map V.ref = y.map V.ref → x = y := by
      intro x
      induction x with
      | nil => intro y e; cases y with | nil => rfl | cons _ _ => simp at e
      | cons a x ih =>
        intro y e
        cases y with
        | nil => simp at e
        | cons b y =>
          simp only [List.map_cons, List.cons.injEq, V.ref.injEq] at e
          rw [e.1, ih y e.2]
    rw [inj _ _ e]
theorem sem_set2 {i : Nat} {t u w : TE} {e a b : Env → M D} (hm : Γ[i]? = some .own2) (he : SemE s Γ t e) (ha : SemV s Γ u a) (hb : SemV s Γ w b) : SemS s Γl Γ Γ (tAsg t (L2.gSub (tOp (rIx K) (tVar i) u) w rSetL)) (sSet2 i a b e) := by
  intro c ρ ps σ H E P hc r q k
  refine he c ρ ps σ H _ _ hc r q fun d v H0 q0 e0 d0 => ?_
  have r0 := r.stp e0
  obtain ⟨l, hl, q0⟩ := eVar_get q0
  obtain ⟨p, qs, dss, ho, rfl, hp, rw0, sub, nd⟩ := r0.own2At hm hl
  refine ⟨_, ho, ?_⟩
  refine ha c ρ ps σ H0 _ _ hc r0 q0 fun x ux H1 q1 e1 d1 => ?_
  have r1 := r0.stp e1
  have hp1 : H1 p = some (.lst (qs.map V.ref)) := e1.keep _ _ hp (r.ownA (sub p (by simp)))
  have rw1 : Rows H1 (c.U ps) qs dss := rw0.monoOn (fun z o q n => e1.keep z o q (r0.nA n)) (fun _ _ _ q => q) fun z hz o q => e1.keep z o q (r.ownA (sub z (by simp [hz])))
  cases x with
  | int n =>
    have q1 : (match L2.atI (dss.map PyData.list) n with | some d => ret d | none => (stuck : M D)) (fun row => bnd (b ρ) (fun y => putRow i (.list (dss.map .list)) (.int n) row y d ρ) P) := q1
    rw [atI_map] at q1
    cases hz : L2.atI dss n with
    | none => rw [hz] at q1; exact False.elim q1
    | some row =>
      rw [hz] at q1
      have q2 : bnd (b ρ) (fun y => putRow i (.list (dss.map .list)) (.int n) (.list row) y d ρ) P := q1
      obtain ⟨j, j1, j2⟩ : ∃ j, ixN dss.length n = some j ∧ dss[j]? = some row := by
        unfold L2.atI at hz
        cases zz : ixN dss.length n with
        | none => rw [zz] at hz; cases hz
        | some j => rw [zz] at hz; exact ⟨j, rfl, hz⟩
      obtain ⟨qa, vs, g1, g2, g3⟩ := rw1.get j2
      have hat : L2.atI (qs.map V.ref) n = some (.ref qa) := by
        rw [atI_map]
        unfold L2.atI
        rw [rw1.len, j1]
        simp [g1]
      refine .inl ⟨p, _, n, _, rfl, d1.int, SqL.of hp1, hat, ?_⟩
      refine hb c ρ ps σ H1 _ _ hc r1 q2 fun y v2 H2 q3 e2 d2 => ?_
      have qin : qa ∈ ps := sub qa (by simp [List.mem_of_getElem? g1])
      have r2 := r1.stp e2
      have g2' : H2 qa = some (.lst vs) := e2.keep _ _ g2 (r.ownA qin)
      have dn2 := g3.stp r.ok e2
      have hp2 : H2 p = some (.lst (qs.map V.ref)) := e2.keep _ _ hp1 (r.ownA (sub p (by simp)))
      have rw2 : Rows H2 (c.U ps) qs dss := rw1.monoOn (fun z o q n => e2.keep z o q (r1.nA n)) (fun _ _ _ q => q) fun z hz o q => e2.keep z o q (r.ownA (sub z (by simp [hz])))
      cases y with
      | int m =>
        have q3 : (match ixN (dss.map PyData.list).length n with
          | some j => match ixN row.length m with
            | some k => ret (Out.nx (ρ.set i (some (.list ((dss.map PyData.list).set j (.list (row.set k d)))))))
            | none => stuck
          | none => (stuck : M Out)) P := q3
        rw [List.length_map, j1] at q3
        cases z : ixN row.length m with
        | none => rw [z] at q3; exact False.elim q3
        | some kk =>
          rw [z] at q3
          have q4 : P (Out.nx (ρ.set i (some (.list ((dss.map PyData.list).set j (.list (row.set kk d))))))) := q3
          have dv : Den H2 (c.U ps) v d := (d0.stp r.ok e1).stp r.ok e2
          refine ⟨qa, vs, m, kk, rfl, d2.int, g2', by rw [g3.length]; exact z, ?_⟩
          -- the new heap
          have pq : p ≠ qa := fun e => (List.nodup_cons.mp nd).1 (by rw [e]; exact List.mem_of_getElem? g1)
          have hU : c.U ps qa := .inr qin
          have same : ∀ a o, a ≠ qa → H2 a = some o → (upd H2 qa (.lst (vs.set kk v))) a = some o := fun a o n e => by rw [upd_ne n]; exact e
          have off : ∀ a o, H2 a = some o → ¬ c.U ps a → (upd H2 qa (.lst (vs.set kk v))) a = some o := fun a o e n => same a o (fun z => n (by rw [z]; exact hU)) e
          have d3 : DenL (upd H2 qa (.lst (vs.set kk v))) (c.U ps) (vs.set kk v) (row.set kk d) := (DenL.set dv kk dn2).mono off fun _ _ _ q => q
          have rw3 : Rows (upd H2 qa (.lst (vs.set kk v))) (c.U ps) qs (dss.set j (row.set kk d)) := by
            have nq : qs.Nodup := (List.nodup_cons.mp nd).2
            have go : ∀ {qs : List Addr} {dss : List (List D)} {j : Nat}, Rows H2 (c.U ps) qs dss → qs.Nodup → qs[j]? = some qa → Rows (upd H2 qa (.lst (vs.set kk v))) (c.U ps) qs (dss.set j (row.set kk d)) := by
              intro qs dss j h
              induction h generalizing j with
              | nil => intro _ e; simp at e
              | @cons q0 qs0 vs0 ds0 dss0 a1 a2 a3 ih =>
                intro nq0 e
                have nq1 := List.nodup_cons.mp nq0
                cases j with
                | zero =>
                  simp at e
                  subst e
                  exact .cons upd_same d3 (a3.monoOn off (fun _ _ _ q => q) fun z hz o q => same z o (fun e => nq1.1 (by rw [← e]; exact hz)) q)
                | succ j =>
                  have e' : qs0[j]? = some qa := by simpa using e
                  have nz : q0 ≠ qa := fun e2 => nq1.1 (by rw [e2]; exact List.mem_of_getElem? e')
                  exact .cons (same _ _ nz a1) (a2.mono off fun _ _ _ q => q) (ih nq1.2 e')
            exact go rw2 nq g1
          have hp3 : (upd H2 qa (.lst (vs.set kk v))) p = some (.lst (qs.map V.ref)) := same _ _ pq hp2
          have eset : (dss.map PyData.list).set j (.list (row.set kk d)) = (dss.set j (row.set kk d)).map PyData.list := by rw [List.map_set]
          rw [eset] at q4
          obtain ⟨ps', sl, pm⟩ := r2.sl.updP (q := qa) (H' := upd H2 qa (.lst (vs.set kk v))) hU same (qs0 := p :: qs) (qs' := p :: qs) (by simp [List.mem_of_getElem? g1]) (SlotR.own2 hp3 rw3) (List.Perm.refl _) r2.nd (own2_uniq hp2) hm hl ho
          refine k.nx _ ps' σ _ q4 (r2.perm (fun a o n e => same a o (fun z => n (by rw [z]; exact qin)) e) (fun a ha => ?_) (r2.sz.upd fun zs q => ?_) sl pm)
          · by_cases e : a = qa
            · subst e; exact ⟨_, upd_same⟩
            · obtain ⟨xs, hx, hy⟩ := r2.sl.loose a ha
              exact ⟨xs, same a _ e hx⟩
          · rcases q with q | q <;> cases q
            rw [List.length_set]
            exact r2.sz qa vs (.inl g2')
      | _ => exact False.elim q3
  | _ => exact False.elim q1

/-- rows[k], rows[some[0]] = rows[some[0]], rows[k] -/
def swapR (i : Nat) (l s x : D) (ρ : Env) : M Out := match l, s, x with
  | .list rows, .list (.int m :: _), .int n => match ixN rows.length n with
    | some a => match ixN rows.length m with
      | some b => match rows[a]? with
        | some ra => match rows[b]? with
          | some rb => ret (.nx (ρ.set i (some (.list ((rows.set a rb).set b ra)))))
          | none => stuck
        | none => stuck
      | none => stuck
    | none => stuck
  | _, _, _ => stuck
def sSwap (i ik is : Nat) : Env → M Out := fun ρ => bnd (eVar i ρ) fun l => bnd (eVar is ρ) fun s => bnd (eVar ik ρ) fun x => swapR i l s x ρ
theorem swapR_get {i : Nat} {rows : List D} {s x : D} {ρ : Env} {P : Out → Prop} (h : swapR i (.list rows) s x ρ P) : ∃ m tl n a b ra rb, s = .list (.int m :: tl) ∧ x = .int n ∧ ixN rows.length n = some a ∧ ixN rows.length m = some b ∧ rows[a]? = some ra ∧ rows[b]? = some rb ∧ P (.nx (ρ.set i (some (.list ((rows.set a rb).set b ra))))) := by
  cases s with
  | list ss =>
    cases ss with
    | nil => exact False.elim h
    | cons hd tl =>
      cases hd with
      | int m =>
        cases x with
        | int n =>
          have h : (match ixN rows.length n with
            | some a => match ixN rows.length m with
              | some b => match rows[a]? with
                | some ra => match rows[b]? with
                  | some rb => ret (Out.nx (ρ.set i (some (.list ((rows.set a rb).set b ra)))))
                  | none => stuck
                | none => stuck
              | none => stuck
            | none => (stuck : M Out)) P := h
          cases ea : ixN rows.length n with
          | none => rw [ea] at h; exact False.elim h
          | some a =>
            rw [ea] at h
            cases eb : ixN rows.length m with
            | none => rw [eb] at h; exact False.elim h
            | some b =>
              rw [eb] at h
              dsimp only at h
              cases ra : rows[a]? with
              | none => rw [ra] at h; exact False.elim h
              | some x =>
                rw [ra] at h
                cases rb : rows[b]? with
                | none => rw [rb] at h; exact False.elim h
                | some y =>
                  rw [rb] at h
                  exact ⟨m, tl, n, a, b, x, y, rfl, rfl, ea, eb, ra, rb, h⟩
        | _ => exact False.elim h
      | _ => cases x <;> exact False.elim h
  | _ => cases x <;> exact False.elim h
theorem perm_swap {α : Type} : ∀ {xs : List α} {a b : Nat} {x y : α}, xs[a]? = some x → xs[b]? = some y → ((xs.set a y).set b x).Perm xs := by
  intro xs a b x y ha hb
  obtain ⟨la, ea⟩ := List.getElem?_eq_some_iff.mp ha
  obtain ⟨lb, eb⟩ := List.getElem?_eq_some_iff.mp hb
  subst ea eb
  exact List.set_set_perm la lb
theorem sem_swap {i ik is : Nat} (hm : Γ[i]? = some .own2) (hk : Γ[ik]? = some .fro) (hs : Γ[is]? = some .fro) :
    SemS s Γl Γ Γ (tAsg (tTup (tCons (tOp (rIx K) (tVar i) (tOp (rIx K) (tVar is) (tC (.int 0)))) (tCons (tOp (rIx K) (tVar i) (tVar ik)) tNil)))
      (gTup K 2 (gCons (L2.gSub (tVar i) (tVar ik) rSetL) (gCons (L2.gSub (tVar i) (tOp (rIx K) (tVar is) (tC (.int 0))) rSetL) gNil)))) (sSwap i ik is) := by
  intro c ρ ps σ H E P hc r q k
  obtain ⟨l, hl, q⟩ := eVar_get q
  obtain ⟨sd, hsd, q⟩ := eVar_get q
  obtain ⟨xd, hxd, q⟩ := eVar_get q
  obtain ⟨p, qs, dss, ho, rfl, hp, rw0, sub, nd⟩ := r.own2At hm hl
  obtain ⟨m, tl, n, a, b, ra, rb, rfl, rfl, ea, eb, eRa, eRb, q⟩ := swapR_get q
  rw [List.length_map] at ea eb
  rw [List.getElem?_map, Option.map_eq_some_iff] at eRa eRb
  obtain ⟨da, hda, rfl⟩ := eRa
  obtain ⟨db, hdb, rfl⟩ := eRb
  obtain ⟨qa, va, ga, _, _⟩ := rw0.get hda
  obtain ⟨qb, vb, gb, _, _⟩ := rw0.get hdb
  obtain ⟨os, _, hos, sls, _⟩ := r.sl.get hs hsd
  obtain ⟨ok, _, hok, slk, _⟩ := r.sl.get hk hxd
  cases sls with
  | fro ds =>
    cases slk with
    | fro dk =>
      cases dk
      cases ds with
      | @lst sa xs _ h1 h2 h3 =>
        cases h3 with
        | @cons v0 xs0 _ _ d1 d2 =>
          cases d1
          have pin : p ∈ ps := sub p (by simp)
          have lq : qs.length = dss.length := rw0.len
          have at0 : ∀ H', H' sa = some (.lst (.int m :: xs0)) → ∀ Q : VK, Q (.int m) H' → tOp (rIx K) (tVar is) (tC (.int 0)) σ H' Q := fun H' e Q q => ⟨_, hos, .inl ⟨sa, _, 0, .int m, rfl, rfl, SqL.of e, atI_nat (j := 0) rfl, q⟩⟩
          have ixA : L2.atI (qs.map V.ref) n = some (.ref qa) := by
            rw [atI_map]; unfold L2.atI; rw [lq, ea]; simp [ga]
          have ixB : L2.atI (qs.map V.ref) m = some (.ref qb) := by
            rw [atI_map]; unfold L2.atI; rw [lq, eb]; simp [gb]
          refine ⟨_, ho, at0 H h1 _ ?_⟩
          refine .inl ⟨p, _, m, _, rfl, rfl, SqL.of hp, ixB, ?_⟩
          refine ⟨_, ho, _, hok, .inl ⟨p, _, n, _, rfl, rfl, SqL.of hp, ixA, ?_⟩⟩
          refine ⟨by show 2 ≤ sizeLine; decide, fun T hT => ?_⟩
          have sT : ∀ z o, H z = some o → (upd H T (.tup [.ref qb, .ref qa])) z = some o := fun z o e => upd_keep hT z o e
          have hpT := sT p _ hp
          refine ⟨T, _, rfl, SqT.of upd_same, rfl, _, _, rfl, ?_⟩
          refine ⟨_, ho, _, hok, p, _, n, a, rfl, rfl, hpT, by rw [List.length_map, lq]; exact ea, ?_⟩
          have psa : sa ≠ p := fun e => h2 (.inr (by rw [e]; exact pin))
          refine ⟨_, _, rfl, _, ho, at0 _ (by rw [upd_ne psa]; exact sT sa _ h1) _ ?_⟩
          refine ⟨p, _, m, b, rfl, rfl, upd_same, by rw [List.length_set, List.length_map, lq]; exact eb, ?_⟩
          refine ⟨rfl, ?_⟩
          rw [upd_upd]
          have eq1 : (((qs.map V.ref).set a (.ref qb)).set b (.ref qa)) = ((qs.set a qb).set b qa).map V.ref := by rw [List.map_set, List.map_set]
          rw [eq1]
          have eq2 : (((dss.map PyData.list).set a (.list db)).set b (.list da)) = ((dss.set a db).set b da).map PyData.list := by rw [List.map_set, List.map_set]
          rw [eq2] at q
          have pmq : ((qs.set a qb).set b qa).Perm qs := perm_swap ga gb
          have hU : c.U ps p := .inr pin
          have rT : R c Γ ρ ps σ (upd H T (.tup [.ref qb, .ref qa])) := r.stp (Stp.tup r.ok hT (by show 2 ≤ sizeLine; decide))
          have rowsT : Rows (upd H T (.tup [.ref qb, .ref qa])) (c.U ps) qs dss := rw0.monoOn (fun z o q _ => sT z o q) (fun _ _ _ q => q) fun z hz o q => sT z o q
          have same : ∀ z o, z ≠ p → (upd H T (.tup [.ref qb, .ref qa])) z = some o → (upd (upd H T (.tup [.ref qb, .ref qa])) p (.lst (((qs.set a qb).set b qa).map V.ref))) z = some o := fun z o n e => by rw [upd_ne n]; exact e
          have off : ∀ z o, (upd H T (.tup [.ref qb, .ref qa])) z = some o → ¬ c.U ps z → (upd (upd H T (.tup [.ref qb, .ref qa])) p (.lst (((qs.set a qb).set b qa).map V.ref))) z = some o := fun z o e n => same z o (fun w => n (by rw [w]; exact hU)) e
          have nq := List.nodup_cons.mp nd
          have rows2 : Rows (upd (upd H T (.tup [.ref qb, .ref qa])) p (.lst (((qs.set a qb).set b qa).map V.ref))) (c.U ps) qs dss := rowsT.monoOn off (fun _ _ _ q => q) fun z hz o q => same z o (fun e => nq.1 (by rw [← e]; exact hz)) q
          obtain ⟨qa', va', ga', ha1, ha2⟩ := rows2.get hda
          obtain ⟨qb', vb', gb', hb1, hb2⟩ := rows2.get hdb
          rw [ga] at ga'; cases ga'
          rw [gb] at gb'; cases gb'
          have rows3 := Rows.set ha1 ha2 b (Rows.set hb1 hb2 a rows2)
          obtain ⟨ps', sl, pm⟩ := rT.sl.updP (q := p) hU same (qs0 := p :: qs) (qs' := p :: ((qs.set a qb).set b qa)) (by simp) (SlotR.own2 upd_same rows3) (pmq.cons p) rT.nd (own2_uniq hpT) hm hl ho
          refine k.nx _ ps' σ _ q (rT.perm (fun z o n e => same z o (fun w => n (by rw [w]; exact pin)) e) (fun z hz => ?_) (rT.sz.upd fun zs q => ?_) sl pm)
          · by_cases e : z = p
            · subst e; exact ⟨_, upd_same⟩
            · obtain ⟨xs, hx, hy⟩ := rT.sl.loose z hz
              exact ⟨xs, same z _ e hx⟩
          · rcases q with q | q <;> cases q
            have := rT.sz p _ (.inl hpT)
            rw [List.length_map] at this ⊢
            rw [pmq.length_eq]; exact this

/-- rows, u, w = [list(row) for row in rows], 1, 1 -/
def rowsD : List D → Option (List (List D))
  | [] => some []
  | .list r :: t => (rowsD t).map (r :: ·)
  | .tuple r :: t => (rowsD t).map (r :: ·)
  | _ => none
def sMk2 (i j l : Nat) (x y : Int) : Env → M Out := fun ρ => bnd (eVar i ρ) fun d => bnd (seqD d) fun ds => match rowsD ds with
  | some dss => ret (.nx (((ρ.set i (some (.list (dss.map .list)))).set j (some (.int x))).set l (some (.int y))))
  | none => stuck
theorem rowsD_get : ∀ {ds : List D} {dss : List (List D)}, rowsD ds = some dss → ∀ {k : Nat} {d : D}, ds[k]? = some d → ∃ r, dss[k]? = some r ∧ (d = .list r ∨ d = .tuple r)
  | [], _, h, k, d, e => by simp at e
  | .list r :: t, _, h, k, d, e => by
    simp only [rowsD, Option.map_eq_some_iff] at h
    obtain ⟨u, hu, rfl⟩ := h
    cases k with
    | zero => simp at e; subst e; exact ⟨r, rfl, .inl rfl⟩
    | succ k =>
      obtain ⟨r', e1, e2⟩ := rowsD_get hu (k := k) (by simpa using e)
      exact ⟨r', by simpa using e1, e2⟩
  | .tuple r :: t, _, h, k, d, e => by
    simp only [rowsD, Option.map_eq_some_iff] at h
    obtain ⟨u, hu, rfl⟩ := h
    cases k with
    | zero => simp at e; subst e; exact ⟨r, rfl, .inr rfl⟩
    | succ k =>
      obtain ⟨r', e1, e2⟩ := rowsD_get hu (k := k) (by simpa using e)
      exact ⟨r', by simpa using e1, e2⟩
  | .none :: _, _, h, _, _, _ => by simp [rowsD] at h
  | .bool _ :: _, _, h, _, _, _ => by simp [rowsD] at h
  | .int _ :: _, _, h, _, _, _ => by simp [rowsD] at h
  | .str _ :: _, _, h, _, _, _ => by simp [rowsD] at h
  | .dict _ :: _, _, h, _, _, _ => by simp [rowsD] at h
theorem rowsD_len : ∀ {ds : List D} {dss : List (List D)}, rowsD ds = some dss → dss.length = ds.length
  | [], _, h => by simp [rowsD] at h; subst h; rfl
  | .list r :: t, _, h => by
    simp only [rowsD, Option.map_eq_some_iff] at h
    obtain ⟨u, hu, rfl⟩ := h
    simp [rowsD_len hu]
  | .tuple r :: t, _, h => by
    simp only [rowsD, Option.map_eq_some_iff] at h
    obtain ⟨u, hu, rfl⟩ := h
    simp [rowsD_len hu]
  | .none :: _, _, h => by simp [rowsD] at h
  | .bool _ :: _, _, h => by simp [rowsD] at h
  | .int _ :: _, _, h => by simp [rowsD] at h
  | .str _ :: _, _, h => by simp [rowsD] at h
  | .dict _ :: _, _, h => by simp [rowsD] at h
/-- lists that H2 holds at qs, of what H1 knows -/
inductive RowsF (H1 H2 : Hp) (U : AS) : List Addr → List (List D) → Prop
  | nil : RowsF H1 H2 U [] []
  | snoc {q : Addr} {qs : List Addr} {vs : List V} {ds : List D} {dss : List (List D)} : RowsF H1 H2 U qs dss → H2 q = some (.lst vs) → DenL H1 U vs ds → RowsF H1 H2 U (qs ++ [q]) (dss ++ [ds])
theorem Rows.snoc {H : Hp} {U : AS} {q : Addr} {vs : List V} {ds : List D} (h1 : H q = some (.lst vs)) (h2 : DenL H U vs ds) : ∀ {qs : List Addr} {dss : List (List D)}, Rows H U qs dss → Rows H U (qs ++ [q]) (dss ++ [ds])
  | _, _, .nil => .cons h1 h2 .nil
  | _, _, .cons a b t => .cons a b (Rows.snoc h1 h2 t)
theorem RowsF.rows {H1 H2 : Hp} {U U' : AS} (e : ∀ a o, H1 a = some o → H2 a = some o) (u : ∀ a o, H1 a = some o → U' a → U a) {qs : List Addr} {dss : List (List D)} (h : RowsF H1 H2 U qs dss) : Rows H2 U' qs dss := by
  induction h with
  | nil => exact .nil
  | snoc _ h1 h2 ih => exact ih.snoc h1 (h2.mono (fun a o q _ => e a o q) u)
theorem RowsF.keep {H1 H2 H3 : Hp} {U : AS} {qs : List Addr} {dss : List (List D)} (h : RowsF H1 H2 U qs dss) (e : ∀ q ∈ qs, ∀ o, H2 q = some o → H3 q = some o) : RowsF H1 H3 U qs dss := by
  induction h with
  | nil => exact .nil
  | snoc _ h1 h2 ih => exact .snoc (ih fun q hq => e q (List.mem_append_left _ hq)) (e _ (by simp) _ h1) h2
theorem sem_mk2 {i j l r : Nat} {x y : Int} (hi : Γ[i]? = some .fro) (hj : Γ[j]? = some .fro) (hl : Γ[l]? = some .fro) (hij : i ≠ j) (hil : i ≠ l) (hr : Γ[r]? = some .fro) (hri : r ≠ i) :
    SemS s Γl Γ (Γ.set i .own2) (tAsg (tTup (tCons (tLc (iSeq K (tVar i)) (gName r) tYes (tCB (rLstOf K) (tCons (tVar r) tNil)) [r]) (tCons (tC (.int x)) (tCons (tC (.int y)) tNil))))
      (gTup K 3 (gCons (gName i) (gCons (gName j) (gCons (gName l) gNil))))) (sMk2 i j l x y) := by
  intro c ρ ps σ H E P hc r0 q k
  obtain ⟨d, hd, q⟩ := eVar_get q
  obtain ⟨ds, ed, q⟩ := seqD_get q
  obtain ⟨o, _, ho, sl, _⟩ := r0.sl.get hi hd
  cases hrw : rowsD ds with
  | none => rw [hrw] at q; exact False.elim q
  | some dss =>
    rw [hrw] at q
    have q : P (Out.nx (((ρ.set i (some (.list (dss.map .list)))).set j (some (.int x))).set l (some (.int y)))) := q
    cases sl with
    | @fro d0 v dn0 =>
      obtain ⟨a, xs, b, rfl, _, dn, nu, hh⟩ := dn0.seqU (K := K) ed
      have len := dn.length
      have lrs := rowsD_len hrw
      have main : ∀ J : It, (∀ n H', (∀ a o, H a = some o → H' a = some o) → n < ds.length → J.go n H') → (∀ H', (∀ a o, H a = some o → H' a = some o) → J.stop ds.length H') →
          (∀ n xv H' H'', (∀ a o, H a = some o → H' a = some o) → J.yld n H' xv H'' → H'' = H' ∧ xs[n]? = some xv) → ∀ Dd, H Dd = none → ∀ Qd : Hp → Prop, (∀ H2 qs, (∀ a o, H a = some o → H2 a = some o) → Sz H2 → H2 Dd = some (.lst (qs.map V.ref)) → RowsF H H2 (c.U ps) qs dss → (Dd :: qs).Nodup → (∀ z ∈ qs, H z = none) → Qd H2) →
          ∃ W : Nat → Nat → Hp → Prop, (∃ m, W 0 m (upd H Dd (.lst []))) ∧ ∀ i m H', W i m H' → (J.stop i H' ∧ Qd H') ∨ (J.go i H' ∧ ∃ Nx : Hp → Prop, (∀ H', Nx H' → ∃ m', m' < m ∧ W (i + 1) m' H') ∧ ∀ x H'', J.yld i H' x H'' → gName r x (wipe σ [r]) H'' fun σ2 H2 => wipe σ2 [r] = wipe σ [r] ∧ tYes σ2 H2 fun b H3 =>
            if b = true then tCB (rLstOf K) (tCons (tVar r) tNil) σ2 H3 fun y H4 => ∃ acc, H4 Dd = some (.lst acc) ∧ acc.length < sizeLine ∧ Nx (upd H4 Dd (.lst (acc ++ [y]))) else Nx H3) := by
        intro J hgo hstop hyld Dd hD Qd fin
        have lz : ds.length ≤ sizeLine := by rw [← len]; exact sz_seq r0.sz hh
        refine ⟨fun n m H' => m = ds.length - n ∧ n ≤ ds.length ∧ ∃ qs, (∀ a o, H a = some o → H' a = some o) ∧ Sz H' ∧ H' Dd = some (.lst (qs.map V.ref)) ∧ RowsF H H' (c.U ps) qs (dss.take n) ∧ (Dd :: qs).Nodup ∧ (∀ z ∈ qs, H z = none) ∧ qs.length = n,
          ⟨ds.length, by simp, Nat.zero_le _, [], fun a o e => upd_keep hD a o e, r0.sz.upd fun zs q => by rcases q with q | q <;> cases q; exact Nat.zero_le _, upd_same, .nil, by simp, fun z hz => absurd hz (by simp), rfl⟩, ?_⟩
        rintro n m H' ⟨rfl, hle, qs, up, sz, hDd, rf, nd, fr, lq⟩
        by_cases hlt : n < ds.length
        · refine .inr ⟨hgo n H' up hlt, fun H'' => n + 1 ≤ ds.length ∧ ∃ qs, (∀ a o, H a = some o → H'' a = some o) ∧ Sz H'' ∧ H'' Dd = some (.lst (qs.map V.ref)) ∧ RowsF H H'' (c.U ps) qs (dss.take (n + 1)) ∧ (Dd :: qs).Nodup ∧ (∀ z ∈ qs, H z = none) ∧ qs.length = n + 1,
            fun H'' h => ⟨ds.length - (n + 1), by omega, rfl, h⟩, fun xv H'' yl => ?_⟩
          obtain ⟨rfl, hxv⟩ := hyld n xv H' H'' up yl
          have hdn : ds[n]? = some ds[n] := by simp [hlt]
          obtain ⟨row, er, ekind⟩ := rowsD_get hrw hdn
          obtain ⟨w, ew, dw⟩ := dn.get hdn
          rw [hxv] at ew
          cases ew
          obtain ⟨ra, ys, rb, rfl, _, dny, nuy, hhy⟩ := dw.seqU (K := K) ekind
          have hrs : r < σ.length := by have h1 := (List.getElem?_eq_some_iff.mp hr).1; have := r0.sl.len; omega
          have hget : ((wipe σ [r]).set r (some (.ref ra)))[r]? = some (some (.ref ra)) := by
            rw [List.getElem?_set_self (by show r < (wipe σ [r]).length; rw [wipe_length]; exact hrs)]
          refine ⟨by show ((σ.set r none).set r _).set r none = σ.set r none; simp, ?_⟩
          refine iteT (B := False) ?_
          have hys : SqL K H'' ra ys ∨ SqT K H'' ra ys := by
            rcases hhy with ⟨h1, _⟩ | ⟨h1, _⟩
            · exact .inl (SqL.of (up _ _ h1))
            · exact .inr (SqT.of (up _ _ h1))
          refine ⟨_, hget, ra, ys, rfl, hys, fun lq' hlq => ?_⟩
          have ne : Dd ≠ lq' := ne_of_none hDd hlq
          refine ⟨_, by rw [upd_ne ne]; exact hDd, by rw [List.length_map, lq]; omega, hlt, qs ++ [lq'], fun z o e => ?_, ?_, ?_, ?_, ?_, ?_, by rw [List.length_append, lq]; rfl⟩
          · rw [upd_ne (ne_of_none e hD)]; exact upd_keep hlq z o (up z o e)
          · refine Sz.upd (Sz.upd sz ?_) ?_
            · intro zs q; rcases q with q | q <;> cases q; exact sz_seq r0.sz hhy
            · intro zs q; rcases q with q | q <;> cases q
              rw [List.length_append, List.length_map, lq]; show n + 1 ≤ sizeLine; omega
          · rw [upd_same, List.map_append]; rfl
          · rw [List.take_add_one, er]
            refine RowsF.snoc (rf.keep fun z hz o e => ?_) (vs := ys) ?_ dny
            · have zn : z ≠ Dd := fun w => (List.nodup_cons.mp nd).1 (by rw [← w]; exact hz)
              rw [upd_ne zn]; exact upd_keep hlq z o e
            · rw [upd_ne ne.symm, upd_same]
          · have nd' := List.nodup_cons.mp nd
            have nq : lq' ∉ qs := fun z => by
              have key : ∀ {qs : List Addr} {dss : List (List D)}, RowsF H H'' (c.U ps) qs dss → ∀ z ∈ qs, ∃ vs, H'' z = some (.lst vs) := by
                intro qs dss h
                induction h with
                | nil => intro z hz; simp at hz
                | snoc _ h1 _ ih =>
                  intro z hz
                  rcases List.mem_append.mp hz with hz | hz
                  · exact ih z hz
                  · rw [List.mem_singleton.mp hz]; exact ⟨_, h1⟩
              obtain ⟨vs, hv⟩ := key rf _ z
              rw [hlq] at hv; cases hv
            refine List.nodup_cons.mpr ⟨fun z => ?_, List.nodup_append.mpr ⟨nd'.2, by simp, fun x hx y hy e => ?_⟩⟩
            · rcases List.mem_append.mp z with z | z
              · exact nd'.1 z
              · exact ne (List.mem_singleton.mp z)
            · rw [List.mem_singleton.mp hy] at e; rw [e] at hx; exact nq hx
          · intro z hz
            rcases List.mem_append.mp hz with hz | hz
            · exact fr z hz
            · rw [List.mem_singleton.mp hz]
              cases q : H lq' with
              | none => rfl
              | some o => rw [up _ _ q] at hlq; cases hlq
        · have e : n = ds.length := by omega
          subst e
          rw [← lrs, List.take_length] at rf
          exact .inl ⟨hstop H' up, fin H' qs up sz hDd rf nd fr⟩
      have Up : ∀ {b : Addr} {o : HO} {H' : Hp}, (∀ a o, H a = some o → H' a = some o) → H b = some o → H' b = some o := fun u e => u _ _ e
      -- behind the comprehension
      have after : ∀ Dd, H Dd = none → ∀ H2 qs, (∀ a o, H a = some o → H2 a = some o) → Sz H2 → H2 Dd = some (.lst (qs.map V.ref)) → RowsF H H2 (c.U ps) qs dss → (Dd :: qs).Nodup → (∀ z ∈ qs, H z = none) →
          ([V.ref Dd, V.int x, V.int y].length ≤ sizeLine ∧ ∀ T, H2 T = none → (gTup K 3 (gCons (gName i) (gCons (gName j) (gCons (gName l) gNil)))) (.ref T) σ (upd H2 T (.tup [V.ref Dd, V.int x, V.int y])) E.nx) := by
        intro Dd hD H2 qs up sz hDd rf nd fr
        refine ⟨by show 3 ≤ sizeLine; decide, fun T hT => ⟨T, _, rfl, SqT.of upd_same, rfl, _, _, rfl, _, _, rfl, _, _, rfl, rfl, ?_⟩⟩
        have e2 : Stp c H H2 := Stp.same r0.ok up fun _ => sz
        have eT : Stp c H2 (upd H2 T (.tup [V.ref Dd, V.int x, V.int y])) := Stp.tup r0.ok hT (by show 3 ≤ sizeLine; decide)
        have rT := (r0.stp e2).stp eT
        have upT : ∀ a o, H a = some o → (upd H2 T (.tup [V.ref Dd, V.int x, V.int y])) a = some o := fun a o e => upd_keep hT a o (up a o e)
        have frA : ∀ z ∈ Dd :: qs, H z = none := fun z hz => by
          rcases List.mem_cons.mp hz with rfl | hz
          · exact hD
          · exact fr z hz
        have rows : Rows (upd H2 T (.tup [V.ref Dd, V.int x, V.int y])) (fun a => c.U ps a ∨ a ∈ Dd :: qs) qs dss := by
          have rfT : RowsF H (upd H2 T (.tup [V.ref Dd, V.int x, V.int y])) (c.U ps) qs dss := rf.keep fun z hz o e => upd_keep hT z o e
          exact rfT.rows upT fun a o e u => u.elim id fun z => by rw [frA a z] at e; cases e
        have hDT : (upd H2 T (.tup [V.ref Dd, V.int x, V.int y])) Dd = some (.lst (qs.map V.ref)) := upd_keep hT _ _ hDd
        have slT : Slots c (upd H2 T (.tup [V.ref Dd, V.int x, V.int y])) (fun a => c.U ps a ∨ a ∈ Dd :: qs) Γ ρ σ ps := r0.sl.mono (fun a ha o e => upT a o e) (fun a o e _ => upT a o e) fun a o e u => u.elim id fun z => by rw [frA a z] at e; cases e
        have hilt : i < Γ.length := (List.getElem?_eq_some_iff.mp hi).1
        obtain ⟨ps', s1, n1, m1⟩ := slT.put (SlotR.own2 hDT rows) r0.nd nd (fun a ha z => by
          obtain ⟨xs, e, _⟩ := r0.sl.loose a z
          rw [frA a ha] at e; cases e) hilt
        have rN : R c (Γ.set i .own2) (ρ.set i (some (.list (dss.map .list)))) ps' (σ.set i (some (.ref Dd))) _ := rT.ofSlots (qs := Dd :: qs) s1 n1 m1 fun a ha => ⟨r0.fresh0 (frA a ha), r0.nU0 (frA a ha)⟩
        have gj : (Γ.set i .own2)[j]? = some .fro := by rw [List.getElem?_set_ne hij]; exact hj
        have gl : (Γ.set i .own2)[l]? = some .fro := by rw [List.getElem?_set_ne hil]; exact hl
        exact k.nx _ ps' _ _ q ((rN.setFro (Den.int x) gj).setFro (Den.int y) gl)
      rcases hh with ⟨h1, _⟩ | ⟨h1, _⟩
      · refine ⟨_, ho, .inl ⟨a, rfl, ⟨xs, SqL.of h1⟩, fun Dd hD => main (Itl K a) (fun n H' up hn => ⟨xs, xs[n]'(by rw [len]; exact hn), SqL.of (up _ _ h1), by simp [len, hn]⟩) (fun H' up => ⟨xs, SqL.of (up _ _ h1), by rw [len]; exact Nat.le_refl _⟩) (fun n xv H' H'' up yl => ⟨yl.1, yl.2 xs (SqL.of (up _ _ h1))⟩) Dd hD _ fun H2 qs a1 a2 a3 a4 a5 a6 => after Dd hD H2 qs a1 a2 a3 a4 a5 a6⟩⟩
      · refine ⟨_, ho, .inr ⟨a, rfl, ⟨xs, SqT.of h1⟩, fun Dd hD => main (Itt K a) (fun n H' up hn => ⟨xs, xs[n]'(by rw [len]; exact hn), SqT.of (up _ _ h1), by simp [len, hn]⟩) (fun H' up => ⟨xs, SqT.of (up _ _ h1), by rw [len]; exact Nat.le_refl _⟩) (fun n xv H' H'' up yl => ⟨yl.1, yl.2 xs (SqT.of (up _ _ h1))⟩) Dd hD _ fun H2 qs a1 a2 a3 a4 a5 a6 => after Dd hD H2 qs a1 a2 a3 a4 a5 a6⟩⟩
end
end Py
end
section
set_option maxHeartbeats 1000000
/-! PyO: enumerate(zip(a, b)): the inner pair stays within the outer one. -/
namespace Py
open PySem PySem.Spec PyProof.Rows L2 StX
open PySem.W (kdx_alive)

/-- a zip's record, whatever became of the tuple that it gave last -/
abbrev ZipR (h : Heap) (z TI TO : Addr) (g : Value) (f : Bool) : Prop := h.get? z = some { cls := .type "zip", dict := none, data := .fields #[g, .bool f, .bool false, .ref TI, .ref TO], slots := #[] }
def LastOk (g : Value) : Prop := g = .none ∨ ∃ T : Addr, g = rawInt T
section
variable {prog : Program} {w : World} {A : Around} {E : Value → Shared → Prop} {s : Shared} {z TI TO i1 i2 : Addr} {l1 l2 : List Addr} {n1 n2 i : Nat} {P1 P2 : Nat → Value → Prop} {S1 S2 : Nat → Heap → Prop} {g : Value} {f : Bool}
theorem free_or {Q : Bool → Shared → Prop} (zr : ZipR s.heap z TI TO g f) (lk : LastOk g) (yes : Q true s) (no : ∀ h', ZipR h' z TI TO g true → Heap.SameBut z s.heap h' → Q false { s with heap := h' }) :
    wpAny (model prog w) A (Builtin.SmallTypes.ownedTupleIsFree (.ref z)) Q E s := by
  unfold Builtin.SmallTypes.ownedTupleIsFree
  rcases lk with e | ⟨T, e⟩
  · subst e
    exact wpAny_bind (wpAny_field zr rfl (x := .none) rfl (wpAny_pure yes))
  · subst e
    refine wpAny_bind (wpAny_field zr rfl (x := rawInt T) rfl ?_)
    show wpAny _ _ (loadIfAlive ((T : Int).toNat) >>= _) _ _ s
    rw [Int.toNat_natCast]
    cases q : s.heap.get? T with
    | some o =>
      refine wpAny_bind (kdx_alive q ?_)
      simp only [Option.isNone_some, Bool.false_eq_true, if_false]
      refine wpAny_bind (wpAny_field zr rfl (x := .bool f) rfl ?_)
      cases f with
      | true =>
        rw [if_neg (show ¬ ((Value.bool true != Value.bool true) = true) from Bool.false_ne_true)]
        exact wpAny_pure (no s.heap zr (Heap.SameBut.refl _ _))
      | false =>
        rw [if_pos (show (Value.bool false != Value.bool true) = true from rfl)]
        exact wpAny_bind (wpAny_setField_rec zr (by simp) fun h1 r1 k1 => wpAny_pure (no h1 r1 k1))
    | none =>
      have gone : ∀ {R : Option Obj → Shared → Prop}, R none s → wpAny (model prog w) A (loadIfAlive T) R E s := fun {R} r => by
        have r' : R (s.heap.get? T) s := by rw [q]; exact r
        exact fun _ _ _ => r'
      refine wpAny_bind (gone ?_)
      simp only [Option.isNone_none, if_true]
      exact wpAny_pure yes
/-- the cells of such a zip lie apart -/
theorem put2 {T : Addr} {a1 a2 x : Value} {k : Nat} {Q : Unit → Shared → Prop} (t : IsTupOf2 s.heap T a1 a2) (h : ∀ h', h'.get? T = some { cls := .type "tuple", data := .seq ((#[a1, a2] : Array Value).setIfInBounds k x) } → Heap.SameBut T s.heap h' → Q () { s with heap := h' }) :
    wpAny (model prog w) A (updateSeq T (·.setIfInBounds k x)) Q E s := updateSeq_IsTupOf2 t h
/-- what a draw leaves -/
structure Drew (z TI TO i1 i2 : Addr) (S1 S2 : Nat → Heap → Prop) (i : Nat) (h h' : Heap) : Prop where
  rcd : ∃ g f, ZipR h' z TI TO g f ∧ LastOk g
  out : ∃ a1 a2, IsTupOf2 h' TO a1 a2
  st1 : S1 (i + 1) h'
  st2 : S2 (i + 1) h'
  big : h.objs.size ≤ h'.objs.size
  keep : ∀ c o, c ≠ z → c ≠ TO → c ≠ i1 → c ≠ i2 → h.get? c = some o → h'.get? c = some o
theorem zip_item (Z : ZipSep2 z TI TO i1 i2 l1 l2) (U1 : Draws prog w A i1 l1 n1 P1 S1) (U2 : Draws prog w A i2 l2 n2 P2 S2) {b1 b2 : Value} (zr : ZipR s.heap z TI TO g f) (lk : LastOk g)
    (tI : IsTupOf2 s.heap TI (.ref i1) (.ref i2)) (tO : IsTupOf2 s.heap TO b1 b2) (q1 : S1 i s.heap) (q2 : S2 i s.heap) (c1 : i < n1) (c2 : i < n2) {Q : Value → Shared → Prop}
    (fin : ∀ T x y h' tk, P1 i x → P2 i y → s.heap.objs.size ≤ T → IsTupOf2 h' T x y → Drew z TI TO i1 i2 S1 S2 i s.heap h' → Q (.ref T) { s with heap := h', toks := tk }) :
    wpAny (model prog w) A (Builtin.«zip.__next__» ⟨[.ref z], []⟩) (fun r s' => ∃ v, r = .done (.ret v) ∧ Q v s') E s := by
  obtain ⟨hp, gs, dr, tk0, os⟩ := s
  show wpAny _ _ (field (.ref z) 2 >>= _) _ _ _
  refine wpAny_bind (wpAny_field zr rfl (x := .bool false) rfl ?_)
  show wpAny _ _ (field (.ref z) 3 >>= _) _ _ _
  refine wpAny_bind (wpAny_field zr rfl (x := .ref TI) rfl ?_)
  refine wpAny_bind (wpAny_seqItems tI rfl ?_)
  show wpAny _ _ (Builtin.SmallTypes.ownedTupleIsFree (.ref z) >>= _) _ _ _
  refine wpAny_bind (free_or zr lk ?_ fun h1 r1 k1 => ?_)
  · simp only [if_true]
    refine wpAny_bind (wpAny_rule ?_)
    refine wpAny_bind (wpAny_field zr rfl (x := .ref TO) rfl ?_)
    refine wpAny_bind (wpAny_setField_rec zr (by simp) fun m0 zr0 k0 => ?_)
    replace zr0 : ZipR m0 z TI TO .ellipsis f := zr0
    replace k0 : Heap.SameBut z hp m0 := k0
    refine wpAny_bind ?_
    simp only [List.zipIdx_cons, List.zipIdx_nil, List.forIn_cons, List.forIn_nil]
    refine wpAny_bind (wpAny_bind (wpAny_onRaise ?_))
    show wpAny _ _ (Builtin.SmallTypes.nextOf (.ref i1) >>= _) _ _ ⟨m0, gs, dr, tk0, os⟩
    refine wpAny_bind (U1.item i _ _ _ c1 (U1.over q1 k0 Z.zf1) fun x m1 tk1 px sx j1 => wpAny_pure ?_)
    replace j1 : Heap.SameBut i1 m0 m1 := j1
    have t1 : IsTupOf2 m1 TO b1 b2 := j1.extBut _ _ Z.Ti1 (k0.extBut _ _ Z.TOz tO)
    refine wpAny_bind (wpAny_seqItems (s := ⟨m1, gs, dr, tk1, os⟩) t1 rfl ?_)
    refine wpAny_bind (put2 (s := ⟨m1, gs, dr, tk1, os⟩) t1 fun m2 t2 j2 => ?_)
    replace t2 : IsTupOf2 m2 TO x b2 := t2
    replace j2 : Heap.SameBut TO m1 m2 := j2
    refine wpAny_bind (wpAny_letGo (wpAny_pure ?_))
    refine wpAny_bind (wpAny_bind (wpAny_onRaise ?_))
    show wpAny _ _ (Builtin.SmallTypes.nextOf (.ref i2) >>= _) _ _ ⟨m2, gs, dr, tk1, os⟩
    refine wpAny_bind (U2.item i _ _ _ c2 (U2.over (U2.over (U2.over q2 k0 Z.zf2) j1 Z.sep1_2) j2 Z.Tf2) fun y m3 tk2 py sy j3 => wpAny_pure ?_)
    replace j3 : Heap.SameBut i2 m2 m3 := j3
    have t3 : IsTupOf2 m3 TO x b2 := j3.extBut _ _ Z.Ti2 t2
    refine wpAny_bind (wpAny_seqItems (s := ⟨m3, gs, dr, tk2, os⟩) t3 rfl ?_)
    refine wpAny_bind (put2 (s := ⟨m3, gs, dr, tk2, os⟩) t3 fun m4 t4 j4 => ?_)
    replace t4 : IsTupOf2 m4 TO x y := t4
    replace j4 : Heap.SameBut TO m3 m4 := j4
    refine wpAny_bind (wpAny_letGo (wpAny_pure (wpAny_pure ?_)))
    refine wpAny_bind (wpAny_seqItems (s := ⟨m4, gs, dr, tk2, os⟩) t4 rfl ?_)
    refine wpAny_bind (wpAny_newTuple ?_)
    have sz4 : m4.objs.size = hp.objs.size := by rw [j4.1, j3.1, j2.1, j1.1, k0.1]
    have zr4 : ZipR m4 z TI TO .ellipsis f := j4.extBut _ _ Z.TOz.symm (j3.extBut _ _ Z.zi2 (j2.extBut _ _ Z.TOz.symm (j1.extBut _ _ Z.zi1 zr0)))
    have kp : ∀ c o, c ≠ z → c ≠ TO → c ≠ i1 → c ≠ i2 → hp.get? c = some o → m4.get? c = some o := fun c o cz ct d1 d2 e => j4.extBut _ _ ct (j3.extBut _ _ d2 (j2.extBut _ _ ct (j1.extBut _ _ d1 (k0.extBut _ _ cz e))))
    have s1 : S1 (i + 1) m4 := U1.over (U1.over (U1.over sx j2 Z.Tf1) j3 Z.sep2_1) j4 Z.Tf1
    have s2 : S2 (i + 1) m4 := U2.over sy j4 Z.Tf2
    have zlt : z < m4.objs.size := Heap.lt_size zr4
    show wpAny _ _ (Builtin.SmallTypes.ownedTupleHandOut (.ref z) (.ref m4.objs.size) >>= _) _ _ ⟨m4.push { cls := .type "tuple", data := .seq #[x, y] }, gs, dr, tk2, os⟩
    refine wpAny_bind ?_
    unfold Builtin.SmallTypes.ownedTupleHandOut
    have zr5 : ZipR (m4.push { cls := .type "tuple", data := .seq #[x, y] }) z TI TO .ellipsis f := Heap.get?_push_of_some _ zr4
    refine wpAny_bind (wpAny_setField_rec zr5 (by simp) fun m6 zr6 j6 => ?_)
    replace zr6 : ZipR m6 z TI TO (rawInt m4.objs.size) f := zr6
    refine wpAny_setField_rec zr6 (by simp) fun m7 zr7 j7 => ?_
    replace zr7 : ZipR m7 z TI TO (rawInt m4.objs.size) false := zr7
    replace j6 : Heap.SameBut z (m4.push { cls := .type "tuple", data := .seq #[x, y] }) m6 := j6
    replace j7 : Heap.SameBut z m6 m7 := j7
    have up : ∀ c o, c ≠ z → m4.get? c = some o → m7.get? c = some o := fun c o n e => j7.extBut _ _ n (j6.extBut _ _ n (Heap.get?_push_of_some _ e))
    have tN : IsTupOf2 m7 m4.objs.size x y := j7.extBut _ _ (Nat.ne_of_gt zlt) (j6.extBut _ _ (Nat.ne_of_gt zlt) (Heap.get?_push_size _ rfl))
    have sz7 : m7.objs.size = m4.objs.size + 1 := by rw [j7.1, j6.1, Heap.size_push]
    refine wpAny_pure ⟨_, rfl, ?_⟩
    show Q (.ref m4.objs.size) ⟨m7, gs, dr, tk2, os⟩
    refine fin m4.objs.size x y m7 tk2 px py (by show hp.objs.size ≤ _; omega) tN ⟨⟨_, _, zr7, .inr ⟨_, rfl⟩⟩, ⟨_, _, up _ _ Z.TOz t4⟩, U1.frame _ _ _ s1 fun b hb o e => up b o (fun w => Z.zf1 (w ▸ hb)) e, U2.frame _ _ _ s2 fun b hb o e => up b o (fun w => Z.zf2 (w ▸ hb)) e, ?_, fun c o cz ct d1 d2 e => up c o cz (kp c o cz ct d1 d2 e)⟩
    show hp.objs.size ≤ m7.objs.size
    omega
  · replace k1 : Heap.SameBut z hp h1 := k1
    simp only [Bool.false_eq_true, if_false]
    refine wpAny_bind ?_
    rw [← Array.forIn_toList]
    simp only [List.forIn_cons, List.forIn_nil]
    refine wpAny_bind (wpAny_bind (wpAny_holding ?_))
    show wpAny _ _ (Builtin.SmallTypes.nextOf (.ref i1) >>= _) _ _ ⟨h1, gs, dr, tk0, os⟩
    refine wpAny_bind (U1.item i _ _ _ c1 (U1.over q1 k1 Z.zf1) fun x m1 tk1 px sx j1 => wpAny_pure ?_)
    replace j1 : Heap.SameBut i1 h1 m1 := j1
    refine wpAny_pure ?_
    refine wpAny_bind (wpAny_bind (wpAny_holding ?_))
    show wpAny _ _ (Builtin.SmallTypes.nextOf (.ref i2) >>= _) _ _ ⟨m1, gs, dr, tk1, os⟩
    refine wpAny_bind (U2.item i _ _ _ c2 (U2.over (U2.over q2 k1 Z.zf2) j1 Z.sep1_2) fun y m2 tk2 py sy j2 => wpAny_pure ?_)
    replace j2 : Heap.SameBut i2 m1 m2 := j2
    refine wpAny_pure (wpAny_pure ?_)
    show wpAny _ _ (newTuple [x, y] >>= _) _ _ ⟨m2, gs, dr, tk2, os⟩
    refine wpAny_bind (wpAny_newTuple ?_)
    have sz2 : m2.objs.size = hp.objs.size := by rw [j2.1, j1.1, k1.1]
    have zr2 : ZipR m2 z TI TO g true := j2.extBut _ _ Z.zi2 (j1.extBut _ _ Z.zi1 r1)
    have kp : ∀ c o, c ≠ z → c ≠ i1 → c ≠ i2 → hp.get? c = some o → m2.get? c = some o := fun c o cz d1 d2 e => j2.extBut _ _ d2 (j1.extBut _ _ d1 (k1.extBut _ _ cz e))
    have up : ∀ c o, m2.get? c = some o → (m2.push { cls := .type "tuple", data := .seq #[x, y] }).get? c = some o := fun c o e => Heap.get?_push_of_some _ e
    refine wpAny_pure ⟨_, rfl, ?_⟩
    show Q (.ref m2.objs.size) ⟨m2.push { cls := .type "tuple", data := .seq #[x, y] }, gs, dr, tk2, os⟩
    refine fin m2.objs.size x y _ tk2 px py (by show hp.objs.size ≤ _; omega) (Heap.get?_push_size _ rfl) ⟨⟨_, _, up _ _ zr2, lk⟩, ⟨_, _, up _ _ (kp _ _ Z.TOz Z.Ti1 Z.Ti2 tO)⟩, U1.frame _ _ _ (U1.over sx j2 Z.sep2_1) fun b _ o e => up b o e, U2.frame _ _ _ sy fun b _ o e => up b o e, ?_, fun c o cz _ d1 d2 e => up c o (kp c o cz d1 d2 e)⟩
    show hp.objs.size ≤ (m2.push _).objs.size
    rw [Heap.size_push]; omega
theorem zip_stop (Z : ZipSep2 z TI TO i1 i2 l1 l2) (U1 : Draws prog w A i1 l1 n1 P1 S1) (U2 : Draws prog w A i2 l2 n2 P2 S2) {b1 b2 : Value} (zr : ZipR s.heap z TI TO g f) (lk : LastOk g)
    (tI : IsTupOf2 s.heap TI (.ref i1) (.ref i2)) (tO : IsTupOf2 s.heap TO b1 b2) (q1 : S1 i s.heap) (q2 : S2 i s.heap) (c1 : i ≤ n1) (c2 : i ≤ n2) (over : i = n1 ∨ i = n2) {Q : PySem.Fin → Shared → Prop}
    (fin : ∀ h' tk e, (∀ c o, c ≠ z → c ≠ TO → c ≠ i1 → c ≠ i2 → s.heap.get? c = some o → h'.get? c = some o) → (∃ o, h'.get? e = some o ∧ o.cls = .type "StopIteration") → E (.ref e) { s with heap := h', toks := tk }) :
    wpAny (model prog w) A (Builtin.«zip.__next__» ⟨[.ref z], []⟩) Q E s := by
  obtain ⟨hp, gs, dr, tk0, os⟩ := s
  show wpAny _ _ (field (.ref z) 2 >>= _) _ _ _
  refine wpAny_bind (wpAny_field zr rfl (x := .bool false) rfl ?_)
  show wpAny _ _ (field (.ref z) 3 >>= _) _ _ _
  refine wpAny_bind (wpAny_field zr rfl (x := .ref TI) rfl ?_)
  refine wpAny_bind (wpAny_seqItems tI rfl ?_)
  show wpAny _ _ (Builtin.SmallTypes.ownedTupleIsFree (.ref z) >>= _) _ _ _
  refine wpAny_bind (free_or zr lk ?_ fun h1 r1 k1 => ?_)
  · simp only [if_true]
    refine wpAny_bind (wpAny_rule ?_)
    refine wpAny_bind (wpAny_field zr rfl (x := .ref TO) rfl ?_)
    refine wpAny_bind (wpAny_setField_rec zr (by simp) fun m0 zr0 k0 => ?_)
    replace zr0 : ZipR m0 z TI TO .ellipsis f := zr0
    replace k0 : Heap.SameBut z hp m0 := k0
    refine wpAny_bind ?_
    simp only [List.zipIdx_cons, List.zipIdx_nil, List.forIn_cons, List.forIn_nil]
    refine wpAny_bind (wpAny_bind (wpAny_onRaise ?_))
    show wpAny _ _ (Builtin.SmallTypes.nextOf (.ref i1) >>= _) _ _ ⟨m0, gs, dr, tk0, os⟩
    by_cases lt : i < n1
    · refine wpAny_bind (U1.item i _ _ _ lt (U1.over q1 k0 Z.zf1) fun x m1 tk1 px sx j1 => wpAny_pure ?_)
      replace j1 : Heap.SameBut i1 m0 m1 := j1
      have t1 : IsTupOf2 m1 TO b1 b2 := j1.extBut _ _ Z.Ti1 (k0.extBut _ _ Z.TOz tO)
      refine wpAny_bind (wpAny_seqItems (s := ⟨m1, gs, dr, tk1, os⟩) t1 rfl ?_)
      refine wpAny_bind (put2 (s := ⟨m1, gs, dr, tk1, os⟩) t1 fun m2 t2 j2 => ?_)
      replace j2 : Heap.SameBut TO m1 m2 := j2
      refine wpAny_bind (wpAny_letGo (wpAny_pure ?_))
      have ei : i = n2 := by omega
      refine wpAny_bind (wpAny_bind (wpAny_onRaise ?_))
      show wpAny _ _ (Builtin.SmallTypes.nextOf (.ref i2) >>= _) _ _ ⟨m2, gs, dr, tk1, os⟩
      refine wpAny_bind (U2.done ⟨m2, gs, dr, tk1, os⟩ _ _ (by rw [← ei]; exact U2.over (U2.over (U2.over q2 k0 Z.zf2) j1 Z.sep1_2) j2 Z.Tf2) fun m3 e j3 he => ?_)
      replace j3 : Heap.ExtBut i2 m2 m3 := j3
      obtain ⟨oe, ho, hc⟩ := he
      replace ho : m3.get? e = some oe := ho
      have zr3 : ZipR m3 z TI TO .ellipsis f := j3 _ _ Z.zi2 (j2.extBut _ _ Z.TOz.symm (j1.extBut _ _ Z.zi1 zr0))
      have ne : e ≠ z := fun x => by subst x; rw [zr3] at ho; cases ho; simp at hc
      refine wpAny_setField_rec (s := ⟨m3, gs, dr, tk1, os⟩) zr3 (by simp) fun m4 _ j4 => ?_
      replace j4 : Heap.SameBut z m3 m4 := j4
      exact fin m4 tk1 e (fun c o cz ct d1 d2 x => j4.extBut _ _ cz (j3 _ _ d2 (j2.extBut _ _ ct (j1.extBut _ _ d1 (k0.extBut _ _ cz x))))) ⟨oe, j4.extBut _ _ ne ho, hc⟩
    · have ei : i = n1 := by omega
      refine wpAny_bind (U1.done ⟨m0, gs, dr, tk0, os⟩ _ _ (by rw [← ei]; exact U1.over q1 k0 Z.zf1) fun m3 e j3 he => ?_)
      replace j3 : Heap.ExtBut i1 m0 m3 := j3
      obtain ⟨oe, ho, hc⟩ := he
      replace ho : m3.get? e = some oe := ho
      have zr3 : ZipR m3 z TI TO .ellipsis f := j3 _ _ Z.zi1 zr0
      have ne : e ≠ z := fun x => by subst x; rw [zr3] at ho; cases ho; simp at hc
      refine wpAny_setField_rec (s := ⟨m3, gs, dr, tk0, os⟩) zr3 (by simp) fun m4 _ j4 => ?_
      replace j4 : Heap.SameBut z m3 m4 := j4
      exact fin m4 tk0 e (fun c o cz ct d1 d2 x => j4.extBut _ _ cz (j3 _ _ d1 (k0.extBut _ _ cz x))) ⟨oe, j4.extBut _ _ ne ho, hc⟩
  · replace k1 : Heap.SameBut z hp h1 := k1
    simp only [Bool.false_eq_true, if_false]
    refine wpAny_bind ?_
    rw [← Array.forIn_toList]
    simp only [List.forIn_cons, List.forIn_nil]
    refine wpAny_bind (wpAny_bind (wpAny_holding ?_))
    show wpAny _ _ (Builtin.SmallTypes.nextOf (.ref i1) >>= _) _ _ ⟨h1, gs, dr, tk0, os⟩
    by_cases lt : i < n1
    · refine wpAny_bind (U1.item i _ _ _ lt (U1.over q1 k1 Z.zf1) fun x m1 tk1 px sx j1 => wpAny_pure ?_)
      replace j1 : Heap.SameBut i1 h1 m1 := j1
      refine wpAny_pure ?_
      have ei : i = n2 := by omega
      refine wpAny_bind (wpAny_bind (wpAny_holding ?_))
      show wpAny _ _ (Builtin.SmallTypes.nextOf (.ref i2) >>= _) _ _ ⟨m1, gs, dr, tk1, os⟩
      refine wpAny_bind (U2.done ⟨m1, gs, dr, tk1, os⟩ _ _ (by rw [← ei]; exact U2.over (U2.over q2 k1 Z.zf2) j1 Z.sep1_2) fun m3 e j3 he => ?_)
      replace j3 : Heap.ExtBut i2 m1 m3 := j3
      exact fin m3 tk1 e (fun c o cz ct d1 d2 x => j3 _ _ d2 (j1.extBut _ _ d1 (k1.extBut _ _ cz x))) he
    · have ei : i = n1 := by omega
      refine wpAny_bind (U1.done ⟨h1, gs, dr, tk0, os⟩ _ _ (by rw [← ei]; exact U1.over q1 k1 Z.zf1) fun m3 e j3 he => ?_)
      replace j3 : Heap.ExtBut i1 h1 m3 := j3
      exact fin m3 tk0 e (fun c o cz ct d1 d2 x => j3 _ _ d1 (k1.extBut _ _ cz x)) he
end

/-! ### two new objects at once -/
theorem turned2 {X : Cx} {pins : List (Addr × Obj)} {σ : L2.St} {H : Hp} {s : Shared} {h' : Heap} {t' : Nat} {ch : List Addr} {T1 T2 : Addr} {o1 o2 : HO} (I : Inv X pins σ H s) (k : ∀ b o, b ∉ ch → s.heap.get? b = some o → h'.get? b = some o) (hf : ∀ b ∈ ch, FpOk X pins H b)
    (g1 : s.heap.objs.size ≤ T1) (g2 : s.heap.objs.size ≤ T2) (new1 : ObjOk X.prog X.w (upd (upd H T1 o1) T2 o2) h' T1 o1) (new2 : ObjOk X.prog X.w (upd (upd H T1 o1) T2 o2) h' T2 o2) (ne : T1 ≠ T2) : Inv X pins σ (upd (upd H T1 o1) T2 o2) { s with heap := h', toks := t' } := by
  have f1 : H T1 = none := I.hok.fresh g1
  have f2 : H T2 = none := I.hok.fresh g2
  have same : ∀ b u, H b = some u → (upd (upd H T1 o1) T2 o2) b = some u := fun b u e => by rw [upd_ne (ne_of_none e f2), upd_ne (ne_of_none e f1)]; exact e
  have nit : ∀ b u, H b = some u → b ∉ ch := fun b u e z => by
    have q := (hf b z).1
    rw [q] at e; cases e
  refine I.step (g' := s.gens) (d' := s.drawn) (ch := ch) (fun b hb => let ⟨_, a2, _, a4, a5, a6⟩ := hf b hb; ⟨a4, a2, a5, a6⟩) (fun b o _ _ hc e _ => k b o hc e) (fun b o _ _ hc e _ => ⟨_, k b o hc e⟩)
    (fun b o _ e n => ?_) (fun b o hc e => ⟨_, k b o hc e⟩) (fun b xs e => same b _ e) (fun b o u e => same b _ e) (fun b ps e => ⟨#[], ?_⟩) (fun m hm => ?_) (fun b u e => ?_) I.bare
  · have lt := Heap.lt_size e
    rw [upd_ne (Nat.ne_of_lt (Nat.lt_of_lt_of_le lt g2)), upd_ne (Nat.ne_of_lt (Nat.lt_of_lt_of_le lt g1))]; exact n
  · rw [same b _ e]; simp
  · obtain ⟨o, es, ep, ho, r⟩ := hm
    exact ⟨o, es, ep, k _ o (fun z => (hf _ z).2.1 rfl) ho, r⟩
  · by_cases b2 : b = T2
    · subst b2
      rw [upd_same] at e
      cases e
      exact new2
    · rw [upd_ne b2] at e
      by_cases b1 : b = T1
      · subst b1
        rw [upd_same] at e
        cases e
        exact new1
      · rw [upd_ne b1] at e
        exact (I.hok b u e).stay (fun c v hc q => k c v (hc.elim (fun w => by rw [w]; exact nit b u e) fun w => nit c _ w) q) (fun c q => same c _ q) fun c xs q => same c _ q

/-! ### enumerate over such a zip -/
def itEZ (K : PySem.W.Frag) (b1 b2 : Bool) (a b : Addr) : It :=
  ⟨goZ K b1 b2 a b, fun i H v H' => ∃ T1 T2 x y, v = .ref T2 ∧ H T1 = none ∧ H T2 = none ∧ T1 ≠ T2 ∧ H' = upd (upd H T1 (.tup [x, y])) T2 (.tup [.int (i : Nat), .ref T1]) ∧ valZ K b1 b2 a b i H [x, y], stopZ K b1 b2 a b⟩
def tnEZ (b1 b2 : Bool) (e z TI TO i1 i2 a b : Addr) : Nat → Heap → Prop := fun i h => (∃ old, IsEnum h e z (0 + ((i : Nat) : Int)) old) ∧ (∃ g f, ZipR h z TI TO g f ∧ LastOk g) ∧ IsTupOf2 h TI (.ref i1) (.ref i2) ∧ (∃ a1 a2, IsTupOf2 h TO a1 a2) ∧ ItB b1 h i1 a i ∧ ItB b2 h i2 b i
theorem next_zip {prog : Program} {w : World} {A : Around} {E : Value → Shared → Prop} {s : Shared} {z TI TO : Addr} {g : Value} {f : Bool} {Q : Value → Shared → Prop} (zr : ZipR s.heap z TI TO g f)
    (h : wpAny (model prog w) A.in1 (Builtin.«zip.__next__» ⟨[.ref z], []⟩) (fun r s' => ∃ v, r = .done (.ret v) ∧ Q v s') E s) : wpAny (model prog w) A (Builtin.SmallTypes.nextOf (.ref z)) Q E s := by
  have ty : s.TypeIs (.ref z) "zip" := ⟨_, zr, rfl⟩
  unfold Builtin.SmallTypes.nextOf
  refine wpAny_bind (wpAny_callSpecial?_slot (name := Str.ofString "__next__") ty F.slot_zip_next (wpAny_call_entry F.slot_zip_next ty F.entry_zip_next ?_ (F.args_zip_next_1 _)))
  refine wpAny_mono h (fun r s' hr => ?_) fun _ _ q => q
  obtain ⟨v, e, q⟩ := hr
  subst e
  exact ⟨_, rfl, wpAny_pure q⟩

section
variable {prog : Program} {w : World} {A : Around} {E : Value → Shared → Prop} {s : Shared} {e z TI TO i1 i2 : Addr} {l1 l2 : List Addr} {n1 n2 i : Nat} {P1 P2 : Nat → Value → Prop} {S1 S2 : Nat → Heap → Prop} {g : Value} {f : Bool} {c : Int} {old : Value}
theorem ez_item (Z : ZipSep2 z TI TO i1 i2 l1 l2) (U1 : Draws prog w A.in1 i1 l1 n1 P1 S1) (U2 : Draws prog w A.in1 i2 l2 n2 P2 S2) (he : IsEnum s.heap e z c old) {b1 b2 : Value} (zr : ZipR s.heap z TI TO g f) (lk : LastOk g)
    (tI : IsTupOf2 s.heap TI (.ref i1) (.ref i2)) (tO : IsTupOf2 s.heap TO b1 b2) (q1 : S1 i s.heap) (q2 : S2 i s.heap) (c1 : i < n1) (c2 : i < n2) (ez : e ≠ z) (eO : e ≠ TO) (e1 : e ∉ l1) (e2 : e ∉ l2) {Q : Value → Shared → Prop}
    (fin : ∀ T1 T2 x y t h' tk, P1 i x → P2 i y → s.heap.objs.size ≤ T1 → s.heap.objs.size ≤ T2 → T1 ≠ T2 → IsTupOf2 h' T1 x y → h'.get? T2 = some { cls := .type "tuple", data := .seq #[.int c t, .ref T1] } → IsEnumOut h' e z (c + 1) (.ref T1) T2 → Drew z TI TO i1 i2 S1 S2 i s.heap h'  ∨ True →
      (∃ g f, ZipR h' z TI TO g f ∧ LastOk g) → (∃ a1 a2, IsTupOf2 h' TO a1 a2) → S1 (i + 1) h' → S2 (i + 1) h' → (∀ c o, c ≠ e → c ≠ z → c ≠ TO → c ≠ i1 → c ≠ i2 → s.heap.get? c = some o → h'.get? c = some o) → Q (.ref T2) { s with heap := h', toks := tk }) :
    wpAny (model prog w) A (Builtin.«enumerate.__next__» ⟨[.ref e], []⟩) (fun r s' => ∃ v, r = .done (.ret v) ∧ Q v s') E s := by
  obtain ⟨hp, gs, dr, tk0, os⟩ := s
  have ne1 : e ≠ i1 := fun w => e1 (by rw [w]; exact Z.mem1)
  have ne2 : e ≠ i2 := fun w => e2 (by rw [w]; exact Z.mem2)
  show wpAny _ _ (field (.ref e) 2 >>= _) _ _ _
  refine wpAny_bind (wpAny_field he rfl (x := .ref z) rfl ?_)
  refine wpAny_bind (next_zip zr (zip_item Z U1 U2 zr lk tI tO q1 q2 c1 c2 fun T1 x y m1 tk1 px py g1 tN dw => ?_))
  replace g1 : hp.objs.size ≤ T1 := g1
  have big1 : hp.objs.size ≤ m1.objs.size := dw.big
  have he1 : IsEnum m1 e z c old := dw.keep _ _ ez eO ne1 ne2 he
  have l1 : T1 < m1.objs.size := Heap.lt_size tN
  have eT : e ≠ T1 := Nat.ne_of_lt (Nat.lt_of_lt_of_le (Heap.lt_size (show hp.get? e = _ from he)) g1)
  show wpAny _ _ (field (.ref e) 3 >>= _) _ _ ⟨m1, gs, dr, tk1, os⟩
  refine wpAny_bind (wpAny_field he1 rfl (x := rawInt c) rfl ?_)
  show wpAny _ _ (field (.ref e) 4 >>= _) _ _ ⟨m1, gs, dr, tk1, os⟩
  refine wpAny_bind (wpAny_field he1 rfl (x := .none) rfl ?_)
  show wpAny _ _ (mkInt c >>= _) _ _ ⟨m1, gs, dr, tk1, os⟩
  refine wpAny_bind (wpAny_mkInt ?_)
  show wpAny _ _ (setField (.ref e) 3 (rawInt (c + 1)) >>= _) _ _ ⟨m1, gs, dr, tk1 + 1, os⟩
  refine wpAny_bind (wpAny_setField_rec he1 (by simp) fun m2 he2 k2 => ?_)
  replace k2 : Heap.SameBut e m1 m2 := k2
  replace he2 : IsEnum m2 e z (c + 1) old := he2
  show wpAny _ _ (setField (.ref e) 4 .none >>= _) _ _ ⟨m2, gs, dr, tk1 + 1, os⟩
  refine wpAny_bind (wpAny_setField_rec he2 (by simp) fun m3 he3 k3 => ?_)
  replace k3 : Heap.SameBut e m2 m3 := k3
  replace he3 : IsEnum m3 e z (c + 1) old := he3
  show wpAny _ _ (newTuple [.int c tk1, .ref T1] >>= _) _ _ ⟨m3, gs, dr, tk1 + 1, os⟩
  refine wpAny_bind (wpAny_newTuple ?_)
  have sz3 : m3.objs.size = m1.objs.size := by rw [k3.1, k2.1]
  have he4 : IsEnum (m3.push { cls := .type "tuple", data := .seq #[.int c tk1, .ref T1] }) e z (c + 1) old := Heap.get?_push_of_some _ he3
  have t4 : (m3.push { cls := .type "tuple", data := .seq #[.int c tk1, .ref T1] }).get? m3.objs.size = some { cls := .type "tuple", data := .seq #[.int c tk1, .ref T1] } := Heap.get?_push_size _ rfl
  have up4 : ∀ b o, b ≠ e → m1.get? b = some o → (m3.push { cls := .type "tuple", data := .seq #[.int c tk1, .ref T1] }).get? b = some o := fun b o n q => Heap.get?_push_of_some _ (k3.extBut _ _ n (k2.extBut _ _ n q))
  have neT : e ≠ m3.objs.size := Nat.ne_of_lt (Heap.lt_size he3)
  generalize (m3.push { cls := .type "tuple", data := .seq #[.int c tk1, .ref T1] }) = m4 at he4 t4 up4
  show wpAny _ _ (Builtin.SmallTypes.ownedTupleIsFree (.ref e) >>= _) _ _ ⟨m4, gs, dr, tk1 + 1, os⟩
  refine wpAny_bind ?_
  unfold Builtin.SmallTypes.ownedTupleIsFree
  refine wpAny_bind (wpAny_field he4 rfl (x := .none) rfl (wpAny_pure ?_))
  simp only [if_true]
  refine wpAny_bind (wpAny_rule ?_)
  refine wpAny_bind (wpAny_field he4 rfl (x := old) rfl ?_)
  refine wpAny_bind (wpAny_setField_rec he4 (by simp) fun m5 he5 k5 => ?_)
  replace k5 : Heap.SameBut e m4 m5 := k5
  replace he5 : IsEnum m5 e z (c + 1) (.ref T1) := he5
  show wpAny _ _ (Builtin.SmallTypes.ownedTupleHandOut (.ref e) (.ref m3.objs.size) >>= _) _ _ ⟨m5, gs, dr, tk1 + 1, os⟩
  refine wpAny_bind ?_
  unfold Builtin.SmallTypes.ownedTupleHandOut
  refine wpAny_bind (wpAny_setField_rec he5 (by simp) fun m6 he6 k6 => ?_)
  replace k6 : Heap.SameBut e m5 m6 := k6
  replace he6 : IsEnumOut m6 e z (c + 1) (.ref T1) m3.objs.size := he6
  refine wpAny_setField_rec he6 (by simp) fun m7 he7 k7 => ?_
  replace k7 : Heap.SameBut e m6 m7 := k7
  replace he7 : IsEnumOut m7 e z (c + 1) (.ref T1) m3.objs.size := he7
  have up7 : ∀ b o, b ≠ e → m4.get? b = some o → m7.get? b = some o := fun b o n q => k7.extBut _ _ n (k6.extBut _ _ n (k5.extBut _ _ n q))
  have up : ∀ b o, b ≠ e → m1.get? b = some o → m7.get? b = some o := fun b o n q => up7 b o n (up4 b o n q)
  obtain ⟨gg, ff, zr1, lk1⟩ := dw.rcd
  obtain ⟨a1, a2, tO1⟩ := dw.out
  refine wpAny_bind (wpAny_letGo (wpAny_pure ⟨_, rfl, ?_⟩))
  refine fin T1 m3.objs.size x y tk1 m7 (tk1 + 1) px py g1 (by show hp.objs.size ≤ _; omega) (Nat.ne_of_lt (by omega)) (up _ _ eT.symm tN) (up7 _ _ neT.symm t4) he7 (.inr trivial) ⟨gg, ff, up _ _ ez.symm zr1, lk1⟩ ⟨a1, a2, up _ _ eO.symm tO1⟩
    (U1.frame _ _ _ dw.st1 fun b hb o q => up b o (fun w => e1 (w ▸ hb)) q) (U2.frame _ _ _ dw.st2 fun b hb o q => up b o (fun w => e2 (w ▸ hb)) q) fun b o ne nz nO n1 n2 q => up b o ne (dw.keep b o nz nO n1 n2 q)
end
theorem turn_ez {P : Program} {w : World} {K : PySem.W.Frag} {b1 b2 : Bool} {e z TI TO i1 i2 a b : Addr} {elts : List Expr} {k : Nat} {pos : Pos} (Z : ZipSep2 z TI TO i1 i2 [i1, a] [i2, b]) (ha : a ≠ i1) (hb : b ≠ i2) (ez : e ≠ z) (eI : e ≠ TI) (eO : e ≠ TO) (e1 : e ∉ [i1, a]) (e2 : e ∉ [i2, b]) :
    Turn P w K (.Tuple elts k pos) (itEZ K b1 b2 a b) [e, z, TI, TO, i1, i2] e (tnEZ b1 b2 e z TI TO i1 i2 a b) where
  mem := by simp
  obj := fun i h st c hc => by
    obtain ⟨⟨old, he⟩, ⟨g, f, zr, _⟩, tI, ⟨x, y, tO⟩, h1, h2⟩ := st
    have e' : c = e ∨ c = z ∨ c = TI ∨ c = TO ∨ c = i1 ∨ c = i2 := by simpa using hc
    rcases e' with q | q | q | q | q | q
    · rw [q]; exact ⟨_, he, fun v q => nomatch q⟩
    · rw [q]; exact ⟨_, zr, fun v q => nomatch q⟩
    · rw [q]; exact ⟨_, tI, fun v q => nomatch q⟩
    · rw [q]; exact ⟨_, tO, fun v q => nomatch q⟩
    · rw [q]; exact h1.obj
    · rw [q]; exact h2.obj
  keep := fun i h h' st kp => by
    obtain ⟨⟨old, he⟩, ⟨g, f, zr, lk⟩, tI, ⟨x, y, tO⟩, h1, h2⟩ := st
    exact ⟨⟨old, kp e (by simp) _ he⟩, ⟨g, f, kp z (by simp) _ zr, lk⟩, kp TI (by simp) _ tI, ⟨x, y, kp TO (by simp) _ tO⟩, h1.at fun o q => kp i1 (by simp) o q, h2.at fun o q => kp i2 (by simp) o q⟩
  item := by
    intro X hP hw hK hc i pins s σ H E Iv hf st hg
    have hh := Iv.ok.hd hc
    subst hP hw hK
    obtain ⟨⟨old, he⟩, ⟨g, f, zr, lk⟩, tI, ⟨x0, y0, tO⟩, h1, h2⟩ := st
    obtain ⟨xs, ys, x, y, hqx, hqy, hx, hy⟩ := hg
    obtain ⟨its, rv, p, la⟩ := hqx.raw Iv
    obtain ⟨its2, rv2, p2, lb⟩ := hqy.raw Iv
    have hi1 : i < xs.length := (List.getElem?_eq_some_iff.mp hx).1
    have hi2 : i < ys.length := (List.getElem?_eq_some_iff.mp hy).1
    have l1 := rv.length
    have l2 := rv2.length
    have ty : s.TypeIs (.ref e) "enumerate" := ⟨_, he, rfl⟩
    unfold pyNext
    refine wpAny_bind (wpAny_attempt (wpAny_callSpecial?_slot (name := Str.ofString "__next__") ty F.slot_enumerate_next (wpAny_call_entry F.slot_enumerate_next ty F.entry_enumerate_next ?_ (F.args_enumerate_next_1 _))))
    refine ez_item Z (draws_b (A := X.A.in1.in1) hh b1 i1 a ha its.toArray) (draws_b (A := X.A.in1.in1) hh b2 i2 b hb its2.toArray) he zr lk tI tO ⟨h1, p⟩ ⟨h2, p2⟩ (by simp only [List.size_toArray]; omega) (by simp only [List.size_toArray]; omega) ez eO e1 e2 fun T1 T2 u1 u2 t h' tk px py g1 g2 ne12 tN t2 eo _ zr' tO' s1 s2 kp => ?_
    refine wpAny_pure ⟨_, rfl, ?_⟩
    refine wpAny_letOwnedTupleGo_enum eo fun h'' he' k2 => ?_
    replace k2 : Heap.SameBut e h' h'' := k2
    obtain ⟨v1, hv1, r1⟩ := rv.get hx
    obtain ⟨v2, hv2, r2⟩ := rv2.get hy
    have q1 : v1 = u1 := Option.some.inj (hv1.symm.trans (by simpa using px))
    have q2 : v2 = u2 := Option.some.inj (hv2.symm.trans (by simpa using py))
    subst q1 q2
    have lte : e < s.heap.objs.size := Heap.lt_size he
    have tN' : IsTupOf2 h'' T1 v1 v2 := k2.extBut _ _ (Nat.ne_of_gt (Nat.lt_of_lt_of_le lte g1)) tN
    have t2' := k2.extBut _ _ (Nat.ne_of_gt (Nat.lt_of_lt_of_le lte g2)) t2
    obtain ⟨gg, ff, zr1, lk1⟩ := zr'
    obtain ⟨a1, a2, tO1⟩ := tO'
    have f1 : H T1 = none := Iv.hok.fresh g1
    have f2 : H T2 = none := Iv.hok.fresh g2
    have ltTI : TI ≠ i1 ∧ TI ≠ i2 ∧ TI ≠ TO ∧ TI ≠ z := ⟨Z.TIi1, Z.TIi2, Z.TITO, Z.TIz⟩
    refine ⟨.ref T2, _, turned2 (s := s) (h' := h'') (t' := tk) (ch := [e, z, TI, TO, i1, i2]) (o1 := .tup [x, y]) (o2 := .tup [.int (i : Nat), .ref T1]) Iv (fun c o hc q => ?_) hf g1 g2 ?_ ?_ ne12, rfl, ⟨T1, T2, x, y, rfl, f1, f2, ne12, rfl, x, y, rfl, fun l hl => by rw [hl.inj Iv hqx]; exact hx, fun l hl => by rw [hl.inj Iv hqy]; exact hy⟩, ?_, fun c hc => ?_⟩
    · have n : c ≠ e ∧ c ≠ z ∧ c ≠ TI ∧ c ≠ TO ∧ c ≠ i1 ∧ c ≠ i2 := by simpa using hc
      exact k2.extBut _ _ n.1 (kp c o n.1 n.2.1 n.2.2.2.1 n.2.2.2.2.1 n.2.2.2.2.2 q)
    · exact ⟨by show 2 ≤ sizeLine; decide, [v1, v2], .cons r1 (.cons r2 .nil), ⟨_, tN', rfl, _, rfl⟩⟩
    · exact ⟨by show 2 ≤ sizeLine; decide, [.int (0 + (i : Int)) t, .ref T1], .cons ⟨t, by rw [Int.zero_add]⟩ (.cons rfl .nil), ⟨_, t2', rfl, _, rfl⟩⟩
    · have nx : (0 : Int) + ((i + 1 : Nat) : Int) = 0 + (i : Int) + 1 := by omega
      refine ⟨⟨.ref T1, by rw [nx]; exact he'⟩, ⟨gg, ff, k2.extBut _ _ ez.symm zr1, lk1⟩, k2.extBut _ _ eI.symm (kp TI _ eI.symm ltTI.2.2.2 ltTI.2.2.1 ltTI.1 ltTI.2.1 tI), ⟨a1, a2, k2.extBut _ _ eO.symm tO1⟩, s1.1.at fun o q => k2.extBut _ _ (fun w => e1 (by rw [w]; simp)) q, s2.1.at fun o q => k2.extBut _ _ (fun w => e2 (by rw [w]; simp)) q⟩
    · have hc' : c = e ∨ c = z ∨ c = TI ∨ c = TO ∨ c = i1 ∨ c = i2 := by simpa using hc
      have ex : ∃ o, s.heap.get? c = some o := by
        rcases hc' with q | q | q | q | q | q
        · rw [q]; exact ⟨_, he⟩
        · rw [q]; exact ⟨_, zr⟩
        · rw [q]; exact ⟨_, tI⟩
        · rw [q]; exact ⟨_, tO⟩
        · rw [q]; obtain ⟨o, ho, _⟩ := h1.obj; exact ⟨o, ho⟩
        · rw [q]; obtain ⟨o, ho, _⟩ := h2.obj; exact ⟨o, ho⟩
      obtain ⟨o, ho⟩ := ex
      have lt := Heap.lt_size ho
      rw [upd_ne (Nat.ne_of_lt (Nat.lt_of_lt_of_le lt g2)), upd_ne (Nat.ne_of_lt (Nat.lt_of_lt_of_le lt g1))]
      exact (hf c hc).1
  done := by
    intro X hP hw hK hc i pins s σ H E Iv hf st hg
    have hh := Iv.ok.hd hc
    subst hP hw hK
    obtain ⟨⟨old, he⟩, ⟨g, f, zr, lk⟩, tI, ⟨x0, y0, tO⟩, h1, h2⟩ := st
    obtain ⟨xs, ys, hqx, hqy, hi⟩ := hg
    obtain ⟨its, rv, p, la⟩ := hqx.raw Iv
    obtain ⟨its2, rv2, p2, lb⟩ := hqy.raw Iv
    have l1 := rv.length
    have l2 := rv2.length
    have ty : s.TypeIs (.ref e) "enumerate" := ⟨_, he, rfl⟩
    unfold pyNext
    refine wpAny_bind (wpAny_attempt (wpAny_callSpecial?_slot (name := Str.ofString "__next__") ty F.slot_enumerate_next (wpAny_call_entry F.slot_enumerate_next ty F.entry_enumerate_next ?_ (F.args_enumerate_next_1 _))))
    show wpAny _ _ (field (.ref e) 2 >>= _) _ _ _
    refine wpAny_bind (wpAny_field he rfl (x := .ref z) rfl ?_)
    refine wpAny_bind (next_zip zr (zip_stop Z (draws_b (A := X.A.in1.in1) hh b1 i1 a ha its.toArray) (draws_b (A := X.A.in1.in1) hh b2 i2 b hb its2.toArray) zr lk tI tO ⟨h1, p⟩ ⟨h2, p2⟩ (by simp only [List.size_toArray]; omega) (by simp only [List.size_toArray]; omega) (by simp only [List.size_toArray]; omega) fun h' tk e' kp hx => ?_))
    obtain ⟨o, ho, hc'⟩ := hx
    refine wpAny_bind (wpAny_isInstance (T := "StopIteration") (b := true) ⟨o, ho, hc'⟩ isSubtype_stop ?_)
    refine wpAny_pure ⟨rfl, ?_⟩
    exact Iv.turnedL (ch := [e, z, TI, TO, i1, i2]) (fun c o hc q => by
      have n : c ≠ e ∧ c ≠ z ∧ c ≠ TI ∧ c ≠ TO ∧ c ≠ i1 ∧ c ≠ i2 := by simpa using hc
      exact kp c o n.2.1 n.2.2.2.1 n.2.2.2.2.1 n.2.2.2.2.2 q) hf
  self := fun A i s Q E st h => let ⟨⟨_, he⟩, _⟩ := st; wpAny_pyIter_enum he h

theorem meets_enumZ {z TI TO : Addr} :
    Meets (Builtin.«enumerate.__new__» ⟨[.type "enumerate", .ref z], []⟩) (fun _ R s => IsZip s.heap z TI TO .none ∧
      R (.ok (.ret (.ref s.heap.objs.size))) { s with heap := s.heap.push { cls := .type "enumerate", data := .fields #[.none, .bool false, .ref z, rawInt 0, .none, .none] } }) :=
  .of_wp fun prog w A R s h => by
    obtain ⟨hp, g, d, tk, os⟩ := s; obtain ⟨hl, h⟩ := h
    have hsub := sub_enumerate
    have q1 : ∀ {A' : Around} {E : Value → Shared → Prop} {Q : Value → Shared → Prop}, Q (.ref z) ⟨hp, g, d, tk, os⟩ → wpAny (model prog w) A' (pyIter (.ref z)) Q E ⟨hp, g, d, tk, os⟩ :=
      fun q => wpAny_pyIter_zip (s := ⟨hp, g, d, tk, os⟩) hl q
    wp_walk
    refine wpAny_stack_any fun st => wpAny_pure ?_
    split
    · rename_i c _ _ _ _ _
      cases (c == Value.type "enumerate")
      · wp_walk using q1
        exact ⟨_, rfl, h⟩
      · wp_walk using q1
        exact ⟨_, rfl, h⟩
    · wp_walk using q1
      exact ⟨_, rfl, h⟩
theorem enum_zip {prog : Program} {w : World} {A : Around} {E : Value → Shared → Prop} {s : Shared} {z TI TO : Addr} {Q : Value → Shared → Prop} (hz : IsZip s.heap z TI TO .none)
    (h : ∀ h', IsEnum h' s.heap.objs.size z 0 .none → (∀ b u, s.heap.get? b = some u → h'.get? b = some u) → Q (.ref s.heap.objs.size) { s with heap := h' }) :
    wpAny (model prog w) A (call (.type "enumerate") [.ref z]) Q E s := by
  refine callType_new F.called_enumerate (by decide) (F.typeCall_enumerate_1 _) (F.newCall_enumerate_1 _) (fun obj => F.args_object_init_2 obj _) F.entry_enumerate_new (meets_enumZ (TI := TI) (TO := TO)) ⟨hz, ?_⟩
  have he : IsEnum (s.heap.push { cls := .type "enumerate", data := .fields #[.none, .bool false, .ref z, rawInt 0, .none, .none] }) s.heap.objs.size z 0 .none := Heap.get?_push_size _ rfl
  exact ⟨⟨_, he, rfl⟩, h _ he fun b u x => Heap.get?_push_of_some _ x⟩
def iEZ (K : PySem.W.Frag) (ta : TA) : TI := fun σ H R => ta σ H fun vs H1 => ∃ a b b1 b2 xs ys, vs = [.ref a, .ref b] ∧ SqB K b1 H1 a xs ∧ SqB K b2 H1 b ys ∧ R (itEZ K b1 b2 a b) H1
theorem pi_ez {X : Cx} {e e2 : Expr} {ta : TA} {p pos p2 pos2 tpos : Pos} {elts : List Expr} {kk : Nat} (hg0 : Gl X "enumerate") (hm0 : X.mg "enumerate" = none) (hg : Gl X "zip") (hm : X.mg "zip" = none) (ha : PA X [e, e2] ta)
    (hs0 : starEach [.Call (.Name "zip" p2) [e, e2] [] pos2] X.env = (false, eval (.Call (.Name "zip" p2) [e, e2] [] pos2) X.env) :: starEach [] X.env := by rfl)
    (hs : starEach [e, e2] X.env = (false, eval e X.env) :: starEach [e2] X.env := by rfl) (hpl : (backTo pos2 (starEach [e2] X.env)).any (·.1) = false := by rfl) :
    PI X (.Tuple elts kk tpos) (.Call (.Name "enumerate" p) [.Call (.Name "zip" p2) [e, e2] [] pos2] [] pos) (iEZ X.K ta) := by
  refine ⟨fun pn st sg Hh Rr In hw => ?_⟩
  refine Call_ (ld_blt In hg0 hm0 boot_enumerate ?_)
  refine PyProof.Rows.callWith_type1 (PyProof.Rows.args_cons ?_ hs0) hs0 rfl
  refine Call_ (ld_blt In hg hm PyProof.Rows.boot_zip (PyProof.Rows.callWith_type1 (thn (ha.run pos2 pn st sg Hh _ In hw) fun us s1 ⟨vs, H1, I1, r1, q1⟩ => ?_) hs hpl))
  obtain ⟨a, b, b1, b2, xs, ys, ex, hqx, hqy, q⟩ := q1
  subst ex
  cases r1 with
  | cons r rr =>
    cases rr with
    | cons r' rr =>
      cases rr
      cases r
      cases r'
      obtain ⟨its, rv, p1, la⟩ := hqx.raw I1
      obtain ⟨its2, rv2, p2', lb⟩ := hqy.raw I1
      refine zip_begins2 (begins_b b1 a its.toArray) (begins_b b2 b its2.toArray) p1 p2' fun h' hz hTI hTO h1 h2 hsz hk => PyProof.Rows.args_nil ?_
      refine enum_zip (s := { s1 with heap := h' }) hz fun h3 he hk3 => wpAny_pyIter_enum (s := { s1 with heap := h3 }) he ?_
      have I2 : Inv X pn sg H1 { s1 with heap := h3 } := I1.kept (t' := s1.toks) fun b o q => hk3 b o (hk b o q)
      have S := zip_sep2 (N := s1.heap.objs.size) (fp1 := [a]) (fp2 := [b]) (by simpa using la) (by simpa using lb)
      have big : s1.heap.objs.size + 5 ≤ h'.objs.size := by rw [hsz]; exact Nat.le_refl _
      have ez : h'.objs.size ≠ s1.heap.objs.size + 4 := by omega
      have eI : h'.objs.size ≠ s1.heap.objs.size + 2 := by omega
      have eO : h'.objs.size ≠ s1.heap.objs.size + 3 := by omega
      have ea : h'.objs.size ≠ a := Nat.ne_of_gt (Nat.lt_of_lt_of_le la (by omega))
      have eb : h'.objs.size ≠ b := Nat.ne_of_gt (Nat.lt_of_lt_of_le lb (by omega))
      have ef1 : h'.objs.size ∉ [s1.heap.objs.size, a] := fun w => by
        rcases List.mem_cons.mp w with w | w
        · omega
        · exact ea (List.mem_singleton.mp w)
      have ef2 : h'.objs.size ∉ [s1.heap.objs.size + 1, b] := fun w => by
        rcases List.mem_cons.mp w with w | w
        · omega
        · exact eb (List.mem_singleton.mp w)
      refine ⟨h'.objs.size, [h'.objs.size, s1.heap.objs.size + 4, s1.heap.objs.size + 2, s1.heap.objs.size + 3, s1.heap.objs.size, s1.heap.objs.size + 1], _, _, H1, rfl, I2,
        turn_ez (b1 := b1) (b2 := b2) S (Nat.ne_of_lt la) (Nat.ne_of_lt (Nat.lt_succ_of_lt lb)) ez eI eO ef1 ef2,
        ⟨⟨.none, he⟩, ⟨.none, false, hk3 _ _ hz, .inl rfl⟩, hk3 _ _ hTI, ⟨_, _, hk3 _ _ hTO⟩, ItB.start (hk3 _ _ h1), ItB.start (hk3 _ _ h2)⟩, fun c hcm => ?_, q⟩
      have e' : c = h'.objs.size ∨ c = s1.heap.objs.size + 4 ∨ c = s1.heap.objs.size + 2 ∨ c = s1.heap.objs.size + 3 ∨ c = s1.heap.objs.size ∨ c = s1.heap.objs.size + 1 := by simpa using hcm
      have hle : s1.heap.objs.size ≤ c := by
        rcases e' with z | z | z | z | z | z <;> rw [z] <;> omega
      exact I1.fpOk hle (I1.hok.fresh hle)
theorem piEZ {X : Cx} {K : PySem.W.Frag} {e e2 : Expr} {ta : TA} {p pos p2 pos2 tpos : Pos} {elts : List Expr} {kk : Nat} (hg0 : Gl X "enumerate") (hm0 : X.mg "enumerate" = none) (hg : Gl X "zip") (hm : X.mg "zip" = none) (ha : PA X [e, e2] ta) (h : X.K = K := by rfl)
    (hs0 : starEach [.Call (.Name "zip" p2) [e, e2] [] pos2] X.env = (false, eval (.Call (.Name "zip" p2) [e, e2] [] pos2) X.env) :: starEach [] X.env := by rfl)
    (hs : starEach [e, e2] X.env = (false, eval e X.env) :: starEach [e2] X.env := by rfl) (hpl : (backTo pos2 (starEach [e2] X.env)).any (·.1) = false := by rfl) :
    PI X (.Tuple elts kk tpos) (.Call (.Name "enumerate" p) [.Call (.Name "zip" p2) [e, e2] [] pos2] [] pos) (iEZ K ta) := by subst h; exact pi_ez hg0 hm0 hg hm ha hs0 hs hpl

section
variable {s : Sx} {Γ : List Md} {K : PySem.W.Frag}
theorem items_ez {H : Hp} {S U : AS} {a b : Addr} {b1 b2 : Bool} {vs ws : List V} {ds es : List D} (h1 : H a = some (.lst vs) ∧ b1 = true ∨ H a = some (.tup vs) ∧ b1 = false) (h2 : H b = some (.lst ws) ∧ b2 = true ∨ H b = some (.tup ws) ∧ b2 = false)
    (n1 : ¬ S a) (n2 : ¬ S b) (d1 : DenL H U vs ds) (d2 : DenL H U ws es) (z : Sz H) : Items (itEZ K b1 b2 a b) S U H (enumD 0 (zipD ds es)) where
  len := by rw [enumD_len, zipD_len, ← d1.length]; exact Nat.le_trans (Nat.min_le_left _ _) (sz_seq z h1)
  go := fun i H' l hi => by
    rw [enumD_len, zipD_len] at hi
    have i1 : i < vs.length := by rw [d1.length]; omega
    have i2 : i < ws.length := by rw [d2.length]; omega
    exact ⟨vs, ws, vs[i], ws[i], seq_later h1 n1 l, seq_later h2 n2 l, by simp [i1], by simp [i2]⟩
  stop := fun H' l => ⟨vs, ws, seq_later h1 n1 l, seq_later h2 n2 l, by rw [enumD_len, zipD_len, d1.length, d2.length]⟩
  yld := fun i x H' v H'' l lu hd y => by
    obtain ⟨T1, T2, x1, y1, rfl, k1, k2, ne, rfl, _, _, ev, f1, f2⟩ := y
    cases ev
    obtain ⟨dd, g0, rfl⟩ := enumD_get hd
    obtain ⟨d, e, g1, g2, rfl⟩ := zipD_get g0
    obtain ⟨u1, a1, a2⟩ := d1.get g1
    obtain ⟨u2, c1, c2⟩ := d2.get g2
    have p1 := f1 vs (seq_later h1 n1 l)
    have p2 := f2 ws (seq_later h2 n2 l)
    rw [a1] at p1; cases p1
    rw [c1] at p2; cases p2
    have kk : (upd H' T1 (.tup [x1, y1])) T2 = none := by rw [upd_ne ne.symm]; exact k2
    have up0 : ∀ aa o, H' aa = some o → (upd (upd H' T1 (.tup [x1, y1])) T2 (.tup [.int (i : Nat), .ref T1])) aa = some o := fun aa o q => upd_keep kk aa o (upd_keep k1 aa o q)
    have up : ∀ aa o, H aa = some o → ¬ U aa → (upd (upd H' T1 (.tup [x1, y1])) T2 (.tup [.int (i : Nat), .ref T1])) aa = some o := fun aa o q nn => up0 aa o (lu aa o q nn)
    refine ⟨up0, fun zz => Sz.upd (Sz.upd zz fun xs q => ?_) fun xs q => ?_, fun U' hu nu => .tup upd_same (nu T2 k2) (.cons (by rw [Nat.zero_add]; exact .int _) (.cons (.tup (by rw [upd_ne ne, upd_same]) (nu T1 k1) (.cons (a2.mono up hu) (.cons (c2.mono up hu) .nil))) .nil))⟩
    · rcases q with q | q <;> cases q
      show 2 ≤ sizeLine
      decide
    · rcases q with q | q <;> cases q
      show 2 ≤ sizeLine
      decide
def itEZip (f : Py.Env → M (List D)) : Py.Env → M (List D) := fun ρ => bnd (f ρ) fun l => match l with
  | [x, y] => bnd (seqD x) fun ds => bnd (seqD y) fun es => ret (enumD 0 (zipD ds es))
  | _ => stuck
theorem semIc_ez {t : TA} {f : Py.Env → M (List D)} (h : SemAV s Γ t f) : SemIc s Γ (iEZ K t) (itEZip f) := by
  intro c ρ ps σ H R' P hc r0 q k
  refine h c ρ ps σ H _ _ hc r0 q fun ds vs H1 q1 e1 d1 => ?_
  dsimp only at q1
  split at q1
  · rename_i x y
    obtain ⟨l1, z1, q1⟩ := seqD_get q1
    obtain ⟨l2, z2, q1⟩ := seqD_get q1
    obtain ⟨v, w, rfl, dx, dy⟩ := d1.two
    have g := (r0.stp e1).gd
    obtain ⟨a, us, b1, rfl, hs1, dn1, nu1, hh1⟩ := dx.seqA (K := K) g.ok g.nA z1
    obtain ⟨b, ws, b2, rfl, hs2, dn2, nu2, hh2⟩ := dy.seqA (K := K) g.ok g.nA z2
    exact ⟨a, b, b1, b2, us, ws, rfl, hs1, hs2, k _ _ H1 q1 e1 (items_ez hh1 hh2 nu1 nu2 dn1 dn2 g.sz)⟩
  · cases q1
theorem semI_ez {t : TA} {f : Py.Env → M (List D)} (h : SemA s Γ t f) : SemI s Γ (iEZ K t) (itEZip f) := by
  intro c ρ ps σ H R' P hc r0 q k
  refine h c ρ ps σ H _ _ hc r0 q fun ds vs H1 q1 e1 d1 => ?_
  dsimp only at q1
  split at q1
  · rename_i x y
    obtain ⟨l1, z1, q1⟩ := seqD_get q1
    obtain ⟨l2, z2, q1⟩ := seqD_get q1
    cases d1 with
    | cons dx dr =>
      cases dr with
      | cons dy dr =>
        cases dr
        obtain ⟨a, us, b1, rfl, hs1, dn1, nu1, hh1⟩ := dx.seqU (K := K) z1
        obtain ⟨b, ws, b2, rfl, hs2, dn2, nu2, hh2⟩ := dy.seqU (K := K) z2
        exact ⟨a, b, b1, b2, us, ws, rfl, hs1, hs2, k _ _ H1 q1 e1 (items_ez hh1 hh2 nu1 nu2 dn1 dn2 (r0.stp e1).sz)⟩
  · cases q1
end
end Py
end
/-! PyE: combinators reckoned: equations f ρ = ret x. -/
namespace Py
open PySem L2 StX
@[simp] theorem bnd_ret' {α β : Type} (a : α) (k : α → M β) : bnd (ret a) k = k a := (rfl)
@[simp] theorem bnd_stuck' {α β : Type} (k : α → M β) : bnd stuck k = (stuck : M β) := (rfl)
@[simp] theorem oThen_nx (ρ : Env) (k : Env → M Out) : oThen (.nx ρ) k = k ρ := (rfl)
@[simp] theorem oThen_rt (d : D) (k : Env → M Out) : oThen (.rt d) k = ret (.rt d) := (rfl)
@[simp] theorem oLoop_nx (ρ : Env) (k : Env → M Out) : oLoop (.nx ρ) k = k ρ := (rfl)
@[simp] theorem oLoop_rt (d : D) (k : Env → M Out) : oLoop (.rt d) k = ret (.rt d) := (rfl)
@[simp] theorem outD_rt (d : D) : outD (.rt d) = ret d := (rfl)
@[simp] theorem outD_nx (ρ : Env) : outD (.nx ρ) = ret .none := (rfl)
@[simp] theorem lenOk_def (n : Nat) : (lenOk n = true) = (n ≤ 100000) := by simp [lenOk]
theorem ite_t {α : Type} {c : Prop} [Decidable c] {a b : α} (h : c) : (if c then a else b) = a := if_pos h

/-! ### data -/
def dInts (xs : List Int) : List D := xs.map .int
def tupI (xs : List Int) : D := .tuple (dInts xs)
def lstI (xs : List Int) : D := .list (dInts xs)
/-- a table: a tuple of tuples; a list of lists -/
def dT (M : List (List Int)) : D := .tuple (M.map tupI)
def dL (M : List (List Int)) : D := .list (M.map lstI)
@[simp] theorem dInts_len (xs : List Int) : (dInts xs).length = xs.length := by simp [dInts]
theorem intsD_dInts : ∀ xs : List Int, intsD (dInts xs) = some xs
  | [] => rfl
  | x :: xs => by
    show (intsD (dInts xs)).map (x :: ·) = some (x :: xs)
    rw [intsD_dInts xs]; rfl
theorem boolsD_bools : ∀ xs : List Bool, boolsD (xs.map .bool) = some xs
  | [] => rfl
  | x :: xs => by
    show (boolsD (xs.map .bool)).map (x :: ·) = some (x :: xs)
    rw [boolsD_bools xs]; rfl

/-! ### comprehensions -/
theorem lcW_map {α : Type} {tg : D → Env → M Env} {cond : Env → M Bool} {elt : Env → M D} {ρ : Env} (f : α → D) (c : α → Bool) (e : α → D) : ∀ (xs : List α), (∀ x ∈ xs, ∃ ρ', tg (f x) ρ = ret ρ' ∧ cond ρ' = ret (c x) ∧ (c x = true → elt ρ' = ret (e x))) →
    lcW tg cond elt ρ (xs.map f) = ret ((xs.filter c).map e)
  | [], _ => rfl
  | x :: xs, h => by
    obtain ⟨ρ', h1, h2, h3⟩ := h x (by simp)
    have ih := lcW_map f c e xs fun y hy => h y (by simp [hy])
    show bnd (tg (f x) ρ) (fun ρ' => bnd (cond ρ') fun b => if b = true then bnd (elt ρ') fun y => bnd (lcW tg cond elt ρ (xs.map f)) fun ys => ret (y :: ys) else lcW tg cond elt ρ (xs.map f)) = _
    rw [h1, ih]
    simp only [bnd_ret', h2]
    cases hc : c x with
    | true => simp [h3 hc, hc]
    | false => simp [hc]
theorem lcW_all {α : Type} {tg : D → Env → M Env} {elt : Env → M D} {ρ : Env} (f : α → D) (e : α → D) (xs : List α) (h : ∀ x ∈ xs, ∃ ρ', tg (f x) ρ = ret ρ' ∧ elt ρ' = ret (e x)) : lcW tg cYes elt ρ (xs.map f) = ret (xs.map e) := by
  have := lcW_map (tg := tg) (cond := cYes) (elt := elt) (ρ := ρ) f (fun _ => true) e xs fun x hx => by
    obtain ⟨ρ', h1, h2⟩ := h x hx
    exact ⟨ρ', h1, rfl, fun _ => h2⟩
  rw [List.filter_eq_self.mpr (by simp)] at this
  exact this
theorem lcW_allL {α : Type} {tg : D → Env → M Env} {elt : Env → M D} {ρ : Env} {ds : List D} (f : α → D) (e : α → D) (xs : List α) (hd : ds = xs.map f) (h : ∀ x ∈ xs, ∃ ρ', tg (f x) ρ = ret ρ' ∧ elt ρ' = ret (e x)) : lcW tg cYes elt ρ ds = ret (xs.map e) := by
  rw [hd]; exact lcW_all f e xs h
theorem rangeD_eq (lo : Int) (n : Nat) : rangeD lo n = (List.range n).map fun i => .int (lo + (i : Nat)) := rfl

/-! ### loops: each turn leads from one state to the next -/
theorem forW_fold {α : Type} {tg : D → Env → M Env} {body : Env → M Out} (f : α → D) (St : List α → Env) : ∀ (done xs : List α), (∀ done x rest, done ++ x :: rest = done ++ x :: rest → ∃ ρ', tg (f x) (St done) = ret ρ' ∧ body ρ' = ret (.nx (St (done ++ [x])))) → forW tg body (xs.map f) (St done) = ret (.nx (St (done ++ xs)))
  | done, [], _ => by rw [List.append_nil]; rfl
  | done, x :: xs, h => by
    obtain ⟨ρ', h1, h2⟩ := h done x xs rfl
    show bnd (tg (f x) (St done)) (fun ρ' => bnd (body ρ') fun o => oLoop o (forW tg body (xs.map f))) = _
    rw [h1]
    simp only [bnd_ret', h2, oLoop_nx]
    rw [forW_fold f St (done ++ [x]) xs h, List.append_assoc]
    rfl

/-! ### what the combinators do, as equations -/
def toB : D → M Bool
  | .bool b => ret b
  | _ => stuck
@[simp] theorem toB_b (b : Bool) : toB (.bool b) = ret b := (rfl)
def toI : D → M (Option Int)
  | .int i => ret (some i)
  | _ => stuck
@[simp] theorem toI_i (i : Int) : toI (.int i) = ret (some i) := (rfl)
def optM : Option D → M D
  | some d => ret d
  | none => stuck
@[simp] theorem optM_some (d : D) : optM (some d) = ret d := (rfl)
@[simp] theorem x_eVar (i : Nat) (ρ : Env) : eVar i ρ = optM ((ρ[i]?).getD none) := by
  unfold eVar
  cases h : ρ[i]? with
  | none => rfl
  | some o => cases o <;> rfl
@[simp] theorem x_tst (e : Env → M D) (ρ : Env) : tst e ρ = bnd (e ρ) toB := by
  unfold tst
  congr 1
@[simp] theorem x_tru (e : Env → M D) (ρ : Env) : tru e ρ = bnd (e ρ) truD := (rfl)
@[simp] theorem x_oPart (e : Env → M D) (ρ : Env) : oPart e ρ = bnd (e ρ) toI := by
  unfold oPart
  congr 1
@[simp] theorem x_tupRg (e : Env → M D) (ρ : Env) (n : Int) (h : e ρ = ret (.int n)) (hn : rngOk n = true) : eTupRg e ρ = ret (.tuple (rangeD 0 (n - 0).toNat)) := by
  unfold eTupRg
  rw [h]
  show (if rngOk n = true then ret (PyData.tuple (rangeD 0 (n - 0).toNat)) else stuck) = _
  rw [if_pos hn]
def zip2 : List D → M (List D)
  | [x, y] => bnd (seqD x) fun ds => bnd (seqD y) fun es => ret (zipD ds es)
  | _ => stuck
@[simp] theorem zip2_2 (x y : D) : zip2 [x, y] = bnd (seqD x) fun ds => bnd (seqD y) fun es => ret (zipD ds es) := (rfl)
@[simp] theorem x_itZip (f : Env → M (List D)) (ρ : Env) : itZip f ρ = bnd (f ρ) zip2 := by
  unfold itZip
  congr 1
@[simp] theorem x_itEZip (f : Env → M (List D)) (ρ : Env) : itEZip f ρ = bnd (f ρ) fun l => bnd (zip2 l) fun ds => ret (enumD 0 ds) := by
  unfold itEZip
  congr 1
  funext l
  match l with
  | [] => rfl
  | [x] => rfl
  | [x, y] =>
    show bnd (seqD x) _ = bnd (bnd (seqD x) fun ds => bnd (seqD y) fun es => ret (zipD ds es)) _
    rfl
  | x :: y :: z :: r => rfl
def enum1 : List D → M (List D)
  | [x] => bnd (seqD x) fun ds => ret (enumD 0 ds)
  | _ => stuck
@[simp] theorem enum1_1 (x : D) : enum1 [x] = bnd (seqD x) fun ds => ret (enumD 0 ds) := (rfl)
@[simp] theorem x_itEnum (f : Env → M (List D)) (ρ : Env) : itEnum f ρ = bnd (f ρ) enum1 := by
  unfold itEnum
  congr 1
def rng1 : List D → M (List D)
  | [.int n] => if rngOk n = true then ret (rangeD 0 n.toNat) else stuck
  | _ => stuck
@[simp] theorem rng1_i (n : Int) : rng1 [.int n] = if rngOk n = true then ret (rangeD 0 n.toNat) else stuck := (rfl)
@[simp] theorem x_itRng1 (f : Env → M (List D)) (ρ : Env) : itRng1 f ρ = bnd (f ρ) rng1 := by
  unfold itRng1
  congr 1
def rng2 : List D → M (List D)
  | [.int m, .int n] => if (rngOk m && rngOk n) = true then ret (rangeD m (n - m).toNat) else stuck
  | _ => stuck
@[simp] theorem rng2_i (m n : Int) : rng2 [.int m, .int n] = if (rngOk m && rngOk n) = true then ret (rangeD m (n - m).toNat) else stuck := (rfl)
@[simp] theorem x_itRng2 (f : Env → M (List D)) (ρ : Env) : itRng2 f ρ = bnd (f ρ) rng2 := by
  unfold itRng2
  congr 1
def par2 (i j : Nat) (ρ : Env) : List D → M Out
  | [x, y] => ret (.nx ((ρ.set i (some x)).set j (some y)))
  | _ => stuck
@[simp] theorem par2_2 (i j : Nat) (ρ : Env) (x y : D) : par2 i j ρ [x, y] = ret (.nx ((ρ.set i (some x)).set j (some y))) := (rfl)
@[simp] theorem x_sPar (i j : Nat) (f : Env → M (List D)) (ρ : Env) : sPar i j f ρ = bnd (f ρ) (par2 i j ρ) := by
  unfold sPar
  congr 1
def par3 (i j l : Nat) (ρ : Env) : List D → M Out
  | [x, y, z] => ret (.nx (((ρ.set i (some x)).set j (some y)).set l (some z)))
  | _ => stuck
@[simp] theorem par3_3 (i j l : Nat) (ρ : Env) (x y z : D) : par3 i j l ρ [x, y, z] = ret (.nx (((ρ.set i (some x)).set j (some y)).set l (some z))) := (rfl)
@[simp] theorem x_sPar3 (i j k : Nat) (f : Env → M (List D)) (ρ : Env) : sPar3 i j k f ρ = bnd (f ρ) (par3 i j k ρ) := by
  unfold sPar3
  congr 1
theorem cSum_dInts (xs : List Int) : cSum [.list (dInts xs)] = ret (.int xs.sum) := by
  show (match intsD (dInts xs) with | some ns => ret (PyData.int ns.sum) | none => stuck) = _
  rw [intsD_dInts]
theorem cAll_bools (xs : List Bool) : cAll [.list (xs.map .bool)] = ret (.bool (xs.all id)) := by
  show (match boolsD (xs.map .bool) with | some ns => ret (PyData.bool (ns.all id)) | none => stuck) = _
  rw [boolsD_bools]
theorem cAny_bools (xs : List Bool) : cAny [.list (xs.map .bool)] = ret (.bool (xs.any id)) := by
  show (match boolsD (xs.map .bool) with | some ns => ret (PyData.bool (ns.any id)) | none => stuck) = _
  rw [boolsD_bools]
theorem gIx_l {ds : List D} {i : Int} {d : D} (h : L2.atI ds i = some d) : gIx (.list ds) (.int i) = ret d := by
  show (match L2.atI ds i with | some d => ret d | none => (stuck : M D)) = _
  rw [h]
theorem gIx_t {ds : List D} {i : Int} {d : D} (h : L2.atI ds i = some d) : gIx (.tuple ds) (.int i) = ret d := by
  show (match L2.atI ds i with | some d => ret d | none => (stuck : M D)) = _
  rw [h]
@[simp] theorem x_eC (d : D) (ρ : Env) : eC d ρ = ret d := (rfl)
@[simp] theorem x_bin (g : D → D → M D) (a b : Env → M D) (ρ : Env) : bin g a b ρ = bnd (a ρ) fun x => bnd (b ρ) fun y => g x y := (rfl)
@[simp] theorem x_una (g : D → M D) (a : Env → M D) (ρ : Env) : una g a ρ = bnd (a ρ) g := (rfl)
@[simp] theorem x_bAnd (a b : Env → M Bool) (ρ : Env) : bAnd a b ρ = bnd (a ρ) fun x => if x = true then b ρ else ret false := (rfl)
@[simp] theorem x_bOr (a b : Env → M Bool) (ρ : Env) : bOr a b ρ = bnd (a ρ) fun x => if x = true then ret true else b ρ := (rfl)
@[simp] theorem x_bNot (a : Env → M Bool) (ρ : Env) : bNot a ρ = bnd (a ρ) fun x => ret (!x) := (rfl)
@[simp] theorem x_eAnd (a b : Env → M D) (ρ : Env) : eAnd a b ρ = bnd (tst a ρ) fun x => if x = true then b ρ else ret (.bool false) := (rfl)
@[simp] theorem x_eOr (a b : Env → M D) (ρ : Env) : eOr a b ρ = bnd (tst a ρ) fun x => if x = true then ret (.bool true) else b ρ := (rfl)
@[simp] theorem x_eNot (a : Env → M D) (ρ : Env) : eNot a ρ = bnd (tst a ρ) fun x => ret (.bool (!x)) := (rfl)
@[simp] theorem x_eIf (g : Env → M Bool) (a b : Env → M D) (ρ : Env) : eIf g a b ρ = bnd (g ρ) fun x => if x = true then a ρ else b ρ := (rfl)
@[simp] theorem x_eChain (g g' : D → D → M D) (a b e : Env → M D) (ρ : Env) : eChain g g' a b e ρ = bnd (a ρ) fun x => bnd (b ρ) fun y => bnd (g x y) fun z => bnd (toB z) fun k => if k = true then bnd (e ρ) fun w => g' y w else ret (.bool false) := by
  unfold eChain
  congr 1; funext x; congr 1; funext y; congr 1; funext z
  cases z <;> rfl
@[simp] theorem x_eSl (e : Env → M D) (lo hi : Env → M (Option Int)) (ρ : Env) : eSl e lo hi ρ = bnd (e ρ) fun d => bnd (lo ρ) fun l => bnd (hi ρ) fun h => gSl d l h := (rfl)
@[simp] theorem x_oNo (ρ : Env) : oNo ρ = ret none := (rfl)
@[simp] theorem x_aNil (ρ : Env) : aNil ρ = ret [] := (rfl)
@[simp] theorem x_aCons (a : Env → M D) (r : Env → M (List D)) (ρ : Env) : aCons a r ρ = bnd (a ρ) fun d => bnd (r ρ) fun ds => ret (d :: ds) := (rfl)
@[simp] theorem x_aStar (a : Env → M D) (r : Env → M (List D)) (ρ : Env) : aStar a r ρ = bnd (a ρ) fun d => bnd (seqD d) fun xs => bnd (r ρ) fun ds => ret (xs ++ ds) := (rfl)
@[simp] theorem x_eTup (f : Env → M (List D)) (ρ : Env) : eTup f ρ = bnd (f ρ) fun ds => if lenOk ds.length = true then ret (.tuple ds) else stuck := (rfl)
@[simp] theorem x_lDisp (f : Env → M (List D)) (ρ : Env) : lDisp f ρ = bnd (f ρ) fun ds => if lenOk ds.length = true then ret ds else stuck := (rfl)
@[simp] theorem x_tgN (i : Nat) (d : D) (ρ : Env) : tgN i d ρ = ret (ρ.set i (some d)) := (rfl)
@[simp] theorem x_tgsNil (ρ : Env) : tgsNil [] ρ = ret ρ := (rfl)
@[simp] theorem x_tgsCons (g : D → Env → M Env) (r : List D → Env → M Env) (d : D) (ds : List D) (ρ : Env) : tgsCons g r (d :: ds) ρ = bnd (g d ρ) fun ρ' => r ds ρ' := (rfl)
@[simp] theorem x_tgTup (n : Nat) (g : List D → Env → M Env) (ds : List D) (ρ : Env) : tgTup n g (.tuple ds) ρ = if ds.length = n then g ds ρ else stuck := (rfl)
@[simp] theorem x_itSeq (e : Env → M D) (ρ : Env) : itSeq e ρ = bnd (e ρ) seqD := (rfl)
@[simp] theorem x_eLc (its : Env → M (List D)) (tg : D → Env → M Env) (cond : Env → M Bool) (elt : Env → M D) (vs : List Nat) (ρ : Env) : eLc its tg cond elt vs ρ = bnd (its ρ) fun ds => lcW tg cond elt (wipeD ρ vs) ds := (rfl)
@[simp] theorem x_cYes (ρ : Env) : cYes ρ = ret true := (rfl)
@[simp] theorem x_mkL (f : Env → M (List D)) (ρ : Env) : mkL f ρ = bnd (f ρ) fun ds => ret (.list ds) := (rfl)
@[simp] theorem x_sSeq (f g : Env → M Out) (ρ : Env) : sSeq f g ρ = bnd (f ρ) fun o => oThen o g := (rfl)
@[simp] theorem x_sNx (ρ : Env) : sNx ρ = ret (.nx ρ) := (rfl)
@[simp] theorem x_sAsg (i : Nat) (e : Env → M D) (ρ : Env) : sAsg i e ρ = bnd (e ρ) fun d => ret (.nx (ρ.set i (some d))) := (rfl)
@[simp] theorem x_sOwn (i : Nat) (e : Env → M (List D)) (ρ : Env) : sOwn i e ρ = bnd (e ρ) fun ds => ret (.nx (ρ.set i (some (.list ds)))) := (rfl)
@[simp] theorem x_sTgt (e : Env → M D) (g : D → Env → M Env) (ρ : Env) : sTgt e g ρ = bnd (e ρ) fun d => bnd (g d ρ) fun ρ' => ret (.nx ρ') := (rfl)
@[simp] theorem x_sRet (e : Env → M D) (ρ : Env) : sRet e ρ = bnd (e ρ) fun d => ret (.rt d) := (rfl)
@[simp] theorem x_sRetN (ρ : Env) : sRetN ρ = ret (.rt .none) := (rfl)
@[simp] theorem x_sIf (g : Env → M Bool) (f f' : Env → M Out) (ρ : Env) : sIf g f f' ρ = bnd (g ρ) fun b => if b = true then f ρ else f' ρ := (rfl)
@[simp] theorem x_sFor (its : Env → M (List D)) (tg : D → Env → M Env) (body : Env → M Out) (ρ : Env) : sFor its tg body ρ = bnd (its ρ) fun ds => forW tg body ds ρ := (rfl)
@[simp] theorem x_sRetOwn (i : Nat) (ρ : Env) : sRetOwn i ρ = bnd (eVar i ρ) fun d => ret (.rt d) := (rfl)
@[simp] theorem x_cal (g : List D → M D) (f : Env → M (List D)) (ρ : Env) : cal g f ρ = bnd (f ρ) g := (rfl)
@[simp] theorem x_calL (g : List D → M (List D)) (f : Env → M (List D)) (ρ : Env) : calL g f ρ = bnd (f ρ) g := (rfl)
@[simp] theorem x_eCall (n : Nat) (F : List D → M D) (f : Env → M (List D)) (ρ : Env) : eCall n F f ρ = bnd (f ρ) fun ds => if ds.length = n then F ds else stuck := (rfl)
@[simp] theorem x_eCallS (i n : Nat) (F : List D → M D) (f : Env → M (List D)) (ρ : Env) : eCallS i n F f ρ = bnd (eVar i ρ) fun _ => bnd (f ρ) fun ds => if ds.length = n then F ds else stuck := (rfl)
@[simp] theorem x_fnD (m : Nat) (f : Env → M Out) (ds : List D) : fnD m f ds = bnd (f (ds.map some ++ List.replicate m none)) outD := (rfl)
@[simp] theorem x_fnS (m : Nat) (f : Env → M Out) (ds : List D) : fnS m f ds = bnd (f (some .none :: (ds.map some ++ List.replicate m none))) outD := (rfl)
@[simp] theorem x_seqD_l (ds : List D) : seqD (.list ds) = ret ds := (rfl)
@[simp] theorem x_seqD_t (ds : List D) : seqD (.tuple ds) = ret ds := (rfl)
@[simp] theorem x_gI_i (f : Int → Int → D) (i j : Int) : gI f (.int i) (.int j) = ret (f i j) := (rfl)
@[simp] theorem x_gIc_i (p : Int → Int → Bool) (f : Int → Int → D) (i j : Int) : gIc p f (.int i) (.int j) = if p i j = true then ret (f i j) else stuck := (rfl)
@[simp] theorem x_gNeg_i (i : Int) : gNeg (.int i) = ret (.int (-i)) := (rfl)
@[simp] theorem x_gAdd_i (i j : Int) : gAdd (.int i) (.int j) = ret (.int (i + j)) := (rfl)
@[simp] theorem x_gAdd_t (a b : List D) : gAdd (.tuple a) (.tuple b) = if lenOk (a.length + b.length) = true then ret (.tuple (a ++ b)) else stuck := (rfl)
@[simp] theorem x_gAdd_l (a b : List D) : gAdd (.list a) (.list b) = if lenOk (a.length + b.length) = true then ret (.list (a ++ b)) else stuck := (rfl)
@[simp] theorem x_gMulX_i (i j : Int) : gMulX (.int i) (.int j) = if mulOk i j = true then ret (.int (i * j)) else stuck := (rfl)
@[simp] theorem x_cTup_l (ds : List D) : cTup [.list ds] = ret (.tuple ds) := (rfl)
@[simp] theorem x_cTup_t (ds : List D) : cTup [.tuple ds] = ret (.tuple ds) := (rfl)
@[simp] theorem x_cLst_l (ds : List D) : cLst [.list ds] = ret ds := (rfl)
@[simp] theorem x_cLst_t (ds : List D) : cLst [.tuple ds] = ret ds := (rfl)
@[simp] theorem x_cLen_l (ds : List D) : cLen [.list ds] = ret (.int ds.length) := (rfl)
@[simp] theorem x_cLen_t (ds : List D) : cLen [.tuple ds] = ret (.int ds.length) := (rfl)
@[simp] theorem x_cInt_b (b : Bool) : cInt [.bool b] = ret (.int (if b then 1 else 0)) := (rfl)
@[simp] theorem x_cInt_i (i : Int) : cInt [.int i] = ret (.int i) := (rfl)
@[simp] theorem x_cAbs_i (i : Int) : cAbs [.int i] = ret (.int (if i < 0 then -i else i)) := (rfl)
@[simp] theorem x_gIsN_ (d e : D) : gIsN d e = ret (.bool (isNonD d)) := (rfl)
@[simp] theorem x_wipeD_nil (ρ : Env) : wipeD ρ [] = ρ := (rfl)
@[simp] theorem x_wipeD_cons (ρ : Env) (v : Nat) (vs : List Nat) : wipeD ρ (v :: vs) = (wipeD ρ vs).set v none := (rfl)
end Py
/-! PyR: what repr shows of nested data, its length and its letters. -/
namespace Py
open PySem hiding ret
open PyData (strOk)
theorem strOk_def (x : Str) : strOk x = true ↔ ∀ c ∈ x.cps, c < 0x110000 := by
  unfold strOk
  rw [Array.all_eq_true]
  constructor
  · intro h c hc
    obtain ⟨i, hi, e⟩ := Array.mem_iff_getElem.mp hc
    rw [← e]
    simpa using h i hi
  · intro h i hi
    simpa using h _ (Array.getElem_mem hi)
theorem ok_ofString (s : String) : strOk (Str.ofString s) = true := by
  rw [strOk_def, Str.ofString_eq_toList]
  intro c hc
  have : c ∈ s.toList.map Char.toNat := by simpa using hc
  obtain ⟨x, -, rfl⟩ := List.mem_map.mp this
  rcases x.valid with h | h
  · exact Nat.lt_trans h (by decide)
  · exact h.2
theorem ok_app {a b : Str} (ha : strOk a = true) (hb : strOk b = true) : strOk (a ++ b) = true := by
  rw [strOk_def] at *
  intro c hc
  have : c ∈ a.cps ++ b.cps := hc
  rcases Array.mem_append.mp this with h | h
  · exact ha c h
  · exact hb c h
theorem ok_joins {sep : Str} (hs : strOk sep = true) : ∀ ts : List Str, (∀ t ∈ ts, strOk t = true) → strOk (Str.join sep ts) = true
  | [], _ => by
    show strOk Str.empty = true
    decide +kernel
  | [x], h => h x (by simp)
  | x :: y :: rest, h => ok_app (ok_app (h x (by simp)) hs) (ok_joins hs (y :: rest) fun t ht => h t (by simp [List.mem_cons.mp ht] ))
theorem ok_tupleText {ts : List Str} (h : ∀ t ∈ ts, strOk t = true) : strOk (tupleText ts) = true := by
  unfold tupleText
  refine ok_app (ok_app (ok_ofString _) (ok_joins (ok_ofString _) ts h)) ?_
  split <;> exact ok_ofString _
theorem ok_textFrom : ∀ (ts : List Str) (k : Nat) (acc : Str), strOk acc = true → (∀ t ∈ ts, strOk t = true) → strOk (textFrom k acc ts) = true
  | [], _, acc, ha, _ => ha
  | t :: ts, k, acc, ha, h => ok_textFrom ts (k + 1) _ (ok_app (ok_app ha (ok_ofString _)) (h t (by simp))) fun x hx => h x (List.mem_cons_of_mem _ hx)
theorem ok_listText {ts : List Str} (h : ∀ t ∈ ts, strOk t = true) : strOk (listText ts) = true := ok_app (ok_textFrom ts 0 _ (ok_ofString _) h) (ok_ofString _)
mutual
def sz : D → Nat
  | .none => 4
  | .bool _ => 5
  | .int i => i.natAbs.log2 + 2
  | .str x => (reprText x).length
  | .list xs => szAll xs + 3
  | .tuple xs => szAll xs + 3
  | .dict _ => 0
def szAll : List D → Nat
  | [] => 0
  | x :: xs => sz x + 2 + szAll xs
end
mutual
def ptx : D → Bool
  | .none => true
  | .bool _ => true
  | .int i => decide (i.natAbs.log2 < 1920)
  | .str x => strOk (reprText x) && strOk x
  | .list xs => ptxAll xs
  | .tuple xs => ptxAll xs
  | .dict _ => false
def ptxAll : List D → Bool
  | [] => true
  | x :: xs => ptx x && ptxAll xs
end
mutual
theorem ptx_shown : ∀ d : D, ptx d = true → strOk d.shown = true ∧ d.shown.length ≤ sz d ∧ d.showable = true ∧ d.canLay0 = true
  | .none, _ => ⟨ok_ofString _, by decide +kernel, by simp [PyData.showable], by simp [PyData.canLay0]⟩
  | .bool b, _ => ⟨by cases b <;> exact ok_ofString _, by cases b <;> decide +kernel, by simp [PyData.showable], by simp [PyData.canLay0]⟩
  | .int i, h => by
    have h' : i.natAbs.log2 < 1920 := by simpa [ptx] using h
    refine ⟨ok_ofString _, ?_, by simpa [PyData.showable] using h', by simp [PyData.canLay0]⟩
    show (Str.ofString (toString i)).length ≤ i.natAbs.log2 + 2
    have := int_text_length_le (a := i) (k := i.natAbs.log2 + 1) (by omega) (by omega)
    rw [show (Str.ofString (toString i)).length = (toString i).length by rw [Str.ofString_eq_toList]; simp [Str.length, String.length]]
    omega
  | .str x, h => by
    have h' : strOk (reprText x) = true ∧ strOk x = true := by simpa [ptx] using h
    exact ⟨by simpa [PyData.shown] using h'.1, by simp [PyData.shown, sz], by simp [PyData.showable], by simpa [PyData.canLay0] using h'.2⟩
  | .list xs, h => by
    obtain ⟨h1, h2, h3, h4⟩ := ptx_all xs (by simpa [ptx] using h)
    refine ⟨by simpa [PyData.shown] using ok_listText h1, ?_, by simpa [PyData.showable] using h3, by simpa [PyData.canLay0] using h4⟩
    have := listText_len_le (PyData.shownAll xs)
    simp only [PyData.shown, sz]
    omega
  | .tuple xs, h => by
    obtain ⟨h1, h2, h3, h4⟩ := ptx_all xs (by simpa [ptx] using h)
    refine ⟨by simpa [PyData.shown] using ok_tupleText h1, ?_, by simpa [PyData.showable] using h3, by simpa [PyData.canLay0] using h4⟩
    have := tupleText_len_le (PyData.shownAll xs)
    simp only [PyData.shown, sz]
    omega
  | .dict _, h => by simp [ptx] at h
theorem ptx_all : ∀ xs : List D, ptxAll xs = true → (∀ t ∈ PyData.shownAll xs, strOk t = true) ∧ ((PyData.shownAll xs).map (·.length)).sum + 2 * (PyData.shownAll xs).length ≤ szAll xs ∧ PyData.showableAll xs = true ∧ PyData.canLayAll0 xs = true
  | [], _ => ⟨by simp [PyData.shownAll], by simp [PyData.shownAll, szAll], by simp [PyData.showableAll], by simp [PyData.canLayAll0]⟩
  | x :: xs, h => by
    have h' : ptx x = true ∧ ptxAll xs = true := by simpa [ptxAll] using h
    obtain ⟨a1, a2, a3, a4⟩ := ptx_shown x h'.1
    obtain ⟨b1, b2, b3, b4⟩ := ptx_all xs h'.2
    refine ⟨?_, ?_, by simp [PyData.showableAll, a3, b3], by simp [PyData.canLayAll0, a4, b4]⟩
    · intro t ht
      rcases List.mem_cons.mp (by simpa [PyData.shownAll] using ht) with rfl | h
      · exact a1
      · exact b1 t h
    · simp only [PyData.shownAll, List.map_cons, List.sum_cons, List.length_cons, szAll]
      omega
end
/-- what repr and the comparing of two texts want -/
def rok (d : D) : Prop := ptx d = true ∧ d.depth ≤ 64 ∧ sz d ≤ 16777216
theorem rok.rp {d : D} (h : rok d) : rpOk d = true := by
  obtain ⟨h1, h2, h3⟩ := h
  obtain ⟨a1, a2, a3, a4⟩ := ptx_shown d h1
  unfold rpOk
  simp only [Bool.and_eq_true, decide_eq_true_eq, a3, a4, PyData.hasDict_of_canLay d a4, h2]
  exact ⟨by simp, Nat.le_trans a2 (Nat.le_trans h3 (by decide))⟩
theorem rok.shp {d : D} (h : rok d) : shp (.str d.shown) = true := by
  have := (ptx_shown d h.1).1
  show SeqAt.shaped _ = true
  unfold SeqAt.shaped
  simp [PyData.canLay0, this, PyData.depth]
theorem cRepr_ok {d : D} (h : rok d) : cRepr [d] = ret (.str d.shown) := if_pos h.rp
theorem gNe_rep {d : D} (h : rok d) : gNe (.str d.shown) (.str d.shown) = ret (.bool false) := by
  show (if (Py.shp (.str d.shown) && Py.shp (.str d.shown)) = true then ret (PyData.bool (!PyData.eqv (.str d.shown) (.str d.shown))) else stuck) = _
  rw [h.shp, Bool.and_self, if_pos rfl]
  simp [PyData.eqv]
theorem rep_ne {a b : Py.Env → M D} {ρ : Py.Env} {d : D} (ha : a ρ = ret d) (hb : b ρ = ret d) (h : rok d) : bin gNe (cal cRepr (aCons a aNil)) (cal cRepr (aCons b aNil)) ρ = ret (.bool false) := by
  simp only [x_bin, x_cal, x_aCons, x_aNil, ha, hb, bnd_ret', cRepr_ok h, gNe_rep h]
/-- the same with bounds of depth and of size kept apart -/
def rk (m s : Nat) (d : D) : Prop := ptx d = true ∧ d.depth ≤ m ∧ sz d ≤ s
theorem rk.mono {m s m' s' : Nat} {d : D} (h : rk m s d) (hm : m ≤ m') (hs : s ≤ s') : rk m' s' d := ⟨h.1, Nat.le_trans h.2.1 hm, Nat.le_trans h.2.2 hs⟩
theorem rk.ok {m s : Nat} {d : D} (h : rk m s d) (hm : m ≤ 64 := by decide) (hs : s ≤ 16777216 := by decide) : rok d := ⟨h.1, Nat.le_trans h.2.1 hm, Nat.le_trans h.2.2 hs⟩
theorem rk_int {k : Nat} {i : Int} (h : i.natAbs ≤ 2 ^ k) (hk : k < 1919) : rk 0 (k + 3) (.int i) := by
  have l : i.natAbs.log2 < k + 1 := by
    by_cases z : i.natAbs = 0
    · rw [z, show Nat.log2 0 = 0 from by decide]; omega
    · rw [Nat.log2_lt z]
      exact Nat.lt_of_le_of_lt h (Nat.pow_lt_pow_right (by decide) (by omega))
  refine ⟨?_, ?_, ?_⟩
  · simp only [ptx, decide_eq_true_eq]; omega
  · simp [PyData.depth]
  · simp only [sz]; omega
theorem rk_bool (b : Bool) : rk 0 5 (.bool b) := ⟨by simp [ptx], by simp [PyData.depth], by simp [sz]⟩
theorem rk_none : rk 0 4 (.none : D) := ⟨by simp [ptx], by simp [PyData.depth], by simp [sz]⟩
theorem rkAll {m s : Nat} : ∀ {ds : List D}, (∀ d ∈ ds, rk m s d) → ptxAll ds = true ∧ PyData.depthAll ds ≤ m ∧ szAll ds ≤ ds.length * (s + 2)
  | [], _ => ⟨by simp [ptxAll], by simp [PyData.depthAll], by simp [szAll]⟩
  | d :: ds, h => by
    obtain ⟨a1, a2, a3⟩ := h d (by simp)
    obtain ⟨b1, b2, b3⟩ := rkAll (ds := ds) fun x hx => h x (List.mem_cons_of_mem _ hx)
    refine ⟨by simp [ptxAll, a1, b1], by simp only [PyData.depthAll]; omega, ?_⟩
    simp only [szAll, List.length_cons, Nat.succ_mul]; omega
theorem rk_tuple {m s n : Nat} {ds : List D} (h : ∀ d ∈ ds, rk m s d) (hn : ds.length ≤ n) : rk (m + 1) (n * (s + 2) + 3) (.tuple ds) := by
  obtain ⟨b1, b2, b3⟩ := rkAll h
  have := Nat.mul_le_mul_right (s + 2) hn
  refine ⟨by simpa [ptx] using b1, by simp only [PyData.depth]; omega, by simp only [sz]; omega⟩
theorem rk_list {m s n : Nat} {ds : List D} (h : ∀ d ∈ ds, rk m s d) (hn : ds.length ≤ n) : rk (m + 1) (n * (s + 2) + 3) (.list ds) := by
  obtain ⟨b1, b2, b3⟩ := rkAll h
  have := Nat.mul_le_mul_right (s + 2) hn
  refine ⟨by simpa [ptx] using b1, by simp only [PyData.depth]; omega, by simp only [sz]; omega⟩
theorem rk_ints {k n : Nat} {xs : List Int} (h : ∀ x ∈ xs, x.natAbs ≤ 2 ^ k) (hk : k < 1919) (hn : xs.length ≤ n) : rk 1 (n * (k + 5) + 3) (tupI xs) :=
  rk_tuple (m := 0) (s := k + 3) (fun d hd => by
    obtain ⟨x, hx, rfl⟩ := List.mem_map.mp hd
    exact rk_int (h x hx) hk) (by rw [dInts_len]; exact hn)
/-- a comprehension over mapped values -/
theorem comp_all {α : Type} {its : Env → M (List D)} {tg : D → Env → M Env} {elt : Env → M D} {vs : List Nat} {ρ : Env} (f : α → D) (e : α → D) (xs : List α) (hi : its ρ = ret (xs.map f)) (h : ∀ x ∈ xs, ∃ ρ', tg (f x) (wipeD ρ vs) = ret ρ' ∧ elt ρ' = ret (e x)) : mkL (eLc its tg cYes elt vs) ρ = ret (.list (xs.map e)) := by
  rw [x_mkL, x_eLc, hi, bnd_ret', lcW_all f e xs h, bnd_ret']
theorem comp_map {α : Type} {its : Env → M (List D)} {tg : D → Env → M Env} {cond : Env → M Bool} {elt : Env → M D} {vs : List Nat} {ρ : Env} (f : α → D) (c : α → Bool) (e : α → D) (xs : List α) (hi : its ρ = ret (xs.map f)) (h : ∀ x ∈ xs, ∃ ρ', tg (f x) (wipeD ρ vs) = ret ρ' ∧ cond ρ' = ret (c x) ∧ (c x = true → elt ρ' = ret (e x))) : mkL (eLc its tg cond elt vs) ρ = ret (.list ((xs.filter c).map e)) := by
  rw [x_mkL, x_eLc, hi, bnd_ret', lcW_map f c e xs h, bnd_ret']
/-- one statement after another -/
theorem seq_nx {f g : Env → M Out} {ρ ρ' : Env} (h : f ρ = ret (.nx ρ')) : sSeq f g ρ = g ρ' := by rw [x_sSeq, h, bnd_ret', oThen_nx]
theorem asg_nx {i : Nat} {e : Env → M D} {g : Env → M Out} {ρ : Env} {d : D} (h : e ρ = ret d) : sSeq (sAsg i e) g ρ = g (ρ.set i (some d)) := by rw [x_sSeq, x_sAsg, h, bnd_ret', bnd_ret', oThen_nx]
theorem if_no {c : Env → M Bool} {f g : Env → M Out} {ρ : Env} (h : c ρ = ret false) : sSeq (sIf c f sNx) g ρ = g ρ := by rw [x_sSeq, x_sIf, h, bnd_ret', if_neg (by decide), x_sNx, bnd_ret', oThen_nx]
theorem or_no {a b : Env → M Bool} {ρ : Env} (h : a ρ = ret false) (h' : b ρ = ret false) : bOr a b ρ = ret false := by rw [x_bOr, h, bnd_ret', if_neg (by decide), h']
theorem tst_b {e : Env → M D} {ρ : Env} {b : Bool} (h : e ρ = ret (.bool b)) : tst e ρ = ret b := by rw [x_tst, h, bnd_ret', toB_b]
theorem var_eq {i : Nat} {ρ : Env} {d : D} (h : ρ[i]? = some (some d)) : eVar i ρ = ret d := by rw [x_eVar, h]; rfl
end Py
section
set_option maxHeartbeats 1000000
/-! PyT: a dict of one's own whose keys are tuples of ints: made, stored into, its length, sorted. -/
namespace Py
open PySem L2 StX PySem.Spec PyProof.Rows
open PySem.W (SortsAt AllAlike dataKind EachIs sortingHeap sortVals_data sortVals)
def keyT (ks : List (List Int)) : List D := ks.map fun k => .tuple (k.map .int)
section
variable {X : Cx}
def rSortDT : List V → Hp → VK → Prop := fun xs H Q => ∃ d kvs ks, xs = [V.ref d] ∧ H d = some (.dT kvs) ∧ kvs.map (·.1) = ks.map (fun k : List Int => k.map Sum.inl) ∧ srtOk (keyT ks) = true ∧
  ∀ p bs, H p = none → IsKeys H kvs bs → Q (.ref p) (upd H p (.lst ((((bs.map V.ref).zip (keyT ks)).mergeSort fun x y => leD x.2 y.2).map (·.1))))
theorem keys_dp {K : PySem.W.Frag} {H : Hp} : ∀ {kvs : List (List L2.Key × V)} {ks : List (List Int)} {bs : List Addr}, kvs.map (·.1) = ks.map (fun k : List Int => k.map Sum.inl) → IsKeys H kvs bs → DpAll K H (bs.map V.ref) (keyT ks)
  | _, [], _, e, h => by
    have e' := congrArg List.length e
    cases h with
    | nil => exact .nil
    | cons _ _ => simp at e'
  | _, k :: ks, _, e, h => by
    cases h with
    | nil => simp at e
    | @cons p b l m h1 h2 =>
      simp only [List.map_cons, List.cons.injEq] at e
      obtain ⟨e1, e2⟩ := e
      have h1' : H b = some (.tup (p.1.map kV)) := h1
      refine .cons (.tup (xs := p.1.map kV) (SqT.of h1') ?_) (keys_dp e2 h2)
      rw [e1]
      clear e1 h1 h1'
      induction k with
      | nil => exact .nil
      | cons i k ih => exact .cons (.int i) ih
theorem cr_sortDT (hcalm : X.calm = true) (hu : X.A.units + 67 < cLine) : CallR X (.builtin "sorted") rSortDT := by
  intro pins s σ H xs us Q I r h
  obtain ⟨d, kvs, ksI, rfl, hd, hks, ok, q⟩ := h
  obtain ⟨u, rfl, rx⟩ := r.one
  cases rx
  obtain ⟨z, hs, ks, pr, o, es, ep, ho, hx, hdt, he, hn⟩ := (show ObjOk X.prog X.w H s.heap d (.dT kvs) from I.hok d _ hd)
  have l1 : es.size = ks.length := size_of_entries he
  have l2 : kvs.length = ks.length := Paired.length pr
  refine Calls.call_function_entry PyProof.Rows.kind_sorted PyProof.Rows.plain_sorted PyProof.Rows.entry_sorted (PyProof.Rows.args_sorted1 _) ?_
  unfold Builtin.«sorted»
  refine wpAny_bind (m := checkCount "sorted" 1 1 _) (wpAny_pure ?_)
  refine wpAny_bind (PySem.W.kdu_collect (A := X.A.in1) (kdl_raw hs hx hdt) (I.ok.hd hcalm) ho (by omega) fun h' tk acc' kp it => ?_)
  have ea : acc'.toList = ks.map fun x => Value.ref x.2.1 := by
    have hl : acc'.toList.length = ks.length := by rw [Array.length_toList, it.1]; exact l1
    apply List.ext_getElem?
    intro j
    rw [List.getElem?_map]
    cases hj : acc'.toList[j]? with
    | none =>
      have h1 := List.getElem?_eq_none_iff.mp hj
      rw [List.getElem?_eq_none (by omega)]
      rfl
    | some v =>
      obtain ⟨en, hen, hv⟩ := it.2 j v (by rw [← Array.getElem?_toList]; exact hj)
      have qe := entry_at he j
      rw [hen] at qe
      cases hb : ks[j]? with
      | none =>
        rw [hb] at qe
        exact nomatch (show some en = none from qe)
      | some b =>
        rw [hb] at qe
        have e2 : en = entryOfKey (tupleKind (mixKind X.prog X.w)) b := Option.some.inj qe
        rw [hv, e2]
        rfl
  have eb : acc'.toList = (ks.map fun x => x.2.1).map Value.ref := by rw [ea, List.map_map]; rfl
  obtain ⟨its, hits⟩ : ∃ its, its = acc'.toList := ⟨_, rfl⟩
  rw [← hits] at eb ⊢
  have rv : Vals ((ks.map fun x => x.2.1).map V.ref) its := by rw [eb]; exact vals_refs _
  have isk : IsKeys H kvs (ks.map fun x => x.2.1) := isKeys_of pr
  have hd2 := keys_dp (K := X.K) hks isk
  generalize (ks.map fun x => x.2.1) = bs at eb rv isk hd2
  have hz : its.length ≤ sizeLine := by rw [← rv.length, List.length_map, ← (Paired.length isk)]; omega
  have I1 : Inv X pins σ H { s with heap := h', toks := tk } := I.kept kp
  refine wpAny_bind (wpAny_newList ?_ hz)
  have hoL : (h'.push (seqObj "list" its.toArray 0)).get? h'.objs.size = some (seqObj "list" its.toArray 0) := Heap.get?_push_size _ rfl
  show wpAny _ _ _ _ _ { s with heap := h'.push (seqObj "list" its.toArray 0), toks := tk }
  have old : ∀ b u, h'.get? b = some u → (sortingHeap (h'.push (seqObj "list" its.toArray 0)) h'.objs.size its).get? b = some u := fun b u e =>
    PySem.W.sortingHeap_old (Nat.ne_of_lt (Heap.lt_size e)) (Heap.get?_push_of_some _ e)
  have hl2 : (bs.map V.ref).length = (keyT ksI).length := DpAll.len hd2
  have rds : ∀ v u d, RelV v u → (v, d) ∈ (bs.map V.ref).zip (keyT ksI) → ∃ as, Reads h' u d as := fun v u d rr hm => by
    obtain ⟨i, hi, e⟩ := List.getElem_of_mem hm
    have e1 : (bs.map V.ref)[i]? = some v := by
      have := congrArg Prod.fst e
      simp only [List.getElem_zip] at this
      rw [← this]
      exact List.getElem?_eq_getElem _
    obtain ⟨d', e2, dp⟩ := Dp.at' hd2 e1
    have e3 : (keyT ksI)[i]? = some d := by
      have := congrArg Prod.snd e
      simp only [List.getElem_zip] at this
      rw [← this]
      exact List.getElem?_eq_getElem _
    rw [e3] at e2
    cases e2
    exact Dp.reads I1 d v u dp rr
  have ev : EachIs (fun u (b : V × D) => RelV b.1 u) its ((bs.map V.ref).zip (keyT ksI)) := zip_each rv hl2 fun v u d rr hm => rr
  have er' : EachIs (fun v (b : V × D) => ∃ as, Reads (sortingHeap (h'.push (seqObj "list" its.toArray 0)) h'.objs.size its) v b.2 as) its ((bs.map V.ref).zip (keyT ksI)) :=
    zip_each rv hl2 fun v u d rr hm => let ⟨as, r⟩ := rds v u d rr hm; ⟨as, PyProof.Rows.Reads.keeps (fun b o e => old b o e) r⟩
  have em : ((bs.map V.ref).zip (keyT ksI)).map (·.2) = keyT ksI := by
    rw [List.map_snd_zip]
    omega
  have hal : AllAlike (((bs.map V.ref).zip (keyT ksI)).map fun b => b.2) := by
    rw [em]
    exact (alls_of (srtOk_of ok).1).1.1
  have S : SortsAt X.prog X.w X.A.in1.in1 { s with heap := sortingHeap (h'.push (seqObj "list" its.toArray 0)) h'.objs.size its, toks := tk } (dataKind (sortingHeap (h'.push (seqObj "list" its.toArray 0)) h'.objs.size its) (((bs.map V.ref).zip (keyT ksI)).map fun b => b.2)) its := by
    have e1 : srtOk (((bs.map V.ref).zip (keyT ksI)).map fun b => b.2) = true := by rw [em]; exact ok
    exact sorts_any (s := { s with heap := sortingHeap (h'.push (seqObj "list" its.toArray 0)) h'.objs.size its, toks := tk }) (W.each_map (R := fun v d => ∃ as, Reads (sortingHeap (h'.push (seqObj "list" its.toArray 0)) h'.objs.size its) v d as) (fun b : V × D => b.2) er') e1 (by show X.A.units + 1 + 1 + 65 < cLine; omega)
  have hout := sortVals_data (enc := fun b : V × D => b.2) (R := fun u (b : V × D) => RelV b.1 u) false ev er' hal
  have mer : ((bs.map V.ref).zip (keyT ksI)).mergeSort (PySem.W.dataLe false fun b : V × D => b.2) = ((bs.map V.ref).zip (keyT ksI)).mergeSort fun x y => leD x.2 y.2 := rfl
  rw [mer] at hout
  have hv := each_vals hout
  have hlen : ((((bs.map V.ref).zip (keyT ksI)).mergeSort fun x y => leD x.2 y.2).map (·.1)).length ≤ sizeLine := by
    rw [List.length_map, List.length_mergeSort, List.length_zip]
    have : its.length = (bs.map V.ref).length := rv.length.symm
    omega
  refine wpAny_bind (wpAny_holding (wpAny_call_entry PyProof.Rows.slot_list_sort ⟨_, hoL, rfl⟩ PyProof.Rows.entry_list_sort
    (PySem.W.list_sort_vals (s := { s with heap := h'.push (seqObj "list" its.toArray 0), toks := tk }) hoL S hz ⟨_, rfl, ?_⟩) (PyProof.Rows.args_list_sort _)))
  generalize sortVals (dataKind (sortingHeap (h'.push (seqObj "list" its.toArray 0)) h'.objs.size its) (((bs.map V.ref).zip (keyT ksI)).map fun b => b.2)) false its its = out at hv ⊢
  have fin := q (p := h'.objs.size) bs (I1.hok.fresh (Nat.le_refl _)) isk
  generalize ((((bs.map V.ref).zip (keyT ksI)).mergeSort fun x y => leD x.2 y.2).map (·.1)) = ws at hv hlen fin
  obtain ⟨e', he'⟩ := PyProof.Rows.sortedHeap_at (vs := its) (out := out.toArray) hoL
  refine wpAny_pure ⟨_, rfl, .ref h'.objs.size, upd H h'.objs.size (.lst ws), I1.laid (t' := tk) (fun b u e => ?_) (Nat.le_refl _)
    (show ObjOk X.prog X.w _ _ _ (.lst ws) from ⟨hlen, out, e', hv, he'⟩), rfl, fin⟩
  have hb : b < h'.objs.size := Heap.lt_size e
  rw [PyProof.Rows.sortedHeap_old (Nat.ne_of_lt hb) (by rw [size_push']; exact Nat.lt_succ_of_lt hb)]
  exact Heap.get?_push_of_some _ e
end
section
variable {s : Sx} {Γ Γ' Γl : List Md}
/-- a, b = e, [..]: the second a list of one's own -/
def sParO (i j : Nat) (e : Env → M D) (f : Env → M (List D)) : Env → M Out := fun ρ => bnd (e ρ) fun d => bnd (f ρ) fun ds => ret (.nx ((ρ.set i (some d)).set j (some (.list ds))))
theorem sem_parO {i j : Nat} {t u : TE} {e : Env → M D} {f : Env → M (List D)} (h1 : SemE s Γ t e) (h2 : SemL s Γ u f) (hi : Γ[i]? = some .fro) (hj : j < Γ.length) : SemS s Γl Γ (Γ.set j .own) (tPar i j (tCons t (tCons u tNil))) (sParO i j e f) := by
  intro c ρ ps σ H E P hc r q k
  refine h1 c ρ ps σ H _ _ hc r q fun d v H1 q1 e1 dn => ?_
  refine h2 c ρ ps σ H1 _ _ hc (r.stp e1) q1 fun ds p vs H2 q2 e2 hn hp dn2 => ?_
  obtain ⟨ps', r'⟩ := ((r.stp e1).setFro dn hi).putOwn e2 (i := j) hj hn hp dn2
  exact ⟨_, _, rfl, k.nx _ ps' _ H2 q2 r'⟩
theorem R.putDic {c : Fx} {ρ : Env} {ps : List Addr} {σ : L2.St} {H : Hp} (r : R c Γ ρ ps σ H) {i : Nat} {p : Addr} (hi : i < Γ.length) (hn : H p = none) : ∃ ps', R c (Γ.set i .dic) (ρ.set i (some (.list []))) ps' (σ.set i (some (.ref p))) (upd H p (.dT [])) := by
  have e : Stp c H (upd H p (.dT [])) := Stp.new r.ok hn fun xs z => by rcases z with z | z <;> cases z
  have r' := r.stp e
  have nU := r.new hn
  have sl' : Slots c (upd H p (.dT [])) (fun a => c.U ps a ∨ a ∈ [p]) Γ ρ σ ps := r.sl.mono (fun a ha o q => e.keep a o q (r.ownA ha)) (fun a o q n => e.keep a o q (r.nA n)) fun a o q u => u.elim id fun z => by
    rw [List.mem_singleton.mp z, hn] at q; cases q
  obtain ⟨ps', h1, h2, h3⟩ := sl'.put (SlotR.dic (c := c) (ks := []) upd_same rfl) r.nd (by simp) (fun a ha z => nU (.inr (by rw [List.mem_singleton.mp ha] at z; exact z))) hi
  exact ⟨ps', r'.ofSlots (qs := [p]) h1 h2 h3 fun a ha => by
    rw [List.mem_singleton.mp ha]
    exact ⟨r.fresh0 hn, r.nU0 hn⟩⟩
/-- a, b, d = e, f, {} -/
def sParD (i j l : Nat) (e f : Env → M D) : Env → M Out := fun ρ => bnd (e ρ) fun a => bnd (f ρ) fun b => ret (.nx (((ρ.set i (some a)).set j (some b)).set l (some (.list []))))
theorem sem_parD {i j l : Nat} {t u : TE} {e f : Env → M D} (h1 : SemE s Γ t e) (h2 : SemE s Γ u f) (hi : Γ[i]? = some .fro) (hj : Γ[j]? = some .fro) (hl : l < Γ.length) : SemS s Γl Γ (Γ.set l .dic) (tPar3 i j l (tCons t (tCons u (tCons tDNewT tNil)))) (sParD i j l e f) := by
  intro c ρ ps σ H E P hc r q k
  refine h1 c ρ ps σ H _ _ hc r q fun d v H1 q1 e1 dn => ?_
  refine h2 c ρ ps σ H1 _ _ hc (r.stp e1) q1 fun d2 v2 H2 q2 e2 dn2 => ?_
  intro p hn
  obtain ⟨ps', r'⟩ := ((((r.stp e1).setFro dn hi).stp e2).setFro dn2 hj).putDic (i := l) hl hn
  exact ⟨_, _, _, rfl, k.nx _ ps' _ _ q2 r'⟩
theorem R.dicAt {c : Fx} {ρ : Env} {ps : List Addr} {σ : L2.St} {H : Hp} (r : R c Γ ρ ps σ H) {i : Nat} {d : D} (hm : Γ[i]? = some .dic) (hd : ρ[i]? = some (some d)) :
    ∃ (p : Addr) (kvs : List (Key2 × V)) (ks : List (List Int)), σ[i]? = some (some (.ref p)) ∧ d = .list (keyT ks) ∧ p ∈ ps ∧ H p = some (.dT kvs) ∧ kvs.map (·.1) = ks.map (fun k => k.map Sum.inl) := by
  obtain ⟨o, qs, e1, e2, e3⟩ := r.sl.get hm hd
  cases e2 with
  | dic a1 a2 => exact ⟨_, _, _, e1, rfl, e3 _ (by simp), a1, a2⟩
theorem dic_uniq {c : Fx} {H : Hp} {U : AS} {p : Addr} {d : D} : ∀ qs', SlotR c H U .dic (some d) (some (.ref p)) qs' → qs' = [p] := by
  intro qs' h
  cases h with
  | dic _ _ => rfl
theorem eqvAll_ints : ∀ a b : List Int, PyData.eqvAll (a.map .int) (b.map .int) = decide (a = b)
  | [], [] => by simp [PyData.eqvAll]
  | [], _ :: _ => by simp [PyData.eqvAll]
  | _ :: _, [] => by simp [PyData.eqvAll]
  | x :: a, y :: b => by
    simp only [List.map_cons, PyData.eqvAll, eqvAll_ints a b, PyData.eqv]
    by_cases h : x = y <;> by_cases h' : a = b <;> simp [h, h']
def putT (ds : List D) (is : List Int) : List D := if (ds.any fun d => PyData.eqv d (.tuple (is.map .int))) = true then ds else ds ++ [.tuple (is.map .int)]
def putI (ks : List (List Int)) (is : List Int) : List (List Int) := if (ks.any fun k => decide (k = is)) = true then ks else ks ++ [is]
theorem putT_keyT (ks : List (List Int)) (is : List Int) : putT (keyT ks) is = keyT (putI ks is) := by
  have e : ((keyT ks).any fun d => PyData.eqv d (.tuple (is.map .int))) = ks.any fun k => decide (k = is) := by
    rw [keyT, List.any_map]
    congr 1
    funext k
    simp only [Function.comp_apply, PyData.eqv, eqvAll_ints]
  unfold putT putI
  rw [e]
  split
  · rfl
  · simp [keyT]
theorem inl_inj {a b : List Int} : a.map (Sum.inl (β := Str)) = b.map Sum.inl ↔ a = b := by
  constructor
  · intro h
    have := congrArg (List.filterMap fun z : Int ⊕ Str => z.getLeft?) h
    simpa [List.filterMap_map, Function.comp_def] using this
  · intro h; rw [h]
theorem putK_keys {kvs : List (Key2 × V)} {ks : List (List Int)} {is : List Int} {v : V} (e : kvs.map (·.1) = ks.map (fun k => k.map Sum.inl)) : (putK kvs (is.map Sum.inl) v).map (·.1) = (putI ks is).map (fun k => k.map Sum.inl) := by
  have h : (kvs.any fun kv => decide (kv.1 = is.map Sum.inl)) = ks.any fun k => decide (k = is) := by
    have h1 : (kvs.any fun kv => decide (kv.1 = is.map Sum.inl)) = (kvs.map (·.1)).any fun k => decide (k = is.map Sum.inl) := by rw [List.any_map]; rfl
    rw [h1, e, List.any_map]
    congr 1
    funext k
    simp only [Function.comp_apply]
    exact decide_eq_decide.mpr inl_inj
  unfold putK putI
  rw [h]
  split
  · rw [List.map_map, ← e]
    apply List.map_congr_left
    intro kv _
    simp only [Function.comp_apply]
    split <;> rfl
  · simp [e]
/-- d[k] = v, the key a tuple of ints -/
def sDSet (i : Nat) (k v : Env → M D) : Env → M Out := fun ρ => bnd (v ρ) fun _ => bnd (eVar i ρ) fun l => bnd (k ρ) fun x => match l, x with
  | .list ds, .tuple es => (match intsD es with | some is => if lenOk (ds.length + 1) = true then ret (.nx (ρ.set i (some (.list (putT ds is))))) else stuck | none => stuck)
  | _, _ => stuck
theorem sem_dset {i : Nat} {ty tv : TE} {k v : Env → M D} (hm : Γ[i]? = some .dic) (hv : SemE s Γ tv v) (hk : SemE s Γ ty k) : SemS s Γl Γ Γ (sDPut (tVar i) ty tv) (sDSet i k v) := by
  intro c ρ ps σ H E P hc r q K
  refine hv c ρ ps σ H _ _ hc r q fun d w H1 q1 e1 d1 => ?_
  have r1 := r.stp e1
  obtain ⟨l, hl, q1⟩ := eVar_get q1
  obtain ⟨p, kvs, ks, ho, rfl, hp, h1, hk1⟩ := r1.dicAt hm hl
  refine ⟨_, ho, ?_⟩
  refine hk c ρ ps σ H1 _ _ hc r1 q1 fun x y H2 q2 e2 d2 => ?_
  have r2 := r1.stp e2
  cases x with
  | tuple es =>
    have q2 : (match intsD es with | some is => if lenOk ((keyT ks).length + 1) = true then ret (Out.nx (ρ.set i (some (.list (putT (keyT ks) is))))) else (stuck : M Out) | none => (stuck : M Out)) P := q2
    cases z : intsD es with
    | none => rw [z] at q2; exact False.elim q2
    | some is =>
      rw [z] at q2
      dsimp only at q2
      split at q2
      · rename_i hz
        cases d2 with
        | @tup b xs _ hb hu dn =>
          have ex := dn.ints z
          subst ex
          have h2' : H2 p = some (.dT kvs) := e2.keep _ _ h1 (r.ownA hp)
          have hb' : H2 b = some (.tup ((is.map Sum.inl).map kV)) := by
            rw [hb, List.map_map]
            rfl
          have lz : kvs.length < sizeLine := by
            have e := congrArg List.length hk1
            rw [List.length_map, List.length_map] at e
            have := lenOk_sz hz
            rw [keyT, List.length_map] at this
            omega
          refine ⟨p, _, rfl, DPut.t h2' hb' lz, ?_⟩
          have same : ∀ a o, a ≠ p → H2 a = some o → upd H2 p (.dT (putK kvs (is.map Sum.inl) w)) a = some o := fun a o n e => by rw [upd_ne n]; exact e
          obtain ⟨ps', sl, pm⟩ := r2.sl.updP (q := p) (H' := upd H2 p (.dT (putK kvs (is.map Sum.inl) w))) (.inr hp) same (qs0 := [p]) (qs' := [p]) (by simp) (SlotR.dic (c := c) (U := c.U ps) (ks := putI ks is) upd_same (putK_keys hk1)) (List.Perm.refl _) r2.nd dic_uniq hm hl ho
          rw [putT_keyT] at q2
          refine K.nx _ ps' σ _ q2 (r2.perm (fun a o n e => same a o (fun z => n (by rw [z]; exact hp)) e) (fun a ha => ?_) (r2.sz.upd fun zs q => by rcases q with q | q <;> cases q) sl pm)
          by_cases e : a = p
          · subst e; exact ⟨_, upd_same⟩
          · obtain ⟨o, hx, _⟩ := r2.sl.loose a ha
            exact ⟨o, same a _ e hx⟩
      · exact False.elim q2
  | _ => exact False.elim q2
theorem sem_lenD {i : Nat} (hm : Γ[i]? = some .dic) : SemE s Γ (tCB rLenT (tCons (tVar i) tNil)) (cal cLen (aCons (eVar i) aNil)) := by
  intro c ρ ps σ H Q P hc r q k
  obtain ⟨d, hd, q⟩ := eVar_get q
  obtain ⟨p, kvs, ks, ho, rfl, hp, h1, hk1⟩ := r.dicAt hm hd
  have q' : P (.int ((keyT ks).length : Nat)) := q
  refine ⟨_, ho, p, kvs, rfl, h1, ?_⟩
  have e : kvs.length = (keyT ks).length := by
    have e := congrArg List.length hk1
    rw [List.length_map, List.length_map] at e
    rw [keyT, List.length_map, e]
  rw [e]
  exact k _ _ H q' (Stp.refl c H) (.int _)
/-- sorted(d) -/
def eSrtD (i : Nat) : Env → M (List D) := fun ρ => bnd (eVar i ρ) fun d => match d with
  | .list ds => if (srtOk ds && lenOk ds.length) = true then ret (ds.mergeSort leD) else stuck
  | _ => stuck
theorem keys_den {H : Hp} {U : AS} (lo : Loose H U) : ∀ {kvs : List (Key2 × V)} {ks : List (List Int)} {bs : List Addr}, kvs.map (·.1) = ks.map (fun k : List Int => k.map Sum.inl) → IsKeys H kvs bs → DenL H U (bs.map V.ref) (keyT ks)
  | _, [], _, e, h => by
    have e' := congrArg List.length e
    cases h with
    | nil => exact .nil
    | cons _ _ => simp at e'
  | _, k :: ks, _, e, h => by
    cases h with
    | nil => simp at e
    | @cons p b l m h1 h2 =>
      simp only [List.map_cons, List.cons.injEq] at e
      obtain ⟨e1, e2⟩ := e
      have h1' : H b = some (.tup (p.1.map kV)) := h1
      refine .cons (.tup (xs := p.1.map kV) h1' (fun u => by
        obtain ⟨o, ho, hn⟩ := lo b u
        rw [h1'] at ho
        cases ho
        exact hn _ rfl) ?_) (keys_den lo e2 h2)
      rw [e1]
      clear e1 h1 h1'
      induction k with
      | nil => exact .nil
      | cons i k ih => exact .cons (.int i) ih
theorem sem_srtD {i : Nat} (hm : Γ[i]? = some .dic) : SemL s Γ (tCB rSortDT (tCons (tVar i) tNil)) (eSrtD i) := by
  intro c ρ ps σ H Q P hc r q k
  obtain ⟨d, hd, q⟩ := eVar_get q
  obtain ⟨p, kvs, ks, ho, rfl, hp, h1, hk1⟩ := r.dicAt hm hd
  have q' : (if (srtOk (keyT ks) && lenOk (keyT ks).length) = true then ret ((keyT ks).mergeSort leD) else stuck) P := q
  split at q'
  · rename_i ok0
    rw [Bool.and_eq_true] at ok0
    obtain ⟨ok, lok⟩ := ok0
    refine ⟨_, ho, p, kvs, ks, rfl, h1, hk1, ok, fun a bs ha isk => ?_⟩
    have dn := (keys_den r.loose hk1 isk).srt
    have hz : ((((bs.map V.ref).zip (keyT ks)).mergeSort fun x y => leD x.2 y.2).map (·.1)).length ≤ sizeLine := by
      have e := congrArg List.length hk1
      rw [List.length_map, List.length_map] at e
      rw [List.length_map, List.length_mergeSort, List.length_zip, List.length_map]
      have l2 : kvs.length = bs.length := Paired.length isk
      have : (keyT ks).length ≤ sizeLine := lenOk_sz lok
      omega
    exact k _ a _ _ q' (Stp.lst r.ok ha hz) ha upd_same (dn.plus ha)
  · exact False.elim q'
end
theorem kSrtD {X : Cx} {k : Nat} (hc : X.calm = true) (r : Room k X.A) : CallR X (.builtin "sorted") rSortDT := cr_sortDT hc r.u67
end Py
end
section
set_option maxHeartbeats 1000000
/-! PyX: values with an empty dict among them: == and != of unequal lengths, repr; 10 ** 20; reversed tuples. -/
namespace Py
open PySem L2 StX PySem.Spec PyProof.Rows
/-! tuples, and empty dicts at the leaves; no lists -/
mutual
def onTD : D → Bool
  | .none => true
  | .bool _ => true
  | .int _ => true
  | .str _ => true
  | .list _ => false
  | .tuple xs => onTDs xs
  | .dict kvs => kvs.isEmpty
def onTDs : List D → Bool
  | [] => true
  | x :: xs => onTD x && onTDs xs
end
mutual
inductive Dq (K : PySem.W.Frag) (H : Hp) : V → PyData → Prop
  | non : Dq K H .non .none
  | bl (b : Bool) : Dq K H (.bl b) (.bool b)
  | int (i : Int) : Dq K H (.int i) (.int i)
  | str (x : Str) : Dq K H (.str x) (.str x)
  | tup {a : Addr} {xs : List V} {ds : List PyData} : SqT K H a xs → DqAll K H xs ds → Dq K H (.ref a) (.tuple ds)
  | dct {a : Addr} : H a = some (.dK []) → Dq K H (.ref a) (.dict [])
inductive DqAll (K : PySem.W.Frag) (H : Hp) : List V → List PyData → Prop
  | nil : DqAll K H [] []
  | cons {v : V} {vs : List V} {d : PyData} {ds : List PyData} : Dq K H v d → DqAll K H vs ds → DqAll K H (v :: vs) (d :: ds)
end
section
variable {X : Cx} {pins : List (Addr × Obj)} {σ : L2.St} {H : Hp} {s : Shared}
mutual
theorem Dq.reads (I : Inv X pins σ H s) : ∀ (d : PyData) (v : V) (u : Value), Dq X.K H v d → RelV v u → ∃ as, Reads s.heap u d as ∧ sysModules ∉ as
  | .none, _, _, h, r => by
    cases h
    cases r
    exact ⟨_, Reads.none, by simp⟩
  | .bool b, _, _, h, r => by
    cases h
    cases r
    exact ⟨_, Reads.bool b, by simp⟩
  | .int i, _, _, h, r => by
    cases h
    obtain ⟨t, rfl⟩ := r
    exact ⟨_, Reads.int i t, by simp⟩
  | .str x, _, _, h, r => by
    cases h
    obtain ⟨t, rfl⟩ := r
    exact ⟨_, Reads.str x t, by simp⟩
  | .list ds, _, _, h, r => by cases h
  | .tuple ds, _, _, h, r => by
    cases h with
    | tup hs ha =>
      cases r
      obtain ⟨its, rv, ⟨o, ho, hc, n, hd⟩, _⟩ := I.tuple hs
      obtain ⟨as, hr, hn⟩ := Dq.readsAll I ds _ its ha rv
      exact ⟨_, Reads.tuple ho hc hd hr, hn⟩
  | .dict kvs, _, _, h, r => by
    cases h with
    | @dct a e =>
      cases r
      obtain ⟨_, ne, vs, rk, o, es, ep, ho, hx, hd, _, hp, _⟩ := (show ObjOk X.prog X.w H s.heap a (.dK []) from I.hok a _ e)
      have v0 : vs = [] := by
        cases vs with
        | nil => rfl
        | cons _ _ => cases rk
      rw [v0] at hp
      have e0 : es.toList = [] := by
        cases h : es.toList with
        | nil => rfl
        | cons _ _ => rw [h] at hp; cases hp
      refine ⟨_, Reads.dict (kvs := []) ho hx.1 hd (by rw [e0]; exact .nil) (by rw [e0]; exact .nil), ?_⟩
      simp only [List.append_nil, List.mem_singleton]
      intro q
      rw [← q] at ne
      simp at ne
theorem Dq.readsAll (I : Inv X pins σ H s) : ∀ (ds : List PyData) (vs : List V) (us : List Value), DqAll X.K H vs ds → Vals vs us → ∃ as, ReadsAll s.heap us ds as ∧ sysModules ∉ as
  | [], _, _, h, r => by
    cases h
    cases r
    exact ⟨_, ReadsAll.nil, by simp⟩
  | d :: ds, _, _, h, r => by
    cases h with
    | cons h1 h2 =>
      cases r with
      | cons r1 r2 =>
        obtain ⟨as, q1, n1⟩ := Dq.reads I d _ _ h1 r1
        obtain ⟨bs, q2, n2⟩ := Dq.readsAll I ds _ _ h2 r2
        exact ⟨_, ReadsAll.cons q1 q2, fun z => (List.mem_append.mp z).elim n1 n2⟩
end
end
theorem Den.dq {K : PySem.W.Frag} {H : Hp} {U : AS} : ∀ {d : D} {v : V}, Den H U v d → onTD d = true → Dq K H v d := by
  intro d v h
  refine Den.rec (motive_1 := fun v d _ => onTD d = true → Dq K H v d) (motive_2 := fun vs ds _ => onTDs ds = true → DqAll K H vs ds) ?_ ?_ ?_ ?_ ?_ ?_ ?_ ?_ ?_ h
  · intro _; exact .non
  · intro b _; exact .bl b
  · intro b _; exact .int b
  · intro b _; exact .str b
  · intro a xs ds ha hu _ ih z; simp [onTD] at z
  · intro a xs ds ha hu _ ih z; exact .tup (SqT.of ha) (ih (by simpa [onTD] using z))
  · intro a ha hu z; exact .dct ha
  · intro _; exact .nil
  · intro v vs d ds _ _ h1 h2 z
    have z' : onTD d = true ∧ onTDs ds = true := by simpa [onTDs] using z
    exact .cons (h1 z'.1) (h2 z'.2)
theorem View.dq {K : PySem.W.Frag} {c : Fx} {ps : List Addr} {H : Hp} {v : V} {d : D} (h : View c ps H v d) (z : onTD d = true) : Dq K H v d := by
  cases h with
  | den h => exact h.dq z
  | own h1 _ h3 => simp [onTD] at z
def rpX (d : D) : Bool := d.showable && onTD d && decide (d.depth ≤ 64) && decide (d.shown.length ≤ sizeLine)
def rReprX (K : PySem.W.Frag) : List V → Hp → VK → Prop := fun xs H Q => rRepr K xs H Q ∨ ∃ x d, xs = [x] ∧ Dq K H x d ∧ rpX d = true ∧ Q (.str d.shown) H
section
variable {X : Cx}
theorem cr_reprX (hg : X.A.guards = some []) (hu : X.A.units + 66 < cLine) : CallR X (.builtin "repr") (rReprX X.K) := by
  intro pins s σ H xs us Q I r h
  rcases h with h | h
  · exact cr_repr hg hu pins s σ H xs us Q I r h
  obtain ⟨x, d, rfl, hd, ok, q⟩ := h
  unfold rpX at ok
  simp only [Bool.and_eq_true, decide_eq_true_eq] at ok
  obtain ⟨⟨⟨o1, o2⟩, o4⟩, o5⟩ := ok
  obtain ⟨u, rfl, rx⟩ := vals1 r
  have fin : ∀ tk t, EP X pins σ Q (.str d.shown t) { s with toks := tk } := fun tk t => ⟨.str d.shown, H, I.tok tk, ⟨t, rfl⟩, q⟩
  have obj : ∀ a, u = .ref a → wpAny (model X.prog X.w) X.A (call (.builtin "repr") [u]) (EP X pins σ Q) X.xe s := fun a e => by
    obtain ⟨as, rd, hn⟩ := Dq.reads I d x u hd rx
    rw [e] at rd ⊢
    exact repr_of_reads' rd o1 (fun _ => hn) hg (by omega) (fun _ _ q => q) (fun h' t tk hk => ⟨.str d.shown, H, I.kept hk, ⟨t, rfl⟩, q⟩) o5
  cases hd with
  | non =>
    cases rx
    exact P.repr_of_none (fin _ _)
  | bl b =>
    cases rx
    exact P.repr_of_bool (by
      have := fin (s.toks + 1) s.toks
      cases b <;> exact this)
  | int i =>
    obtain ⟨t, rfl⟩ := rx
    exact P.repr_of_int (of_decide_eq_true o1) (fin _ _)
  | str w =>
    obtain ⟨t, rfl⟩ := rx
    exact P.repr_of_str (fin _ _) o5
  | tup hs ha => cases rx; exact obj _ rfl
  | dct e => cases rx; exact obj _ rfl
/-- lists, tuples of unequal lengths -/
def rEqLL (K : PySem.W.Frag) (r : Bool) : R2 := fun x y H Q => ∃ a b xs ys, x = .ref a ∧ y = .ref b ∧ SqL K H a xs ∧ SqL K H b ys ∧ xs.length ≠ ys.length ∧ Q (.bl r) H
def rEqLT (K : PySem.W.Frag) : R2 := fun x y H Q => ∃ a b xs ys, x = .ref a ∧ y = .ref b ∧ SqT K H a xs ∧ SqT K H b ys ∧ xs.length ≠ ys.length ∧
  (∀ (j : Nat) (v w : V), xs[j]? = some v → ys[j]? = some w → ∃ d e, Dp K H v d ∧ Dp K H w e ∧ SeqAt.shaped d = true ∧ SeqAt.shaped e = true) ∧ Q (.bl false) H
theorem op_eqLL (hu : X.A.units + 64 < cLine) : OpR X (compareOp .Eq) (rEqLL X.K false) := by
  intro pins s σ H x y v u Q I rx ry h
  obtain ⟨a, b, xs, ys, rfl, rfl, ha, hb, hl, q⟩ := h
  cases (show v = Value.ref a from rx)
  cases (show u = Value.ref b from ry)
  obtain ⟨us, r1, p1, _⟩ := I.list ha
  obtain ⟨ws, r2, p2, _⟩ := I.list hb
  refine SeqAt.eq_list_lengthsAt p1.isList p2.isList ?_ (by omega) ⟨.bl false, H, I, rfl, q⟩
  rw [bne_iff_ne, List.size_toArray, List.size_toArray, ← r1.length, ← r2.length]
  exact hl
theorem op_neLL (hu : X.A.units + 64 < cLine) : OpR X (compareOp .NotEq) (rEqLL X.K true) := by
  intro pins s σ H x y v u Q I rx ry h
  obtain ⟨a, b, xs, ys, rfl, rfl, ha, hb, hl, q⟩ := h
  cases (show v = Value.ref a from rx)
  cases (show u = Value.ref b from ry)
  obtain ⟨us, r1, p1, _⟩ := I.list ha
  obtain ⟨ws, r2, p2, _⟩ := I.list hb
  refine SeqAt.RcNeAt.lists_lengths p1.isList p2.isList ?_ (by omega) X.prog X.w _ _ ⟨.bl true, H, I, rfl, q⟩
  rw [bne_iff_ne, List.size_toArray, List.size_toArray, ← r1.length, ← r2.length]
  exact hl
theorem vals_at : ∀ {vs : List V} {us : List Value} {j : Nat} {u : Value}, Vals vs us → us[j]? = some u → ∃ v, vs[j]? = some v ∧ RelV v u
  | _, _, _, _, .nil, h => by simp at h
  | _, _, 0, _, .cons r t, h => by simp at h; subst h; exact ⟨_, rfl, r⟩
  | _, _, j + 1, _, .cons r t, h => by
    obtain ⟨v, a, b⟩ := vals_at (j := j) t (by simpa using h)
    exact ⟨v, by simpa using a, b⟩
theorem op_eqLT (hu : X.A.units + 66 < cLine) : OpR X (compareOp .Eq) (rEqLT X.K) := by
  intro pins s σ H x y v u Q I rx ry h
  obtain ⟨a, b, xs, ys, rfl, rfl, ha, hb, hl, he, q⟩ := h
  cases (show v = Value.ref a from rx)
  cases (show u = Value.ref b from ry)
  obtain ⟨us, r1, p1, _⟩ := I.tuple ha
  obtain ⟨ws, r2, p2, _⟩ := I.tuple hb
  have ex : ∀ j (h1 : j < us.toArray.size) (h2 : j < ws.toArray.size), ∃ e, SeqAt.EqAt X.A.in1 s us.toArray[j] ws.toArray[j] e := fun j h1 h2 => by
    obtain ⟨v, e1, q1⟩ := vals_at (j := j) r1 (List.getElem?_eq_getElem (by simpa using h1))
    obtain ⟨w, e2, q2⟩ := vals_at (j := j) r2 (List.getElem?_eq_getElem (by simpa using h2))
    obtain ⟨d, e, d1, d2, s1, s2⟩ := he j v w e1 e2
    obtain ⟨as, rd1⟩ := Dp.reads I d v _ d1 q1
    obtain ⟨bs, rd2⟩ := Dp.reads I e w _ d2 q2
    exact ⟨_, SeqAt.eqAt_reads d e X.A.in1 s _ _ as bs (by simpa using rd1) (by simpa using rd2) (SeqAt.canLay_of_shaped s1) (SeqAt.canLay_of_shaped s2) (SeqAt.room_of_shaped s1 (by show X.A.units + 1 + 64 < cLine; omega))⟩
  let e : Nat → Bool := fun j => if h : j < us.toArray.size ∧ j < ws.toArray.size then Classical.choose (ex j h.1 h.2) else false
  refine SeqAt.eq_tupleAt (e := e) p1 p2 (by omega) (fun j h1 h2 => ?_) ?_
  · have : e j = Classical.choose (ex j h1 h2) := dif_pos ⟨h1, h2⟩
    rw [this]
    exact Classical.choose_spec (ex j h1 h2)
  · have ne : (us.toArray.size == ws.toArray.size) = false := by
      rw [beq_eq_false_iff_ne, List.size_toArray, List.size_toArray, ← r1.length, ← r2.length]
      exact hl
    rw [ne, Bool.and_false]
    exact ⟨.bl false, H, I, rfl, q⟩
end
end Py
end
section
set_option maxHeartbeats 1000000
/-! PyY: t[::-1] of a tuple. -/
namespace HT
open PySem PySem.Spec PyProof.Rows PyProof.V PySem.W PySem.Calls
section
variable {prog : Program} {w : World} {A : Around} {E : Value → Shared → Prop} {s : Shared}
theorem sliceApplied_rev {sl : Addr} {vl vu vs : Value} {n : Nat} {Q : Int × Int × Nat → Shared → Prop} (hs : s.heap.IsSliceOf sl vl vu vs) (pl : IsPart vl none) (pu : IsPart vu none) (ps : IsPart vs (some (-1)))
    (h : Q ((n : Int) - 1, -1, n) s) : wpAny (model prog w) A (Builtin.Slice.sliceApplied (.ref sl) (pure (n : Int))) Q E s := by
  obtain ⟨os, hos, hcs, hds⟩ := id hs
  unfold Builtin.Slice.sliceApplied Builtin.Slice.sliceFields
  refine wpAny_bind (wpAny_bind (wpAny_field hos hds (x := vl) rfl (wpAny_bind (wpAny_field hos hds (x := vu) rfl (wpAny_bind (wpAny_field hos hds (x := vs) rfl (wpAny_pure ?_)))))))
  refine wpAny_bind (slicePart_ ps ?_)
  show wpAny _ _ (if ((-1 : Int) == 0) = true then _ else _) _ _ s
  rw [if_neg (by decide)]
  refine wpAny_bind (slicePart_ pl (wpAny_bind (slicePart_ pu (wpAny_bind (wpAny_pure ?_)))))
  have e : Builtin.Slice.sliceAdjust none none (-1) (n : Int) = ((n : Int) - 1, -1) := by
    unfold Builtin.Slice.sliceAdjust
    simp
  have e2 : Builtin.Slice.slicePlaces ((n : Int) - 1) (-1) (-1) = n := by
    unfold Builtin.Slice.slicePlaces
    simp
    omega
  show wpAny _ _ (match Builtin.Slice.sliceAdjust none none (-1) (n : Int) with | (lo, hi) => pure (lo, (-1 : Int), Builtin.Slice.slicePlaces lo hi (-1))) _ _ s
  rw [e]
  show wpAny _ _ (pure ((n : Int) - 1, (-1 : Int), Builtin.Slice.slicePlaces ((n : Int) - 1) (-1) (-1))) _ _ s
  rw [e2]
  exact wpAny_pure h
theorem fm_congr {α β : Type} {f g : α → Option β} : ∀ {l : List α}, (∀ x ∈ l, f x = g x) → l.filterMap f = l.filterMap g
  | [], _ => rfl
  | a :: l, h => by
    have h1 := h a (by simp)
    have h2 := fm_congr (l := l) fun x hx => h x (List.mem_cons_of_mem _ hx)
    rw [List.filterMap_cons, List.filterMap_cons, h1, h2]
theorem pick_rev (xs : Array Value) : ((List.range xs.size).filterMap fun (m : Nat) => xs[((xs.size : Int) - 1 + (m : Int) * (-1)).toNat]?).toArray = xs.toList.reverse.toArray := by
  congr 1
  have e : ∀ (m : Nat), m ∈ List.range xs.size → xs[((xs.size : Int) - 1 + (m : Int) * (-1)).toNat]? = xs.toList.reverse[m]? := by
    intro m hm
    have hm' : m < xs.size := List.mem_range.mp hm
    have : ((xs.size : Int) - 1 + (m : Int) * (-1)).toNat = xs.size - 1 - m := by omega
    rw [this, List.getElem?_reverse (by simpa using hm')]
    simp
  rw [fm_congr e]
  have := krv_all xs.toList.reverse.toArray
  simpa using this
theorem getItem_tuple_rev {t sl : Addr} {items : Array Value} {vl vu vs : Value} {Q : Value → Shared → Prop} (ht : IsTup s.heap t items) (hs : s.heap.IsSliceOf sl vl vu vs) (pl : IsPart vl none) (pu : IsPart vu none) (ps : IsPart vs (some (-1)))
    (h : Q (.ref s.heap.objs.size) { s with heap := s.heap.push { cls := .type "tuple", data := .seq items.toList.reverse.toArray } })
    (hsz : items.size ≤ sizeLine) : wpAny (model prog w) A (getItem (.ref t) (.ref sl)) Q E s := by
  have htake : sizeOk (.seq items.toList.reverse.toArray) := by
    show items.toList.reverse.toArray.size ≤ sizeLine
    rw [List.size_toArray, List.length_reverse, Array.length_toList]
    exact hsz
  obtain ⟨os, hos, hcs, hds⟩ := id hs
  have hTs : s.TypeIs (.ref sl) "slice" := ⟨os, hos, hcs⟩
  unfold getItem
  try with_reducible refine wpAny_holding ?_
  first | refine wpAny_bind (wpAny_pure ?_) | skip
  refine wpAny_bind (wpAny_sequenceKey ht.typeIs (by decide) ?_)
  refine wpAny_bind (wpAny_callSpecial?_slot (name := Str.ofString "__getitem__") ht.typeIs PyProof.Rows.slot_tuple_getitem
    (wpAny_call_entry PyProof.Rows.slot_tuple_getitem ht.typeIs entry_tuple_getitem ?_ (args_tuple_getitem _ _)))
  show wpAny _ _ (Builtin.Tuple.tupleItemsOf (.ref t) >>= _) _ _ s
  refine wpAny_bind (tupleItemsOf_ ht ?_)
  refine wpAny_bind (wpAny_typeOf hTs ?_)
  rw [if_pos (by decide)]
  refine wpAny_bind (sliceApplied_rev hs pl pu ps ?_)
  have hno : ¬ ((((items.size : Int) - 1) == 0 && (-1 : Int) == 1 && items.size == items.size) = true) := by simp
  show wpAny _ _ (if ((((items.size : Int) - 1) == 0 && (-1 : Int) == 1 && items.size == items.size) = true) then _ else _) _ _ s
  rw [if_neg hno, pick_rev]
  first
    | exact wpAny_bind (m := Builtin.Tuple.tupleExact _) (wpAny_newObj_type (wpAny_pure ⟨_, rfl, wpAny_pure h⟩) htake)
    | exact wpAny_bind (m := Builtin.Tuple.tupleExact _) (wpAny_newObj_type (wpAny_bind (wpAny_pure (wpAny_pure ⟨_, rfl, wpAny_pure h⟩))) htake)
    | exact wpAny_bind (wpAny_bind (m := Builtin.Tuple.tupleExact _) (wpAny_newObj_type (wpAny_pure (wpAny_pure ⟨_, rfl, wpAny_pure h⟩)) htake))
    | exact wpAny_bind (wpAny_bind (m := Builtin.Tuple.tupleExact _) (wpAny_newObj_type (wpAny_pure ⟨_, rfl, wpAny_pure h⟩) htake))
end
end HT
namespace L2
open PySem PySem.Spec PyProof.Rows
def tRevT (K : PySem.W.Frag) (te : TE) : TE := fun σ H Q => te σ H fun x H1 => ∃ a xs, x = .ref a ∧ SqT K H1 a xs ∧ ∀ p, H1 p = none → Q (.ref p) (upd H1 p (.tup xs.reverse))
theorem pe_revT {X : Cx} {e : Expr} {te : TE} {k : Nat} {p1 p2 p3 pos : Pos} (he : PE X e te) : PE X (.Subscript e (.Slice none none (some (.UnaryOp .USub (.Constant (.int 1) k p1) p2)) p3) pos) (tRevT X.K te) := by
  refine ⟨fun pins s σ H Q I h => ?_⟩
  refine Subscript_ (thn (he.run pins s σ H _ I h) fun v s1 ⟨x, H1, I1, r1, q1⟩ => ?_)
  obtain ⟨a, xs, ex, hx, q⟩ := q1
  subst ex
  cases r1
  have hst : PO X (some (.UnaryOp .USub (.Constant (.int 1) k p1) p2)) (tPart (tUn (rU fun i => .int (-i)) (tC (.int 1)))) := po_some (pe_un un_neg pe_int)
  refine wpAny_Slice (thn (po_none.run pins s1 σ H1 (fun o H2 => o = none ∧ H2 = H1) I1 ⟨rfl, rfl⟩) fun vl s2 ⟨l, H2, I2, pl, el, e2⟩ => ?_)
  subst el e2
  refine thn (po_none.run pins s2 σ H2 (fun o H3 => o = none ∧ H3 = H2) I2 ⟨rfl, rfl⟩) fun vu s3 ⟨u, H3, I3, pu, eu, e3⟩ => ?_
  subst eu e3
  refine thn (hst.run pins s3 σ H3 (fun o H4 => o = some (-1) ∧ H4 = H3) I3 ⟨1, rfl, -1, rfl, rfl, rfl⟩) fun vs s4 ⟨o, H4, I4, ps, eo, e4⟩ => ?_
  subst eo e4
  have I5 : Inv X pins σ H4 { s4 with heap := s4.heap.push { cls := .type "slice", data := .fields #[vl, vu, vs] } } := I4.kept (t' := s4.toks) fun b ob q => Heap.get?_push_of_some _ q
  obtain ⟨its, r, ht, hz⟩ := I5.tuple hx
  have hlen := r.length
  show wpAny (model X.prog X.w) X.A (subscriptTail e (.Slice none none (some (.UnaryOp .USub (.Constant (.int 1) k p1) p2)) p3) (.ref a) (.ref s4.heap.objs.size)) (EP X pins σ Q) X.xe { s4 with heap := s4.heap.push { cls := .type "slice", data := .fields #[vl, vu, vs] } }
  refine tail_any (ops := [.ref a, .ref s4.heap.objs.size]) ht.typeIs (PyProof.Rows.slot_tuple_getitem.lookup) ?_ (by with_unfolding_all rfl)
  refine HT.getItem_tuple_rev ht (Heap.IsSliceOf.new _ vl vu vs) pl pu ps ?_ (by rw [List.size_toArray]; omega)
  refine ⟨.ref _, _, I5.laid (t' := s4.toks) (o := .tup xs.reverse) (fun b ob q => Heap.get?_push_of_some _ q) (Nat.le_refl _) ?_, rfl, q _ (I5.hok.fresh (Nat.le_refl _))⟩
  exact ⟨by rw [List.length_reverse]; exact hz, _, r.reverse, IsTup.new _ _⟩
end L2
end
section
set_option maxHeartbeats 1000000
/-! PyZ: the readings of PyX and PyY over data. -/
namespace Py
open PySem L2 StX PySem.Spec PyProof.Rows
def preT (a b : List D) : Bool := decide (a.length ≠ b.length) && (a.zip b).all fun p => shp p.1 && shp p.2
def gEqX (x y : D) : M D := if (shp x && shp y) = true then ret (.bool (PyData.eqv x y)) else match x, y with
  | .tuple a, .tuple b => if preT a b = true then ret (.bool false) else stuck
  | .list a, .list b => if decide (a.length ≠ b.length) = true then ret (.bool false) else stuck
  | _, _ => stuck
def gNeX (x y : D) : M D := if (shp x && shp y) = true then ret (.bool (!PyData.eqv x y)) else match x, y with
  | .list a, .list b => if decide (a.length ≠ b.length) = true then ret (.bool true) else stuck
  | _, _ => stuck
def rEqX (K : PySem.W.Frag) : R2 := fun x y H Q => rEqD K x y H Q ∨ (rEqLL K false x y H Q ∨ rEqLT K x y H Q)
def rNeX (K : PySem.W.Frag) : R2 := fun x y H Q => rNeD K x y H Q ∨ rEqLL K true x y H Q
theorem kEqX {X : Cx} {K : PySem.W.Frag} {k : Nat} (r : Room k X.A) (h : X.K = K := by rfl) : OpR X (compareOp .Eq) (rEqX K) := by
  subst h
  exact (op_eqD r.units).or ((op_eqLL r.units).or (op_eqLT r.u66))
theorem kNeX {X : Cx} {K : PySem.W.Frag} {k : Nat} (r : Room k X.A) (h : X.K = K := by rfl) : OpR X (compareOp .NotEq) (rNeX K) := by
  subst h
  exact (op_neD r.units).or (op_neLL r.units)
theorem kReprX {X : Cx} {K : PySem.W.Frag} {k : Nat} (hg : X.A.guards = some []) (r : Room k X.A) (h : X.K = K := by rfl) : CallR X (.builtin "repr") (rReprX K) := by
  subst h
  exact cr_reprX hg r.u66
section
variable {s : Sx} {Γ Γ' Γl : List Md} {K : PySem.W.Frag}
theorem zip_get {a b : List D} {j : Nat} {x y : D} (h : (a.zip b).all (fun p => shp p.1 && shp p.2) = true) (ha : a[j]? = some x) (hb : b[j]? = some y) : shp x = true ∧ shp y = true := by
  have : (x, y) ∈ a.zip b := by
    refine List.mem_of_getElem? (i := j) ?_
    rw [List.getElem?_zip_eq_some]
    exact ⟨ha, hb⟩
  have := List.all_eq_true.mp h _ this
  simpa using this
theorem DenL.get' {H : Hp} {U : AS} : ∀ {vs : List V} {ds : List D} {j : Nat} {v : V}, DenL H U vs ds → vs[j]? = some v → ∃ d, ds[j]? = some d ∧ Den H U v d
  | _, _, _, _, .nil, h => by simp at h
  | _, _, 0, _, .cons h _, e => by simp at e; subst e; exact ⟨_, rfl, h⟩
  | _, _, j + 1, _, .cons _ t, e => by
    obtain ⟨d, a, b⟩ := DenL.get' (j := j) t (by simpa using e)
    exact ⟨d, by simpa using a, b⟩
theorem oe_eqX : OpE s (rEqX K) gEqX := by
  intro c ps H x y u v Q P hc G hx hy q k
  unfold gEqX at q
  split at q
  · rename_i z
    have z' : shp x = true ∧ shp y = true := by simpa using z
    exact .inl ⟨x, y, hx.dp (shp_lay z'.1), hy.dp (shp_lay z'.2), z'.1, z'.2, k _ _ H q (Stp.refl c H) (.bl _)⟩
  · split at q
    · rename_i a b hn
      split at q
      · rename_i z
        obtain ⟨z1, z2⟩ : a.length ≠ b.length ∧ (a.zip b).all (fun p => shp p.1 && shp p.2) = true := by simpa [preT] using z
        obtain ⟨p, vs, rfl, h1, dn, _⟩ := hx.tup
        obtain ⟨p2, ws, rfl, h2, dn2, _⟩ := hy.tup
        refine .inr (.inr ⟨p, p2, vs, ws, rfl, rfl, SqT.of h1, SqT.of h2, by rw [dn.length, dn2.length]; exact z1, fun j v w e1 e2 => ?_, k _ _ H q (Stp.refl c H) (.bl _)⟩)
        obtain ⟨d, g1, d1⟩ := dn.get' e1
        obtain ⟨e, g2, d2⟩ := dn2.get' e2
        obtain ⟨s1, s2⟩ := zip_get z2 g1 g2
        exact ⟨d, e, d1.dp (shp_lay s1), d2.dp (shp_lay s2), s1, s2⟩
      · cases q
    · rename_i a b hn
      split at q
      · rename_i z
        have z1 : a.length ≠ b.length := by simpa using z
        obtain ⟨p, vs, rfl, h1, dn⟩ := hx.lst
        obtain ⟨p2, ws, rfl, h2, dn2⟩ := hy.lst
        exact .inr (.inl ⟨p, p2, vs, ws, rfl, rfl, SqL.of h1, SqL.of h2, by rw [dn.length, dn2.length]; exact z1, k _ _ H q (Stp.refl c H) (.bl _)⟩)
      · cases q
    · cases q
theorem oe_neX : OpE s (rNeX K) gNeX := by
  intro c ps H x y u v Q P hc G hx hy q k
  unfold gNeX at q
  split at q
  · rename_i z
    have z' : shp x = true ∧ shp y = true := by simpa using z
    exact .inl ⟨x, y, hx.dp (shp_lay z'.1), hy.dp (shp_lay z'.2), z'.1, z'.2, k _ _ H q (Stp.refl c H) (.bl _)⟩
  · split at q
    · rename_i a b hn
      split at q
      · rename_i z
        have z1 : a.length ≠ b.length := by simpa using z
        obtain ⟨p, vs, rfl, h1, dn⟩ := hx.lst
        obtain ⟨p2, ws, rfl, h2, dn2⟩ := hy.lst
        exact .inr ⟨p, p2, vs, ws, rfl, rfl, SqL.of h1, SqL.of h2, by rw [dn.length, dn2.length]; exact z1, k _ _ H q (Stp.refl c H) (.bl _)⟩
      · cases q
    · cases q
def cReprX : List D → M D
  | [d] => if rpOk d = true then ret (.str d.shown) else if rpX d = true then ret (.str d.shown) else stuck
  | _ => stuck
theorem ca_reprX : CaE s (rReprX K) cReprX := by
  intro c ps H vs ds Q P hc G hv q k
  unfold cReprX at q
  split at q
  · rename_i d
    split at q
    · rename_i ok
      exact .inl (ca_repr c ps H vs [d] Q P hc G hv (by rw [show cRepr [d] = ret (.str d.shown) from if_pos ok]; exact q) k)
    · split at q
      · rename_i ok
        obtain ⟨v, rfl, hw⟩ := hv.one
        have lay : onTD d = true := by
          have ok' := ok
          unfold rpX at ok'
          simp only [Bool.and_eq_true] at ok'
          exact ok'.1.1.2
        exact .inr ⟨v, d, rfl, hw.dq lay, ok, k _ _ H q (Stp.refl c H) (.str _)⟩
      · cases q
  · cases q
/-- {} -/
theorem sem_dct : SemE s Γ tDNewK (eC (.dict [])) := by
  intro c ρ ps σ H Q P hc r q k p hn
  exact k _ _ _ q (Stp.new r.ok hn fun xs z => by rcases z with z | z <;> cases z) (.dct upd_same (r.new hn))
/-- a ** b, two numbers of the text -/
theorem sem_powc {a b : Int} (h : CPow a b) : SemE s Γ (tOp (rI CPow fun i j => .int (i ^ j.toNat)) (tC (.int a)) (tC (.int b))) (eC (.int (a ^ b.toNat))) := by
  intro c ρ ps σ H Q P hc r q k
  exact ⟨a, b, rfl, rfl, h, k _ _ H q (Stp.refl c H) (.int _)⟩
/-- t[::-1] -/
def eRevT (e : Env → M D) : Env → M D := fun ρ => bnd (e ρ) fun d => match d with
  | .tuple ds => ret (.tuple ds.reverse)
  | _ => stuck
theorem sem_revT {te : TE} {e : Env → M D} (he : SemV s Γ te e) : SemE s Γ (tRevT K te) (eRevT e) := by
  intro c ρ ps σ H Q P hc r0 q k
  refine he c ρ ps σ H _ _ hc r0 q fun x u H1 q1 e1 d1 => ?_
  have r1 := r0.stp e1
  dsimp only at q1
  split at q1
  · obtain ⟨a, vs, rfl, h1, dn, nu⟩ := d1.tup
    refine ⟨a, vs, rfl, SqT.of h1, fun p hp => ?_⟩
    have e := Stp.tup r0.ok (xs := vs.reverse) hp (by rw [List.length_reverse]; exact r1.sz a vs (.inr h1))
    exact k _ _ _ q1 (e1.trans e) (.tup upd_same (r1.new hp) (dn.stp r0.ok e).reverse)
  · cases q1
end
end Py
end
section
set_option maxHeartbeats 1000000
/-! PyW: sum of a tuple. -/
namespace L2
open PySem PySem.Spec PyProof.Rows
variable {X : Cx}
def rSumX (K : PySem.W.Frag) : List V → Hp → VK → Prop := fun vs H Q => rSum K vs H Q ∨ ∃ (a : Addr) (ns : List Int), vs = [V.ref a] ∧ SqT K H a (ns.map V.int) ∧ Q (.int ns.sum) H
theorem sumT_raw {prog : Program} {w : World} {A : Around} {E : Value → Shared → Prop} {s : Shared} {l : Addr} {its : List Value} {ns : List Int} {Q : Value → Shared → Prop} (hh : A.handled = none) (hl : s.heap.IsTuple l its.toArray) (hi : IntsAre its ns)
    (h : ∀ h' tk t', (∀ b o, s.heap.get? b = some o → h'.get? b = some o) → Q (.int ns.sum t') { s with heap := h', toks := tk }) : wpAny (model prog w) A (call (.builtin "sum") [.ref l]) Q E s := by
  obtain ⟨xs, e⟩ := hi.allInts.items
  have hn : numsOf (intItems xs).toList = ns := by rw [← e]; exact hi.numsOf
  rw [nums_intItems] at hn
  rw [e] at hl
  refine PySem.W.ktm_sumG hh hl fun h' tk t' hk => ?_
  have := h h' tk t' hk
  rw [preSum_eq, List.take_of_length_le (by simp), hn]; exact this
theorem cr_sumX (hc : X.calm = true) : CallR X (.builtin "sum") (rSumX X.K) := by
  intro pins s σ H vs us Q I r h
  rcases h with h | h
  · exact cr_sum hc pins s σ H vs us Q I r h
  · obtain ⟨a, ns, rfl, hs, q⟩ := h
    obtain ⟨its, rv, hl, _⟩ := I.tuple hs
    rw [Vals.ref1 r]
    exact sumT_raw (I.ok.hd hc) hl rv.ints fun h' tk t' hk => ⟨.int _, H, I.kept hk, ⟨_, rfl⟩, q⟩
end L2
namespace Py
open PySem L2 StX
section
variable {s : Sx} {K : PySem.W.Frag}
def cSumX : List D → M D
  | [.list ds] => match intsD ds with | some ns => ret (.int ns.sum) | none => stuck
  | [.tuple ds] => match intsD ds with | some ns => ret (.int ns.sum) | none => stuck
  | _ => stuck
theorem ca_sumX : CaE s (rSumX K) cSumX := by
  intro c ps H vs ds Q P hc G hv q k
  unfold cSumX at q
  split at q
  · cases e : intsD _ with
    | none => rw [e] at q; cases q
    | some ns =>
      rw [e] at q
      obtain ⟨v, rfl, hw⟩ := hv.one
      obtain ⟨a, ws, rfl, h1, dn⟩ := hw.lst
      exact .inl ⟨a, ns, rfl, by rw [← dn.ints e]; exact SqL.of h1, k _ _ H q (Stp.refl c H) (.int _)⟩
  · cases e : intsD _ with
    | none => rw [e] at q; cases q
    | some ns =>
      rw [e] at q
      obtain ⟨v, rfl, hw⟩ := hv.one
      obtain ⟨a, ws, rfl, h1, dn, nu⟩ := hw.tup
      exact .inr ⟨a, ns, rfl, by rw [← dn.ints e]; exact SqT.of h1, k _ _ H q (Stp.refl c H) (.int _)⟩
  · cases q
theorem kSumX {X : Cx} {K : PySem.W.Frag} (hc : X.calm = true) (h : X.K = K := by rfl) : CallR X (.builtin "sum") (rSumX K) := by subst h; exact cr_sumX hc
theorem cSumX_t (xs : List Int) : cSumX [.tuple (dInts xs)] = ret (.int xs.sum) := by
  show (match intsD (dInts xs) with | some ns => ret (PyData.int ns.sum) | none => stuck) = _
  rw [intsD_dInts]
theorem cSumX_l (xs : List Int) : cSumX [.list (dInts xs)] = ret (.int xs.sum) := by
  show (match intsD (dInts xs) with | some ns => ret (PyData.int ns.sum) | none => stuck) = _
  rw [intsD_dInts]
end
end Py
end
section
set_option maxHeartbeats 1000000
/-! PyU: a loop over a list of one's own that stands still meanwhile; [..], x, y into three names; range with the step - 1. -/
namespace Py
open PySem L2 StX
section
variable {s : Sx} {Γ Γ' Γl : List Md} {K : PySem.W.Frag}
/-- the own list in slot i is lent -/
theorem Slots.lend {c : Fx} {H : Hp} {U : AS} {ρ : Env} {σ : St} {ps : List Addr} (h : Slots c H U Γ ρ σ ps) : ∀ {i : Nat} {d : D}, Γ[i]? = some .own → ρ[i]? = some (some d) →
    ∃ (p : Addr) (vs : List V) (ds : List D), σ[i]? = some (some (.ref p)) ∧ d = .list ds ∧ p ∈ ps ∧ H p = some (.lst vs) ∧ DenL H U vs ds ∧ Slots c H U (Γ.set i (.lent p vs)) ρ σ ps := by
  induction h with
  | nil => intro i d h; simp at h
  | @cons m1 d1 o1 p1 q1 Γ1 ρ1 σ1 h1 h2 ih =>
    intro i d hm hd
    cases i with
    | zero =>
      simp at hm hd
      subst hm hd
      cases h1 with
      | @own p vs ds a1 a2 => exact ⟨p, vs, ds, rfl, rfl, by simp, a1, a2, .cons (.lent a1 a2) h2⟩
    | succ i =>
      obtain ⟨p, vs, ds, e1, e2, e3, e4, e5, e6⟩ := ih (i := i) (by simpa using hm) (by simpa using hd)
      exact ⟨p, vs, ds, by simpa using e1, e2, List.mem_append_right _ e3, e4, e5, .cons h1 e6⟩
theorem Slots.unlend {c : Fx} {H : Hp} {U : AS} {ρ : Env} {σ : St} {ps : List Addr} {p : Addr} {vs : List V} : ∀ {Γ : List Md} {i : Nat}, Γ[i]? = some .own → Slots c H U (Γ.set i (.lent p vs)) ρ σ ps → Slots c H U Γ ρ σ ps
  | [], _, h, _ => by simp at h
  | m :: Γ, 0, h, q => by
    simp at h
    subst h
    rw [List.set_cons_zero] at q
    cases q with
    | cons h1 h2 =>
      refine .cons ?_ h2
      cases h1 with
      | no => exact .no
      | lent a1 a2 => exact .own a1 a2
  | m :: Γ, i + 1, h, q => by
    rw [List.set_cons_succ] at q
    generalize e : Γ.set i (.lent p vs) = Δ at q
    cases q with
    | cons h1 h2 =>
      subst e
      exact .cons h1 (Slots.unlend (Γ := Γ) (i := i) (by simpa using h) h2)
theorem R.unlend {c : Fx} {ρ : Env} {ps : List Addr} {σ : St} {H : Hp} {p : Addr} {vs : List V} {i : Nat} (hm : Γ[i]? = some .own) (r : R c (Γ.set i (.lent p vs)) ρ ps σ H) : R c Γ ρ ps σ H :=
  { ok := r.ok, keep := r.keep, there := r.there, inv := r.inv, al := r.al, sz := r.sz, sl := r.sl.unlend hm, nd := r.nd, own := r.own }
theorem R.lentAt {c : Fx} {ρ : Env} {ps : List Addr} {σ : St} {H : Hp} {p : Addr} {vs : List V} {i : Nat} {d : D} (hm : Γ[i]? = some .own) (r : R c (Γ.set i (.lent p vs)) ρ ps σ H) (hd : ρ[i]? = some (some d)) : H p = some (.lst vs) := by
  have hi : i < Γ.length := (List.getElem?_eq_some_iff.mp hm).1
  obtain ⟨o, qs, e1, e2, e3⟩ := r.sl.get (List.getElem?_set_self hi) hd
  cases e2 with
  | lent a1 a2 => exact a1
/-- for .. in an own list that nothing is put into meanwhile -/
def forWO (i : Nat) (tg : D → Env → M Env) (body : Env → M Out) : List D → Env → M Out
  | [], ρ => bnd (eVar i ρ) fun _ => ret (.nx ρ)
  | d :: ds, ρ => bnd (eVar i ρ) fun _ => bnd (tg d ρ) fun ρ' => bnd (body ρ') fun o => oLoop o (forWO i tg body ds)
def sForO (i : Nat) (tg : D → Env → M Env) (body : Env → M Out) : Env → M Out := fun ρ => bnd (eVar i ρ) fun d => bnd (seqD d) fun ds => forWO i tg body ds ρ
theorem sem_forO {i : Nat} {g : TG} {tb : TS} {ts : List Nat} {tg : D → Env → M Env} {body : Env → M Out} (hm : Γ[i]? = some .own) (hg : ∀ p vs, SemG s (Γ.set i (.lent p vs)) g ts tg) (hb : ∀ p vs, SemS s (Γ.set i (.lent p vs)) (Γ.set i (.lent p vs)) (Γ.set i (.lent p vs)) tb body) :
    SemS s Γl Γ Γ (tFor (iSeq K (tVar i)) g tb) (sForO i tg body) := by
  intro c ρ ps σ H E P hc r q k
  obtain ⟨l, hl, q⟩ := eVar_get q
  obtain ⟨p, vs, ds, ho, rfl, hp, h1, dn, sl'⟩ := r.sl.lend hm hl
  have q : forWO i tg body ds ρ P := q
  have r1 : R c (Γ.set i (.lent p vs)) ρ ps σ H := { ok := r.ok, keep := r.keep, there := r.there, inv := r.inv, al := r.al, sz := r.sz, sl := sl', nd := r.nd, own := r.own }
  have it : Items (Itl K p) (fun a => a ≠ p) (c.U ps) H ds := items_list h1 (fun n => n rfl) dn r.sz
  refine ⟨_, ho, .inl ⟨p, rfl, ⟨vs, SqL.of h1⟩, ?_⟩⟩
  refine ⟨fun j m σ' H' => m = ds.length - j ∧ j ≤ ds.length ∧ ∃ ρ' ps', R (c.at ps H) (Γ.set i (.lent p vs)) ρ' ps' σ' H' ∧ forWO i tg body (ds.drop j) ρ' P, ⟨ds.length, by simp, Nat.zero_le _, ρ, ps, r1.enter, q⟩, ?_⟩
  rintro j m σ' H' ⟨rfl, hle, ρ', ps', r', w⟩
  have lU : Later (c.U ps) H H' := fun a o h n => r'.keep a o (Fx.at_some (fun z => n (.inr z)) h) fun z => n (.inl (r1.ok.sub a z))
  have at' : ∀ {d : D}, ρ'[i]? = some (some d) → Later (fun a => a ≠ p) H H' := fun hd a o h n => by
    have e : a = p := Classical.not_not.mp n
    subst e
    rw [h1] at h
    cases h
    exact r'.lentAt hm hd
  by_cases hlt : j < ds.length
  · rw [List.drop_eq_getElem_cons hlt] at w
    obtain ⟨l', hl', w⟩ := eVar_get (show (bnd (eVar i ρ') fun _ => bnd (tg ds[j] ρ') fun ρ' => bnd (body ρ') fun o => oLoop o (forWO i tg body (ds.drop (j + 1)))) P from w)
    have lS := at' hl'
    refine .inr ⟨it.go j H' lS hlt, fun σ2 H2 => ds.length - (j + 1) = ds.length - (j + 1) ∧ j + 1 ≤ ds.length ∧ ∃ ρ2 ps2, R (c.at ps H) (Γ.set i (.lent p vs)) ρ2 ps2 σ2 H2 ∧ forWO i tg body (ds.drop (j + 1)) ρ2 P, fun σ2 H2 h => ⟨ds.length - (j + 1), by omega, h⟩, fun x H'' y => ?_⟩
    have hd : ds[j]? = some ds[j] := by simp [hlt]
    obtain ⟨same, sz, den⟩ := it.yld j ds[j] H' x H'' lS lU hd y
    have r2 := r'.stp (Stp.same r'.ok same sz)
    have dx : Den H'' ((c.at ps H).U ps') x ds[j] := den _ (fun a o h u => by
      rcases u with u | u
      · exact .inl u
      · rcases Fx.at_none (r'.own a u).1 with z | z
        · exact .inr z
        · rw [h] at z; cases z) fun a h => r'.new h
    have hc' : (c.at ps H).s = s := hc
    refine hg p vs (c.at ps H) ρ' ps' σ' H'' _ _ _ _ hc' r2 dx w fun ρ2 σ2 w2 r3 _ _ => ?_
    refine hb p vs (c.at ps H) ρ2 ps' σ2 H'' _ _ hc' r3 w2 ⟨fun ρ3 ps3 σ3 H3 p r4 => ?_, fun d v H3 p fi dn => ?_, fun ρ3 ps3 σ3 H3 p r4 => ?_, fun ρ3 ps3 σ3 H3 p r4 => ?_⟩
    · exact ⟨rfl, hlt, ρ3, ps3, r4, p⟩
    · exact k.rt d v H3 p (fi.leave r1) dn
    · exact k.nx ρ3 ps3 σ3 H3 p (R.unlend hm (r1.leave r4))
    · exact ⟨rfl, hlt, ρ3, ps3, r4, p⟩
  · have e : j = ds.length := by omega
    subst e
    rw [List.drop_length] at w
    obtain ⟨l', hl', w⟩ := eVar_get (show (bnd (eVar i ρ') fun _ => ret (Out.nx ρ')) P from w)
    exact .inl ⟨it.stop H' (at' hl'), k.nx ρ' ps' σ' H' w (R.unlend hm (r1.leave r'))⟩
/-- a, b, d = [..], x, y: the first a list of one's own, x and y written -/
def sParO3 (i j l : Nat) (e : Env → M (List D)) (x y : Int) : Env → M Out := fun ρ => bnd (e ρ) fun ds => ret (.nx (((ρ.set i (some (.list ds))).set j (some (.int x))).set l (some (.int y))))
theorem sem_parO3 {i j l : Nat} {x y : Int} {t : TE} {e : Env → M (List D)} (h : SemL s Γ t e) (hi : i < Γ.length) (hj : (Γ.set i .own)[j]? = some .fro) (hl : (Γ.set i .own)[l]? = some .fro) : SemS s Γl Γ (Γ.set i .own) (tPar3 i j l (tCons t (tCons (tC (.int x)) (tCons (tC (.int y)) tNil)))) (sParO3 i j l e x y) := by
  intro c ρ ps σ H E P hc r q k
  refine h c ρ ps σ H _ _ hc r q fun ds p vs H1 q1 e1 hn hp dn => ?_
  obtain ⟨ps', r'⟩ := r.putOwn e1 hi hn hp dn
  exact ⟨_, _, _, rfl, k.nx _ ps' _ H1 q1 ((r'.setFro (.int x) hj).setFro (.int y) hl)⟩
/-! ### range with the step - 1 -/
def downD (lo : Int) (n : Nat) : List D := (List.range n).map fun i => .int (lo + (i : Nat) * (-1))
def itDown (f : Env → M (List D)) : Env → M (List D) := fun ρ => bnd (f ρ) fun ds => match ds with
  | [.int m, .int n, .int z] => if (decide (z = -1) && (rngOk m && rngOk n)) = true then ret (downD m (m - n).toNat) else stuck
  | _ => stuck
theorem items_down {H : Hp} {S U : AS} {lo : Int} {n : Nat} (hz : n ≤ sizeLine) : Items (Itc lo (-1) n) S U H (downD lo n) where
  len := by unfold downD; simpa using hz
  go := fun i H' l hi => by
    show i < n
    unfold downD at hi
    simpa using hi
  stop := fun H' l => by show n ≤ _; unfold downD; simp
  yld := fun i d H' x H'' l lu hd y => by
    obtain ⟨rfl, rfl⟩ := y
    unfold downD at hd
    rw [List.getElem?_map, Option.map_eq_some_iff] at hd
    obtain ⟨j, hj, rfl⟩ := hd
    have e : j = i := by
      rw [List.getElem?_range] at hj
      · exact (Option.some.inj hj).symm
      · exact Nat.lt_of_not_le fun z => by rw [List.getElem?_eq_none (by simpa using z)] at hj; cases hj
    subst e
    exact ⟨fun _ _ q => q, fun q => q, fun _ _ _ => .int _⟩
theorem Views.three {c : Fx} {ps : List Addr} {H : Hp} {vs : List V} {d e f : D} (h : Views c ps H vs [d, e, f]) : ∃ v w x, vs = [v, w, x] ∧ View c ps H v d ∧ View c ps H w e ∧ View c ps H x f := by
  cases h with
  | cons h t =>
    obtain ⟨w, x, rfl, h2, h3⟩ := t.two
    exact ⟨_, _, _, rfl, h, h2, h3⟩
theorem down_any {t : TA} {f : Env → M (List D)} (h : SemAV s Γ t f) {c : Fx} {ρ : Env} {ps : List Addr} {σ : St} {H : Hp} {R' : It → Hp → Prop} {P : List D → Prop} (hc : c.s = s) (r0 : R c Γ ρ ps σ H) (q : itDown f ρ P) {S : AS}
    (k : ∀ ds J H1, P ds → Stp c H H1 → Items J S (c.U ps) H1 ds → R' J H1) : iRng3 t σ H R' := by
  refine h c ρ ps σ H _ _ hc r0 q fun ds vs H1 q1 e1 d1 => ?_
  dsimp only at q1
  split at q1
  · rename_i m n z
    split at q1
    · rename_i hr
      have hr' : z = -1 ∧ rngOk m = true ∧ rngOk n = true := by simpa using hr
      obtain ⟨rfl, h2, h3⟩ := hr'
      have b1 := rngOk_b h2
      have b2 := rngOk_b h3
      obtain ⟨v, w, x, rfl, dv, dw, dx⟩ := d1.three
      refine ⟨m, n, -1, (m - n).toNat, by rw [dv.int, dw.int, dx.int], RgC.neg (by omega) (by omega) (by omega) (by omega), ?_⟩
      exact k _ _ H1 q1 e1 (items_down (sz_1e5 (by omega)))
    · cases q1
  · cases q1
theorem semI_down {t : TA} {f : Env → M (List D)} (h : SemAV s Γ t f) : SemI s Γ (iRng3 t) (itDown f) := fun c ρ ps σ H R' P hc r0 q k => down_any h hc r0 q k
end
end Py
end
section
set_option maxHeartbeats 1000000
/-! PyDc: sorted(dict(pairs)), the keys tuples of ints. -/
namespace L2
open PySem PySem.Spec PyProof.Rows
variable {X : Cx}
def mergeT (kvs more : List (List Key × V)) : List (List Key × V) := more.foldl (fun acc kv => putK acc kv.1 kv.2) kvs
theorem length_mergeT : ∀ (more kvs : List (List Key × V)), (mergeT kvs more).length ≤ kvs.length + more.length
  | [], kvs => by show kvs.length ≤ kvs.length + 0; omega
  | p :: r, kvs => by
    have h1 := length_mergeT r (putK kvs p.1 p.2)
    have h2 := length_putK kvs p.1 p.2
    show (mergeT (putK kvs p.1 p.2) r).length ≤ _
    rw [List.length_cons]; omega
abbrev PQ (K : PySem.W.Frag) (H : Hp) : List (Addr × Addr) → List (List Key × V) → Prop := Paired fun pq kv => SqT K H pq.1 [V.ref pq.2, kv.2] ∧ H pq.2 = some (.tup (kv.1.map kV))
theorem KT.merge {H : Hp} : ∀ {more : List (List Key × V)} {rs : List (List Key × Addr × Value)} {kvs : List (List Key × V)} {xs : List (List Key × Addr × Value)}, KT H more rs → KT H kvs xs → KT H (mergeT kvs more) (storedAllH xs rs) := by
  intro more rs kvs xs r
  unfold KT at r
  induction r generalizing kvs xs with
  | nil => intro q; exact q
  | @cons p q ps qs h t ih =>
    intro r0
    obtain ⟨h1, h2, h3⟩ := h
    have e : KT H (putK kvs p.1 p.2) (storedH xs q.1 q.2.1 q.2.2) := by
      have := r0.put p.1 h2 h3
      rw [← h1]; exact this
    exact ih e
theorem pq_of {pins : List (Addr × Obj)} {σ : St} {H : Hp} {s : Shared} (I : Inv X pins σ H s) : ∀ {pqs : List (Addr × Addr)} {kvs : List (List Key × V)}, PQ X.K H pqs kvs →
    ∃ prs : List (List Key × Addr × Value), KT H kvs prs ∧ prs.length = pqs.length ∧ ∀ (j : Nat) (q : List Key × Addr × Value), prs[j]? = some q → ∃ b : Addr × Addr, pqs[j]? = some b ∧ b.2 = q.2.1 ∧ IsTup s.heap b.1 #[.ref q.2.1, q.2.2] ∧ (tupleKind (mixKind X.prog X.w)).is s.heap q.1 q.2.1
  | _, _, .nil => ⟨[], .nil, rfl, fun j q e => by simp at e⟩
  | _, _, .cons (a := p) (b := kv) h t => by
    obtain ⟨prs, r, hl, hp⟩ := pq_of I t
    obtain ⟨h, hk⟩ := h
    obtain ⟨its, rv, ht, _⟩ := I.tuple h
    obtain ⟨u, y, ei, ru, ry⟩ := vals2 rv
    subst ei
    cases ru
    refine ⟨(kv.1, p.2, y) :: prs, .cons ⟨rfl, hk, ry⟩ r, by rw [List.length_cons, List.length_cons, hl], fun j q e => ?_⟩
    cases j with
    | zero =>
      have e' : (kv.1, p.2, y) = q := Option.some.inj e
      subst e'
      exact ⟨p, rfl, rfl, ht, key_of I.hok hk⟩
    | succ j =>
      obtain ⟨b, e1, e2, e3, e4⟩ := hp j q (by simpa using e)
      exact ⟨b, by simpa using e1, e2, e3, e4⟩
def rDictT (K : PySem.W.Frag) : List V → Hp → VK → Prop := fun xs H Q => ∃ (a : Addr) (pqs : List (Addr × Addr)) (kvs : List (List Key × V)), xs = [.ref a] ∧ SqL K H a (pqs.map fun pq => V.ref pq.1) ∧ PQ K H pqs kvs ∧
    ∀ p, H p = none → Q (.ref p) (upd H p (.dT (mergeT [] kvs)))
theorem cr_dictT (hcalm : X.calm = true) (hu : X.A.units + 2 < cLine) : CallR X (.type "dict") (rDictT X.K) := by
  intro pins s σ H xs us Q I r q
  obtain ⟨a, pqs, kvs, ex, hq, hp, q⟩ := q
  subst ex
  obtain ⟨u, eu, rx⟩ := vals1 r
  subst eu
  cases rx
  obtain ⟨its, rv, pl, hz⟩ := I.list hq
  have em : (pqs.map fun pq => V.ref pq.1) = (pqs.map (·.1)).map V.ref := by rw [List.map_map]; rfl
  rw [em] at rv hz
  have ei := refs_at rv
  subst ei
  rw [List.length_map, List.length_map] at hz
  obtain ⟨prs, rel, hl, hpr⟩ := pq_of I hp
  obtain ⟨o, n, ho, hc, hd, hdat⟩ := pl
  have Pr := PairArg.list (prog := X.prog) (w := X.w) a ((pqs.map (·.1)).map Value.ref).toArray (fun j => (pqs.map (·.1)).getD j 0) (prs.map fun x => (Value.ref x.2.1, x.2.2))
  have ok : PlainSeq "list" s.heap a ((pqs.map (·.1)).map Value.ref).toArray ∧ PairItems s.heap ((pqs.map (·.1)).map Value.ref).toArray (fun j => (pqs.map (·.1)).getD j 0) (prs.map fun x => (Value.ref x.2.1, x.2.2)) := by
    refine ⟨⟨o, n, ho, hc, hd, hdat⟩, by simp [hl], fun j k v e => ?_⟩
    rw [List.getElem?_map, Option.map_eq_some_iff] at e
    obtain ⟨x, hx, e⟩ := e
    obtain ⟨rfl, rfl⟩ := Prod.mk.inj e
    obtain ⟨b, e1, e2, e3, e4⟩ := hpr j x hx
    have eT : (pqs.map (·.1)).getD j 0 = b.1 := by
      rw [List.getD_eq_getElem?_getD, List.getElem?_map, e1]
      rfl
    refine ⟨?_, .inl ?_⟩
    · show _ = some (Value.ref ((pqs.map (·.1)).getD j 0))
      rw [eT]
      simp [e1]
    · show s.heap.IsTuple ((pqs.map (·.1)).getD j 0) _
      rw [eT]
      exact e3
  refine call_dict_pairsH (knd := tupleKind (mixKind X.prog X.w)) (ps := prs) Pr (I.ok.hd hcalm) (show X.A.units + 1 + 1 < cLine by omega) ok ?_ ?_ (by rw [List.length_map, hl]; exact hz) fun h' tk hd' k => ?_
  · refine ⟨by rw [List.length_map], fun i key v e => ?_⟩
    have e : (prs.map fun x => (Value.ref x.2.1, x.2.2))[i]? = some (key, v) := e
    rw [List.getElem?_map, Option.map_eq_some_iff] at e
    obtain ⟨x, hx, e⟩ := e
    obtain ⟨rfl, rfl⟩ := Prod.mk.inj e
    exact ⟨x.1, x.2.1, hx, rfl⟩
  · intro h' hk x hx
    obtain ⟨i, hi⟩ := List.getElem?_of_mem hx
    obtain ⟨b, e1, e2, e3, e4⟩ := hpr i x hi
    exact tupleKind_stays.stays (fun b o vs n e _ => hk b o (Nat.ne_of_lt (Heap.lt_size e)) (fun z => nomatch z) e) e4
  · have hm : (s.heap.objs.size == sysModules) = false := beq_eq_false_iff_ne.mpr (Nat.ne_of_gt I.big)
    have hn := I.hok.fresh (Nat.le_refl s.heap.objs.size)
    have hlen : (mergeT [] kvs).length ≤ sizeLine := by
      refine Nat.le_trans (length_mergeT kvs []) ?_
      rw [List.length_nil, Nat.zero_add, Paired.length rel, hl]
      exact hz
    obtain ⟨q', es, ep, hq', h2, h3, h4, _, h5⟩ := hd'
    refine ⟨.ref s.heap.objs.size, upd H s.heap.objs.size (.dT (mergeT [] kvs)), I.laid (t' := tk) (fun b o e => k b o (fun z => nomatch z) e) (Nat.le_refl _) (show ObjOk X.prog X.w _ _ _ (.dT (mergeT [] kvs)) from ⟨hlen, hm, _, (KT.merge rel .nil).keeps fun c ys ec => ?_, q', es, ep, hq', h2, h3, h4, h5⟩), rfl, q _ hn⟩
    rw [upd_ne (fun z => by rw [z, hn] at ec; cases ec)]
    exact ec
end L2
namespace Py
open PySem L2 StX
section
variable {s : Sx} {Γ : List Md} {K : PySem.W.Frag}
/-- the keys of pairs -/
def pairKeys : List D → Option (List (List Int))
  | [] => some []
  | .tuple [.tuple es, _] :: ds => match intsD es, pairKeys ds with
    | some is, some ks => some (is :: ks)
    | _, _ => none
  | _ :: _ => none
def dedup (ks : List (List Int)) : List (List Int) := ks.foldl putI []
theorem pairs_den {H : Hp} {U : AS} : ∀ {ds : List D} {vs : List V} {ks : List (List Int)}, DenL H U vs ds → pairKeys ds = some ks →
    ∃ (pqs : List (Addr × Addr)) (kvs : List (List L2.Key × V)), vs = pqs.map (fun pq => V.ref pq.1) ∧ PQ K H pqs kvs ∧ kvs.map (·.1) = ks.map (fun k => k.map Sum.inl)
  | [], vs, ks, h, e => by
    cases h
    cases e
    exact ⟨[], [], rfl, .nil, rfl⟩
  | d :: ds, vs, ks, h, e => by
    cases h with
    | @cons v vs _ _ h1 h2 =>
      unfold pairKeys at e
      split at e
      · cases ‹d :: ds = []›
      · rename_i es x ds' he
        cases he
        split at e
        · rename_i is ks' ei ek
          cases e
          obtain ⟨pqs, kvs, rfl, hp, hk⟩ := pairs_den h2 ek
          cases h1 with
          | @tup a xs _ ha hu dn =>
            cases dn with
            | @cons v1 vs1 _ _ g1 g2 =>
              cases g2 with
              | @cons v2 vs2 _ _ g2 g3 =>
                cases g3
                cases g1 with
                | @tup b ys _ hb hub dnb =>
                  have ex := dnb.ints ei
                  subst ex
                  refine ⟨(a, b) :: pqs, (is.map Sum.inl, v2) :: kvs, rfl, .cons ⟨SqT.of ha, ?_⟩ hp, by simp [hk]⟩
                  show H b = some (.tup ((is.map Sum.inl).map kV))
                  rw [hb, List.map_map]
                  rfl
        · cases e
      · cases e
theorem mergeT_keys : ∀ (more : List (List L2.Key × V)) (ms : List (List Int)) (kvs : List (List L2.Key × V)) (ks : List (List Int)), more.map (·.1) = ms.map (fun k => k.map Sum.inl) → kvs.map (·.1) = ks.map (fun k => k.map Sum.inl) →
    (mergeT kvs more).map (·.1) = (ms.foldl putI ks).map (fun k => k.map Sum.inl)
  | [], [], _, _, _, h => h
  | [], _ :: _, _, _, e, _ => by simp at e
  | _ :: _, [], _, _, e, _ => by simp at e
  | p :: more, m :: ms, kvs, ks, e, h => by
    simp only [List.map_cons, List.cons.injEq] at e
    obtain ⟨e1, e2⟩ := e
    have := mergeT_keys more ms (putK kvs (m.map Sum.inl) p.2) (putI ks m) e2 (putK_keys h)
    show (mergeT (putK kvs p.1 p.2) more).map (·.1) = ((ms.foldl putI (putI ks m))).map _
    rw [e1]
    exact this
/-- sorted(dict(pairs)) -/
def eSrtP (e : Env → M D) : Env → M (List D) := fun ρ => bnd (e ρ) fun d => match d with
  | .list ds => match pairKeys ds with
    | some ks => if (srtOk (keyT (dedup ks)) && lenOk (keyT (dedup ks)).length) = true then ret ((keyT (dedup ks)).mergeSort leD) else stuck
    | none => stuck
  | _ => stuck
theorem sem_srtP {t : TE} {e : Env → M D} (h : SemE s Γ t e) : SemL s Γ (tCB rSortDT (tCons (tCB (rDictT K) (tCons t tNil)) tNil)) (eSrtP e) := by
  intro c ρ ps σ H Q P hc r q k
  refine h c ρ ps σ H _ _ hc r q fun d v H1 q1 e1 d1 => ?_
  have r1 := r.stp e1
  dsimp only at q1
  split at q1
  · rename_i ds
    cases ek : pairKeys ds with
    | none => rw [ek] at q1; exact False.elim q1
    | some ks =>
      rw [ek] at q1
      dsimp only at q1
      split at q1
      · rename_i ok0
        rw [Bool.and_eq_true] at ok0
        obtain ⟨ok, lok⟩ := ok0
        cases d1 with
        | @lst a xs _ ha hu dn =>
          obtain ⟨pqs, kvs, rfl, hp, hk⟩ := pairs_den (K := K) dn ek
          refine ⟨a, pqs, kvs, rfl, SqL.of ha, hp, fun p hn => ?_⟩
          have e2 : Stp c H1 (upd H1 p (.dT (mergeT [] kvs))) := Stp.new r1.ok hn fun xs z => by rcases z with z | z <;> cases z
          have r2 := r1.stp e2
          have hks : (mergeT [] kvs).map (·.1) = (dedup ks).map (fun k => k.map Sum.inl) := mergeT_keys kvs ks [] [] hk rfl
          refine ⟨p, mergeT [] kvs, dedup ks, rfl, upd_same, hks, ok, fun a bs ha isk => ?_⟩
          have dn := (keys_den r2.loose hks isk).srt
          have hz : ((((bs.map V.ref).zip (keyT (dedup ks))).mergeSort fun x y => leD x.2 y.2).map (·.1)).length ≤ sizeLine := by
            have e := congrArg List.length hks
            rw [List.length_map, List.length_map] at e
            rw [List.length_map, List.length_mergeSort, List.length_zip, List.length_map]
            have l2 : (mergeT [] kvs).length = bs.length := Paired.length isk
            have : (keyT (dedup ks)).length ≤ sizeLine := lenOk_sz lok
            omega
          exact k _ a _ _ q1 ((e1.trans e2).trans (Stp.lst r2.ok ha hz)) (e1.fresh (e2.fresh ha)) upd_same (dn.plus ha)
      · exact False.elim q1
  · exact False.elim q1
theorem kDictT {X : Cx} {k : Nat} (hc : X.calm = true) (r : Room k X.A) (h : X.K = K := by rfl) : CallR X (.type "dict") (rDictT K) := by subst h; exact cr_dictT hc (by have := r.u67; omega)
end
end Py
end
section
set_option maxHeartbeats 1000000
/-! PyDd: tuples of targets, one of them a list of one's own, some of the names cells. -/
namespace Py
open PySem L2 StX
section
variable {s : Sx} {Γ Γ' Γl : List Md} {K : PySem.W.Frag}
theorem sem_asgO3 {i j l : Nat} {x y : Int} {t : TE} {e : Env → M (List D)} (h : SemL s Γ t e) (hi : i < Γ.length) (hj : (Γ.set i .own)[j]? = some .fro) (hl : (Γ.set i .own)[l]? = some .fro) :
    SemS s Γl Γ (Γ.set i .own) (tAsg (tTup (tCons t (tCons (tC (.int x)) (tCons (tC (.int y)) tNil)))) (gTup K 3 (gCons (gName i) (gCons (gName j) (gCons (gName l) gNil))))) (sParO3 i j l e x y) := by
  intro c ρ ps σ H E P hc r q k
  refine h c ρ ps σ H _ _ hc r q fun ds p vs H1 q1 e1 hn hp dn => ?_
  refine ⟨by show 3 ≤ sizeLine; decide, fun T hT => ⟨T, _, rfl, SqT.of upd_same, rfl, _, _, rfl, _, _, rfl, _, _, rfl, rfl, ?_⟩⟩
  have eT : Stp c H1 (upd H1 T (.tup [V.ref p, V.int x, V.int y])) := Stp.tup r.ok hT (by show 3 ≤ sizeLine; decide)
  obtain ⟨ps', r'⟩ := r.putOwn (e1.trans eT) hi hn (upd_keep hT _ _ hp) (dn.mono (fun a o z _ => upd_keep hT a o z) fun _ _ _ u => u)
  exact k.nx _ ps' _ _ q1 ((r'.setFro (.int x) hj).setFro (.int y) hl)
end
end Py
end
namespace L74
open PySem PySem.Spec PyProof.Rows L2 Py StX
def b_divisor_of_all : Py.Env → M Out := (sSeq (sAsg 1 (eC (.int 0)))
  (sSeq (sFor (itSeq (eVar 0)) (tgN 2)
  (sAsg 1 (cal cGcd (aCons (eVar 1) (aCons (eVar 2) aNil)))))
  (sRet (eVar 1))))
def F_divisor_of_all : List D → M D := fnD 2 b_divisor_of_all
def b_lines_reduced : Py.Env → M Out := (sSeq (sOwn 1 (lDisp aNil))
  (sSeq (sFor (itSeq (eVar 0)) (tgN 2)
  (sSeq (sAsg 3 (mkL (calL cLst (aCons (eVar 2) aNil))))
  (sSeq (sForO 1 (tgTup 2 (tgsCons (tgN 4) (tgsCons (tgN 5) tgsNil)))
  (sIf (tst (bin gNe (bin gIx (eVar 3) (eVar 4)) (eC (.int 0)))) (sAsg 3 (mkL (eLc (itZip (aCons (eVar 3) (aCons (eVar 5) aNil))) (tgTup 2 (tgsCons (tgN 7) (tgsCons (tgN 8) tgsNil))) cYes (bin gSub (bin gMulX (bin gIx (eVar 5) (eVar 4)) (eVar 7)) (bin gMulX (bin gIx (eVar 3) (eVar 4)) (eVar 8))) [7, 8]))) sNx))
  (sSeq (sAsg 6 (eCall 1 F_divisor_of_all (aCons (eVar 3) aNil)))
  (sIf (tst (bin gGt (eVar 6) (eC (.int 0)))) (sSeq (sAsg 3 (mkL (eLc (itSeq (eVar 3)) (tgN 7) cYes (bin gFdiv (eVar 7) (eVar 6)) [7])))
  (sApp 1 (eTup (aCons (bin gIx (mkL (eLc (itEnum (aCons (eVar 3) aNil)) (tgTup 2 (tgsCons (tgN 4) (tgsCons (tgN 7) tgsNil))) (tst (bin gNe (eVar 7) (eC (.int 0)))) (eVar 4) [4, 7])) (eC (.int 0))) (aCons (eVar 3) aNil))))) sNx)))))
  (sRetOwn 1)))
def F_lines_reduced : List D → M D := fnD 8 b_lines_reduced
def b_with_one : Py.Env → M Out := (sRet (eTup (aCons (eC (.int 1)) (aStar (eVar 0) aNil))))
def F_with_one : List D → M D := fnD 0 b_with_one
def b_table_determinant : Py.Env → M Out := (sSeq (sParO3 1 2 3 (eLc (itSeq (eVar 0)) (tgN 9) cYes (mkL (calL cLst (aCons (eVar 9) aNil))) [9]) 1 1)
  (sSeq (sFor (itRng1 (aCons (bin gSub (cal cLen (aCons (eVar 1) aNil)) (eC (.int 1))) aNil)) (tgN 4)
  (sSeq (sAsg 5 (mkL (eLc (itRng2 (aCons (eVar 4) (aCons (cal cLen (aCons (eVar 1) aNil)) aNil))) (tgN 8) (tst (bin gNe (bin gIx (bin gIx (eVar 1) (eVar 8)) (eVar 4)) (eC (.int 0)))) (eVar 8) [8])))
  (sSeq (sIf (tst (bin gEq (eVar 5) (mkL (lDisp aNil)))) (sRet (eC (.int 0))) sNx)
  (sSeq (sIf (tst (bin gNe (bin gIx (eVar 5) (eC (.int 0))) (eVar 4))) (sSeq (sAsg 6 (bin gIx (eVar 1) (eVar 4)))
  (sSeq (sSetI 1 (eVar 4) (bin gIx (eVar 1) (bin gIx (eVar 5) (eC (.int 0)))))
  (sSeq (sSetI 1 (bin gIx (eVar 5) (eC (.int 0))) (eVar 6))
  (sAsg 2 (una gNeg (eVar 2)))))) sNx)
  (sSeq (sAsg 7 (bin gIx (eVar 1) (eVar 4)))
  (sSeq (sFor (itRng2 (aCons (bin gAdd (eVar 4) (eC (.int 1))) (aCons (cal cLen (aCons (eVar 1) aNil)) aNil))) (tgN 8)
  (sSetI 1 (eVar 8) (mkL (eLc (itZip (aCons (bin gIx (eVar 1) (eVar 8)) (aCons (eVar 7) aNil))) (tgTup 2 (tgsCons (tgN 10) (tgsCons (tgN 11) tgsNil))) cYes (bin gFdiv (bin gSub (bin gMulX (eVar 10) (bin gIx (eVar 7) (eVar 4))) (bin gMulX (bin gIx (bin gIx (eVar 1) (eVar 8)) (eVar 4)) (eVar 11))) (eVar 3)) [10, 11]))))
  (sAsg 3 (bin gIx (eVar 7) (eVar 4)))))))))
  (sRet (bin gMulX (eVar 2) (bin gIx (bin gIx (eVar 1) (una gNeg (eC (.int 1)))) (una gNeg (eC (.int 1))))))))
def F_table_determinant : List D → M D := fnD 11 b_table_determinant
def b_flat_size : Py.Env → M Out := (sRet (bin gSub (cal cLen (aCons (eCall 1 F_lines_reduced (aCons (mkL (eLc (itSeq (eVar 0)) (tgN 1) cYes (eCall 1 F_with_one (aCons (eVar 1) aNil)) [1])) aNil)) aNil)) (eC (.int 1))))
def F_flat_size : List D → M D := fnD 1 b_flat_size
def b_is_on_plane : Py.Env → M Out := (sRet (bin gLt (eCall 1 F_flat_size (aCons (eVar 0) aNil)) (cal cLen (aCons (bin gIx (eVar 0) (eC (.int 0))) aNil))))
def F_is_on_plane : List D → M D := fnD 0 b_is_on_plane
def b_without_divisor : Py.Env → M Out := (sSeq (sAsg 1 (eCall 1 F_divisor_of_all (aCons (eVar 0) aNil)))
  (sSeq (sIf (tst (bin gEq (eVar 1) (eC (.int 0)))) (sRet (cal cTup (aCons (eVar 0) aNil))) sNx)
  (sSeq (sAsg 2 (bin gIx (mkL (eLc (itSeq (eVar 0)) (tgN 3) (tst (bin gNe (eVar 3) (eC (.int 0)))) (eVar 3) [3])) (eC (.int 0))))
  (sRet (cal cTup (aCons (mkL (eLc (itSeq (eVar 0)) (tgN 3) cYes (eIf (tst (bin gGt (eVar 2) (eC (.int 0)))) (bin gFdiv (eVar 3) (eVar 1)) (bin gFdiv (una gNeg (eVar 3)) (eVar 1))) [3])) aNil))))))
def F_without_divisor : List D → M D := fnD 3 b_without_divisor
def b_balance_of : Py.Env → M Out := (sSeq (sAsg 1 (mkL (eLc (itSeq (eVar 0)) (tgN 5) cYes (eCall 1 F_with_one (aCons (eVar 5) aNil)) [5])))
  (sSeq (sOwn 2 (lDisp aNil))
  (sSeq (sFor (itRng1 (aCons (cal cLen (aCons (eVar 1) aNil)) aNil)) (tgN 3)
  (sSeq (sAsg 4 (eCall 1 F_table_determinant (aCons (bin gAdd (eSl (eVar 1) oNo (oPart (eVar 3))) (eSl (eVar 1) (oPart (bin gAdd (eVar 3) (eC (.int 1)))) oNo)) aNil)))
  (sApp 2 (eIf (tst (bin gEq (bin gMod (eVar 3) (eC (.int 2))) (eC (.int 0)))) (eVar 4) (una gNeg (eVar 4))))))
  (sFrz (sRet (eCall 1 F_without_divisor (aCons (eVar 2) aNil)))))))
def F_balance_of : List D → M D := fnD 5 b_balance_of

def F__law_pick : List D → M D := F_pick
def b__law_of : Py.Env → M Out := (sRet (bin gIx (eVar 1) (eCallS 0 1 F__law_pick (aCons (cal cLen (aCons (eVar 1) aNil)) aNil))))
def F__law_of : List D → M D := fnS 0 b__law_of
def b__law_lot : Py.Env → M Out := (sSeq (sOwn 4 (lDisp aNil))
  (sSeq (sFor (itRng1 (aCons (eVar 2) aNil)) (tgN 5)
  (sSeq (sAsg 6 (cal cTup (aCons (mkL (eLc (itRng1 (aCons (eVar 1) aNil)) (tgN 7) cYes (bin gSub (eCallS 0 1 F__law_pick (aCons (bin gAdd (bin gMulX (eC (.int 2)) (eVar 3)) (eC (.int 1))) aNil)) (eVar 3)) [7])) aNil)))
  (sSeq (sWhile (fun _ => 200) (tst (bin (gIn false) (eVar 6) (eVar 4)))
  (sAsg 6 (bin gAdd (eSl (eVar 6) oNo (oPart (una gNeg (eC (.int 1))))) (eTup (aCons (bin gAdd (bin gIx (eVar 6) (una gNeg (eC (.int 1)))) (eC (.int 1))) aNil)))))
  (sApp 4 (eVar 6)))))
  (sRet (cal cTup (aCons (mkL (calL cSrt (aCons (eVar 4) aNil))) aNil)))))
def F__law_lot : List D → M D := fnS 4 b__law_lot
def b__law_turns (G__law_turns : List D → M D) : Py.Env → M Out := (sSeq (sIf (tst (bin gEq (cal cLen (aCons (eVar 0) aNil)) (eC (.int 1)))) (sRet (bin gIx (bin gIx (eVar 0) (eC (.int 0))) (eC (.int 0)))) sNx)
  (sSeq (sAsg 1 (eC (.int 0)))
  (sSeq (sFor (itEnum (aCons (bin gIx (eVar 0) (eC (.int 0))) aNil)) (tgTup 2 (tgsCons (tgN 2) (tgsCons (tgN 3) tgsNil)))
  (sSeq (sAsg 4 (eIf (tst (bin gNe (eVar 3) (eC (.int 0)))) (eCall 1 G__law_turns (aCons (mkL (eLc (itSeq (eSl (eVar 0) (oPart (eC (.int 1))) oNo)) (tgN 5) cYes (bin gAdd (eSl (eVar 5) oNo (oPart (eVar 2))) (eSl (eVar 5) (oPart (bin gAdd (eVar 2) (eC (.int 1)))) oNo)) [5])) aNil)) (eC (.int 0))))
  (sAsg 1 (bin gAdd (eVar 1) (eIf (tst (bin gEq (bin gMod (cal cInt (aCons (eVar 2) aNil)) (eC (.int 2))) (eC (.int 0)))) (bin gMulX (eVar 3) (eVar 4)) (bin gSub (eC (.int 0)) (bin gMulX (eVar 3) (eVar 4))))))))
  (sRet (eVar 1)))))
def R__law_turns : Nat → List D → M D
  | 0 => fun _ => stuck
  | n + 1 => fnD 5 (b__law_turns (R__law_turns n))
def F__law_turns : List D → M D := R__law_turns 5
def b__law_some : Py.Env → M Out := (sSeq (sAsg 2 (mkL (lDisp (aCons (eTup aNil) aNil))))
  (sSeq (sFor (itRng1 (aCons (eVar 0) aNil)) (tgN 3)
  (sAsg 2 (bin gAdd (eVar 2) (mkL (eLc (itSeq (eVar 2)) (tgN 4) (tst (bin gLt (cal cLen (aCons (eVar 4) aNil)) (eVar 1))) (bin gAdd (eVar 4) (eTup (aCons (eVar 3) aNil))) [4])))))
  (sRet (mkL (calL cSrt (aCons (mkL (eLc (itSeq (eVar 2)) (tgN 4) (tst (bin gEq (cal cLen (aCons (eVar 4) aNil)) (eVar 1))) (eVar 4) [4])) aNil))))))
def F__law_some : List D → M D := fnD 3 b__law_some
def b__law_common : Py.Env → M Out := (sSeq (sAsg 1 (eC (.int 0)))
  (sSeq (sFor (itSeq (eVar 0)) (tgN 2)
  (sSeq (sAsg 3 (cal cMax2 (aCons (eVar 2) (aCons (bin gSub (eC (.int 0)) (eVar 2)) aNil))))
  (sWhile (fun _ => 200) (tst (bin gGt (eVar 3) (eC (.int 0))))
  (sPar 1 3 (aCons (eVar 3) (aCons (bin gMod (cal cInt (aCons (eVar 1) aNil)) (eVar 3)) aNil))))))
  (sRet (eVar 1))))
def F__law_common : List D → M D := fnD 3 b__law_common
def b__law_balance : Py.Env → M Out := (sSeq (sAsg 1 (mkL (eLc (itSeq (eVar 0)) (tgN 6) cYes (bin gAdd (mkL (lDisp (aCons (eC (.int 1)) aNil))) (mkL (calL cLst (aCons (eVar 6) aNil)))) [6])))
  (sSeq (sOwn 2 (lDisp aNil))
  (sSeq (sFor (itRng1 (aCons (cal cLen (aCons (eVar 1) aNil)) aNil)) (tgN 3)
  (sApp 2 (bin gMulX (bin gSub (eC (.int 1)) (bin gMulX (eC (.int 2)) (bin gMod (cal cInt (aCons (eVar 3) aNil)) (eC (.int 2))))) (eCall 1 F__law_turns (aCons (bin gAdd (eSl (eVar 1) oNo (oPart (eVar 3))) (eSl (eVar 1) (oPart (bin gAdd (eVar 3) (eC (.int 1)))) oNo)) aNil)))))
  (sFrz (sSeq (sAsg 4 (eCall 1 F__law_common (aCons (eVar 2) aNil)))
  (sSeq (sIf (tst (bin gEq (eVar 4) (eC (.int 0)))) (sRet (cal cTup (aCons (eVar 2) aNil))) sNx)
  (sSeq (sAsg 5 (bin gIx (mkL (eLc (itSeq (eVar 2)) (tgN 7) (tst (bin gNe (eVar 7) (eC (.int 0)))) (eVar 7) [7])) (eC (.int 0))))
  (sRet (cal cTup (aCons (mkL (eLc (itSeq (eVar 2)) (tgN 7) cYes (eIf (tst (bin gGt (eVar 5) (eC (.int 0)))) (bin gFdiv (eVar 7) (eVar 4)) (bin gSub (eC (.int 0)) (bin gFdiv (eVar 7) (eVar 4)))) [7])) aNil))))))))))
def F__law_balance : List D → M D := fnD 7 b__law_balance
def b__law_flat : Py.Env → M Out := (sSeq (sAsg 1 (mkL (eLc (itSeq (eVar 0)) (tgN 5) cYes (bin gAdd (mkL (lDisp (aCons (eC (.int 1)) aNil))) (mkL (calL cLst (aCons (eVar 5) aNil)))) [5])))
  (sSeq (sFor (itDown (aCons (cal cMin2 (aCons (cal cLen (aCons (eVar 1) aNil)) (aCons (cal cLen (aCons (bin gIx (eVar 1) (eC (.int 0))) aNil)) aNil))) (aCons (eC (.int 1)) (aCons (una gNeg (eC (.int 1))) aNil)))) (tgN 2)
  (sFor (itSeq (eCall 2 F__law_some (aCons (cal cLen (aCons (eVar 1) aNil)) (aCons (eVar 2) aNil)))) (tgN 3)
  (sFor (itSeq (eCall 2 F__law_some (aCons (cal cLen (aCons (bin gIx (eVar 1) (eC (.int 0))) aNil)) (aCons (eVar 2) aNil)))) (tgN 4)
  (sIf (tst (bin gNe (eCall 1 F__law_turns (aCons (mkL (eLc (itSeq (eVar 3)) (tgN 6) cYes (mkL (eLc (itSeq (eVar 4)) (tgN 7) cYes (bin gIx (bin gIx (eVar 1) (eVar 6)) (eVar 7)) [7])) [6])) aNil)) (eC (.int 0)))) (sRet (bin gSub (eVar 2) (eC (.int 1)))) sNx))))
  (sRet (eC (.int 0)))))
def F__law_flat : List D → M D := fnD 7 b__law_flat
def b_law : Py.Env → M Out := (sSeq (sFor (itRng1 (aCons (eC (.int 4)) aNil)) (tgN 2)
  (sSeq (sAsg 3 (bin gAdd (eC (.int 1)) (eCallS 1 1 F__law_pick (aCons (eC (.int 4)) aNil))))
  (sSeq (sAsg 4 (cal cTup (aCons (mkL (eLc (itRng1 (aCons (eVar 3) aNil)) (tgN 11) cYes (cal cTup (aCons (mkL (eLc (itRng1 (aCons (eVar 3) aNil)) (tgN 13) cYes (bin gSub (eCallS 1 1 F__law_pick (aCons (eC (.int 9)) aNil)) (eC (.int 4))) [13])) aNil)) [11])) aNil)))
  (sSeq (sIf (tst (bin gEqX (eCallS 1 1 F__law_pick (aCons (eC (.int 3)) aNil)) (eC (.int 0)))) (sAsg 4 (bin gAdd (eSl (eVar 4) oNo (oPart (una gNeg (eC (.int 1))))) (eTup (aCons (bin gIx (eVar 4) (eC (.int 0))) aNil)))) sNx)
  (sSeq (sIf (tst (bin gNeX (cal cReprX (aCons (eCall 1 F_table_determinant (aCons (eVar 4) aNil)) aNil)) (cal cReprX (aCons (eCall 1 F__law_turns (aCons (mkL (eLc (itSeq (eVar 4)) (tgN 14) cYes (mkL (calL cLst (aCons (eVar 14) aNil))) [14])) aNil)) aNil)))) (sRet (eC (.bool false))) sNx)
  (sSeq (sAsg 5 (bin gAdd (eC (.int 1)) (eCallS 1 1 F__law_pick (aCons (eC (.int 3)) aNil))))
  (sSeq (sAsg 6 (eCallS 1 3 F__law_lot (aCons (eVar 5) (aCons (bin gAdd (eC (.int 1)) (eCallS 1 1 F__law_pick (aCons (eC (.int 6)) aNil))) (aCons (eCallS 1 1 F__law_of (aCons (mkL (lDisp (aCons (eC (.int 2)) (aCons (eC (.int 30)) aNil)))) aNil)) aNil)))))
  (sSeq (sIf (bAnd (tst (bin gEqX (eCallS 1 1 F__law_pick (aCons (eC (.int 3)) aNil)) (eC (.int 0)))) (tst (bin gGt (eVar 5) (eC (.int 1))))) (sAsg 6 (cal cTup (aCons (mkL (eSrtP (mkL (eLc (itSeq (eVar 6)) (tgN 15) cYes (eTup (aCons (bin gAdd (eSl (eVar 15) oNo (oPart (una gNeg (eC (.int 1))))) (eTup (aCons (cal cSumX (aCons (eSl (eVar 15) oNo (oPart (una gNeg (eC (.int 1))))) aNil)) aNil))) (aCons (eC (.int 0)) aNil))) [15])))) aNil))) sNx)
  (sSeq (sPar 7 8 (aCons (cal cReprX (aCons (eVar 6) aNil)) (aCons (eCall 1 F__law_flat (aCons (eVar 6) aNil)) aNil)))
  (sSeq (sIf (tst (bin gNeX (cal cReprX (aCons (mkL (lDisp (aCons (eCall 1 F_flat_size (aCons (eVar 6) aNil)) (aCons (eCall 1 F_is_on_plane (aCons (eVar 6) aNil)) aNil)))) aNil)) (cal cReprX (aCons (mkL (lDisp (aCons (eVar 8) (aCons (bin gLt (eVar 8) (eVar 5)) aNil)))) aNil)))) (sRet (eC (.bool false))) sNx)
  (sSeq (sAsg 9 (eCallS 1 3 F__law_lot (aCons (eVar 5) (aCons (bin gAdd (eVar 5) (eC (.int 2))) (aCons (eCallS 1 1 F__law_of (aCons (mkL (lDisp (aCons (eC (.int 2)) (aCons (eC (.int 30)) aNil)))) aNil)) aNil)))))
  (sSeq (sAsg 10 (eCall 1 F_balance_of (aCons (eVar 9) aNil)))
  (sSeq (sIf (bOr (tst (bin gNeX (cal cReprX (aCons (eVar 10) aNil)) (cal cReprX (aCons (eCall 1 F__law_balance (aCons (eVar 9) aNil)) aNil)))) (tst (bin gNeX (cal cSumX (aCons (eVar 10) aNil)) (eC (.int 0))))) (sRet (eC (.bool false))) sNx)
  (sSeq (sIf (tst (bin gNeX (mkL (eLc (itRng1 (aCons (eVar 5) aNil)) (tgN 13) (tst (bin gNeX (cal cSumX (aCons (mkL (eLc (itZip (aCons (eVar 10) (aCons (eVar 9) aNil))) (tgTup 2 (tgsCons (tgN 12) (tgsCons (tgN 15) tgsNil))) cYes (bin gMulX (eVar 12) (bin gIx (eVar 15) (eVar 13))) [12, 15])) aNil)) (eC (.int 0)))) (eVar 13) [13])) (mkL (lDisp aNil)))) (sRet (eC (.bool false))) sNx)
  (sSeq (sFor (itEnum (aCons (eVar 10) aNil)) (tgTup 2 (tgsCons (tgN 11) (tgsCons (tgN 12) tgsNil)))
  (sIf (tst (bin gNeX (bin gEqX (eVar 12) (eC (.int 0))) (eCall 1 F_is_on_plane (aCons (bin gAdd (eSl (eVar 9) oNo (oPart (eVar 11))) (eSl (eVar 9) (oPart (bin gAdd (eVar 11) (eC (.int 1)))) oNo)) aNil)))) (sRet (eC (.bool false))) sNx))
  (sIf (tst (bin gNeX (cal cReprX (aCons (eVar 6) aNil)) (eVar 7))) (sRet (eC (.bool false))) sNx))))))))))))))))
  (sRet (bin gEqX (eCall 1 F_balance_of (aCons (eTup (aCons (eTup (aCons (eC (.int 0)) aNil)) (aCons (eTup (aCons (eC (.int 1)) aNil)) (aCons (eTup (aCons (eC (.int 3)) aNil)) aNil)))) aNil)) (eTup (aCons (eC (.int 2)) (aCons (una gNeg (eC (.int 3))) (aCons (eC (.int 1)) aNil)))))))
end L74
namespace L74
open PySem hiding ret
open Py L2
def Bd (x : Int) : Prop := x.natAbs < 2^1000
theorem mulB {x y : Int} (hx : Bd x) (hy : Bd y) : mulOk x y = true := by
  have h : ∀ z : Int, Bd z → z.natAbs.log2 < 1001 := by
    intro z hz
    by_cases h0 : z.natAbs = 0
    · rw [h0]; decide
    · exact Nat.lt_succ_of_lt ((Nat.log2_lt h0).mpr hz)
  have a := h x hx
  have b := h y hy
  simp only [mulOk, decide_eq_true_eq]; omega
theorem divB {x y : Int} (hy : Bd y) (h0 : y ≠ 0) : divOk x y = true := by
  have : y.natAbs.log2 < 1000 := (Nat.log2_lt (by omega)).mpr hy
  simp only [divOk, decide_eq_true_eq]; exact ⟨h0, by omega⟩
theorem ixN_nat {n i : Nat} (h : i < n) : ixN n (i : Int) = some i := by
  unfold ixN
  simp [h]
theorem atI_nat {α : Type} {xs : List α} {i : Nat} {x : α} (h : xs[i]? = some x) : L2.atI xs (i : Int) = some x := by
  have hi : i < xs.length := (List.getElem?_eq_some_iff.mp h).1
  unfold L2.atI
  rw [ixN_nat hi]; exact h
theorem rangeD_succ (lo : Nat) (m : Nat) : rangeD lo (m + 1) = .int lo :: rangeD (lo + 1 : Nat) m := by
  simp only [rangeD, List.range_succ_eq_map, List.map_cons, List.map_map]
  congr 1
  simp
  intro a _; omega
theorem forW_cons (tg : D → Py.Env → M Py.Env) (body : Py.Env → M Out) (d : D) (ds : List D) (ρ : Py.Env) : forW tg body (d :: ds) ρ = bnd (tg d ρ) fun ρ' => bnd (body ρ') fun o => oLoop o (forW tg body ds) := rfl
theorem getD_some {α : Type} {xs : List α} {k : Nat} {d : α} (h : k < xs.length) : xs[k]? = some (xs.getD k d) := by
  rw [List.getD_eq_getElem?_getD, List.getElem?_eq_getElem h]; rfl
theorem eqv_int (a b : Int) : PyData.eqv (.int a) (.int b) = decide (a = b) := by
  by_cases h : a = b <;> simp [PyData.eqv, h]
theorem shp_int (a : Int) : shp (.int a) = true := rfl
theorem canLayAll_ints : ∀ xs : List Int, PyData.canLayAll0 (dInts xs) = true
  | [] => by simp [dInts, PyData.canLayAll0]
  | x :: xs => by
    show PyData.canLayAll0 (.int x :: dInts xs) = true
    simp [PyData.canLayAll0, PyData.canLay0, canLayAll_ints xs]
theorem depthAll_ints : ∀ xs : List Int, PyData.depthAll (dInts xs) = 0
  | [] => by simp [dInts, PyData.depthAll]
  | x :: xs => by
    show PyData.depthAll (.int x :: dInts xs) = 0
    simp [PyData.depthAll, PyData.depth, depthAll_ints xs]
theorem shp_ints (xs : List Int) : shp (.list (dInts xs)) = true := by
  show SeqAt.shaped _ = true
  simp [SeqAt.shaped, PyData.canLay0, PyData.depth, canLayAll_ints, depthAll_ints]
theorem shp_intsT (xs : List Int) : shp (tupI xs) = true := by
  show SeqAt.shaped (.tuple (dInts xs)) = true
  simp [SeqAt.shaped, PyData.canLay0, PyData.depth, canLayAll_ints, depthAll_ints]
theorem shp_nil : shp (.list []) = true := rfl
theorem eqv_ints_nil (xs : List D) : PyData.eqv (.list xs) (.list []) = xs.isEmpty := by
  cases xs <;> simp [PyData.eqv, PyData.eqvAll]
def B (n : Nat) (x : Int) : Prop := x.natAbs ≤ 2 ^ n
theorem B.mono {n m : Nat} {x : Int} (h : B n x) (hm : n ≤ m) : B m x := Nat.le_trans h (Nat.pow_le_pow_right (by decide) hm)
theorem B.mul {n m : Nat} {x y : Int} (hx : B n x) (hy : B m y) : B (n + m) (x * y) := by
  unfold B at *
  rw [Int.natAbs_mul, Nat.pow_add]
  exact Nat.mul_le_mul hx hy
theorem B.sub {n : Nat} {x y : Int} (hx : B n x) (hy : B n y) : B (n + 1) (x - y) := by
  unfold B at *
  rw [Nat.pow_succ]; omega
theorem B.add {n : Nat} {x y : Int} (hx : B n x) (hy : B n y) : B (n + 1) (x + y) := by
  unfold B at *
  rw [Nat.pow_succ]; omega
theorem B.bd {n : Nat} {x : Int} (hx : B n x) (hn : n < 1000) : Bd x := Nat.lt_of_le_of_lt hx (Nat.pow_lt_pow_right (by decide) hn)
theorem B.neg {n : Nat} {x : Int} (hx : B n x) : B n (-x) := by unfold B at *; omega
theorem cutD_from {ds : List D} {j : Nat} (h : j ≤ ds.length) : cutD ds (some (j : Int)) none = ds.drop j := by
  unfold cutD
  rw [HT.sIx_nat, HT.sIx_none, Nat.min_eq_left h]
  exact List.take_of_length_le (by simp)
theorem cutD_to {ds : List D} {j : Nat} (h : j ≤ ds.length) : cutD ds none (some (j : Int)) = ds.take j := by
  unfold cutD
  rw [HT.sIx_nat, HT.sIx_none, Nat.min_eq_left h]
  simp
theorem eCall_2 (F : List D → M D) {f : Py.Env → M (List D)} {ρ : Py.Env} {x y : D} (h : f ρ = ret [x, y]) : eCall 2 F f ρ = F [x, y] := by
  rw [x_eCall, h, bnd_ret', if_pos (by simp)]
theorem args_2 {i j : Nat} {ρ : Py.Env} {x y : D} (hx : ρ[i]? = some (some x)) (hy : ρ[j]? = some (some y)) : (aCons (eVar i) (aCons (eVar j) aNil)) ρ = ret [x, y] := by
  simp only [x_aCons, x_aNil, x_eVar, hx, hy, Option.getD_some, optM_some, bnd_ret']
theorem cAll_map {α : Type} (l : List α) (p : α → Bool) : cAll [.list (l.map fun a => .bool (p a))] = ret (.bool (l.all p)) := by
  have := cAll_bools (l.map p)
  rw [List.map_map] at this
  rw [show (l.map fun a => PyData.bool (p a)) = l.map (PyData.bool ∘ p) from rfl, this]
  congr 2
  rw [List.all_map]; rfl
theorem cAny_map {α : Type} (l : List α) (p : α → Bool) : cAny [.list (l.map fun a => .bool (p a))] = ret (.bool (l.any p)) := by
  have := cAny_bools (l.map p)
  rw [List.map_map] at this
  rw [show (l.map fun a => PyData.bool (p a)) = l.map (PyData.bool ∘ p) from rfl, this]
  congr 2
  rw [List.any_map]; rfl
theorem layD {k : Nat} : ∀ {ds : List D}, (∀ d ∈ ds, d.canLay0 = true ∧ d.depth ≤ k) → PyData.canLayAll0 ds = true ∧ PyData.depthAll ds ≤ k
  | [], _ => ⟨rfl, Nat.zero_le _⟩
  | d :: ds, h => by
    obtain ⟨h1, h2⟩ := layD fun x hx => h x (List.mem_cons_of_mem _ hx)
    obtain ⟨h3, h4⟩ := h d (by simp)
    refine ⟨?_, Nat.max_le.mpr ⟨h4, h2⟩⟩
    show (d.canLay0 && PyData.canLayAll0 ds) = true
    rw [h3, h1]; rfl
theorem shp_of {d : D} (h1 : d.canLay0 = true) (h2 : d.depth ≤ 64) : shp d = true := by
  show (d.canLay0 && decide (d.depth ≤ 64)) = true
  rw [h1, decide_eq_true h2]; rfl
theorem lay_ints (xs : List Int) : (tupI xs).canLay0 = true ∧ (tupI xs).depth ≤ 1 := by
  show PyData.canLay0 (.tuple (dInts xs)) = true ∧ PyData.depth (.tuple (dInts xs)) ≤ 1
  simp [PyData.canLay0, PyData.depth, canLayAll_ints, depthAll_ints]
theorem minD_mem : ∀ (ds : List D) (d : D), W.minD d ds ∈ d :: ds
  | [], d => by simp [W.minD]
  | e :: ds, d => by
    show W.minD (if W.dataLt e d then e else d) ds ∈ _
    have := minD_mem ds (if W.dataLt e d then e else d)
    rcases List.mem_cons.mp this with h | h
    · rw [h]; split <;> simp
    · exact List.mem_cons_of_mem _ (List.mem_cons_of_mem _ h)
def wholeB : D → Bool
  | .int _ => true
  | _ => false
theorem eCall_1 (F : List D → M D) {f : Py.Env → M (List D)} {ρ : Py.Env} {x : D} (h : f ρ = ret [x]) : eCall 1 F f ρ = F [x] := by
  rw [x_eCall, h, bnd_ret', if_pos (by simp)]
theorem args_1 {i : Nat} {ρ : Py.Env} {x : D} (hx : ρ[i]? = some (some x)) : (aCons (eVar i) aNil) ρ = ret [x] := by
  simp only [x_aCons, x_aNil, x_eVar, hx, Option.getD_some, optM_some, bnd_ret']
def isTup : D → Bool
  | .tuple _ => true
  | _ => false
theorem isi_tup (d : D) : gIsi "tuple" d = ret (.bool (isTup d)) := by cases d <;> rfl
theorem len1 {x : D} : (if lenOk (List.length [x]) = true then ret (PyData.tuple [x]) else (stuck : M D)) = ret (.tuple [x]) := if_pos rfl
theorem eTup_1 {a : Py.Env → M D} {ρ : Py.Env} {x : D} (h : a ρ = ret x) : eTup (aCons a aNil) ρ = ret (.tuple [x]) := by
  rw [x_eTup, x_aCons, h, bnd_ret', x_aNil, bnd_ret', bnd_ret', if_pos (show lenOk (List.length [x]) = true from by simp [lenOk])]
theorem eTup_2 {a b : Py.Env → M D} {ρ : Py.Env} {x y : D} (h : a ρ = ret x) (h' : b ρ = ret y) : eTup (aCons a (aCons b aNil)) ρ = ret (.tuple [x, y]) := by
  rw [x_eTup, x_aCons, h, bnd_ret', x_aCons, h', bnd_ret', x_aNil, bnd_ret', bnd_ret', bnd_ret', if_pos (show lenOk (List.length [x, y]) = true from by simp [lenOk])]
theorem pick_c {s : Nat} {m : Int} {e : Py.Env → M D} {ρ : Py.Env} {P : D → Prop} (h1 : ρ[s]? = some (some .none)) (he : e ρ = ret (.int m)) (h2 : 2 ≤ m) (h3 : m < 1073741824) (k : ∀ j : Int, 0 ≤ j → j < m → P (.int j)) : eCallS s 1 F__law_pick (aCons e aNil) ρ P := by
  have e1 : eCallS s 1 F__law_pick (aCons e aNil) ρ = anyBelow m := by
    rw [eCallS, x_eVar, h1]
    show bnd (ret PyData.none) _ = _
    rw [bnd_ret', eCall_1 (x := .int m) _ (by rw [x_aCons, he, bnd_ret', x_aNil, bnd_ret'])]
    show (if m < 2 then ret (PyData.int 0) else if m < 1073741824 then anyBelow m else stuck) = _
    rw [if_neg (by omega), if_pos h3]
  rw [e1]
  exact k
theorem bnd_app {α β : Type} (m : M α) (f : α → M β) (P : β → Prop) : bnd m f P = m (fun a => f a P) := rfl
end L74
namespace L74
open PySem hiding ret
open Py L2
def gC (y z p : Int) (x t : Int) : Int := (x * z - y * t).fdiv p
def BdL (r : List Int) : Prop := ∀ x ∈ r, Bd x
def pivs (N k : Nat) (M : List (List Int)) : List Nat := ((List.range (N - k)).map (k + ·)).filter fun i => decide ((M.getD i []).getD k 0 ≠ 0)
def swp (M : List (List Int)) (a b : Nat) : List (List Int) := (M.set a (M.getD b [])).set b (M.getD a [])
def MOk (N : Nat) (M : List (List Int)) : Prop := M.length = N ∧ ∀ r ∈ M, r.length = N ∧ BdL r
theorem filter_first {p : Nat → Bool} : ∀ {l : List Nat} {s : Nat} {l1 l2 : List Nat}, l = l1 ++ s :: l2 → (∀ i ∈ l1, p i = false) → p s = true → l.filter p = s :: l2.filter p
  | _, s, [], l2, rfl, h1, h2 => by simp [h2]
  | _, s, x :: l1, l2, rfl, h1, h2 => by
    rw [List.cons_append, List.filter_cons, h1 x (by simp)]
    exact filter_first rfl (fun i hi => h1 i (by simp [hi])) h2
theorem pivs_none {N k : Nat} {T : List (List Int)} (h : ∀ i, k ≤ i → i < N → (T.getD i []).getD k 0 = 0) : pivs N k T = [] := by
  rw [pivs, List.filter_eq_nil_iff]
  intro i hi
  simp only [List.mem_map, List.mem_range] at hi
  obtain ⟨j, hj, rfl⟩ := hi
  simp only [h (k + j) (by omega) (by omega), ne_eq, not_true, decide_false, Bool.false_eq_true, not_false_eq_true]
theorem pivs_some {N k s : Nat} {T : List (List Int)} (hks : k ≤ s) (hs : s < N) (h0 : ∀ i, k ≤ i → i < s → (T.getD i []).getD k 0 = 0) (h : (T.getD s []).getD k 0 ≠ 0) : ∃ tl, pivs N k T = s :: tl := by
  have e : (List.range (N - k)).map (k + ·) = ((List.range (s - k)).map (k + ·)) ++ s :: ((List.range (N - s - 1)).map (s + 1 + ·)) := by
    apply List.ext_getElem?
    intro i
    simp only [List.getElem?_append, List.getElem?_map, List.length_map, List.length_range]
    by_cases h1 : i < s - k
    · rw [if_pos h1, List.getElem?_range (by omega), List.getElem?_range h1]
    · rw [if_neg h1]
      by_cases h2 : i = s - k
      · subst h2
        rw [Nat.sub_self, List.getElem?_range (by omega)]
        simp; omega
      · obtain ⟨m, hm⟩ : ∃ m, i - (s - k) = m + 1 := ⟨i - (s - k) - 1, by omega⟩
        rw [hm, List.getElem?_cons_succ, List.getElem?_map]
        by_cases h3 : i < N - k
        · rw [List.getElem?_range h3, List.getElem?_range (by omega)]
          simp; omega
        · rw [List.getElem?_eq_none (by simp; omega), List.getElem?_eq_none (by simp; omega)]
          rfl
  refine ⟨_, filter_first e (fun i hi => ?_) (by simpa using h)⟩
  simp only [List.mem_map, List.mem_range] at hi
  obtain ⟨j, hj, rfl⟩ := hi
  simp only [h0 (k + j) (by omega) (by omega), ne_eq, not_true, decide_false]
def d2 (a b c d : Int) : Int := a * d - b * c
def d3 (a b c d e f g h i : Int) : Int := a * d2 e f h i - b * d2 d f g i + c * d2 d e g h
def d4 (a0 a1 a2 a3 b0 b1 b2 b3 c0 c1 c2 c3 e0 e1 e2 e3 : Int) : Int := a0 * d3 b1 b2 b3 c1 c2 c3 e1 e2 e3 - a1 * d3 b0 b2 b3 c0 c2 c3 e0 e2 e3 + a2 * d3 b0 b1 b3 c0 c1 c3 e0 e1 e3 - a3 * d3 b0 b1 b2 c0 c1 c2 e0 e1 e2
theorem B.d2 {a b c d : Int} (ha : B 60 a) (hb : B 60 b) (hc : B 60 c) (hd : B 60 d) : B 121 (d2 a b c d) := (ha.mul hd).sub (hb.mul hc)
theorem B.d3 {a b c d e f g h i : Int} (ha : B 60 a) (hb : B 60 b) (hc : B 60 c) (hd : B 60 d) (he : B 60 e) (hf : B 60 f) (hg : B 60 g) (hh : B 60 h) (hi : B 60 i) : B 183 (d3 a b c d e f g h i) :=
  ((ha.mul (he.d2 hf hh hi)).sub (hb.mul (hd.d2 hf hg hi))).add ((hc.mul (hd.d2 he hg hh)).mono (by decide))
theorem B.d4 {a0 a1 a2 a3 b0 b1 b2 b3 c0 c1 c2 c3 e0 e1 e2 e3 : Int} (ha0 : B 60 a0) (ha1 : B 60 a1) (ha2 : B 60 a2) (ha3 : B 60 a3) (hb0 : B 60 b0) (hb1 : B 60 b1) (hb2 : B 60 b2) (hb3 : B 60 b3) (hc0 : B 60 c0) (hc1 : B 60 c1) (hc2 : B 60 c2) (hc3 : B 60 c3) (he0 : B 60 e0) (he1 : B 60 e1) (he2 : B 60 e2) (he3 : B 60 e3) : B 246 (d4 a0 a1 a2 a3 b0 b1 b2 b3 c0 c1 c2 c3 e0 e1 e2 e3) :=
  ((((ha0.mul (hb1.d3 hb2 hb3 hc1 hc2 hc3 he1 he2 he3)).sub (ha1.mul (hb0.d3 hb2 hb3 hc0 hc2 hc3 he0 he2 he3))).add ((ha2.mul (hb0.d3 hb1 hb3 hc0 hc1 hc3 he0 he1 he3)).mono (by decide))).sub ((ha3.mul (hb0.d3 hb1 hb2 hc0 hc1 hc2 he0 he1 he2)).mono (by decide)))
theorem id2 (a0 a1 a2 b0 b1 b2 c0 c1 c2 : Int) : d2 a0 a2 c0 c2 * d2 a0 a1 b0 b1 - d2 a0 a1 c0 c1 * d2 a0 a2 b0 b2 = d3 a0 a1 a2 b0 b1 b2 c0 c1 c2 * a0 := by
  unfold d3 d2; grind
set_option maxHeartbeats 2000000 in
theorem id3 (a0 a1 a2 a3 b0 b1 b2 b3 c0 c1 c2 c3 e0 e1 e2 e3 : Int) : d3 a0 a1 a3 b0 b1 b3 e0 e1 e3 * d3 a0 a1 a2 b0 b1 b2 c0 c1 c2 - d3 a0 a1 a2 b0 b1 b2 e0 e1 e2 * d3 a0 a1 a3 b0 b1 b3 c0 c1 c3 = d4 a0 a1 a2 a3 b0 b1 b2 b3 c0 c1 c2 c3 e0 e1 e2 e3 * d2 a0 a1 b0 b1 := by
  unfold d4 d3 d2; grind
end L74
namespace L74
open PySem hiding ret
open Py L2
theorem fn_rt {m : Nat} {b : Py.Env → M Out} {ds : List D} {env : Py.Env} {r : D} (he : ds.map some ++ List.replicate m none = env) (h : b env = ret (.rt r)) : fnD m b ds = ret r := by
  rw [x_fnD, he, h, bnd_ret', outD_rt]
theorem fdiv_i (i j : Int) : gFdiv (.int i) (.int j) = if divOk i j = true then ret (.int (i.fdiv j)) else stuck := rfl
theorem args_3 {i j k : Nat} {ρ : Py.Env} {x y z : D} (hx : ρ[i]? = some (some x)) (hy : ρ[j]? = some (some y)) (hz : ρ[k]? = some (some z)) : (aCons (eVar i) (aCons (eVar j) (aCons (eVar k) aNil))) ρ = ret [x, y, z] := by
  simp only [x_aCons, x_aNil, x_eVar, hx, hy, hz, Option.getD_some, optM_some, bnd_ret']
theorem eCall_3 (F : List D → M D) {f : Py.Env → M (List D)} {ρ : Py.Env} {x y z : D} (h : f ρ = ret [x, y, z]) : eCall 3 F f ρ = F [x, y, z] := by
  rw [x_eCall, h, bnd_ret', if_pos (by simp)]
theorem mulq {n m : Nat} {x y : Int} (hx : B n x) (hy : B m y) (h1 : n < 1000 := by decide) (h2 : m < 1000 := by decide) : mulOk x y = true := mulB (hx.bd h1) (hy.bd h2)
theorem args_e {ρ : Py.Env} {x : D} {e : Py.Env → M D} (hx : e ρ = ret x) : (aCons e aNil) ρ = ret [x] := by
  simp only [x_aCons, x_aNil, hx, bnd_ret']
theorem gGt0 (i j : Int) : gGt (.int i) (.int j) = ret (.bool (decide (i > j))) := rfl
theorem gSub_i (i j : Int) : gSub (.int i) (.int j) = ret (.int (i - j)) := rfl
theorem pick_1 {s : Nat} {m : Int} {e : Py.Env → M D} {ρ : Py.Env} {P : D → Prop} (h1 : ρ[s]? = some (some .none)) (he : e ρ = ret (.int m)) (h2 : 1 ≤ m) (h3 : m < 1073741824) (k : ∀ j : Int, 0 ≤ j → j < m → P (.int j)) : eCallS s 1 F__law_pick (aCons e aNil) ρ P := by
  by_cases z : 2 ≤ m
  · exact pick_c h1 he z h3 k
  · have m1 : m = 1 := by omega
    have e1 : eCallS s 1 F__law_pick (aCons e aNil) ρ = ret (.int 0) := by
      rw [eCallS, x_eVar, h1]
      show bnd (ret PyData.none) _ = _
      rw [bnd_ret', eCall_1 (x := .int m) _ (by rw [x_aCons, he, bnd_ret', x_aNil, bnd_ret'])]
      show (if m < 2 then ret (PyData.int 0) else if m < 1073741824 then anyBelow m else stuck) = _
      rw [if_pos (by omega)]
    rw [e1]
    exact k 0 (by omega) (by omega)
theorem fnS_c {m : Nat} {f : Py.Env → M Out} {ds : List D} {env : Py.Env} {P : D → Prop} (he : some .none :: (ds.map some ++ List.replicate m none) = env) (h : f env (fun o => outD o P)) : fnS m f ds P := by
  rw [x_fnS, he, bnd_app]
  exact h
theorem tgAB {i j : Nat} {a b : D} {ρ : Py.Env} : tgTup 2 (tgsCons (tgN i) (tgsCons (tgN j) tgsNil)) (.tuple [a, b]) ρ = ret ((ρ.set i (some a)).set j (some b)) := rfl
theorem aCons_app (a : Py.Env → M D) (r : Py.Env → M (List D)) (ρ : Py.Env) (P : List D → Prop) : aCons a r ρ P = a ρ (fun d => r ρ (fun ds => P (d :: ds))) := rfl
theorem lcN_app (i : Nat) (elt : Py.Env → M D) (ρ : Py.Env) (d : D) (ds : List D) (P : List D → Prop) : lcW (tgN i) cYes elt ρ (d :: ds) P = elt (ρ.set i (some d)) (fun y => lcW (tgN i) cYes elt ρ ds fun ys => P (y :: ys)) := rfl
theorem of_c {s : Nat} {e : Py.Env → M D} {ρ : Py.Env} {P : D → Prop} {d : D} {xs : List D} (h1 : ρ[s]? = some (some .none)) (he : e ρ = ret d) (hd : d = .list xs ∨ d = .tuple xs) (hl : 1 ≤ xs.length) (h3 : xs.length < 1000) (k : ∀ x ∈ xs, P x) : eCallS s 1 F__law_of (aCons e aNil) ρ P := by
  have e1 : eCallS s 1 F__law_of (aCons e aNil) ρ = F__law_of [d] := by
    rw [eCallS, x_eVar, h1]
    show bnd (ret PyData.none) _ = _
    rw [bnd_ret', eCall_1 (x := d) _ (by rw [x_aCons, he, bnd_ret', x_aNil, bnd_ret'])]
  rw [e1]
  show eCallS 0 1 F__law_pick (aCons (cal cLen (aCons (eVar 1) aNil)) aNil) [some .none, some d] (fun j => gIx d j P)
  have cl : cal cLen (aCons (eVar 1) aNil) ([some .none, some d] : Py.Env) = ret (.int (xs.length : Nat)) := by
    rw [x_cal, args_1 (x := d) rfl, bnd_ret']
    rcases hd with rfl | rfl <;> rfl
  refine pick_1 rfl cl (by omega) (by omega) fun j h5 h6 => ?_
  obtain ⟨m, rfl⟩ : ∃ m : Nat, j = (m : Int) := ⟨j.toNat, by omega⟩
  have lm : m < xs.length := by omega
  have g : gIx d (.int (m : Int)) = ret (xs[m]) := by
    rcases hd with rfl | rfl
    · exact gIx_l (atI_nat (List.getElem?_eq_getElem lm))
    · exact gIx_t (atI_nat (List.getElem?_eq_getElem lm))
  rw [g]
  exact k _ (List.getElem_mem lm)
theorem gEq_i (i j : Int) : gEq (.int i) (.int j) = ret (.bool (decide (i = j))) := by simp only [gEq, shp_int, Bool.and_self, if_true, eqv_int]
theorem ng_e {x : Int} {ρ : Py.Env} : una gNeg (eC (.int x)) ρ = ret (.int (-x)) := by rw [x_una, x_eC, bnd_ret', x_gNeg_i]
theorem ct_e {x : Int} {ρ : Py.Env} : eC (.int x) ρ = ret (.int x) := x_eC _ _
theorem lnil_e {ρ : Py.Env} : mkL (lDisp aNil) ρ = ret (.list []) := by rw [x_mkL, x_lDisp, x_aNil, bnd_ret', if_pos (by simp [lenOk]), bnd_ret']
theorem tst_app {e : Py.Env → M D} {ρ : Py.Env} {Q : Bool → Prop} : tst e ρ Q = e ρ (fun d => toB d Q) := by rw [x_tst, bnd_app]
theorem bAnd_app {a b : Py.Env → M Bool} {ρ : Py.Env} {Q : Bool → Prop} : bAnd a b ρ Q = a ρ (fun x => (if x = true then b ρ else ret false) Q) := rfl
theorem bOr_app {a b : Py.Env → M Bool} {ρ : Py.Env} {Q : Bool → Prop} : bOr a b ρ Q = a ρ (fun x => (if x = true then ret true else b ρ) Q) := rfl
theorem eTup_3 {a b c : Py.Env → M D} {ρ : Py.Env} {x y z : D} (ha : a ρ = ret x) (hb : b ρ = ret y) (hc : c ρ = ret z) : eTup (aCons a (aCons b (aCons c aNil))) ρ = ret (.tuple [x, y, z]) := by
  rw [x_eTup, x_aCons, ha, bnd_ret', x_aCons, hb, bnd_ret', x_aCons, hc, bnd_ret', x_aNil, bnd_ret', bnd_ret', bnd_ret', bnd_ret', if_pos (by simp [lenOk])]
end L74
namespace L74
open PySem hiding ret
open Py L2
def td1 : Py.Env → M Out := (sParO3 1 2 3 (eLc (itSeq (eVar 0)) (tgN 9) cYes (mkL (calL cLst (aCons (eVar 9) aNil))) [9]) 1 1)
def td2f1 : Py.Env → M Out := (sAsg 5 (mkL (eLc (itRng2 (aCons (eVar 4) (aCons (cal cLen (aCons (eVar 1) aNil)) aNil))) (tgN 8) (tst (bin gNe (bin gIx (bin gIx (eVar 1) (eVar 8)) (eVar 4)) (eC (.int 0)))) (eVar 8) [8])))
def td2f2 : Py.Env → M Out := (sIf (tst (bin gEq (eVar 5) (mkL (lDisp aNil)))) (sRet (eC (.int 0))) sNx)
def td2f3a1 : Py.Env → M Out := (sAsg 6 (bin gIx (eVar 1) (eVar 4)))
def td2f3a2 : Py.Env → M Out := (sSetI 1 (eVar 4) (bin gIx (eVar 1) (bin gIx (eVar 5) (eC (.int 0)))))
def td2f3a3 : Py.Env → M Out := (sSetI 1 (bin gIx (eVar 5) (eC (.int 0))) (eVar 6))
def td2f3a4 : Py.Env → M Out := (sAsg 2 (una gNeg (eVar 2)))
def td2f3a : Py.Env → M Out := (sSeq td2f3a1 (sSeq td2f3a2 (sSeq td2f3a3 td2f3a4)))
def td2f3 : Py.Env → M Out := (sIf (tst (bin gNe (bin gIx (eVar 5) (eC (.int 0))) (eVar 4))) td2f3a sNx)
def td2f4 : Py.Env → M Out := (sAsg 7 (bin gIx (eVar 1) (eVar 4)))
def td2f5f : Py.Env → M Out := (sSetI 1 (eVar 8) (mkL (eLc (itZip (aCons (bin gIx (eVar 1) (eVar 8)) (aCons (eVar 7) aNil))) (tgTup 2 (tgsCons (tgN 10) (tgsCons (tgN 11) tgsNil))) cYes (bin gFdiv (bin gSub (bin gMulX (eVar 10) (bin gIx (eVar 7) (eVar 4))) (bin gMulX (bin gIx (bin gIx (eVar 1) (eVar 8)) (eVar 4)) (eVar 11))) (eVar 3)) [10, 11])))
def td2f5 : Py.Env → M Out := (sFor (itRng2 (aCons (bin gAdd (eVar 4) (eC (.int 1))) (aCons (cal cLen (aCons (eVar 1) aNil)) aNil))) (tgN 8) td2f5f)
def td2f6 : Py.Env → M Out := (sAsg 3 (bin gIx (eVar 7) (eVar 4)))
def td2f : Py.Env → M Out := (sSeq td2f1 (sSeq td2f2 (sSeq td2f3 (sSeq td2f4 (sSeq td2f5 td2f6)))))
def td2 : Py.Env → M Out := (sFor (itRng1 (aCons (bin gSub (cal cLen (aCons (eVar 1) aNil)) (eC (.int 1))) aNil)) (tgN 4) td2f)
def td3 : Py.Env → M Out := (sRet (bin gMulX (eVar 2) (bin gIx (bin gIx (eVar 1) (una gNeg (eC (.int 1)))) (una gNeg (eC (.int 1))))))
theorem b_table_determinant_eq : b_table_determinant = (sSeq td1 (sSeq td2 td3)) := rfl
/-- rows of ints, as lists or as tuples -/
def rD (b : Bool) (r : List Int) : D := if b = true then lstI r else tupI r
def tD (c b : Bool) (T : List (List Int)) : D := if c = true then .list (T.map (rD b)) else .tuple (T.map (rD b))
theorem seq_tD (c b : Bool) (T : List (List Int)) : seqD (tD c b T) = ret (T.map (rD b)) := by
  cases c <;> rfl
theorem cLst_rD (b : Bool) (r : List Int) : cLst [rD b r] = ret (dInts r) := by cases b <;> rfl
/-- what stands while the table is worked on -/
structure Ds (M : List (List Int)) (w p : Int) (ρ : Py.Env) : Prop where
  len : ρ.length = 12
  e1 : ρ[1]? = some (some (dL M))
  e2 : ρ[2]? = some (some (.int w))
  e3 : ρ[3]? = some (some (.int p))
theorem Ds.set {M : List (List Int)} {w p : Int} {ρ : Py.Env} (s : Ds M w p ρ) {i : Nat} {v : Option D} (hi : 4 ≤ i) : Ds M w p (ρ.set i v) := by
  have g : ∀ j, j < 4 → (ρ.set i v)[j]? = ρ[j]? := fun j hj => List.getElem?_set_ne (by omega)
  exact ⟨by rw [List.length_set, s.len], by rw [g 1 (by decide), s.e1], by rw [g 2 (by decide), s.e2], by rw [g 3 (by decide), s.e3]⟩
theorem Ds.put {M M' : List (List Int)} {w p : Int} {ρ : Py.Env} (s : Ds M w p ρ) : Ds M' w p (ρ.set 1 (some (dL M'))) := by
  have g : ∀ j, j ≠ 1 → (ρ.set 1 (some (dL M')))[j]? = ρ[j]? := fun j hj => List.getElem?_set_ne (by omega)
  exact ⟨by rw [List.length_set, s.len], List.getElem?_set_self (by rw [s.len]; decide), by rw [g 2 (by decide), s.e2], by rw [g 3 (by decide), s.e3]⟩
theorem ix_dL {M : List (List Int)} {i : Nat} {r : List Int} (h : M[i]? = some r) : gIx (dL M) (.int (i : Nat)) = ret (lstI r) := gIx_l (atI_nat (by rw [List.getElem?_map, h]; rfl))
theorem ix_l {r : List Int} {i : Nat} {x : Int} (h : r[i]? = some x) : gIx (lstI r) (.int (i : Nat)) = ret (.int x) := gIx_l (atI_nat (by rw [dInts, List.getElem?_map, h]; rfl))
theorem len_dL (M : List (List Int)) : cLen [dL M] = ret (.int (M.length : Nat)) := by
  rw [dL, x_cLen_l, List.length_map]
theorem zipD_ints : ∀ a b : List Int, zipD (dInts a) (dInts b) = (a.zip b).map fun q => .tuple [.int q.1, .int q.2]
  | [], _ => rfl
  | _ :: _, [] => rfl
  | x :: a, y :: b => by
    show PyData.tuple [.int x, .int y] :: zipD (dInts a) (dInts b) = _
    rw [zipD_ints a b]
    rfl
/-- one row beneath the top one -/
def fullRow (k : Nat) (rk : List Int) (z p : Int) (r : List Int) : List Int := List.zipWith (gC (r.getD k 0) z p) r rk
theorem rowF {M : List (List Int)} {w p z : Int} {k i : Nat} {r rk : List Int} {ρ : Py.Env} (s : Ds M w p ρ) (h4 : ρ[4]? = some (some (.int (k : Nat)))) (h7 : ρ[7]? = some (some (lstI rk))) (h8 : ρ[8]? = some (some (.int (i : Nat)))) (hi : M[i]? = some r) (kr : k < r.length) (hz : rk[k]? = some z) (br : BdL r) (bk : BdL rk) (hp : Bd p) (hp0 : p ≠ 0) (N5 : r.length ≤ 1000) :
    td2f5f ρ = ret (.nx (ρ.set 1 (some (dL (M.set i (fullRow k rk z p r)))))) := by
  have hc : r[k]? = some (r.getD k 0) := getD_some kr
  have li : i < M.length := (List.getElem?_eq_some_iff.mp hi).1
  have g : ∀ j, j ≠ 10 → j ≠ 11 → ∀ u v : Option D, ((ρ.set 10 u).set 11 v)[j]? = ρ[j]? := fun j h1 h2 u v => by rw [List.getElem?_set_ne (by omega), List.getElem?_set_ne (by omega)]
  have it : itZip (aCons (bin gIx (eVar 1) (eVar 8)) (aCons (eVar 7) aNil)) ρ = ret (zipD (dInts r) (dInts rk)) := by
    rw [x_itZip, x_aCons, x_bin, var_eq s.e1, bnd_ret', var_eq h8, bnd_ret', ix_dL hi, bnd_ret', args_1 h7, bnd_ret', bnd_ret']
    rfl
  have lc : mkL (eLc (itZip (aCons (bin gIx (eVar 1) (eVar 8)) (aCons (eVar 7) aNil))) (tgTup 2 (tgsCons (tgN 10) (tgsCons (tgN 11) tgsNil))) cYes (bin gFdiv (bin gSub (bin gMulX (eVar 10) (bin gIx (eVar 7) (eVar 4))) (bin gMulX (bin gIx (bin gIx (eVar 1) (eVar 8)) (eVar 4)) (eVar 11))) (eVar 3)) [10, 11]) ρ = ret (lstI (fullRow k rk z p r)) := by
    have e := comp_all (ρ := ρ) (its := itZip (aCons (bin gIx (eVar 1) (eVar 8)) (aCons (eVar 7) aNil))) (tg := tgTup 2 (tgsCons (tgN 10) (tgsCons (tgN 11) tgsNil))) (elt := bin gFdiv (bin gSub (bin gMulX (eVar 10) (bin gIx (eVar 7) (eVar 4))) (bin gMulX (bin gIx (bin gIx (eVar 1) (eVar 8)) (eVar 4)) (eVar 11))) (eVar 3)) (vs := [10, 11])
      (fun q : Int × Int => PyData.tuple [.int q.1, .int q.2]) (fun q => .int (gC (r.getD k 0) z p q.1 q.2)) (r.zip rk) (by rw [it, zipD_ints]) ?_
    · rw [e]
      congr 2
      rw [fullRow, dInts, List.map_zipWith, List.zip, List.map_zipWith]
    · intro q hq
      have hx : q.1 ∈ r := (List.of_mem_zip hq).1
      have hy : q.2 ∈ rk := (List.of_mem_zip hq).2
      refine ⟨_, tgAB, ?_⟩
      simp only [x_wipeD_cons, x_wipeD_nil]
      have E : ∀ j, j ≠ 10 → j ≠ 11 → ((((ρ.set 11 none).set 10 none).set 10 (some (.int q.1))).set 11 (some (.int q.2)))[j]? = ρ[j]? := fun j h1 h2 => by
        rw [List.getElem?_set_ne (by omega), List.getElem?_set_ne (by omega), List.getElem?_set_ne (by omega), List.getElem?_set_ne (by omega)]
      have E10 : ((((ρ.set 11 none).set 10 none).set 10 (some (.int q.1))).set 11 (some (.int q.2)))[10]? = some (some (.int q.1)) := by
        rw [List.getElem?_set_ne (by decide), List.getElem?_set_self (by rw [List.length_set, List.length_set, s.len]; decide)]
      have E11 : ((((ρ.set 11 none).set 10 none).set 10 (some (.int q.1))).set 11 (some (.int q.2)))[11]? = some (some (.int q.2)) := by
        rw [List.getElem?_set_self (by rw [List.length_set, List.length_set, List.length_set, s.len]; decide)]
      have m1 := mulB (br _ hx) (bk _ (List.mem_of_getElem? hz))
      have m2 := mulB (br _ (List.mem_of_getElem? hc)) (bk _ hy)
      rw [x_bin, x_bin, x_bin, var_eq E10, bnd_ret', x_bin, var_eq ((E 7 (by decide) (by decide)).trans h7), bnd_ret', var_eq ((E 4 (by decide) (by decide)).trans h4), bnd_ret', ix_l hz, bnd_ret', x_gMulX_i, if_pos m1, bnd_ret', x_bin, x_bin, x_bin, var_eq ((E 1 (by decide) (by decide)).trans s.e1), bnd_ret', var_eq ((E 8 (by decide) (by decide)).trans h8), bnd_ret', ix_dL hi, bnd_ret', var_eq ((E 4 (by decide) (by decide)).trans h4), bnd_ret', ix_l hc, bnd_ret', var_eq E11, bnd_ret', x_gMulX_i, if_pos m2, bnd_ret', gSub_i, bnd_ret', var_eq ((E 3 (by decide) (by decide)).trans s.e3), bnd_ret', fdiv_i, if_pos (divB hp hp0)]
      rfl
  have se : td2f5f ρ = bnd (mkL (eLc (itZip (aCons (bin gIx (eVar 1) (eVar 8)) (aCons (eVar 7) aNil))) (tgTup 2 (tgsCons (tgN 10) (tgsCons (tgN 11) tgsNil))) cYes (bin gFdiv (bin gSub (bin gMulX (eVar 10) (bin gIx (eVar 7) (eVar 4))) (bin gMulX (bin gIx (bin gIx (eVar 1) (eVar 8)) (eVar 4)) (eVar 11))) (eVar 3)) [10, 11]) ρ) fun d => bnd (eVar 1 ρ) fun l => bnd (eVar 8 ρ) fun x => match l, x with
    | .list ds, .int n => match ixN ds.length n with | some m => ret (.nx (ρ.set 1 (some (.list (ds.set m d))))) | none => stuck
    | _, _ => stuck := rfl
  rw [se, lc, bnd_ret', var_eq s.e1, bnd_ret', var_eq h8, bnd_ret']
  have i1 : ixN (M.map lstI).length ((i : Nat) : Int) = some i := ixN_nat (by simpa using li)
  show (match ixN (M.map lstI).length ((i : Nat) : Int) with | some m => ret (Out.nx (ρ.set 1 (some (.list ((M.map lstI).set m (lstI (fullRow k rk z p r))))))) | none => stuck) = _
  rw [i1]
  show ret (Out.nx (ρ.set 1 (some (.list ((M.map lstI).set i (lstI (fullRow k rk z p r))))))) = _
  rw [dL, List.map_set]
end L74
namespace L74
open PySem hiding ret
open Py L2
theorem setI_dL {A : List (List Int)} {n : Nat} {r : List Int} {j e : Py.Env → M D} {ρ : Py.Env} (h1 : ρ[1]? = some (some (dL A))) (he : e ρ = ret (lstI r)) (hj : j ρ = ret (.int (n : Nat))) (hn : n < A.length) : sSetI 1 j e ρ = ret (.nx (ρ.set 1 (some (dL (A.set n r))))) := by
  have se : sSetI 1 j e ρ = bnd (e ρ) fun d => bnd (eVar 1 ρ) fun l => bnd (j ρ) fun x => match l, x with
    | .list ds, .int n => match ixN ds.length n with | some m => ret (.nx (ρ.set 1 (some (.list (ds.set m d))))) | none => stuck
    | _, _ => stuck := rfl
  rw [se, he, bnd_ret', var_eq h1, bnd_ret', hj, bnd_ret']
  have i1 : ixN (A.map lstI).length ((n : Nat) : Int) = some n := ixN_nat (by simpa using hn)
  show (match ixN (A.map lstI).length ((n : Nat) : Int) with | some m => ret (Out.nx (ρ.set 1 (some (.list ((A.map lstI).set m (lstI r)))))) | none => stuck) = _
  rw [i1]
  show ret (Out.nx (ρ.set 1 (some (.list ((A.map lstI).set n (lstI r)))))) = _
  rw [dL, List.map_set]
theorem elimF {w p z : Int} {k : Nat} {rk : List Int} (hz : rk[k]? = some z) (bk : BdL rk) (hp : Bd p) (hp0 : p ≠ 0) : ∀ (rest done : List (List Int)) (ρ : Py.Env), Ds (done ++ rest) w p ρ → ρ[4]? = some (some (.int (k : Nat))) → ρ[7]? = some (some (lstI rk)) → (∀ r ∈ rest, k < r.length ∧ r.length ≤ 1000 ∧ BdL r) →
    ∃ ρ', Ds (done ++ rest.map (fullRow k rk z p)) w p ρ' ∧ ρ'[4]? = some (some (.int (k : Nat))) ∧ ρ'[7]? = some (some (lstI rk)) ∧ forW (tgN 8) td2f5f (rangeD (done.length : Nat) rest.length) ρ = ret (.nx ρ')
  | [], done, ρ, s, h4, h7, _ => ⟨ρ, by simpa using s, h4, h7, rfl⟩
  | r :: rest, done, ρ, s, h4, h7, hr => by
    obtain ⟨k1, k2, k3⟩ := hr r (by simp)
    have s8 : Ds (done ++ r :: rest) w p (ρ.set 8 (some (.int (done.length : Nat)))) := s.set (by decide)
    have e := rowF (i := done.length) (r := r) s8 (by rw [List.getElem?_set_ne (by decide), h4]) (by rw [List.getElem?_set_ne (by decide), h7]) (List.getElem?_set_self (by rw [s.len]; decide)) (by simp) k1 hz k3 bk hp hp0 k2
    have em : (done ++ r :: rest).set done.length (fullRow k rk z p r) = (done ++ [fullRow k rk z p r]) ++ rest := by simp
    rw [em] at e
    have s' : Ds ((done ++ [fullRow k rk z p r]) ++ rest) w p ((ρ.set 8 (some (.int (done.length : Nat)))).set 1 (some (dL ((done ++ [fullRow k rk z p r]) ++ rest)))) := s8.put
    obtain ⟨ρ', t1, t2, t3, t4⟩ := elimF hz bk hp hp0 rest (done ++ [fullRow k rk z p r]) _ s' (by rw [List.getElem?_set_ne (by decide), List.getElem?_set_ne (by decide), h4]) (by rw [List.getElem?_set_ne (by decide), List.getElem?_set_ne (by decide), h7]) (fun x hx => hr x (List.mem_cons_of_mem _ hx))
    refine ⟨ρ', by simpa using t1, t2, t3, ?_⟩
    rw [List.length_cons, rangeD_succ, forW_cons, x_tgN, bnd_ret', e, bnd_ret', oLoop_nx]
    rw [List.length_append, List.length_singleton] at t4
    exact t4
def row0 (k : Nat) (rk : List Int) (z p : Int) (r : List Int) : List Int := List.replicate (k + 1) 0 ++ List.zipWith (gC (r.getD k 0) z p) (r.drop (k + 1)) (rk.drop (k + 1))
theorem gC0 (y z p : Int) : gC y z p 0 0 = 0 := by simp [gC]
theorem gCk (z p y : Int) : gC y z p y z = 0 := by simp [gC, Int.sub_self]
theorem split_row {k : Nat} {r : List Int} (h : r.take k = List.replicate k 0) (hk : k < r.length) : r = List.replicate k 0 ++ r.getD k 0 :: r.drop (k + 1) := by
  have e := List.take_append_drop k r
  rw [h, List.drop_eq_getElem_cons hk] at e
  rw [List.getD_eq_getElem?_getD, List.getElem?_eq_getElem hk, Option.getD_some]
  exact e.symm
theorem full_row0 {k : Nat} {r rk : List Int} {z p : Int} (h : r.take k = List.replicate k 0) (h' : rk.take k = List.replicate k 0) (hk : k < r.length) (hk' : k < rk.length) (hz : rk.getD k 0 = z) : fullRow k rk z p r = row0 k rk z p r := by
  unfold fullRow
  generalize hy : r.getD k 0 = y
  rw [row0, hy]
  have e1 := split_row h hk
  have e2 := split_row h' hk'
  rw [hy] at e1
  rw [hz] at e2
  generalize r.drop (k + 1) = r2 at *
  generalize rk.drop (k + 1) = rk2 at *
  rw [e1, e2, List.zipWith_append (by simp), List.zipWith_cons_cons, gCk, List.zipWith_replicate', gC0, List.replicate_succ', List.append_assoc]
  rfl
def stg (k : Nat) (p : Int) (M : List (List Int)) : List (List Int) := M.take (k + 1) ++ (M.drop (k + 1)).map (row0 k (M.getD k []) ((M.getD k []).getD k 0) p)
/-- from row k on, noughts ahead of place k -/
def Zr (k : Nat) (M : List (List Int)) : Prop := ∀ r ∈ M.drop k, r.take k = List.replicate k 0
theorem piv_eq {N k : Nat} {M : List (List Int)} {w p : Int} {ρ : Py.Env} (s : Ds M w p ρ) (h4 : ρ[4]? = some (some (.int (k : Nat)))) (h : MOk N M) (kN : k ≤ N) (N5 : N ≤ 1000) :
    mkL (eLc (itRng2 (aCons (eVar 4) (aCons (cal cLen (aCons (eVar 1) aNil)) aNil))) (tgN 8) (tst (bin gNe (bin gIx (bin gIx (eVar 1) (eVar 8)) (eVar 4)) (eC (.int 0)))) (eVar 8) [8]) ρ = ret (.list ((pivs N k M).map fun i => .int (i : Nat))) := by
  have r1 : rngOk (k : Int) = true := by simp [rngOk]; omega
  have r2 : rngOk (N : Int) = true := by simp [rngOk]; omega
  have e4 : ((N : Int) - (k : Int)).toNat = N - k := by omega
  have e5 : rangeD (k : Int) (N - k) = ((List.range (N - k)).map (k + ·)).map fun i => .int (i : Nat) := by simp [rangeD]
  have cl : cal cLen (aCons (eVar 1) aNil) ρ = ret (.int (N : Nat)) := by rw [x_cal, args_1 s.e1, bnd_ret', len_dL, h.1]
  refine comp_map (fun i : Nat => PyData.int (i : Nat)) (fun i => decide ((M.getD i []).getD k 0 ≠ 0)) (fun i => PyData.int (i : Nat)) ((List.range (N - k)).map (k + ·)) ?_ ?_
  · rw [x_itRng2, x_aCons, var_eq h4, bnd_ret', args_e cl, bnd_ret', bnd_ret', rng2_i, r1, r2, Bool.and_self, if_pos rfl, e4, e5]
  · intro i hi
    simp only [List.mem_map, List.mem_range] at hi
    obtain ⟨j, hj, rfl⟩ := hi
    rw [x_wipeD_cons, x_wipeD_nil]
    have E : ∀ i, i ≠ 8 → ((ρ.set 8 none).set 8 (some (.int ((k + j : Nat) : Int))))[i]? = ρ[i]? := fun i h1 => by
      rw [List.getElem?_set_ne (by omega), List.getElem?_set_ne (by omega)]
    have E8 : ((ρ.set 8 none).set 8 (some (.int ((k + j : Nat) : Int))))[8]? = some (some (.int ((k + j : Nat) : Int))) := List.getElem?_set_self (by rw [List.length_set, s.len]; decide)
    refine ⟨_, rfl, ?_, fun _ => var_eq E8⟩
    have li : k + j < M.length := by rw [h.1]; omega
    have hrow : M[k + j]? = some (M.getD (k + j) []) := getD_some li
    have lr := (h.2 _ (List.mem_of_getElem? hrow)).1
    have hk' : (M.getD (k + j) [])[k]? = some ((M.getD (k + j) []).getD k 0) := getD_some (by omega)
    have t : bin gNe (bin gIx (bin gIx (eVar 1) (eVar 8)) (eVar 4)) (eC (.int 0)) ((ρ.set 8 none).set 8 (some (.int ((k + j : Nat) : Int)))) = ret (.bool (decide ((M.getD (k + j) []).getD k 0 ≠ 0))) := by
      rw [x_bin, x_bin, x_bin, var_eq ((E 1 (by decide)).trans s.e1), bnd_ret', var_eq E8, bnd_ret', ix_dL hrow, bnd_ret', var_eq ((E 4 (by decide)).trans h4), bnd_ret', ix_l hk', bnd_ret', x_eC, bnd_ret']
      simp only [gNe, shp_int, Bool.and_self, if_true, eqv_int]
      simp
    exact tst_b t
theorem stage_none {N k : Nat} {M : List (List Int)} {w p : Int} {ρ : Py.Env} (s : Ds M w p ρ) (h4 : ρ[4]? = some (some (.int (k : Nat)))) (h : MOk N M) (kN : k ≤ N) (N5 : N ≤ 1000) (hv : pivs N k M = []) : td2f ρ = ret (.rt (.int 0)) := by
  have e := piv_eq s h4 h kN N5
  rw [hv] at e
  rw [td2f, td2f1, asg_nx e]
  have g5 : (ρ.set 5 (some (.list ([].map fun i : Nat => PyData.int (i : Nat)))))[5]? = some (some (.list [])) := List.getElem?_set_self (by rw [s.len]; decide)
  have t : bin gEq (eVar 5) (mkL (lDisp aNil)) (ρ.set 5 (some (.list ([].map fun i : Nat => PyData.int (i : Nat))))) = ret (.bool true) := by
    rw [x_bin, var_eq g5, bnd_ret', lnil_e, bnd_ret']
    simp only [gEq, shp_nil, Bool.and_self, if_true, eqv_ints_nil, List.isEmpty_nil]
  rw [td2f2, x_sSeq, x_sIf, tst_b t, bnd_ret', if_pos rfl, x_sRet, x_eC, bnd_ret', bnd_ret', oThen_rt]
theorem zr_swp {k s : Nat} {M : List (List Int)} (h : Zr k M) (hks : k ≤ s) (hs : s < M.length) : Zr k (swp M k s) := by
  have at_ : ∀ i, k ≤ i → i < M.length → (M.getD i []).take k = List.replicate k 0 := fun i h1 h2 => by
    refine h _ ?_
    rw [List.getD_eq_getElem?_getD, List.getElem?_eq_getElem h2, Option.getD_some]
    exact List.mem_drop_iff_getElem.mpr ⟨i - k, by omega, by congr 1; omega⟩
  intro r hr
  obtain ⟨j, hj, rfl⟩ := List.mem_drop_iff_getElem.mp hr
  have hl : k + j < M.length := by
    have := hj
    simp [swp] at this
    omega
  unfold swp
  rw [List.getElem_set]
  split
  · exact at_ k (Nat.le_refl _) (by omega)
  · rw [List.getElem_set]
    split
    · exact at_ s hks hs
    · have := at_ (k + j) (by omega) hl
      rw [List.getD_eq_getElem?_getD, List.getElem?_eq_getElem hl, Option.getD_some] at this
      exact this
theorem stage_fin {N k : Nat} {M : List (List Int)} {w p : Int} {ρ : Py.Env} (s : Ds M w p ρ) (h4 : ρ[4]? = some (some (.int (k : Nat)))) (h : MOk N M) (hz : Zr k M) (kN : k < N) (N5 : N ≤ 1000) (hp : Bd p) (hp0 : p ≠ 0) :
    ∃ ρ', Ds (stg k p M) w ((M.getD k []).getD k 0) ρ' ∧ (sSeq td2f4 (sSeq td2f5 td2f6)) ρ = ret (.nx ρ') := by
  have lk : k < M.length := by rw [h.1]; exact kN
  have gk : M[k]? = some (M.getD k []) := getD_some lk
  have hm := h.2 _ (List.mem_of_getElem? gk)
  have hz' : (M.getD k [])[k]? = some ((M.getD k []).getD k 0) := getD_some (by rw [hm.1]; exact kN)
  have e4 : bin gIx (eVar 1) (eVar 4) ρ = ret (lstI (M.getD k [])) := by rw [x_bin, var_eq s.e1, bnd_ret', var_eq h4, bnd_ret', ix_dL gk]
  rw [td2f4, asg_nx e4]
  have s7 : Ds M w p (ρ.set 7 (some (lstI (M.getD k [])))) := s.set (by decide)
  have g4 : (ρ.set 7 (some (lstI (M.getD k []))))[4]? = some (some (.int (k : Nat))) := by rw [List.getElem?_set_ne (by decide), h4]
  have g7 : (ρ.set 7 (some (lstI (M.getD k []))))[7]? = some (some (lstI (M.getD k []))) := List.getElem?_set_self (by rw [s.len]; decide)
  generalize (ρ.set 7 (some (lstI (M.getD k [])))) = ρ1 at *
  have r1 : rngOk ((k : Int) + 1) = true := by simp [rngOk]; omega
  have r2 : rngOk (N : Int) = true := by simp [rngOk]; omega
  have cl : cal cLen (aCons (eVar 1) aNil) ρ1 = ret (.int (N : Nat)) := by rw [x_cal, args_1 s7.e1, bnd_ret', len_dL, h.1]
  have e41 : bin gAdd (eVar 4) (eC (.int 1)) ρ1 = ret (.int ((k : Int) + 1)) := by rw [x_bin, var_eq g4, bnd_ret', x_eC, bnd_ret', x_gAdd_i]
  have it : itRng2 (aCons (bin gAdd (eVar 4) (eC (.int 1))) (aCons (cal cLen (aCons (eVar 1) aNil)) aNil)) ρ1 = ret (rangeD ((k + 1 : Nat) : Int) (N - (k + 1))) := by
    have ek : ((k + 1 : Nat) : Int) = (k : Int) + 1 := by omega
    have en : ((N : Int) - ((k : Int) + 1)).toNat = N - (k + 1) := by omega
    rw [x_itRng2, x_aCons, e41, bnd_ret', args_e cl, bnd_ret', bnd_ret', rng2_i, r1, r2, Bool.and_self, if_pos rfl, en, ek]
  have l1 : (M.take (k + 1)).length = k + 1 := by rw [List.length_take]; omega
  have l2 : (M.drop (k + 1)).length = N - (k + 1) := by rw [List.length_drop, h.1]
  obtain ⟨ρ2, t1, t2, t3, t4⟩ := elimF (w := w) (p := p) hz' hm.2 hp hp0 (M.drop (k + 1)) (M.take (k + 1)) ρ1 (by rw [List.take_append_drop]; exact s7) g4 g7 (fun r hr => by
    have := h.2 r (List.mem_of_mem_drop hr)
    exact ⟨by omega, by omega, this.2⟩)
  rw [l1, l2] at t4
  have em : (M.drop (k + 1)).map (fullRow k (M.getD k []) ((M.getD k []).getD k 0) p) = (M.drop (k + 1)).map (row0 k (M.getD k []) ((M.getD k []).getD k 0) p) := by
    apply List.map_congr_left
    intro r hr
    have hr' : r ∈ M.drop k := by
      rw [List.drop_eq_getElem_cons lk]
      exact List.mem_cons_of_mem _ hr
    have hk' : M.getD k [] ∈ M.drop k := by
      rw [List.drop_eq_getElem_cons lk, List.getD_eq_getElem?_getD, List.getElem?_eq_getElem lk]
      exact List.mem_cons_self ..
    exact full_row0 (hz r hr') (hz _ hk') (by rw [(h.2 r (List.mem_of_mem_drop hr)).1]; exact kN) (by rw [hm.1]; exact kN) rfl
  rw [em] at t1
  rw [td2f5, x_sSeq, x_sFor, it, bnd_ret', t4, bnd_ret', oThen_nx]
  have e6 : bin gIx (eVar 7) (eVar 4) ρ2 = ret (.int ((M.getD k []).getD k 0)) := by rw [x_bin, var_eq t3, bnd_ret', var_eq t2, bnd_ret', ix_l hz']
  refine ⟨_, ?_, by rw [td2f6, x_sAsg, e6, bnd_ret']⟩
  have g : ∀ j, j ≠ 3 → (ρ2.set 3 (some (.int ((M.getD k []).getD k 0))))[j]? = ρ2[j]? := fun j hj => List.getElem?_set_ne (by omega)
  exact ⟨by rw [List.length_set, t1.len], by rw [g 1 (by decide), t1.e1]; rfl, by rw [g 2 (by decide), t1.e2], List.getElem?_set_self (by rw [t1.len]; decide)⟩
theorem stage_some {N k s : Nat} {tl : List Nat} {M : List (List Int)} {w p : Int} {ρ : Py.Env} (d : Ds M w p ρ) (h4 : ρ[4]? = some (some (.int (k : Nat)))) (h : MOk N M) (hz : Zr k M) (kN : k < N) (N5 : N ≤ 1000) (hp : Bd p) (hp0 : p ≠ 0) (hv : pivs N k M = s :: tl) :
    ∃ ρ', Ds (stg k p (if s = k then M else swp M k s)) (if s = k then w else -w) (((if s = k then M else swp M k s).getD k []).getD k 0) ρ' ∧ td2f ρ = ret (.nx ρ') := by
  have hs : s ∈ pivs N k M := by rw [hv]; simp
  simp only [pivs, List.mem_filter, List.mem_map, List.mem_range] at hs
  obtain ⟨⟨j, hj, hjs⟩, -⟩ := hs
  have ls : s < M.length := by rw [h.1]; omega
  have lk : k < M.length := by rw [h.1]; omega
  have gs : M[s]? = some (M.getD s []) := getD_some ls
  have gk : M[k]? = some (M.getD k []) := getD_some lk
  have e := piv_eq d h4 h (Nat.le_of_lt kN) N5
  rw [hv] at e
  rw [td2f, td2f1, asg_nx e]
  have s5 : Ds M w p (ρ.set 5 (some (.list ((s :: tl).map fun i : Nat => PyData.int (i : Nat))))) := d.set (by decide)
  have g4 : (ρ.set 5 (some (.list ((s :: tl).map fun i : Nat => PyData.int (i : Nat)))))[4]? = some (some (.int (k : Nat))) := by rw [List.getElem?_set_ne (by decide), h4]
  have g5 : (ρ.set 5 (some (.list ((s :: tl).map fun i : Nat => PyData.int (i : Nat)))))[5]? = some (some (.list (dInts ((s : Int) :: tl.map fun i : Nat => (i : Int))))) := by
    rw [List.getElem?_set_self (by rw [d.len]; decide)]
    simp [dInts]
  generalize (ρ.set 5 (some (.list ((s :: tl).map fun i : Nat => PyData.int (i : Nat))))) = ρ1 at *
  have t : bin gEq (eVar 5) (mkL (lDisp aNil)) ρ1 = ret (.bool false) := by
    rw [x_bin, var_eq g5, bnd_ret', lnil_e, bnd_ret']
    simp only [gEq, shp_nil, shp_ints, Bool.and_self, if_true, eqv_ints_nil]
    rfl
  have e0 : bin gIx (eVar 5) (eC (.int 0)) ρ1 = ret (.int (s : Nat)) := by
    rw [x_bin, var_eq g5, bnd_ret', x_eC, bnd_ret']
    exact gIx_l (atI_nat (i := 0) rfl)
  have t3 : bin gNe (bin gIx (eVar 5) (eC (.int 0))) (eVar 4) ρ1 = ret (.bool (!decide (s = k))) := by
    rw [x_bin, e0, bnd_ret', var_eq g4, bnd_ret']
    simp only [gNe, shp_int, Bool.and_self, if_true, eqv_int]
    rw [show decide (((s : Nat) : Int) = ((k : Nat) : Int)) = decide (s = k) from decide_eq_decide.mpr (by omega)]
  rw [td2f2, if_no (tst_b t), td2f3, x_sSeq, x_sIf, tst_b t3, bnd_ret']
  by_cases z : s = k
  · rw [decide_eq_true z, if_neg (show ¬ ((!true) = true) from by decide), x_sNx, bnd_ret', oThen_nx, if_pos z, if_pos z]
    exact stage_fin s5 g4 h hz kN N5 hp hp0
  · rw [decide_eq_false z, if_pos (show (!false) = true from rfl), if_neg z, if_neg z]
    have a1 : bin gIx (eVar 1) (eVar 4) ρ1 = ret (lstI (M.getD k [])) := by rw [x_bin, var_eq s5.e1, bnd_ret', var_eq g4, bnd_ret', ix_dL gk]
    have b6 : Ds M w p (ρ1.set 6 (some (lstI (M.getD k [])))) := s5.set (by decide)
    have q4 : (ρ1.set 6 (some (lstI (M.getD k []))))[4]? = some (some (.int (k : Nat))) := by rw [List.getElem?_set_ne (by decide), g4]
    have q5 : (ρ1.set 6 (some (lstI (M.getD k []))))[5]? = some (some (.list (dInts ((s : Int) :: tl.map fun i : Nat => (i : Int))))) := by rw [List.getElem?_set_ne (by decide), g5]
    have q6 : (ρ1.set 6 (some (lstI (M.getD k []))))[6]? = some (some (lstI (M.getD k []))) := List.getElem?_set_self (by rw [s5.len]; decide)
    have a1' : td2f3a ρ1 = (sSeq td2f3a2 (sSeq td2f3a3 td2f3a4)) (ρ1.set 6 (some (lstI (M.getD k [])))) := by rw [td2f3a, td2f3a1, asg_nx a1]
    rw [a1']
    generalize (ρ1.set 6 (some (lstI (M.getD k [])))) = ρ2 at *
    have i0 : bin gIx (eVar 5) (eC (.int 0)) ρ2 = ret (.int (s : Nat)) := by
      rw [x_bin, var_eq q5, bnd_ret', x_eC, bnd_ret']
      exact gIx_l (atI_nat (i := 0) rfl)
    have a2 : bin gIx (eVar 1) (bin gIx (eVar 5) (eC (.int 0))) ρ2 = ret (lstI (M.getD s [])) := by rw [x_bin, var_eq b6.e1, bnd_ret', i0, bnd_ret', ix_dL gs]
    have st2 : td2f3a2 ρ2 = ret (.nx (ρ2.set 1 (some (dL (M.set k (M.getD s [])))))) := setI_dL b6.e1 a2 (var_eq q4) lk
    rw [seq_nx st2]
    have b1 : Ds (M.set k (M.getD s [])) w p (ρ2.set 1 (some (dL (M.set k (M.getD s []))))) := b6.put
    have p4 : (ρ2.set 1 (some (dL (M.set k (M.getD s [])))))[4]? = some (some (.int (k : Nat))) := by rw [List.getElem?_set_ne (by decide), q4]
    have p5 : (ρ2.set 1 (some (dL (M.set k (M.getD s [])))))[5]? = some (some (.list (dInts ((s : Int) :: tl.map fun i : Nat => (i : Int))))) := by rw [List.getElem?_set_ne (by decide), q5]
    have p6 : (ρ2.set 1 (some (dL (M.set k (M.getD s [])))))[6]? = some (some (lstI (M.getD k []))) := by rw [List.getElem?_set_ne (by decide), q6]
    generalize (ρ2.set 1 (some (dL (M.set k (M.getD s []))))) = ρ3 at *
    have i0' : bin gIx (eVar 5) (eC (.int 0)) ρ3 = ret (.int (s : Nat)) := by
      rw [x_bin, var_eq p5, bnd_ret', x_eC, bnd_ret']
      exact gIx_l (atI_nat (i := 0) rfl)
    have st3 : td2f3a3 ρ3 = ret (.nx (ρ3.set 1 (some (dL ((M.set k (M.getD s [])).set s (M.getD k [])))))) := setI_dL b1.e1 (var_eq p6) i0' (by rw [List.length_set]; exact ls)
    rw [seq_nx st3]
    have b3 : Ds (swp M k s) w p (ρ3.set 1 (some (dL ((M.set k (M.getD s [])).set s (M.getD k []))))) := b1.put
    have r4 : (ρ3.set 1 (some (dL ((M.set k (M.getD s [])).set s (M.getD k [])))))[4]? = some (some (.int (k : Nat))) := by rw [List.getElem?_set_ne (by decide), p4]
    generalize (ρ3.set 1 (some (dL ((M.set k (M.getD s [])).set s (M.getD k []))))) = ρ4 at *
    have a4 : una gNeg (eVar 2) ρ4 = ret (.int (-w)) := by rw [x_una, var_eq b3.e2, bnd_ret', x_gNeg_i]
    rw [td2f3a4, x_sAsg, a4, bnd_ret', bnd_ret', oThen_nx]
    have b4 : Ds (swp M k s) (-w) p (ρ4.set 2 (some (.int (-w)))) := by
      have g : ∀ j, j ≠ 2 → (ρ4.set 2 (some (.int (-w))))[j]? = ρ4[j]? := fun j hj => List.getElem?_set_ne (by omega)
      exact ⟨by rw [List.length_set, b3.len], by rw [g 1 (by decide), b3.e1], List.getElem?_set_self (by rw [b3.len]; decide), by rw [g 3 (by decide), b3.e3]⟩
    refine stage_fin b4 (by rw [List.getElem?_set_ne (by decide), r4]) ?_ (zr_swp hz (by omega) ls) kN N5 hp hp0
    refine ⟨by simp [swp, h.1], fun r hr => ?_⟩
    rcases List.mem_or_eq_of_mem_set hr with h1 | h1
    · rcases List.mem_or_eq_of_mem_set h1 with h2 | h2
      · exact h.2 r h2
      · exact h2 ▸ h.2 _ (List.mem_of_getElem? gs)
    · exact h1 ▸ h.2 _ (List.mem_of_getElem? gk)
/-- from stage k on -/
def Run (N k : Nat) (w p : Int) (T : List (List Int)) (r : Int) : Prop := ∀ ρ, Ds T w p ρ → bnd (forW (tgN 4) td2f (rangeD (k : Nat) (N - 1 - k)) ρ) (fun o => oThen o td3) = ret (.rt (.int r))
theorem atI_last {α : Type} {xs : List α} {x : α} (h : xs[xs.length - 1]? = some x) : L2.atI xs (-1) = some x := by
  have hl : 0 < xs.length := by
    have := (List.getElem?_eq_some_iff.mp h).1
    omega
  have : ixN xs.length (-1) = some (xs.length - 1) := by
    unfold ixN
    rw [if_neg (by omega), if_pos (by omega)]
    congr 1
    omega
  unfold L2.atI
  rw [this]
  exact h
theorem run_end {N : Nat} {w p : Int} {T : List (List Int)} (h : MOk N T) (hN : 0 < N) (hw : Bd w) : Run N (N - 1) w p T (w * (T.getD (N - 1) []).getD (N - 1) 0) := by
  intro ρ s
  have lk : N - 1 < T.length := by rw [h.1]; omega
  have gk : T[N - 1]? = some (T.getD (N - 1) []) := getD_some lk
  have hm := h.2 _ (List.mem_of_getElem? gk)
  have gkk : (T.getD (N - 1) [])[N - 1]? = some ((T.getD (N - 1) []).getD (N - 1) 0) := getD_some (by rw [hm.1]; omega)
  have e1 : gIx (dL T) (.int (-1)) = ret (lstI (T.getD (N - 1) [])) := gIx_l (atI_last (by rw [List.length_map, h.1, List.getElem?_map, gk]; rfl))
  have e2 : gIx (lstI (T.getD (N - 1) [])) (.int (-1)) = ret (.int ((T.getD (N - 1) []).getD (N - 1) 0)) := gIx_l (atI_last (by rw [dInts_len, hm.1, dInts, List.getElem?_map, gkk]; rfl))
  have e3 : mulOk w ((T.getD (N - 1) []).getD (N - 1) 0) = true := mulB hw (hm.2 _ (List.mem_of_getElem? gkk))
  rw [Nat.sub_self, show rangeD ((N - 1 : Nat) : Int) 0 = [] from rfl]
  show bnd (ret (Out.nx ρ)) _ = _
  rw [bnd_ret', oThen_nx, td3, x_sRet, x_bin, var_eq s.e2, bnd_ret', x_bin, x_bin, var_eq s.e1, bnd_ret', ng_e, bnd_ret', e1, bnd_ret', bnd_ret', e2, bnd_ret', x_gMulX_i, if_pos e3, bnd_ret']
theorem run_none {N k : Nat} {w p : Int} {T : List (List Int)} (h : MOk N T) (N5 : N ≤ 1000) (hk : k + 1 < N) (hv : pivs N k T = []) : Run N k w p T 0 := by
  intro ρ s
  have e : N - 1 - k = (N - 1 - (k + 1)) + 1 := by omega
  rw [e, rangeD_succ, forW_cons, x_tgN, bnd_ret']
  rw [stage_none (s.set (by decide)) (List.getElem?_set_self (by rw [s.len]; decide)) h (by omega) N5 hv, bnd_ret', oLoop_rt, bnd_ret', oThen_rt]
theorem run_some {N k s : Nat} {tl : List Nat} {w p r : Int} {T : List (List Int)} (h : MOk N T) (N5 : N ≤ 1000) (hk : k + 1 < N) (hp : Bd p) (hp0 : p ≠ 0) (hv : pivs N k T = s :: tl) (hz : Zr k T)
    (hr : Run N (k + 1) (if s = k then w else -w) (((if s = k then T else swp T k s).getD k []).getD k 0) (stg k p (if s = k then T else swp T k s)) r) : Run N k w p T r := by
  intro ρ d
  have e : N - 1 - k = (N - 1 - (k + 1)) + 1 := by omega
  rw [e, rangeD_succ, forW_cons, x_tgN, bnd_ret']
  obtain ⟨ρ', s', c⟩ := stage_some (d.set (by decide)) (List.getElem?_set_self (by rw [d.len]; decide)) h hz (by omega) N5 hp hp0 hv
  rw [c, bnd_ret', oLoop_nx]
  exact hr _ s'
end L74
namespace L74
open PySem hiding ret
open Py L2
theorem mok4 {a0 a1 a2 a3 b0 b1 b2 b3 c0 c1 c2 c3 e0 e1 e2 e3 : Int} (ha0 : Bd a0) (ha1 : Bd a1) (ha2 : Bd a2) (ha3 : Bd a3) (hb0 : Bd b0) (hb1 : Bd b1) (hb2 : Bd b2) (hb3 : Bd b3) (hc0 : Bd c0) (hc1 : Bd c1) (hc2 : Bd c2) (hc3 : Bd c3) (he0 : Bd e0) (he1 : Bd e1) (he2 : Bd e2) (he3 : Bd e3) : MOk 4 [[a0, a1, a2, a3], [b0, b1, b2, b3], [c0, c1, c2, c3], [e0, e1, e2, e3]] := by
  refine ⟨rfl, ?_⟩
  simp only [List.forall_mem_cons, BdL]
  exact ⟨⟨rfl, ha0, ha1, ha2, ha3, by simp⟩, ⟨rfl, hb0, hb1, hb2, hb3, by simp⟩, ⟨rfl, hc0, hc1, hc2, hc3, by simp⟩, ⟨rfl, he0, he1, he2, he3, by simp⟩, by simp⟩
theorem mok3 {a0 a1 a2 b0 b1 b2 c0 c1 c2 : Int} (ha0 : Bd a0) (ha1 : Bd a1) (ha2 : Bd a2) (hb0 : Bd b0) (hb1 : Bd b1) (hb2 : Bd b2) (hc0 : Bd c0) (hc1 : Bd c1) (hc2 : Bd c2) : MOk 3 [[a0, a1, a2], [b0, b1, b2], [c0, c1, c2]] := by
  refine ⟨rfl, ?_⟩
  simp only [List.forall_mem_cons, BdL]
  exact ⟨⟨rfl, ha0, ha1, ha2, by simp⟩, ⟨rfl, hb0, hb1, hb2, by simp⟩, ⟨rfl, hc0, hc1, hc2, by simp⟩, by simp⟩
theorem mok2 {a0 a1 b0 b1 : Int} (ha0 : Bd a0) (ha1 : Bd a1) (hb0 : Bd b0) (hb1 : Bd b1) : MOk 2 [[a0, a1], [b0, b1]] := by
  refine ⟨rfl, ?_⟩
  simp only [List.forall_mem_cons, BdL]
  exact ⟨⟨rfl, ha0, ha1, by simp⟩, ⟨rfl, hb0, hb1, by simp⟩, by simp⟩
theorem mok1 {a0 : Int} (ha0 : Bd a0) : MOk 1 [[a0]] := by
  refine ⟨rfl, ?_⟩
  simp only [List.forall_mem_cons, BdL]
  exact ⟨⟨rfl, ha0, by simp⟩, by simp⟩
theorem bz : Bd 0 := by unfold Bd; decide +kernel
theorem Bd.neg {x : Int} (h : Bd x) : Bd (-x) := by unfold Bd at *; omega
theorem all2 {k N : Nat} {P : Nat → Prop} (h : ∀ j, j < N → P j) : ∀ i, k ≤ i → i < N → P i := fun i _ h2 => h i h2
/-- n = 4, the last stage -/
theorem p2 {w a0 a1 a2 a3 b0 b1 b2 b3 c0 c1 c2 c3 e0 e1 e2 e3 m f1 f2 f3 g22 g23 g32 g33 : Int} (hw : Bd w)
    (ha0 : B 60 a0) (ha1 : B 60 a1) (ha2 : B 60 a2) (ha3 : B 60 a3) (hb0 : B 60 b0) (hb1 : B 60 b1) (hb2 : B 60 b2) (hb3 : B 60 b3) (hc0 : B 60 c0) (hc1 : B 60 c1) (hc2 : B 60 c2) (hc3 : B 60 c3) (he0 : B 60 e0) (he1 : B 60 e1) (he2 : B 60 e2) (he3 : B 60 e3)
    (hf1 : Bd f1) (hf2 : Bd f2) (hf3 : Bd f3)
    (em : m = d2 a0 a1 b0 b1) (m0 : m ≠ 0) (e22 : g22 = d3 a0 a1 a2 b0 b1 b2 c0 c1 c2) (e23 : g23 = d3 a0 a1 a3 b0 b1 b3 c0 c1 c3) (e32 : g32 = d3 a0 a1 a2 b0 b1 b2 e0 e1 e2) (e33 : g33 = d3 a0 a1 a3 b0 b1 b3 e0 e1 e3) :
    Run 4 2 w m [[a0, a1, a2, a3], [0, f1, f2, f3], [0, 0, g22, g23], [0, 0, g32, g33]] (w * d4 a0 a1 a2 a3 b0 b1 b2 b3 c0 c1 c2 c3 e0 e1 e2 e3) := by
  have I : g33 * g22 - g32 * g23 = d4 a0 a1 a2 a3 b0 b1 b2 b3 c0 c1 c2 c3 e0 e1 e2 e3 * m := by subst e22 e23 e32 e33 em; exact id3 ..
  have hm : Bd m := em ▸ (ha0.d2 ha1 hb0 hb1).bd (by decide)
  have h22 : Bd g22 := e22 ▸ (ha0.d3 ha1 ha2 hb0 hb1 hb2 hc0 hc1 hc2).bd (by decide)
  have h23 : Bd g23 := e23 ▸ (ha0.d3 ha1 ha3 hb0 hb1 hb3 hc0 hc1 hc3).bd (by decide)
  have h32 : Bd g32 := e32 ▸ (ha0.d3 ha1 ha2 hb0 hb1 hb2 he0 he1 he2).bd (by decide)
  have h33 : Bd g33 := e33 ▸ (ha0.d3 ha1 ha3 hb0 hb1 hb3 he0 he1 he3).bd (by decide)
  have hD : Bd (d4 a0 a1 a2 a3 b0 b1 b2 b3 c0 c1 c2 c3 e0 e1 e2 e3) := (ha0.d4 ha1 ha2 ha3 hb0 hb1 hb2 hb3 hc0 hc1 hc2 hc3 he0 he1 he2 he3).bd (by decide)
  generalize d4 a0 a1 a2 a3 b0 b1 b2 b3 c0 c1 c2 c3 e0 e1 e2 e3 = X at I hD ⊢
  have ok := mok4 (ha0.bd (by decide)) (ha1.bd (by decide)) (ha2.bd (by decide)) (ha3.bd (by decide)) bz hf1 hf2 hf3 bz bz h22 h23 bz bz h32 h33
  by_cases z : g22 = 0
  · by_cases z' : g32 = 0
    · have : X = 0 := by
        rw [z, z'] at I
        rcases Int.mul_eq_zero.mp (by omega : X * m = 0) with h | h
        · exact h
        · exact absurd h m0
      rw [this, Int.mul_zero]
      refine run_none ok (by decide) (by decide) (pivs_none fun i h1 h2 => ?_)
      match i, h1, h2 with
      | 2, _, _ => exact z
      | 3, _, _ => exact z'
    · obtain ⟨tl, ht⟩ := pivs_some (N := 4) (k := 2) (s := 3) (T := [[a0, a1, a2, a3], [0, f1, f2, f3], [0, 0, g22, g23], [0, 0, g32, g33]]) (by decide) (by decide) (fun i h1 h2 => match i, h1, h2 with | 2, _, _ => z) z'
      refine run_some ok (by decide) (by decide) hm m0 ht (by simp [Zr]) ?_
      have e : (g23 * g32 - g22 * g33).fdiv m = -X := by
        rw [show g23 * g32 - g22 * g33 = (-X) * m by grind, Int.mul_fdiv_cancel _ m0]
      have := run_end (N := 4) (w := -w) (p := g32) (mok4 (ha0.bd (by decide)) (ha1.bd (by decide)) (ha2.bd (by decide)) (ha3.bd (by decide)) bz hf1 hf2 hf3 bz bz h32 h33 bz bz bz hD.neg) (by decide) hw.neg
      have e2 : -w * -X = w * X := by grind
      simp only [List.getD_cons_succ, List.getD_cons_zero, e2] at this
      rw [← e] at this
      exact this
  · obtain ⟨tl, ht⟩ := pivs_some (N := 4) (k := 2) (s := 2) (T := [[a0, a1, a2, a3], [0, f1, f2, f3], [0, 0, g22, g23], [0, 0, g32, g33]]) (by decide) (by decide) (fun i h1 h2 => absurd h1 (by omega)) z
    refine run_some ok (by decide) (by decide) hm m0 ht (by simp [Zr]) ?_
    have e : (g33 * g22 - g32 * g23).fdiv m = X := by rw [I, Int.mul_fdiv_cancel _ m0]
    have := run_end (N := 4) (w := w) (p := g22) (mok4 (ha0.bd (by decide)) (ha1.bd (by decide)) (ha2.bd (by decide)) (ha3.bd (by decide)) bz hf1 hf2 hf3 bz bz h22 h23 bz bz bz hD) (by decide) hw
    simp only [List.getD_cons_succ, List.getD_cons_zero] at this
    rw [← e] at this
    rw [← e]
    exact this
end L74
section
set_option maxHeartbeats 2000000
namespace L74
open PySem hiding ret
open Py L2
theorem p1_4 {w a0 a1 a2 a3 b0 b1 b2 b3 c0 c1 c2 c3 e0 e1 e2 e3  gb1 gb2 gb3 gc1 gc2 gc3 ge1 ge2 ge3 : Int} (hw : Bd w) (ha0 : B 60 a0) (ha1 : B 60 a1) (ha2 : B 60 a2) (ha3 : B 60 a3) (hb0 : B 60 b0) (hb1 : B 60 b1) (hb2 : B 60 b2) (hb3 : B 60 b3) (hc0 : B 60 c0) (hc1 : B 60 c1) (hc2 : B 60 c2) (hc3 : B 60 c3) (he0 : B 60 e0) (he1 : B 60 e1) (he2 : B 60 e2) (he3 : B 60 e3) (m0 : a0 ≠ 0)
    (eb1 : gb1 = d2 a0 a1 b0 b1) (eb2 : gb2 = d2 a0 a2 b0 b2) (eb3 : gb3 = d2 a0 a3 b0 b3) (ec1 : gc1 = d2 a0 a1 c0 c1) (ec2 : gc2 = d2 a0 a2 c0 c2) (ec3 : gc3 = d2 a0 a3 c0 c3) (ee1 : ge1 = d2 a0 a1 e0 e1) (ee2 : ge2 = d2 a0 a2 e0 e2) (ee3 : ge3 = d2 a0 a3 e0 e3) :
    Run 4 1 w a0 [[a0, a1, a2, a3], [0, gb1, gb2, gb3], [0, gc1, gc2, gc3], [0, ge1, ge2, ge3]] (w * d4 a0 a1 a2 a3 b0 b1 b2 b3 c0 c1 c2 c3 e0 e1 e2 e3) := by
  have hgb1 : Bd gb1 := eb1 ▸ (ha0.d2 ha1 hb0 hb1).bd (by decide)
  have hgb2 : Bd gb2 := eb2 ▸ (ha0.d2 ha2 hb0 hb2).bd (by decide)
  have hgb3 : Bd gb3 := eb3 ▸ (ha0.d2 ha3 hb0 hb3).bd (by decide)
  have hgc1 : Bd gc1 := ec1 ▸ (ha0.d2 ha1 hc0 hc1).bd (by decide)
  have hgc2 : Bd gc2 := ec2 ▸ (ha0.d2 ha2 hc0 hc2).bd (by decide)
  have hgc3 : Bd gc3 := ec3 ▸ (ha0.d2 ha3 hc0 hc3).bd (by decide)
  have hge1 : Bd ge1 := ee1 ▸ (ha0.d2 ha1 he0 he1).bd (by decide)
  have hge2 : Bd ge2 := ee2 ▸ (ha0.d2 ha2 he0 he2).bd (by decide)
  have hge3 : Bd ge3 := ee3 ▸ (ha0.d2 ha3 he0 he3).bd (by decide)
  have ok := mok4 (ha0.bd (by decide)) (ha1.bd (by decide)) (ha2.bd (by decide)) (ha3.bd (by decide)) bz hgb1 hgb2 hgb3 bz hgc1 hgc2 hgc3 bz hge1 hge2 hge3
  have hp : Bd a0 := ha0.bd (by decide)
  have xbc2 : (gc2 * gb1 - gc1 * gb2).fdiv a0 = d3 a0 a1 a2 b0 b1 b2 c0 c1 c2 := by rw [ec2, eb1, ec1, eb2, id2, Int.mul_fdiv_cancel _ m0]
  have xbc3 : (gc3 * gb1 - gc1 * gb3).fdiv a0 = d3 a0 a1 a3 b0 b1 b3 c0 c1 c3 := by rw [ec3, eb1, ec1, eb3, id2, Int.mul_fdiv_cancel _ m0]
  have xbe2 : (ge2 * gb1 - ge1 * gb2).fdiv a0 = d3 a0 a1 a2 b0 b1 b2 e0 e1 e2 := by rw [ee2, eb1, ee1, eb2, id2, Int.mul_fdiv_cancel _ m0]
  have xbe3 : (ge3 * gb1 - ge1 * gb3).fdiv a0 = d3 a0 a1 a3 b0 b1 b3 e0 e1 e3 := by rw [ee3, eb1, ee1, eb3, id2, Int.mul_fdiv_cancel _ m0]
  have xcb2 : (gb2 * gc1 - gb1 * gc2).fdiv a0 = d3 a0 a1 a2 c0 c1 c2 b0 b1 b2 := by rw [eb2, ec1, eb1, ec2, id2, Int.mul_fdiv_cancel _ m0]
  have xcb3 : (gb3 * gc1 - gb1 * gc3).fdiv a0 = d3 a0 a1 a3 c0 c1 c3 b0 b1 b3 := by rw [eb3, ec1, eb1, ec3, id2, Int.mul_fdiv_cancel _ m0]
  have xce2 : (ge2 * gc1 - ge1 * gc2).fdiv a0 = d3 a0 a1 a2 c0 c1 c2 e0 e1 e2 := by rw [ee2, ec1, ee1, ec2, id2, Int.mul_fdiv_cancel _ m0]
  have xce3 : (ge3 * gc1 - ge1 * gc3).fdiv a0 = d3 a0 a1 a3 c0 c1 c3 e0 e1 e3 := by rw [ee3, ec1, ee1, ec3, id2, Int.mul_fdiv_cancel _ m0]
  have xeb2 : (gb2 * ge1 - gb1 * ge2).fdiv a0 = d3 a0 a1 a2 e0 e1 e2 b0 b1 b2 := by rw [eb2, ee1, eb1, ee2, id2, Int.mul_fdiv_cancel _ m0]
  have xeb3 : (gb3 * ge1 - gb1 * ge3).fdiv a0 = d3 a0 a1 a3 e0 e1 e3 b0 b1 b3 := by rw [eb3, ee1, eb1, ee3, id2, Int.mul_fdiv_cancel _ m0]
  have xec2 : (gc2 * ge1 - gc1 * ge2).fdiv a0 = d3 a0 a1 a2 e0 e1 e2 c0 c1 c2 := by rw [ec2, ee1, ec1, ee2, id2, Int.mul_fdiv_cancel _ m0]
  have xec3 : (gc3 * ge1 - gc1 * ge3).fdiv a0 = d3 a0 a1 a3 e0 e1 e3 c0 c1 c3 := by rw [ec3, ee1, ec1, ee3, id2, Int.mul_fdiv_cancel _ m0]
  have key : gb1 = 0 → gc1 = 0 → ge1 = 0 → d4 a0 a1 a2 a3 b0 b1 b2 b3 c0 c1 c2 c3 e0 e1 e2 e3 = 0 := by
    intro yb yc ye
    have h : d4 a0 a1 a2 a3 b0 b1 b2 b3 c0 c1 c2 c3 e0 e1 e2 e3 * (a0 * a0) = gb1 * (gc2 * ge3 - gc3 * ge2) - gc1 * (gb2 * ge3 - gb3 * ge2) + ge1 * (gb2 * gc3 - gb3 * gc2) := by rw [eb1, eb2, eb3, ec1, ec2, ec3, ee1, ee2, ee3]; unfold d4 d3 d2; grind
    rw [yb, yc, ye] at h
    rcases Int.mul_eq_zero.mp (by rw [h]; grind) with h | h
    · exact h
    · exact absurd h (Int.mul_ne_zero m0 m0)
  by_cases zb : gb1 = 0
  · by_cases zc : gc1 = 0
    · by_cases ze : ge1 = 0
      · rw [key zb zc ze, Int.mul_zero]
        exact run_none ok (by decide) (by decide) (pivs_none fun i h1 h2 => match i, h1, h2 with | 1, _, _ => zb | 2, _, _ => zc | 3, _, _ => ze)
      · obtain ⟨tl, ht⟩ := pivs_some (N := 4) (k := 1) (s := 3) (T := [[a0, a1, a2, a3], [0, gb1, gb2, gb3], [0, gc1, gc2, gc3], [0, ge1, ge2, ge3]]) (by decide) (by decide) (fun i h1 h2 => match i, h1, h2 with | 1, _, _ => zb | 2, _, _ => zc) ze
        refine run_some ok (by decide) (by decide) hp m0 ht (by simp [Zr]) ?_
        have r := p2 (w := (-w)) hw.neg ha0 ha1 ha2 ha3 he0 he1 he2 he3 hc0 hc1 hc2 hc3 hb0 hb1 hb2 hb3 hge1 hge2 hge3  ee1 ze xec2 xec3 xeb2 xeb3
        rw [show (-w) * d4 a0 a1 a2 a3 e0 e1 e2 e3 c0 c1 c2 c3 b0 b1 b2 b3 = w * d4 a0 a1 a2 a3 b0 b1 b2 b3 c0 c1 c2 c3 e0 e1 e2 e3 by unfold d4 d3 d2; grind] at r
        exact r
    · obtain ⟨tl, ht⟩ := pivs_some (N := 4) (k := 1) (s := 2) (T := [[a0, a1, a2, a3], [0, gb1, gb2, gb3], [0, gc1, gc2, gc3], [0, ge1, ge2, ge3]]) (by decide) (by decide) (fun i h1 h2 => match i, h1, h2 with | 1, _, _ => zb) zc
      refine run_some ok (by decide) (by decide) hp m0 ht (by simp [Zr]) ?_
      have r := p2 (w := (-w)) hw.neg ha0 ha1 ha2 ha3 hc0 hc1 hc2 hc3 hb0 hb1 hb2 hb3 he0 he1 he2 he3 hgc1 hgc2 hgc3  ec1 zc xcb2 xcb3 xce2 xce3
      rw [show (-w) * d4 a0 a1 a2 a3 c0 c1 c2 c3 b0 b1 b2 b3 e0 e1 e2 e3 = w * d4 a0 a1 a2 a3 b0 b1 b2 b3 c0 c1 c2 c3 e0 e1 e2 e3 by unfold d4 d3 d2; grind] at r
      exact r
  · obtain ⟨tl, ht⟩ := pivs_some (N := 4) (k := 1) (s := 1) (T := [[a0, a1, a2, a3], [0, gb1, gb2, gb3], [0, gc1, gc2, gc3], [0, ge1, ge2, ge3]]) (by decide) (by decide) (fun i h1 h2 => absurd h1 (by omega)) zb
    refine run_some ok (by decide) (by decide) hp m0 ht (by simp [Zr]) ?_
    have r := p2 (w := w) hw ha0 ha1 ha2 ha3 hb0 hb1 hb2 hb3 hc0 hc1 hc2 hc3 he0 he1 he2 he3 hgb1 hgb2 hgb3  eb1 zb xbc2 xbc3 xbe2 xbe3
    exact r
theorem p1_3 {w a0 a1 a2 b0 b1 b2 c0 c1 c2  gb1 gb2 gc1 gc2 : Int} (hw : Bd w) (ha0 : B 60 a0) (ha1 : B 60 a1) (ha2 : B 60 a2) (hb0 : B 60 b0) (hb1 : B 60 b1) (hb2 : B 60 b2) (hc0 : B 60 c0) (hc1 : B 60 c1) (hc2 : B 60 c2) (m0 : a0 ≠ 0)
    (eb1 : gb1 = d2 a0 a1 b0 b1) (eb2 : gb2 = d2 a0 a2 b0 b2) (ec1 : gc1 = d2 a0 a1 c0 c1) (ec2 : gc2 = d2 a0 a2 c0 c2) :
    Run 3 1 w a0 [[a0, a1, a2], [0, gb1, gb2], [0, gc1, gc2]] (w * d3 a0 a1 a2 b0 b1 b2 c0 c1 c2) := by
  have hgb1 : Bd gb1 := eb1 ▸ (ha0.d2 ha1 hb0 hb1).bd (by decide)
  have hgb2 : Bd gb2 := eb2 ▸ (ha0.d2 ha2 hb0 hb2).bd (by decide)
  have hgc1 : Bd gc1 := ec1 ▸ (ha0.d2 ha1 hc0 hc1).bd (by decide)
  have hgc2 : Bd gc2 := ec2 ▸ (ha0.d2 ha2 hc0 hc2).bd (by decide)
  have ok := mok3 (ha0.bd (by decide)) (ha1.bd (by decide)) (ha2.bd (by decide)) bz hgb1 hgb2 bz hgc1 hgc2
  have hp : Bd a0 := ha0.bd (by decide)
  have xbc2 : (gc2 * gb1 - gc1 * gb2).fdiv a0 = d3 a0 a1 a2 b0 b1 b2 c0 c1 c2 := by rw [ec2, eb1, ec1, eb2, id2, Int.mul_fdiv_cancel _ m0]
  have xcb2 : (gb2 * gc1 - gb1 * gc2).fdiv a0 = d3 a0 a1 a2 c0 c1 c2 b0 b1 b2 := by rw [eb2, ec1, eb1, ec2, id2, Int.mul_fdiv_cancel _ m0]
  have key : gb1 = 0 → gc1 = 0 → d3 a0 a1 a2 b0 b1 b2 c0 c1 c2 = 0 := by
    intro yb yc
    have h : d3 a0 a1 a2 b0 b1 b2 c0 c1 c2 * a0 = gb1 * gc2 - gc1 * gb2 := by rw [eb1, eb2, ec1, ec2]; unfold d3 d2; grind
    rw [yb, yc] at h
    rcases Int.mul_eq_zero.mp (by rw [h]; grind) with h | h
    · exact h
    · exact absurd h m0
  by_cases zb : gb1 = 0
  · by_cases zc : gc1 = 0
    · rw [key zb zc, Int.mul_zero]
      exact run_none ok (by decide) (by decide) (pivs_none fun i h1 h2 => match i, h1, h2 with | 1, _, _ => zb | 2, _, _ => zc)
    · obtain ⟨tl, ht⟩ := pivs_some (N := 3) (k := 1) (s := 2) (T := [[a0, a1, a2], [0, gb1, gb2], [0, gc1, gc2]]) (by decide) (by decide) (fun i h1 h2 => match i, h1, h2 with | 1, _, _ => zb) zc
      refine run_some ok (by decide) (by decide) hp m0 ht (by simp [Zr]) ?_
      have r := run_end (N := 3) (w := (-w)) (p := gc1) (mok3 (ha0.bd (by decide)) (ha1.bd (by decide)) (ha2.bd (by decide)) bz hgc1 hgc2 bz bz (c2 := (gb2 * gc1 - gb1 * gc2).fdiv a0) (by rw [xcb2]; exact (ha0.d3 ha1 ha2 hc0 hc1 hc2 hb0 hb1 hb2).bd (by decide))) (by decide) hw.neg
      simp only [List.getD_cons_succ, List.getD_cons_zero] at r
      rw [show w * d3 a0 a1 a2 b0 b1 b2 c0 c1 c2 = (-w) * (gb2 * gc1 - gb1 * gc2).fdiv a0 by rw [xcb2] <;> (unfold d3 d2; grind)]
      exact r
  · obtain ⟨tl, ht⟩ := pivs_some (N := 3) (k := 1) (s := 1) (T := [[a0, a1, a2], [0, gb1, gb2], [0, gc1, gc2]]) (by decide) (by decide) (fun i h1 h2 => absurd h1 (by omega)) zb
    refine run_some ok (by decide) (by decide) hp m0 ht (by simp [Zr]) ?_
    have r := run_end (N := 3) (w := w) (p := gb1) (mok3 (ha0.bd (by decide)) (ha1.bd (by decide)) (ha2.bd (by decide)) bz hgb1 hgb2 bz bz (c2 := (gc2 * gb1 - gc1 * gb2).fdiv a0) (by rw [xbc2]; exact (ha0.d3 ha1 ha2 hb0 hb1 hb2 hc0 hc1 hc2).bd (by decide))) (by decide) hw
    simp only [List.getD_cons_succ, List.getD_cons_zero] at r
    rw [show w * d3 a0 a1 a2 b0 b1 b2 c0 c1 c2 = w * (gc2 * gb1 - gc1 * gb2).fdiv a0 by rw [xbc2] <;> (unfold d3 d2; grind)]
    exact r
theorem p0_4 {a0 a1 a2 a3 b0 b1 b2 b3 c0 c1 c2 c3 e0 e1 e2 e3 : Int} (ha0 : B 60 a0) (ha1 : B 60 a1) (ha2 : B 60 a2) (ha3 : B 60 a3) (hb0 : B 60 b0) (hb1 : B 60 b1) (hb2 : B 60 b2) (hb3 : B 60 b3) (hc0 : B 60 c0) (hc1 : B 60 c1) (hc2 : B 60 c2) (hc3 : B 60 c3) (he0 : B 60 e0) (he1 : B 60 e1) (he2 : B 60 e2) (he3 : B 60 e3) : Run 4 0 1 1 [[a0, a1, a2, a3], [b0, b1, b2, b3], [c0, c1, c2, c3], [e0, e1, e2, e3]] (d4 a0 a1 a2 a3 b0 b1 b2 b3 c0 c1 c2 c3 e0 e1 e2 e3) := by
  have ok := mok4 (ha0.bd (by decide)) (ha1.bd (by decide)) (ha2.bd (by decide)) (ha3.bd (by decide)) (hb0.bd (by decide)) (hb1.bd (by decide)) (hb2.bd (by decide)) (hb3.bd (by decide)) (hc0.bd (by decide)) (hc1.bd (by decide)) (hc2.bd (by decide)) (hc3.bd (by decide)) (he0.bd (by decide)) (he1.bd (by decide)) (he2.bd (by decide)) (he3.bd (by decide))
  have bone : Bd 1 := (show B 0 1 by unfold B; decide).bd (by decide)
  have key : a0 = 0 → b0 = 0 → c0 = 0 → e0 = 0 → d4 a0 a1 a2 a3 b0 b1 b2 b3 c0 c1 c2 c3 e0 e1 e2 e3 = 0 := by
    intro ya yb yc ye
    unfold d4 d3 d2; rw [ya, yb, yc, ye]; grind
  have x : ∀ p q r s : Int, (p * q - r * s).fdiv 1 = d2 q s r p := by intro p q r s; rw [Int.fdiv_one]; unfold d2; grind
  by_cases za : a0 = 0
  · by_cases zb : b0 = 0
    · by_cases zc : c0 = 0
      · by_cases ze : e0 = 0
        · rw [key za zb zc ze]
          exact run_none ok (by decide) (by decide) (pivs_none fun i h1 h2 => match i, h1, h2 with | 0, _, _ => za | 1, _, _ => zb | 2, _, _ => zc | 3, _, _ => ze)
        · obtain ⟨tl, ht⟩ := pivs_some (N := 4) (k := 0) (s := 3) (T := [[a0, a1, a2, a3], [b0, b1, b2, b3], [c0, c1, c2, c3], [e0, e1, e2, e3]]) (by decide) (by decide) (fun i h1 h2 => match i, h1, h2 with | 0, _, _ => za | 1, _, _ => zb | 2, _, _ => zc) ze
          refine run_some ok (by decide) (by decide) bone (by decide) ht (by simp [Zr]) ?_
          have r := p1_4 (w := (-1)) bone.neg he0 he1 he2 he3 hb0 hb1 hb2 hb3 hc0 hc1 hc2 hc3 ha0 ha1 ha2 ha3  ze (x ..) (x ..) (x ..) (x ..) (x ..) (x ..) (x ..) (x ..) (x ..)
          rw [show (-1) * d4 e0 e1 e2 e3 b0 b1 b2 b3 c0 c1 c2 c3 a0 a1 a2 a3 = d4 a0 a1 a2 a3 b0 b1 b2 b3 c0 c1 c2 c3 e0 e1 e2 e3 by unfold d4 d3 d2; grind] at r
          exact r
      · obtain ⟨tl, ht⟩ := pivs_some (N := 4) (k := 0) (s := 2) (T := [[a0, a1, a2, a3], [b0, b1, b2, b3], [c0, c1, c2, c3], [e0, e1, e2, e3]]) (by decide) (by decide) (fun i h1 h2 => match i, h1, h2 with | 0, _, _ => za | 1, _, _ => zb) zc
        refine run_some ok (by decide) (by decide) bone (by decide) ht (by simp [Zr]) ?_
        have r := p1_4 (w := (-1)) bone.neg hc0 hc1 hc2 hc3 hb0 hb1 hb2 hb3 ha0 ha1 ha2 ha3 he0 he1 he2 he3  zc (x ..) (x ..) (x ..) (x ..) (x ..) (x ..) (x ..) (x ..) (x ..)
        rw [show (-1) * d4 c0 c1 c2 c3 b0 b1 b2 b3 a0 a1 a2 a3 e0 e1 e2 e3 = d4 a0 a1 a2 a3 b0 b1 b2 b3 c0 c1 c2 c3 e0 e1 e2 e3 by unfold d4 d3 d2; grind] at r
        exact r
    · obtain ⟨tl, ht⟩ := pivs_some (N := 4) (k := 0) (s := 1) (T := [[a0, a1, a2, a3], [b0, b1, b2, b3], [c0, c1, c2, c3], [e0, e1, e2, e3]]) (by decide) (by decide) (fun i h1 h2 => match i, h1, h2 with | 0, _, _ => za) zb
      refine run_some ok (by decide) (by decide) bone (by decide) ht (by simp [Zr]) ?_
      have r := p1_4 (w := (-1)) bone.neg hb0 hb1 hb2 hb3 ha0 ha1 ha2 ha3 hc0 hc1 hc2 hc3 he0 he1 he2 he3  zb (x ..) (x ..) (x ..) (x ..) (x ..) (x ..) (x ..) (x ..) (x ..)
      rw [show (-1) * d4 b0 b1 b2 b3 a0 a1 a2 a3 c0 c1 c2 c3 e0 e1 e2 e3 = d4 a0 a1 a2 a3 b0 b1 b2 b3 c0 c1 c2 c3 e0 e1 e2 e3 by unfold d4 d3 d2; grind] at r
      exact r
  · obtain ⟨tl, ht⟩ := pivs_some (N := 4) (k := 0) (s := 0) (T := [[a0, a1, a2, a3], [b0, b1, b2, b3], [c0, c1, c2, c3], [e0, e1, e2, e3]]) (by decide) (by decide) (fun i h1 h2 => absurd h2 (by omega)) za
    refine run_some ok (by decide) (by decide) bone (by decide) ht (by simp [Zr]) ?_
    have r := p1_4 (w := 1) bone ha0 ha1 ha2 ha3 hb0 hb1 hb2 hb3 hc0 hc1 hc2 hc3 he0 he1 he2 he3  za (x ..) (x ..) (x ..) (x ..) (x ..) (x ..) (x ..) (x ..) (x ..)
    rw [show 1 * d4 a0 a1 a2 a3 b0 b1 b2 b3 c0 c1 c2 c3 e0 e1 e2 e3 = d4 a0 a1 a2 a3 b0 b1 b2 b3 c0 c1 c2 c3 e0 e1 e2 e3 by unfold d4 d3 d2; grind] at r
    exact r
theorem p0_3 {a0 a1 a2 b0 b1 b2 c0 c1 c2 : Int} (ha0 : B 60 a0) (ha1 : B 60 a1) (ha2 : B 60 a2) (hb0 : B 60 b0) (hb1 : B 60 b1) (hb2 : B 60 b2) (hc0 : B 60 c0) (hc1 : B 60 c1) (hc2 : B 60 c2) : Run 3 0 1 1 [[a0, a1, a2], [b0, b1, b2], [c0, c1, c2]] (d3 a0 a1 a2 b0 b1 b2 c0 c1 c2) := by
  have ok := mok3 (ha0.bd (by decide)) (ha1.bd (by decide)) (ha2.bd (by decide)) (hb0.bd (by decide)) (hb1.bd (by decide)) (hb2.bd (by decide)) (hc0.bd (by decide)) (hc1.bd (by decide)) (hc2.bd (by decide))
  have bone : Bd 1 := (show B 0 1 by unfold B; decide).bd (by decide)
  have key : a0 = 0 → b0 = 0 → c0 = 0 → d3 a0 a1 a2 b0 b1 b2 c0 c1 c2 = 0 := by
    intro ya yb yc
    unfold d3 d2; rw [ya, yb, yc]; grind
  have x : ∀ p q r s : Int, (p * q - r * s).fdiv 1 = d2 q s r p := by intro p q r s; rw [Int.fdiv_one]; unfold d2; grind
  by_cases za : a0 = 0
  · by_cases zb : b0 = 0
    · by_cases zc : c0 = 0
      · rw [key za zb zc]
        exact run_none ok (by decide) (by decide) (pivs_none fun i h1 h2 => match i, h1, h2 with | 0, _, _ => za | 1, _, _ => zb | 2, _, _ => zc)
      · obtain ⟨tl, ht⟩ := pivs_some (N := 3) (k := 0) (s := 2) (T := [[a0, a1, a2], [b0, b1, b2], [c0, c1, c2]]) (by decide) (by decide) (fun i h1 h2 => match i, h1, h2 with | 0, _, _ => za | 1, _, _ => zb) zc
        refine run_some ok (by decide) (by decide) bone (by decide) ht (by simp [Zr]) ?_
        have r := p1_3 (w := (-1)) bone.neg hc0 hc1 hc2 hb0 hb1 hb2 ha0 ha1 ha2  zc (x ..) (x ..) (x ..) (x ..)
        rw [show (-1) * d3 c0 c1 c2 b0 b1 b2 a0 a1 a2 = d3 a0 a1 a2 b0 b1 b2 c0 c1 c2 by unfold d3 d2; grind] at r
        exact r
    · obtain ⟨tl, ht⟩ := pivs_some (N := 3) (k := 0) (s := 1) (T := [[a0, a1, a2], [b0, b1, b2], [c0, c1, c2]]) (by decide) (by decide) (fun i h1 h2 => match i, h1, h2 with | 0, _, _ => za) zb
      refine run_some ok (by decide) (by decide) bone (by decide) ht (by simp [Zr]) ?_
      have r := p1_3 (w := (-1)) bone.neg hb0 hb1 hb2 ha0 ha1 ha2 hc0 hc1 hc2  zb (x ..) (x ..) (x ..) (x ..)
      rw [show (-1) * d3 b0 b1 b2 a0 a1 a2 c0 c1 c2 = d3 a0 a1 a2 b0 b1 b2 c0 c1 c2 by unfold d3 d2; grind] at r
      exact r
  · obtain ⟨tl, ht⟩ := pivs_some (N := 3) (k := 0) (s := 0) (T := [[a0, a1, a2], [b0, b1, b2], [c0, c1, c2]]) (by decide) (by decide) (fun i h1 h2 => absurd h2 (by omega)) za
    refine run_some ok (by decide) (by decide) bone (by decide) ht (by simp [Zr]) ?_
    have r := p1_3 (w := 1) bone ha0 ha1 ha2 hb0 hb1 hb2 hc0 hc1 hc2  za (x ..) (x ..) (x ..) (x ..)
    rw [show 1 * d3 a0 a1 a2 b0 b1 b2 c0 c1 c2 = d3 a0 a1 a2 b0 b1 b2 c0 c1 c2 by unfold d3 d2; grind] at r
    exact r
theorem p0_2 {a0 a1 b0 b1 : Int} (ha0 : B 60 a0) (ha1 : B 60 a1) (hb0 : B 60 b0) (hb1 : B 60 b1) : Run 2 0 1 1 [[a0, a1], [b0, b1]] (d2 a0 a1 b0 b1) := by
  have ok := mok2 (ha0.bd (by decide)) (ha1.bd (by decide)) (hb0.bd (by decide)) (hb1.bd (by decide))
  have bone : Bd 1 := (show B 0 1 by unfold B; decide).bd (by decide)
  have key : a0 = 0 → b0 = 0 → d2 a0 a1 b0 b1 = 0 := by
    intro ya yb
    unfold d2; rw [ya, yb]; grind
  have x : ∀ p q r s : Int, (p * q - r * s).fdiv 1 = d2 q s r p := by intro p q r s; rw [Int.fdiv_one]; unfold d2; grind
  by_cases za : a0 = 0
  · by_cases zb : b0 = 0
    · rw [key za zb]
      exact run_none ok (by decide) (by decide) (pivs_none fun i h1 h2 => match i, h1, h2 with | 0, _, _ => za | 1, _, _ => zb)
    · obtain ⟨tl, ht⟩ := pivs_some (N := 2) (k := 0) (s := 1) (T := [[a0, a1], [b0, b1]]) (by decide) (by decide) (fun i h1 h2 => match i, h1, h2 with | 0, _, _ => za) zb
      refine run_some ok (by decide) (by decide) bone (by decide) ht (by simp [Zr]) ?_
      have r := run_end (N := 2) (w := (-1)) (p := b0) (mok2 (hb0.bd (by decide)) (hb1.bd (by decide)) bz (b1 := (a1 * b0 - a0 * b1).fdiv 1) (by rw [x]; exact (hb0.d2 hb1 ha0 ha1).bd (by decide))) (by decide) bone.neg
      simp only [List.getD_cons_succ, List.getD_cons_zero] at r
      rw [show d2 a0 a1 b0 b1 = (-1) * (a1 * b0 - a0 * b1).fdiv 1 by rw [x]; unfold d2; grind]
      exact r
  · obtain ⟨tl, ht⟩ := pivs_some (N := 2) (k := 0) (s := 0) (T := [[a0, a1], [b0, b1]]) (by decide) (by decide) (fun i h1 h2 => absurd h2 (by omega)) za
    refine run_some ok (by decide) (by decide) bone (by decide) ht (by simp [Zr]) ?_
    have r := run_end (N := 2) (w := 1) (p := a0) (mok2 (ha0.bd (by decide)) (ha1.bd (by decide)) bz (b1 := (b1 * a0 - b0 * a1).fdiv 1) (by rw [x]; exact (ha0.d2 ha1 hb0 hb1).bd (by decide))) (by decide) bone
    simp only [List.getD_cons_succ, List.getD_cons_zero] at r
    rw [show d2 a0 a1 b0 b1 = 1 * (b1 * a0 - b0 * a1).fdiv 1 by rw [x]; unfold d2; grind]
    exact r
end L74
end
namespace L74
open PySem hiding ret
open Py L2
def Sq (n : Nat) (T : List (List Int)) : Prop := T.length = n ∧ ∀ r ∈ T, r.length = n ∧ ∀ x ∈ r, B 60 x
def detM : List (List Int) → Int
  | [] => 1
  | [[a]] => a
  | [[a, b], [c, d]] => d2 a b c d
  | [[a, b, c], [d, e, f], [g, h, i]] => d3 a b c d e f g h i
  | [[a0, a1, a2, a3], [b0, b1, b2, b3], [c0, c1, c2, c3], [e0, e1, e2, e3]] => d4 a0 a1 a2 a3 b0 b1 b2 b3 c0 c1 c2 c3 e0 e1 e2 e3
  | _ => 0
theorem l1 {α : Type} {l : List α} (h : l.length = 1) : ∃ a, l = [a] := by
  match l, h with
  | [a], _ => exact ⟨a, rfl⟩
theorem l2 {α : Type} {l : List α} (h : l.length = 2) : ∃ a b, l = [a, b] := by
  match l, h with
  | [a, b], _ => exact ⟨a, b, rfl⟩
theorem l3 {α : Type} {l : List α} (h : l.length = 3) : ∃ a b c, l = [a, b, c] := by
  match l, h with
  | [a, b, c], _ => exact ⟨a, b, c, rfl⟩
theorem l4 {α : Type} {l : List α} (h : l.length = 4) : ∃ a b c d, l = [a, b, c, d] := by
  match l, h with
  | [a, b, c, d], _ => exact ⟨a, b, c, d, rfl⟩
theorem sq1 {T : List (List Int)} (h : Sq 1 T) : ∃ a, T = [[a]] ∧ B 60 a := by
  obtain ⟨r, rfl⟩ := l1 h.1
  have h1 := h.2 r (by simp)
  obtain ⟨a, rfl⟩ := l1 h1.1
  exact ⟨a, rfl, h1.2 a (by simp)⟩
theorem sq2 {T : List (List Int)} (h : Sq 2 T) : ∃ a0 a1 b0 b1, T = [[a0, a1], [b0, b1]] ∧ B 60 a0 ∧ B 60 a1 ∧ B 60 b0 ∧ B 60 b1 := by
  obtain ⟨r, s, rfl⟩ := l2 h.1
  have h1 := h.2 r (by simp)
  have h2 := h.2 s (by simp)
  obtain ⟨a0, a1, rfl⟩ := l2 h1.1
  obtain ⟨b0, b1, rfl⟩ := l2 h2.1
  exact ⟨a0, a1, b0, b1, rfl, h1.2 a0 (by simp), h1.2 a1 (by simp), h2.2 b0 (by simp), h2.2 b1 (by simp)⟩
theorem sq3 {T : List (List Int)} (h : Sq 3 T) : ∃ a0 a1 a2 b0 b1 b2 c0 c1 c2, T = [[a0, a1, a2], [b0, b1, b2], [c0, c1, c2]] ∧ (B 60 a0 ∧ B 60 a1 ∧ B 60 a2) ∧ (B 60 b0 ∧ B 60 b1 ∧ B 60 b2) ∧ (B 60 c0 ∧ B 60 c1 ∧ B 60 c2) := by
  obtain ⟨r, s, t, rfl⟩ := l3 h.1
  have h1 := h.2 r (by simp)
  have h2 := h.2 s (by simp)
  have h3 := h.2 t (by simp)
  obtain ⟨a0, a1, a2, rfl⟩ := l3 h1.1
  obtain ⟨b0, b1, b2, rfl⟩ := l3 h2.1
  obtain ⟨c0, c1, c2, rfl⟩ := l3 h3.1
  exact ⟨a0, a1, a2, b0, b1, b2, c0, c1, c2, rfl, ⟨h1.2 a0 (by simp), h1.2 a1 (by simp), h1.2 a2 (by simp)⟩, ⟨h2.2 b0 (by simp), h2.2 b1 (by simp), h2.2 b2 (by simp)⟩, ⟨h3.2 c0 (by simp), h3.2 c1 (by simp), h3.2 c2 (by simp)⟩⟩
theorem sq4 {T : List (List Int)} (h : Sq 4 T) : ∃ a0 a1 a2 a3 b0 b1 b2 b3 c0 c1 c2 c3 e0 e1 e2 e3, T = [[a0, a1, a2, a3], [b0, b1, b2, b3], [c0, c1, c2, c3], [e0, e1, e2, e3]] ∧ (B 60 a0 ∧ B 60 a1 ∧ B 60 a2 ∧ B 60 a3) ∧ (B 60 b0 ∧ B 60 b1 ∧ B 60 b2 ∧ B 60 b3) ∧ (B 60 c0 ∧ B 60 c1 ∧ B 60 c2 ∧ B 60 c3) ∧ (B 60 e0 ∧ B 60 e1 ∧ B 60 e2 ∧ B 60 e3) := by
  obtain ⟨r, s, t, u, rfl⟩ := l4 h.1
  have h1 := h.2 r (by simp)
  have h2 := h.2 s (by simp)
  have h3 := h.2 t (by simp)
  have h4 := h.2 u (by simp)
  obtain ⟨a0, a1, a2, a3, rfl⟩ := l4 h1.1
  obtain ⟨b0, b1, b2, b3, rfl⟩ := l4 h2.1
  obtain ⟨c0, c1, c2, c3, rfl⟩ := l4 h3.1
  obtain ⟨e0, e1, e2, e3, rfl⟩ := l4 h4.1
  exact ⟨a0, a1, a2, a3, b0, b1, b2, b3, c0, c1, c2, c3, e0, e1, e2, e3, rfl, ⟨h1.2 a0 (by simp), h1.2 a1 (by simp), h1.2 a2 (by simp), h1.2 a3 (by simp)⟩, ⟨h2.2 b0 (by simp), h2.2 b1 (by simp), h2.2 b2 (by simp), h2.2 b3 (by simp)⟩, ⟨h3.2 c0 (by simp), h3.2 c1 (by simp), h3.2 c2 (by simp), h3.2 c3 (by simp)⟩, ⟨h4.2 e0 (by simp), h4.2 e1 (by simp), h4.2 e2 (by simp), h4.2 e3 (by simp)⟩⟩
def minor (j : Nat) (T : List (List Int)) : List (List Int) := T.map fun r => r.take j ++ r.drop (j + 1)
def sgn (j : Nat) : Int := 1 - 2 * (j % 2 : Nat)
theorem canLayAll_rows : ∀ T : List (List Int), PyData.canLayAll0 (T.map lstI) = true ∧ PyData.depthAll (T.map lstI) ≤ 1
  | [] => by simp [PyData.canLayAll0, PyData.depthAll]
  | r :: T => by
    have := canLayAll_rows T
    simp [PyData.canLayAll0, PyData.depthAll, lstI, PyData.canLay0, PyData.depth, canLayAll_ints, depthAll_ints, this]
theorem shp_dL (T : List (List Int)) : shp (dL T) = true := by
  show SeqAt.shaped (.list (T.map lstI)) = true
  have := canLayAll_rows T
  simp [SeqAt.shaped, PyData.canLay0, PyData.depth, this.1]; omega
theorem fmod2 (j : Nat) : ((j : Nat) : Int).fmod 2 = ((j % 2 : Nat) : Int) := by
  rw [Int.fmod_eq_emod_of_nonneg _ (by decide)]; simp
def lapS (N : Nat) (T : List (List Int)) (g : Nat → Int) : Nat → Nat → Int → Int
  | 0, _, acc => acc
  | m + 1, j, acc => lapS N T g m (j + 1) (acc + sgn j * (T.getD 0 []).getD j 0 * g j)
theorem sq_minor {N j : Nat} {T : List (List Int)} (h : Sq (N + 1) T) (hj : j < N + 1) : Sq N (minor j (T.drop 1)) := by
  refine ⟨by simp [minor, h.1], fun r hr => ?_⟩
  simp only [minor, List.mem_map] at hr
  obtain ⟨s, hs, rfl⟩ := hr
  have := h.2 s (List.mem_of_mem_drop hs)
  refine ⟨by simp; omega, fun x hx => this.2 x ?_⟩
  rcases List.mem_append.mp hx with h | h
  · exact List.mem_of_mem_take h
  · exact List.mem_of_mem_drop h
theorem bd_det : ∀ {n : Nat} {T : List (List Int)}, n ≤ 4 → Sq n T → Bd (detM T)
  | 0, T, _, h => by
    have : T = [] := List.length_eq_zero_iff.mp h.1
    subst this
    exact (show B 0 1 by unfold B; decide).bd (by decide)
  | 1, T, _, h => by
    obtain ⟨a, rfl, ha⟩ := sq1 h
    exact ha.bd (by decide)
  | 2, T, _, h => by
    obtain ⟨a0, a1, b0, b1, rfl, h0, h1, h2, h3⟩ := sq2 h
    exact (h0.d2 h1 h2 h3).bd (by decide)
  | 3, T, _, h => by
    obtain ⟨a0, a1, a2, b0, b1, b2, c0, c1, c2, rfl, ⟨h0, h1, h2⟩, ⟨h3, h4, h5⟩, ⟨h6, h7, h8⟩⟩ := sq3 h
    exact (h0.d3 h1 h2 h3 h4 h5 h6 h7 h8).bd (by decide)
  | 4, T, _, h => by
    obtain ⟨a0, a1, a2, a3, b0, b1, b2, b3, c0, c1, c2, c3, e0, e1, e2, e3, rfl, ⟨h0, h1, h2, h3⟩, ⟨h4, h5, h6, h7⟩, ⟨h8, h9, h10, h11⟩, ⟨h12, h13, h14, h15⟩⟩ := sq4 h
    exact (h0.d4 h1 h2 h3 h4 h5 h6 h7 h8 h9 h10 h11 h12 h13 h14 h15).bd (by decide)
  | n + 5, _, h, _ => absurd h (by omega)
theorem lap_det : ∀ {n : Nat} {T : List (List Int)}, n + 1 ≤ 4 → Sq (n + 1) T → lapS (n + 1) T (fun j => detM (minor j (T.drop 1))) (n + 1) 0 0 = detM T
  | 0, T, _, h => by
    obtain ⟨a, rfl, ha⟩ := sq1 h
    simp [lapS, sgn, minor, detM]
  | 1, T, _, h => by
    obtain ⟨a0, a1, b0, b1, rfl, h0, h1, h2, h3⟩ := sq2 h
    simp [lapS, sgn, minor, detM, d2]; grind
  | 2, T, _, h => by
    obtain ⟨a0, a1, a2, b0, b1, b2, c0, c1, c2, rfl, ⟨h0, h1, h2⟩, ⟨h3, h4, h5⟩, ⟨h6, h7, h8⟩⟩ := sq3 h
    simp [lapS, sgn, minor, detM, d3]; grind
  | 3, T, _, h => by
    obtain ⟨a0, a1, a2, a3, b0, b1, b2, b3, c0, c1, c2, c3, e0, e1, e2, e3, rfl, ⟨h0, h1, h2, h3⟩, ⟨h4, h5, h6, h7⟩, ⟨h8, h9, h10, h11⟩, ⟨h12, h13, h14, h15⟩⟩ := sq4 h
    simp [lapS, sgn, minor, detM, d4]; grind
  | n + 4, _, h, _ => absurd h (by omega)
theorem detB_of {n : Nat} {T : List (List Int)} (h : Sq n T) (h3 : n ≤ 3) : B 190 (detM T) := by
  match n, h3 with
  | 0, _ =>
    have : T = [] := List.length_eq_zero_iff.mp h.1
    subst this
    exact (show B 0 1 by unfold B; decide).mono (by decide)
  | 1, _ =>
    obtain ⟨a, rfl, ha⟩ := sq1 h
    exact ha.mono (by decide)
  | 2, _ =>
    obtain ⟨a0, a1, b0, b1, rfl, h0, h1, h2, h3⟩ := sq2 h
    exact (h0.d2 h1 h2 h3).mono (by decide)
  | 3, _ =>
    obtain ⟨a0, a1, a2, b0, b1, b2, c0, c1, c2, rfl, ⟨h0, h1, h2⟩, ⟨h3, h4, h5⟩, ⟨h6, h7, h8⟩⟩ := sq3 h
    exact (h0.d3 h1 h2 h3 h4 h5 h6 h7 h8).mono (by decide)
end L74
namespace L74
open PySem hiding ret
open Py L2
theorem table_run {N : Nat} {T : List (List Int)} {c b : Bool} {r : Int} (hl : T.length = N) (h1 : 1 ≤ N) (N5 : N ≤ 1000) (h : Run N 0 1 1 T r) : F_table_determinant [tD c b T] = ret (.int r) := by
  refine fn_rt (env := [some (tD c b T), none, none, none, none, none, none, none, none, none, none, none]) rfl ?_
  have e1 : eLc (itSeq (eVar 0)) (tgN 9) cYes (mkL (calL cLst (aCons (eVar 9) aNil))) [9] ([some (tD c b T), none, none, none, none, none, none, none, none, none, none, none] : Py.Env) = ret (T.map lstI) := by
    rw [x_eLc, x_itSeq, var_eq (d := tD c b T) rfl, bnd_ret', seq_tD, bnd_ret']
    refine lcW_all (rD b) lstI T fun t ht => ⟨_, rfl, ?_⟩
    rw [x_mkL, x_calL, args_1 (x := rD b t) rfl, bnd_ret', cLst_rD, bnd_ret']
    rfl
  have t1 : td1 ([some (tD c b T), none, none, none, none, none, none, none, none, none, none, none] : Py.Env) = ret (.nx [some (tD c b T), some (dL T), some (.int 1), some (.int 1), none, none, none, none, none, none, none, none]) := by
    show bnd (eLc (itSeq (eVar 0)) (tgN 9) cYes (mkL (calL cLst (aCons (eVar 9) aNil))) [9] ([some (tD c b T), none, none, none, none, none, none, none, none, none, none, none] : Py.Env)) _ = _
    rw [e1, bnd_ret']
    rfl
  have s : Ds T 1 1 [some (tD c b T), some (dL T), some (.int 1), some (.int 1), none, none, none, none, none, none, none, none] := ⟨rfl, rfl, rfl, rfl⟩
  have cl : bin gSub (cal cLen (aCons (eVar 1) aNil)) (eC (.int 1)) ([some (tD c b T), some (dL T), some (.int 1), some (.int 1), none, none, none, none, none, none, none, none] : Py.Env) = ret (.int ((N : Int) - 1)) := by
    rw [x_bin, x_cal, args_1 s.e1, bnd_ret', len_dL, hl, bnd_ret', x_eC, bnd_ret', gSub_i]
  have r1 : rngOk ((N : Int) - 1) = true := by simp [rngOk]; omega
  have it : itRng1 (aCons (bin gSub (cal cLen (aCons (eVar 1) aNil)) (eC (.int 1))) aNil) ([some (tD c b T), some (dL T), some (.int 1), some (.int 1), none, none, none, none, none, none, none, none] : Py.Env) = ret (rangeD ((0 : Nat) : Int) (N - 1 - 0)) := by
    rw [x_itRng1, args_e cl, bnd_ret', rng1_i, if_pos r1, show ((N : Int) - 1).toNat = N - 1 - 0 by omega]
    rfl
  rw [b_table_determinant_eq, seq_nx t1, x_sSeq, td2, x_sFor, it, bnd_ret']
  exact h _ s
theorem table_eq : ∀ {n : Nat} {T : List (List Int)} {c b : Bool}, 1 ≤ n → n ≤ 4 → Sq n T → F_table_determinant [tD c b T] = ret (.int (detM T))
  | 0, T, _, _, h1, _, _ => absurd h1 (by omega)
  | 1, T, _, _, _, _, h => by
    obtain ⟨a, rfl, ha⟩ := sq1 h
    have r := run_end (N := 1) (w := 1) (p := 1) (mok1 (ha.bd (by decide))) (by decide) ((show B 0 1 by unfold B; decide).bd (by decide))
    simp only [List.getD_cons_zero, Int.one_mul] at r
    exact table_run (N := 1) rfl (by decide) (by decide) r
  | 2, T, _, _, _, _, h => by
    obtain ⟨a0, a1, b0, b1, rfl, h0, h1, h2, h3⟩ := sq2 h
    exact table_run (N := 2) rfl (by decide) (by decide) (p0_2 h0 h1 h2 h3)
  | 3, T, _, _, _, _, h => by
    obtain ⟨a0, a1, a2, b0, b1, b2, c0, c1, c2, rfl, ⟨h0, h1, h2⟩, ⟨h3, h4, h5⟩, ⟨h6, h7, h8⟩⟩ := sq3 h
    exact table_run (N := 3) rfl (by decide) (by decide) (p0_3 h0 h1 h2 h3 h4 h5 h6 h7 h8)
  | 4, T, _, _, _, _, h => by
    obtain ⟨a0, a1, a2, a3, b0, b1, b2, b3, c0, c1, c2, c3, e0, e1, e2, e3, rfl, ⟨h0, h1, h2, h3⟩, ⟨h4, h5, h6, h7⟩, ⟨h8, h9, h10, h11⟩, ⟨h12, h13, h14, h15⟩⟩ := sq4 h
    exact table_run (N := 4) rfl (by decide) (by decide) (p0_4 h0 h1 h2 h3 h4 h5 h6 h7 h8 h9 h10 h11 h12 h13 h14 h15)
  | n + 5, _, _, _, _, h, _ => absurd h (by omega)
/-! ### the law's own -/
def lt1a (G__law_turns : List D → M D) : Py.Env → M Out := (sRet (bin gIx (bin gIx (eVar 0) (eC (.int 0))) (eC (.int 0))))
def lt1 (G__law_turns : List D → M D) : Py.Env → M Out := (sIf (tst (bin gEq (cal cLen (aCons (eVar 0) aNil)) (eC (.int 1)))) (lt1a G__law_turns) sNx)
def lt2 (G__law_turns : List D → M D) : Py.Env → M Out := (sAsg 1 (eC (.int 0)))
def lt3f1 (G__law_turns : List D → M D) : Py.Env → M Out := (sAsg 4 (eIf (tst (bin gNe (eVar 3) (eC (.int 0)))) (eCall 1 G__law_turns (aCons (mkL (eLc (itSeq (eSl (eVar 0) (oPart (eC (.int 1))) oNo)) (tgN 5) cYes (bin gAdd (eSl (eVar 5) oNo (oPart (eVar 2))) (eSl (eVar 5) (oPart (bin gAdd (eVar 2) (eC (.int 1)))) oNo)) [5])) aNil)) (eC (.int 0))))
def lt3f2 (G__law_turns : List D → M D) : Py.Env → M Out := (sAsg 1 (bin gAdd (eVar 1) (eIf (tst (bin gEq (bin gMod (cal cInt (aCons (eVar 2) aNil)) (eC (.int 2))) (eC (.int 0)))) (bin gMulX (eVar 3) (eVar 4)) (bin gSub (eC (.int 0)) (bin gMulX (eVar 3) (eVar 4))))))
def lt3f (G__law_turns : List D → M D) : Py.Env → M Out := (sSeq (lt3f1 G__law_turns) (lt3f2 G__law_turns))
def lt3 (G__law_turns : List D → M D) : Py.Env → M Out := (sFor (itEnum (aCons (bin gIx (eVar 0) (eC (.int 0))) aNil)) (tgTup 2 (tgsCons (tgN 2) (tgsCons (tgN 3) tgsNil))) (lt3f G__law_turns))
theorem b__law_turns_eq (G__law_turns : List D → M D) : b__law_turns G__law_turns = (sSeq (lt1 G__law_turns) (sSeq (lt2 G__law_turns) (sSeq (lt3 G__law_turns) (sRet (eVar 1))))) := rfl
theorem gMod2 (j : Nat) : gMod (.int (j : Nat)) (.int 2) = ret (.int ((j % 2 : Nat) : Int)) := by
  rw [show gMod (.int ((j : Nat) : Int)) (.int 2) = ret (.int (((j : Nat) : Int).fmod 2)) from rfl, fmod2]
theorem minor_e {T : List (List Int)} {N j : Nat} {ρ : Py.Env} {i r : Nat} (h : Sq N T) (h1 : 0 < N) (hj : j < N) (N4 : N ≤ 1000) (hr : r < ρ.length) (h0 : ρ[0]? = some (some (dL T))) (hi : ρ[i]? = some (some (.int (j : Nat)))) (ir : i ≠ r) :
    mkL (eLc (itSeq (eSl (eVar 0) (oPart (eC (.int 1))) oNo)) (tgN r) cYes (bin gAdd (eSl (eVar r) oNo (oPart (eVar i))) (eSl (eVar r) (oPart (bin gAdd (eVar i) (eC (.int 1)))) oNo)) [r]) ρ = ret (dL (minor j (T.drop 1))) := by
  have sl : eSl (eVar 0) (oPart (eC (.int 1))) oNo ρ = ret (dL (T.drop 1)) := by
    rw [x_eSl, var_eq h0, bnd_ret', x_oPart, x_eC, bnd_ret', toI_i, bnd_ret', x_oNo, bnd_ret']
    show ret (PyData.list (cutD (T.map lstI) (some ((1 : Nat) : Int)) none)) = _
    rw [cutD_from (by rw [List.length_map, h.1]; omega), dL, List.map_drop]
  have e := comp_all (ρ := ρ) (its := itSeq (eSl (eVar 0) (oPart (eC (.int 1))) oNo)) (tg := tgN r) (elt := bin gAdd (eSl (eVar r) oNo (oPart (eVar i))) (eSl (eVar r) (oPart (bin gAdd (eVar i) (eC (.int 1)))) oNo)) (vs := [r]) lstI (fun x => lstI (x.take j ++ x.drop (j + 1))) (T.drop 1) (by rw [x_itSeq, sl, bnd_ret']; rfl) ?_
  · rw [e, dL, minor, List.map_map]
    rfl
  · intro x hx
    rw [x_wipeD_cons, x_wipeD_nil]
    refine ⟨_, rfl, ?_⟩
    have lx := (h.2 x (List.mem_of_mem_drop hx)).1
    have gr : ((ρ.set r none).set r (some (lstI x)))[r]? = some (some (lstI x)) := List.getElem?_set_self (by rw [List.length_set]; exact hr)
    have gi : ((ρ.set r none).set r (some (lstI x)))[i]? = some (some (.int (j : Nat))) := by rw [List.getElem?_set_ne (Ne.symm ir), List.getElem?_set_ne (Ne.symm ir), hi]
    generalize (ρ.set r none).set r (some (lstI x)) = ρ' at *
    have c1 : eSl (eVar r) oNo (oPart (eVar i)) ρ' = ret (lstI (x.take j)) := by
      rw [x_eSl, var_eq gr, bnd_ret', x_oNo, bnd_ret', x_oPart, var_eq gi, bnd_ret', toI_i, bnd_ret']
      show ret (PyData.list (cutD (dInts x) none (some ((j : Nat) : Int)))) = _
      rw [cutD_to (by rw [dInts_len]; omega), dInts, ← List.map_take]; rfl
    have c2 : eSl (eVar r) (oPart (bin gAdd (eVar i) (eC (.int 1)))) oNo ρ' = ret (lstI (x.drop (j + 1))) := by
      rw [x_eSl, var_eq gr, bnd_ret', x_oPart, x_bin, var_eq gi, bnd_ret', x_eC, bnd_ret', x_gAdd_i, bnd_ret', toI_i, bnd_ret', x_oNo, bnd_ret']
      show ret (PyData.list (cutD (dInts x) (some ((j + 1 : Nat) : Int)) none)) = _
      rw [cutD_from (by rw [dInts_len]; omega), dInts, ← List.map_drop]; rfl
    rw [x_bin, c1, bnd_ret', c2, bnd_ret', lstI, lstI, x_gAdd_l, if_pos (by rw [lenOk_def]; simp; omega), lstI, dInts, dInts, dInts, List.map_append]
theorem lt_one {N j : Nat} {T : List (List Int)} {G : List D → M D} {acc x g : Int} {w : Option D} (h : Sq N T) (N4 : N ≤ 4) (hj : j < N) (hx : (T.getD 0 []).getD j 0 = x) (bx : B 60 x) (hg : G [dL (minor j (T.drop 1))] = ret (.int g)) (bg : Bd g) :
    ∃ w', lt3f G [some (dL T), some (.int acc), some (.int (j : Nat)), some (.int x), w, none] = ret (.nx [some (dL T), some (.int (acc + sgn j * x * g)), some (.int (j : Nat)), some (.int x), w', none]) := by
  obtain ⟨pt, hpt⟩ : ∃ pt : Int, pt = if x = 0 then 0 else g := ⟨_, rfl⟩
  have mn := minor_e (ρ := [some (dL T), some (.int acc), some (.int (j : Nat)), some (.int x), w, none]) (i := 2) (r := 5) h (by omega) hj (by omega) (by simp) rfl rfl (by decide)
  have t0 : bin gNe (eVar 3) (eC (.int 0)) ([some (dL T), some (.int acc), some (.int (j : Nat)), some (.int x), w, none] : Py.Env) = ret (.bool (!decide (x = 0))) := by
    rw [x_bin, var_eq (d := .int x) rfl, bnd_ret', x_eC, bnd_ret']
    simp only [gNe, shp_int, Bool.and_self, if_true, eqv_int]
  have e1 : lt3f1 G ([some (dL T), some (.int acc), some (.int (j : Nat)), some (.int x), w, none] : Py.Env) = ret (.nx [some (dL T), some (.int acc), some (.int (j : Nat)), some (.int x), some (.int pt), none]) := by
    rw [lt3f1, x_sAsg, x_eIf, tst_b t0, bnd_ret']
    by_cases z : x = 0
    · rw [decide_eq_true z, if_neg (show ¬ ((!true) = true) from by decide), x_eC, bnd_ret', hpt, if_pos z]
      rfl
    · rw [decide_eq_false z, if_pos (show (!false) = true from rfl), eCall_1 (x := dL (minor j (T.drop 1))) _ (args_e mn), hg, bnd_ret', hpt, if_neg z]
      rfl
  have bp : Bd pt := by
    rw [hpt]
    split
    · exact bz
    · exact bg
  have mo := mulB (bx.bd (by decide)) bp
  refine ⟨some (.int pt), ?_⟩
  rw [lt3f, seq_nx e1, lt3f2, x_sAsg, x_bin, var_eq (d := .int acc) rfl, bnd_ret']
  have mul : bin gMulX (eVar 3) (eVar 4) ([some (dL T), some (.int acc), some (.int (j : Nat)), some (.int x), some (.int pt), none] : Py.Env) = ret (.int (x * pt)) := by
    rw [x_bin, var_eq (d := .int x) rfl, bnd_ret', var_eq (d := .int pt) rfl, bnd_ret', x_gMulX_i, if_pos mo]
  have tm : bin gEq (bin gMod (cal cInt (aCons (eVar 2) aNil)) (eC (.int 2))) (eC (.int 0)) ([some (dL T), some (.int acc), some (.int (j : Nat)), some (.int x), some (.int pt), none] : Py.Env) = ret (.bool (decide (j % 2 = 0))) := by
    rw [x_bin, x_bin, x_cal, args_1 (x := .int (j : Nat)) rfl, bnd_ret', x_cInt_i, bnd_ret', x_eC, bnd_ret', gMod2, bnd_ret', x_eC, bnd_ret', gEq_i]
    congr 2
    rw [decide_eq_decide]; omega
  have xp : x * pt = x * g := by
    rw [hpt]
    split
    · rename_i z
      rw [z]; simp
    · rfl
  rw [x_eIf, tst_b tm, bnd_ret']
  by_cases z : j % 2 = 0
  · rw [decide_eq_true z, if_pos rfl, mul, bnd_ret', x_gAdd_i, bnd_ret', xp, sgn, z]
    simp
  · have z1 : j % 2 = 1 := by omega
    rw [decide_eq_false z, if_neg (by decide), x_bin, x_eC, bnd_ret', mul, bnd_ret', gSub_i, bnd_ret', x_gAdd_i, bnd_ret', xp, sgn, z1, show acc + (0 - x * g) = acc + (1 - 2 * ((1 : Nat) : Int)) * x * g by grind]
    rfl
theorem lt_loop {N : Nat} {T : List (List Int)} {G : List D → M D} {g : Nat → Int} (h : Sq N T) (N4 : N ≤ 4) (hg : ∀ j, j < N → G [dL (minor j (T.drop 1))] = ret (.int (g j)) ∧ Bd (g j)) : ∀ (xs : List Int) (j : Nat) (acc : Int) (u v w : Option D), (T.getD 0 []).drop j = xs → j + xs.length = N → (∀ x ∈ xs, B 60 x) →
    ∃ u' v' w', forW (tgTup 2 (tgsCons (tgN 2) (tgsCons (tgN 3) tgsNil))) (lt3f G) (enumD j (dInts xs)) [some (dL T), some (.int acc), u, v, w, none] = ret (.nx [some (dL T), some (.int (lapS N T g xs.length j acc)), u', v', w', none])
  | [], j, acc, u, v, w, _, _, _ => ⟨u, v, w, rfl⟩
  | x :: xs, j, acc, u, v, w, hd, hl, hb => by
    rw [List.length_cons] at hl
    have hx : (T.getD 0 []).getD j 0 = x := by
      have := congrArg (fun l => l[0]?) hd
      simp only [List.getElem?_drop, Nat.add_zero, List.getElem?_cons_zero] at this
      rw [List.getD_eq_getElem?_getD, this]
      rfl
    obtain ⟨w1, c⟩ := lt_one (acc := acc) (w := w) h N4 (by omega) hx (hb x (by simp)) (hg j (by omega)).1 (hg j (by omega)).2
    obtain ⟨u', v', w', ih⟩ := lt_loop h N4 hg xs (j + 1) (acc + sgn j * x * g j) (some (.int (j : Nat))) (some (.int x)) w1 (by
      have := congrArg (List.drop 1) hd
      rw [List.drop_drop] at this
      simpa [Nat.add_comm] using this) (by omega) (fun y hy => hb y (List.mem_cons_of_mem _ hy))
    refine ⟨u', v', w', ?_⟩
    show forW _ _ (PyData.tuple [.int (j : Nat), .int x] :: enumD (j + 1) (dInts xs)) _ = _
    rw [forW_cons, tgAB, bnd_ret']
    show bnd (lt3f G [some (dL T), some (.int acc), some (.int (j : Nat)), some (.int x), w, none]) _ = _
    rw [c, bnd_ret', oLoop_nx, ih, List.length_cons, lapS, hx]
theorem lt_step {N k : Nat} {T : List (List Int)} {g : Nat → Int} (h : Sq (N + 2) T) (N4 : N + 2 ≤ 4) (hg : ∀ j, j < N + 2 → R__law_turns k [dL (minor j (T.drop 1))] = ret (.int (g j)) ∧ Bd (g j)) : R__law_turns (k + 1) [dL T] = ret (.int (lapS (N + 2) T g (N + 2) 0 0)) := by
  have l0 : 0 < T.length := by rw [h.1]; omega
  have g0 : T[0]? = some (T.getD 0 []) := getD_some l0
  have hm := h.2 _ (List.mem_of_getElem? g0)
  obtain ⟨u', v', w', c⟩ := lt_loop h N4 hg (T.getD 0 []) 0 0 none none none rfl (by rw [hm.1]; omega) hm.2
  rw [hm.1] at c
  show fnD 5 (b__law_turns (R__law_turns k)) [dL T] = _
  refine fn_rt (env := [some (dL T), none, none, none, none, none]) rfl ?_
  have t : bin gEq (cal cLen (aCons (eVar 0) aNil)) (eC (.int 1)) ([some (dL T), none, none, none, none, none] : Py.Env) = ret (.bool false) := by
    rw [x_bin, x_cal, args_1 (x := dL T) rfl, bnd_ret', len_dL, h.1, bnd_ret', x_eC, bnd_ret', gEq_i]
    rw [decide_eq_false (by omega)]
  have it : itEnum (aCons (bin gIx (eVar 0) (eC (.int 0))) aNil) ([some (dL T), some (.int 0), none, none, none, none] : Py.Env) = ret (enumD 0 (dInts (T.getD 0 []))) := by
    rw [x_itEnum, args_e (x := lstI (T.getD 0 [])) (by rw [x_bin, var_eq (d := dL T) rfl, bnd_ret', x_eC, bnd_ret']; exact ix_dL (i := 0) g0), bnd_ret']
    rfl
  rw [b__law_turns_eq, lt1, if_no (tst_b t), lt2, asg_nx (x_eC _ _)]
  show (sSeq (lt3 _) _) [some (dL T), some (.int 0), none, none, none, none] = _
  rw [x_sSeq, lt3, x_sFor, it, bnd_ret', c, bnd_ret', oThen_nx, x_sRet, var_eq (d := .int _) rfl, bnd_ret']
theorem lt_eq : ∀ {n k : Nat} {T : List (List Int)}, 1 ≤ n → n ≤ 4 → n ≤ k → Sq n T → R__law_turns k [dL T] = ret (.int (detM T))
  | 0, _, _, h, _, _, _ => absurd h (by omega)
  | 1, 0, _, _, _, h, _ => absurd h (by omega)
  | 1, k + 1, T, _, _, _, h => by
    obtain ⟨a, rfl, ha⟩ := sq1 h
    rfl
  | n + 2, 0, _, _, _, h, _ => absurd h (by omega)
  | n + 2, k + 1, T, _, h4, hk, h => by
    rw [lt_step (g := fun j => detM (minor j (T.drop 1))) h h4 fun j hj => ⟨lt_eq (n := n + 1) (by omega) (by omega) (by omega) (sq_minor (N := n + 1) h hj), bd_det (by omega) (sq_minor (N := n + 1) h hj)⟩, lap_det (n := n + 1) h4 h]
theorem turns_eq {n : Nat} {T : List (List Int)} (h1 : 1 ≤ n) (h4 : n ≤ 4) (h : Sq n T) : F__law_turns [dL T] = ret (.int (detM T)) := lt_eq h1 h4 (by omega) h
end L74
namespace R74
/-! reduced lines: the plain mathematics -/
/-- entry q of a row -/
def at' (r : List Int) (q : Nat) : Int := r.getD q 0
/-- a combination of rows, entry q -/
def comb : List Int → List (List Int) → Nat → Int
  | t :: ts, v :: vs, q => t * at' v q + comb ts vs q
  | _, _, _ => 0
theorem comb_nil (vs : List (List Int)) (q : Nat) : comb [] vs q = 0 := by cases vs <;> rfl
theorem comb_append {ts us : List Int} : ∀ {vs ws : List (List Int)} {q : Nat}, ts.length = vs.length → comb (ts ++ us) (vs ++ ws) q = comb ts vs q + comb us ws q := by
  induction ts with
  | nil =>
    intro vs ws q h
    have : vs = [] := List.length_eq_zero_iff.mp h.symm
    subst this
    show comb us ws q = 0 + _
    omega
  | cons t ts ih =>
    intro vs ws q h
    cases vs with
    | nil => simp at h
    | cons v vs =>
      have h' : ts.length = vs.length := by simpa using h
      show t * at' v q + comb (ts ++ us) (vs ++ ws) q = (t * at' v q + comb ts vs q) + _
      rw [ih h']
      omega
theorem comb_ext {ts : List Int} : ∀ {vs : List (List Int)} {ws : List (List Int)} {q : Nat}, ts.length = vs.length → comb ts (vs ++ ws) q = comb ts vs q := by
  intro vs ws q h
  have := comb_append (us := []) (ws := ws) (q := q) h
  rw [List.append_nil, comb_nil] at this
  omega
theorem comb_scale (a : Int) : ∀ (ts : List Int) (vs : List (List Int)) (q : Nat), comb (ts.map (a * ·)) vs q = a * comb ts vs q
  | [], vs, q => by rw [List.map_nil, comb_nil]; simp
  | t :: ts, [], q => by
    show (0 : Int) = a * 0
    simp
  | t :: ts, v :: vs, q => by
    show a * t * at' v q + comb (ts.map (a * ·)) vs q = a * (t * at' v q + comb ts vs q)
    rw [comb_scale a ts vs q, Int.mul_add, Int.mul_assoc]
/-- sums of two coefficient rows -/
def addL : List Int → List Int → List Int
  | [], us => us
  | ts, [] => ts
  | t :: ts, u :: us => (t + u) :: addL ts us
theorem addL_nil (ts : List Int) : addL ts [] = ts := by cases ts <;> rfl
theorem addL_len : ∀ ts us : List Int, (addL ts us).length = max ts.length us.length
  | [], us => by simp [addL]
  | t :: ts, [] => by simp [addL]
  | t :: ts, u :: us => by
    show (addL ts us).length + 1 = max (ts.length + 1) (us.length + 1)
    rw [addL_len ts us]; omega
theorem comb_add : ∀ (ts us : List Int) (vs : List (List Int)) (q : Nat), comb (addL ts us) vs q = comb ts vs q + comb us vs q
  | [], us, vs, q => by rw [comb_nil]; show comb us vs q = _; omega
  | t :: ts, [], vs, q => by rw [addL_nil, comb_nil]; omega
  | t :: ts, u :: us, [], q => by show (0 : Int) = 0 + 0; rfl
  | t :: ts, u :: us, v :: vs, q => by
    show (t + u) * at' v q + comb (addL ts us) vs q = (t * at' v q + comb ts vs q) + (u * at' v q + comb us vs q)
    rw [comb_add ts us vs q, Int.add_mul]; omega
/-! ### more rows than places: a combination that is 0 -/
theorem null_vec : ∀ (m : Nat) (A : List (List Int)), m < A.length → ∃ y : List Int, y.length = A.length ∧ (∃ c ∈ y, c ≠ 0) ∧ ∀ j, j < m → comb y A j = 0
  | 0, A, h => by
    refine ⟨List.replicate A.length 1, by simp, ⟨1, ?_, by decide⟩, fun j hj => absurd hj (by omega)⟩
    exact List.mem_replicate.mpr ⟨by omega, rfl⟩
  | m + 1, A, h => by
    by_cases z : ∀ v ∈ A, at' v m = 0
    · obtain ⟨y, h1, h2, h3⟩ := null_vec m A (by omega)
      refine ⟨y, h1, h2, fun j hj => ?_⟩
      by_cases e : j < m
      · exact h3 j e
      · have : j = m := by omega
        subst this
        clear h1 h2 h3 h
        induction A generalizing y with
        | nil => cases y <;> rfl
        | cons v A ih =>
          cases y with
          | nil => rfl
          | cons c y =>
            show c * at' v j + comb y A j = 0
            rw [z v (by simp), ih y (fun w hw => z w (List.mem_cons_of_mem _ hw))]
            simp
    · obtain ⟨v, hv, nz⟩ : ∃ v ∈ A, at' v m ≠ 0 := by
        apply Classical.byContradiction
        intro e
        exact z fun v hv => Classical.byContradiction fun n => e ⟨v, hv, n⟩
      obtain ⟨l1, l2, rfl⟩ := List.append_of_mem hv
      -- the other rows, led to 0 at m
      let red : List Int → List Int := fun w => (List.range (m + 1)).map fun j => at' v m * at' w j - at' w m * at' v j
      have red_at : ∀ w j, j < m + 1 → at' (red w) j = at' v m * at' w j - at' w m * at' v j := fun w j hj => by
        show ((List.range (m + 1)).map fun j => at' v m * at' w j - at' w m * at' v j).getD j 0 = _
        rw [List.getD_eq_getElem?_getD, List.getElem?_map, List.getElem?_range hj]
        rfl
      obtain ⟨y, h1, h2, h3⟩ := null_vec m ((l1 ++ l2).map red) (by simp at h ⊢; omega)
      have h1' : y.length = l1.length + l2.length := by simpa using h1
      -- what the combination of the led rows is
      have key : ∀ (y : List Int) (L : List (List Int)) (j : Nat), j < m + 1 → y.length = L.length → comb y (L.map red) j = at' v m * comb y L j - comb y L m * at' v j := by
        intro y
        induction y with
        | nil => intro L j _ _; rw [comb_nil, comb_nil, comb_nil]; simp
        | cons c y ih =>
          intro L j hj hl
          cases L with
          | nil => simp at hl
          | cons w L =>
            show c * at' (red w) j + comb y (L.map red) j = at' v m * (c * at' w j + comb y L j) - (c * at' w m + comb y L m) * at' v j
            rw [ih L j hj (by simpa using hl), red_at w j hj]
            grind
      refine ⟨(y.take l1.length).map (at' v m * ·) ++ (-(comb y (l1 ++ l2) m)) :: (y.drop l1.length).map (at' v m * ·), by simp; omega, ?_, fun j hj => ?_⟩
      · obtain ⟨c, hc, nc⟩ := h2
        have : c ∈ y.take l1.length ++ y.drop l1.length := by rw [List.take_append_drop]; exact hc
        refine ⟨at' v m * c, ?_, Int.mul_ne_zero nz nc⟩
        rcases List.mem_append.mp this with q | q
        · exact List.mem_append_left _ (List.mem_map.mpr ⟨c, q, rfl⟩)
        · exact List.mem_append_right _ (List.mem_cons_of_mem _ (List.mem_map.mpr ⟨c, q, rfl⟩))
      · have lt : (y.take l1.length).length = l1.length := by rw [List.length_take]; omega
        rw [comb_append (by rw [List.length_map, lt])]
        show comb _ l1 j + (-(comb y (l1 ++ l2) m) * at' v j + comb _ l2 j) = 0
        rw [comb_scale, comb_scale]
        have e : comb y (l1 ++ l2) j = comb (y.take l1.length) l1 j + comb (y.drop l1.length) l2 j := by
          rw [← comb_append lt, List.take_append_drop]
        have k1 := key y (l1 ++ l2) j (by omega) (by simpa using h1')
        by_cases ej : j < m
        · rw [h3 j ej, e] at k1
          grind
        · have : j = m := by omega
          subst this
          rw [e]
          grind
end R74
namespace R74
/-- one row led to 0 at a place by a reduced line -/
def redStep (line : List Int) (a : Nat × List Int) : List Int := if at' line a.1 = 0 then line else List.zipWith (fun x y => at' a.2 a.1 * x - at' line a.1 * y) line a.2
def red (line : List Int) (F : List (Nat × List Int)) : List Int := F.foldl redStep line
def gcdL (l : List Int) : Int := l.foldl (fun a x => (Int.gcd a x : Nat)) 0
def firstNZ (l : List Int) : Nat := (l.findIdx? fun x => decide (x ≠ 0)).getD 0
def addRow (F : List (Nat × List Int)) (r : List Int) : List (Nat × List Int) :=
  if gcdL (red r F) > 0 then F ++ [(firstNZ ((red r F).map fun x => x.fdiv (gcdL (red r F))), (red r F).map fun x => x.fdiv (gcdL (red r F)))] else F
def lines (T : List (List Int)) : List (Nat × List Int) := T.foldl addRow []
theorem gl {α : Type} {T ws : List α} {i : Nat} {d : α} (h : i < T.length) : (T ++ ws).getD i d = T.getD i d := by
  rw [List.getD_eq_getElem?_getD, List.getD_eq_getElem?_getD, List.getElem?_append_left h]
structure Ok (m : Nat) (F : List (Nat × List Int)) : Prop where
  len : ∀ a ∈ F, a.2.length = m
  lt : ∀ a ∈ F, a.1 < m
  nz : ∀ a ∈ F, at' a.2 a.1 ≠ 0
  tri : F.Pairwise fun a b => at' b.2 a.1 = 0
abbrev vecs (F : List (Nat × List Int)) : List (List Int) := F.map (·.2)
theorem redStep_len {m : Nat} {line : List Int} {a : Nat × List Int} (h : line.length = m) (ha : a.2.length = m) : (redStep line a).length = m := by
  unfold redStep
  split
  · exact h
  · simp [h, ha]
theorem redStep_at {m : Nat} {line : List Int} {a : Nat × List Int} (h : line.length = m) (ha : a.2.length = m) (q : Nat) : at' (redStep line a) q = if at' line a.1 = 0 then at' line q else at' a.2 a.1 * at' line q - at' line a.1 * at' a.2 q := by
  unfold redStep
  split
  · rfl
  · unfold at'
    simp only [List.getD_eq_getElem?_getD, List.getElem?_zipWith]
    by_cases hq : q < m
    · rw [List.getElem?_eq_getElem (by omega : q < line.length), List.getElem?_eq_getElem (by omega : q < a.2.length)]
      rfl
    · rw [List.getElem?_eq_none (by omega : line.length ≤ q), List.getElem?_eq_none (by omega : a.2.length ≤ q)]
      simp
theorem red_spec {m : Nat} : ∀ (F : List (Nat × List Int)) (ps : List Nat) (line : List Int), Ok m F → (∀ a ∈ F, ∀ p ∈ ps, at' a.2 p = 0) → (∀ p ∈ ps, at' line p = 0) → line.length = m →
    (red line F).length = m ∧ (∀ p ∈ ps, at' (red line F) p = 0) ∧ (∀ a ∈ F, at' (red line F) a.1 = 0) ∧ ∃ c : Int, c ≠ 0 ∧ ∃ ts : List Int, ts.length = F.length ∧ ∀ q, at' (red line F) q = c * at' line q + comb ts (vecs F) q
  | [], ps, line, _, _, hl, hm => ⟨hm, hl, by simp, 1, by decide, [], rfl, fun q => by rw [comb_nil]; show at' line q = _; omega⟩
  | a :: F, ps, line, ok, h1, hl, hm => by
    have la := ok.len a (by simp)
    have na := ok.nz a (by simp)
    have pw := List.pairwise_cons.mp ok.tri
    have ok' : Ok m F := ⟨fun b hb => ok.len b (List.mem_cons_of_mem _ hb), fun b hb => ok.lt b (List.mem_cons_of_mem _ hb), fun b hb => ok.nz b (List.mem_cons_of_mem _ hb), pw.2⟩
    have A := redStep_at hm la
    have l1 := redStep_len hm la
    have za : at' (redStep line a) a.1 = 0 := by
      rw [A]
      split
      · assumption
      · rw [Int.mul_comm]; omega
    obtain ⟨r1, r2, r3, c, nc, ts, r4, r5⟩ := red_spec F (a.1 :: ps) (redStep line a) ok' (fun b hb p hp => by
      rcases List.mem_cons.mp hp with rfl | hp
      · exact pw.1 b hb
      · exact h1 b (List.mem_cons_of_mem _ hb) p hp) (fun p hp => by
      rcases List.mem_cons.mp hp with rfl | hp
      · exact za
      · rw [A, hl p hp, h1 a (by simp) p hp]
        split <;> simp) l1
    have e : red line (a :: F) = red (redStep line a) F := rfl
    rw [e]
    refine ⟨r1, fun p hp => r2 p (List.mem_cons_of_mem _ hp), fun b hb => ?_, ?_⟩
    · rcases List.mem_cons.mp hb with rfl | hb
      · exact r2 _ (by simp)
      · exact r3 b hb
    · by_cases z : at' line a.1 = 0
      · refine ⟨c, nc, 0 :: ts, by simp [r4], fun q => ?_⟩
        show _ = c * at' line q + (0 * at' a.2 q + comb ts (vecs F) q)
        rw [r5 q, A, if_pos z]
        omega
      · refine ⟨c * at' a.2 a.1, Int.mul_ne_zero nc na, (-(c * at' line a.1)) :: ts, by simp [r4], fun q => ?_⟩
        show _ = c * at' a.2 a.1 * at' line q + (-(c * at' line a.1) * at' a.2 q + comb ts (vecs F) q)
        rw [r5 q, A, if_neg z]
        grind
/-! ### the common divisor -/
theorem foldl_gcd_dvd : ∀ (l : List Int) (a : Int), (l.foldl (fun a x => ((Int.gcd a x : Nat) : Int)) a ∣ a) ∧ ∀ x ∈ l, l.foldl (fun a x => ((Int.gcd a x : Nat) : Int)) a ∣ x
  | [], a => ⟨Int.dvd_refl a, by simp⟩
  | x :: l, a => by
    obtain ⟨h1, h2⟩ := foldl_gcd_dvd l ((Int.gcd a x : Nat) : Int)
    refine ⟨Int.dvd_trans h1 (Int.gcd_dvd_left ..), fun y hy => ?_⟩
    rcases List.mem_cons.mp hy with rfl | hy
    · exact Int.dvd_trans h1 (Int.gcd_dvd_right ..)
    · exact h2 y hy
theorem gcdL_dvd {l : List Int} {x : Int} (h : x ∈ l) : gcdL l ∣ x := (foldl_gcd_dvd l 0).2 x h
theorem foldl_gcd_nonneg : ∀ (l : List Int) (a : Int), 0 ≤ a → 0 ≤ l.foldl (fun a x => ((Int.gcd a x : Nat) : Int)) a
  | [], a, h => h
  | x :: l, a, _ => foldl_gcd_nonneg l _ (Int.natCast_nonneg (Int.gcd a x))
theorem gcdL_nonneg (l : List Int) : 0 ≤ gcdL l := foldl_gcd_nonneg l 0 (by decide)
theorem gcdL_zero {l : List Int} (h : gcdL l = 0) {x : Int} (hx : x ∈ l) : x = 0 := by
  have := gcdL_dvd hx
  rw [h] at this
  exact Int.zero_dvd.mp this
theorem gcdL_of_zero : ∀ {l : List Int}, (∀ x ∈ l, x = 0) → gcdL l = 0
  | [], _ => rfl
  | x :: l, h => by
    have hx := h x (by simp)
    subst hx
    show l.foldl _ ((Int.gcd 0 0 : Nat) : Int) = 0
    exact gcdL_of_zero (l := l) fun y hy => h y (List.mem_cons_of_mem _ hy)
theorem at_mem {l : List Int} {q : Nat} (h : q < l.length) : at' l q ∈ l := by
  unfold at'
  rw [List.getD_eq_getElem?_getD, List.getElem?_eq_getElem h]
  exact List.getElem_mem h
theorem at_out {l : List Int} {q : Nat} (h : l.length ≤ q) : at' l q = 0 := by
  unfold at'
  rw [List.getD_eq_getElem?_getD, List.getElem?_eq_none h]
  rfl
theorem at_map_fdiv {l : List Int} {g : Int} (hg : 0 < g) (hd : ∀ x ∈ l, g ∣ x) (q : Nat) : g * at' (l.map fun x => x.fdiv g) q = at' l q := by
  by_cases h : q < l.length
  · have e : at' (l.map fun x => x.fdiv g) q = (at' l q).fdiv g := by
      unfold at'
      rw [List.getD_eq_getElem?_getD, List.getD_eq_getElem?_getD, List.getElem?_map, List.getElem?_eq_getElem h]
      rfl
    rw [e]
    obtain ⟨c, hc⟩ := hd _ (at_mem h)
    rw [hc, Int.mul_comm g c, Int.mul_fdiv_cancel _ (by omega), Int.mul_comm]
  · rw [at_out (by simp; omega), at_out (by omega)]
    simp
theorem firstNZ_spec {l : List Int} (h : ∃ x ∈ l, x ≠ 0) : firstNZ l < l.length ∧ at' l (firstNZ l) ≠ 0 := by
  unfold firstNZ
  cases e : l.findIdx? fun x => decide (x ≠ 0) with
  | none =>
    rw [List.findIdx?_eq_none_iff] at e
    obtain ⟨x, hx, nx⟩ := h
    have := e x hx
    simp at this
    exact absurd this nx
  | some i =>
    rw [List.findIdx?_eq_some_iff_getElem] at e
    obtain ⟨hi, h1, _⟩ := e
    refine ⟨hi, ?_⟩
    unfold at'
    rw [Option.getD_some, List.getD_eq_getElem?_getD, List.getElem?_eq_getElem hi]
    simpa using h1
/-! ### what the lines are of the rows -/
/-- each row, times something, is a combination of the lines; each line, times something, one of a row and of the lines ahead -/
structure Inv (m : Nat) (T : List (List Int)) (F : List (Nat × List Int)) (I : List Nat) : Prop where
  ok : Ok m F
  dep : ∀ r ∈ T, ∃ c : Int, c ≠ 0 ∧ ∃ ts : List Int, ts.length ≤ F.length ∧ ∀ q, c * at' r q = comb ts (vecs F) q
  len : I.length = F.length
  asc : I.Pairwise (· < ·)
  bd : ∀ i ∈ I, i < T.length
  rel : ∀ j, j < F.length → ∃ g c : Int, g ≠ 0 ∧ ∃ ts : List Int, ∀ q, g * at' (F.getD j (0, [])).2 q = c * at' (T.getD (I.getD j 0) []) q + comb ts (vecs (F.take j)) q
theorem inv_nil (m : Nat) : Inv m [] [] [] := ⟨⟨by simp, by simp, by simp, .nil⟩, by simp, rfl, .nil, by simp, fun j hj => absurd hj (by simp)⟩
theorem comb_short {ts : List Int} {F : List (Nat × List Int)} {b : Nat × List Int} {q : Nat} (h : ts.length ≤ F.length) : comb ts (vecs (F ++ [b])) q = comb ts (vecs F) q := by
  have : ∀ (ts : List Int) (vs : List (List Int)) (w : List Int), ts.length ≤ vs.length → comb ts (vs ++ [w]) q = comb ts vs q := by
    intro ts
    induction ts with
    | nil => intro vs w _; rw [comb_nil, comb_nil]
    | cons t ts ih =>
      intro vs w hl
      cases vs with
      | nil => simp at hl
      | cons v vs =>
        show t * at' v q + comb ts (vs ++ [w]) q = t * at' v q + comb ts vs q
        rw [ih vs w (by simpa using hl)]
  rw [vecs, List.map_append]
  exact this ts (vecs F) b.2 (by simpa using h)
theorem inv_add {m : Nat} {T : List (List Int)} {F : List (Nat × List Int)} {I : List Nat} (h : Inv m T F I) {r : List Int} (hr : r.length = m) : ∃ I', Inv m (T ++ [r]) (addRow F r) I' := by
  obtain ⟨r1, _, r3, c, nc, ts, r4, r5⟩ := red_spec F [] r h.ok (by simp) (by simp) hr
  have old : ∀ x ∈ T, ∀ G : List (Nat × List Int), ∀ b, (G = F ∨ G = F ++ [b]) → ∃ c : Int, c ≠ 0 ∧ ∃ ts : List Int, ts.length ≤ G.length ∧ ∀ q, c * at' x q = comb ts (vecs G) q := by
    intro x hx G b hG
    obtain ⟨c, nc, ts, l, e⟩ := h.dep x hx
    rcases hG with rfl | rfl
    · exact ⟨c, nc, ts, l, e⟩
    · exact ⟨c, nc, ts, by simp; omega, fun q => by rw [e q, comb_short l]⟩
  unfold addRow
  by_cases z : gcdL (red r F) > 0
  · rw [if_pos z]
    obtain ⟨L, hL⟩ : ∃ L, L = (red r F).map fun x => x.fdiv (gcdL (red r F)) := ⟨_, rfl⟩
    rw [← hL]
    have lat : ∀ q, gcdL (red r F) * at' L q = at' (red r F) q := fun q => by rw [hL]; exact at_map_fdiv z (fun x hx => gcdL_dvd hx) q
    have lL : L.length = m := by rw [hL, List.length_map, r1]
    have nzL : ∃ x ∈ L, x ≠ 0 := by
      apply Classical.byContradiction
      intro e
      have all : ∀ x ∈ L, x = 0 := fun x hx => Classical.byContradiction fun n => e ⟨x, hx, n⟩
      have : gcdL (red r F) = 0 := gcdL_of_zero fun x hx => by
        obtain ⟨q, hq, ex⟩ := List.getElem_of_mem hx
        have e1 : at' (red r F) q = x := by
          unfold at'
          rw [List.getD_eq_getElem?_getD, List.getElem?_eq_getElem hq, ex]
          rfl
        rw [← e1, ← lat q, all _ (at_mem (by rw [lL, ← r1]; exact hq))]
        simp
      omega
    obtain ⟨f1, f2⟩ := firstNZ_spec nzL
    refine ⟨I ++ [T.length], ⟨⟨?_, ?_, ?_, ?_⟩, ?_, ?_, ?_, ?_, ?_⟩⟩
    · intro a ha
      rcases List.mem_append.mp ha with q | q
      · exact h.ok.len a q
      · rw [List.mem_singleton.mp q]; exact lL
    · intro a ha
      rcases List.mem_append.mp ha with q | q
      · exact h.ok.lt a q
      · rw [List.mem_singleton.mp q]; show firstNZ L < m; omega
    · intro a ha
      rcases List.mem_append.mp ha with q | q
      · exact h.ok.nz a q
      · rw [List.mem_singleton.mp q]; exact f2
    · refine List.pairwise_append.mpr ⟨h.ok.tri, by simp, fun a ha b hb => ?_⟩
      rw [List.mem_singleton.mp hb]
      show at' L a.1 = 0
      have e1 := lat a.1
      rw [r3 a ha] at e1
      rcases Int.mul_eq_zero.mp e1 with e | e
      · omega
      · exact e
    · intro x hx
      rcases List.mem_append.mp hx with q | q
      · exact old x q _ _ (.inr rfl)
      · rw [List.mem_singleton.mp q]
        refine ⟨c, nc, ts.map (-1 * ·) ++ [gcdL (red r F)], by simp [r4], fun q => ?_⟩
        rw [vecs, List.map_append, comb_append (by simp [r4]), comb_scale]
        show _ = -1 * comb ts (vecs F) q + (gcdL (red r F) * at' L q + 0)
        rw [lat q, r5 q]
        omega
    · simp [h.len]
    · refine List.pairwise_append.mpr ⟨h.asc, by simp, fun a ha b hb => ?_⟩
      rw [List.mem_singleton.mp hb]
      exact h.bd a ha
    · intro i hi
      rw [List.length_append, List.length_singleton]
      rcases List.mem_append.mp hi with q | q
      · have := h.bd i q; omega
      · rw [List.mem_singleton.mp q]; omega
    · intro j hj
      rw [List.length_append, List.length_singleton] at hj
      by_cases e : j < F.length
      · obtain ⟨g, c, ng, ts, hh⟩ := h.rel j e
        refine ⟨g, c, ng, ts, fun q => ?_⟩
        have i1 : I.getD j 0 < T.length := by
          have hj' : j < I.length := by rw [h.len]; exact e
          rw [List.getD_eq_getElem?_getD, List.getElem?_eq_getElem hj']
          exact h.bd _ (List.getElem_mem hj')
        have e1 : (F ++ [(firstNZ L, L)]).getD j (0, []) = F.getD j (0, []) := by
          rw [List.getD_eq_getElem?_getD, List.getD_eq_getElem?_getD, List.getElem?_append_left e]
        have e2 : (I ++ [T.length]).getD j 0 = I.getD j 0 := by
          rw [List.getD_eq_getElem?_getD, List.getD_eq_getElem?_getD, List.getElem?_append_left (by rw [h.len]; exact e)]
        have e3 : (T ++ [r]).getD (I.getD j 0) [] = T.getD (I.getD j 0) [] := gl i1
        rw [e1, e2, e3, List.take_append_of_le_length (by omega)]
        exact hh q
      · have ej : j = F.length := by omega
        subst ej
        refine ⟨gcdL (red r F), c, by omega, ts, fun q => ?_⟩
        have e1 : (F ++ [(firstNZ L, L)]).getD F.length (0, []) = (firstNZ L, L) := by
          rw [List.getD_eq_getElem?_getD, List.getElem?_append_right (by omega), Nat.sub_self]; rfl
        have e2 : (I ++ [T.length]).getD F.length 0 = T.length := by
          rw [List.getD_eq_getElem?_getD, List.getElem?_append_right (by rw [h.len]; omega), h.len, Nat.sub_self]; rfl
        have e3 : (T ++ [r]).getD T.length [] = r := by
          rw [List.getD_eq_getElem?_getD, List.getElem?_append_right (by omega), Nat.sub_self]; rfl
        rw [e1, e2, e3, List.take_left]
        rw [lat q, r5 q]
  · rw [if_neg z]
    have g0 : gcdL (red r F) = 0 := by have := gcdL_nonneg (red r F); omega
    have all : ∀ q, at' (red r F) q = 0 := fun q => by
      by_cases hq : q < (red r F).length
      · exact gcdL_zero g0 (at_mem hq)
      · exact at_out (by omega)
    refine ⟨I, h.ok, ?_, h.len, h.asc, fun i hi => by rw [List.length_append, List.length_singleton]; have := h.bd i hi; omega, fun j hj => ?_⟩
    · intro x hx
      rcases List.mem_append.mp hx with q | q
      · exact old x q _ (0, []) (.inl rfl)
      · rw [List.mem_singleton.mp q]
        refine ⟨c, nc, ts.map (-1 * ·), by simp [r4], fun q => ?_⟩
        rw [comb_scale]
        have := r5 q
        rw [all q] at this
        omega
    · obtain ⟨g, c, ng, ts, hh⟩ := h.rel j hj
      have i1 : I.getD j 0 < T.length := by
        have hj' : j < I.length := by rw [h.len]; exact hj
        rw [List.getD_eq_getElem?_getD, List.getElem?_eq_getElem hj']
        exact h.bd _ (List.getElem_mem hj')
      have e3 : (T ++ [r]).getD (I.getD j 0) [] = T.getD (I.getD j 0) [] := gl i1
      refine ⟨g, c, ng, ts, fun q => ?_⟩
      rw [e3]
      exact hh q
theorem inv_lines {m : Nat} {T : List (List Int)} (h : ∀ r ∈ T, r.length = m) : ∃ I, Inv m T (lines T) I := by
  have key : ∀ (rest done : List (List Int)) (F : List (Nat × List Int)) (I : List Nat), Inv m done F I → (∀ r ∈ rest, r.length = m) → ∃ I', Inv m (done ++ rest) (rest.foldl addRow F) I' := by
    intro rest
    induction rest with
    | nil => intro done F I h _; exact ⟨I, by simpa using h⟩
    | cons r rest ih =>
      intro done F I h hr
      obtain ⟨I1, h1⟩ := inv_add h (hr r (by simp))
      obtain ⟨I2, h2⟩ := ih (done ++ [r]) (addRow F r) I1 h1 (fun x hx => hr x (List.mem_cons_of_mem _ hx))
      exact ⟨I2, by simpa using h2⟩
  have := key T [] [] [] (inv_nil m) h
  simpa [lines] using this
end R74
section
set_option maxHeartbeats 2000000
namespace L74
open PySem hiding ret
open Py L2 R74
theorem dep2_0 {a0 a1 b0 b1 y0 y1 : Int} (h0 : y0 * a0 + (y1 * b0 + 0) = 0) (h1 : y0 * a1 + (y1 * b1 + 0) = 0) : y0 * d2 a0 a1 b0 b1 = 0 := by
  have e : y0 * d2 a0 a1 b0 b1 = ((y0 * a0 + (y1 * b0 + 0)) * (b1)) + -((y0 * a1 + (y1 * b1 + 0)) * (b0)) := by unfold d2; grind
  rw [e, h0, h1]
  simp
theorem dep2_1 {a0 a1 b0 b1 y0 y1 : Int} (h0 : y0 * a0 + (y1 * b0 + 0) = 0) (h1 : y0 * a1 + (y1 * b1 + 0) = 0) : y1 * d2 a0 a1 b0 b1 = 0 := by
  have e : y1 * d2 a0 a1 b0 b1 = -((y0 * a0 + (y1 * b0 + 0)) * (a1)) + ((y0 * a1 + (y1 * b1 + 0)) * (a0)) := by unfold d2; grind
  rw [e, h0, h1]
  simp
theorem dep3_0 {a0 a1 a2 b0 b1 b2 c0 c1 c2 y0 y1 y2 : Int} (h0 : y0 * a0 + (y1 * b0 + (y2 * c0 + 0)) = 0) (h1 : y0 * a1 + (y1 * b1 + (y2 * c1 + 0)) = 0) (h2 : y0 * a2 + (y1 * b2 + (y2 * c2 + 0)) = 0) : y0 * d3 a0 a1 a2 b0 b1 b2 c0 c1 c2 = 0 := by
  have e : y0 * d3 a0 a1 a2 b0 b1 b2 c0 c1 c2 = ((y0 * a0 + (y1 * b0 + (y2 * c0 + 0))) * (d2 b1 b2 c1 c2)) + -((y0 * a1 + (y1 * b1 + (y2 * c1 + 0))) * (d2 b0 b2 c0 c2)) + ((y0 * a2 + (y1 * b2 + (y2 * c2 + 0))) * (d2 b0 b1 c0 c1)) := by unfold d3 d2; grind
  rw [e, h0, h1, h2]
  simp
theorem dep3_1 {a0 a1 a2 b0 b1 b2 c0 c1 c2 y0 y1 y2 : Int} (h0 : y0 * a0 + (y1 * b0 + (y2 * c0 + 0)) = 0) (h1 : y0 * a1 + (y1 * b1 + (y2 * c1 + 0)) = 0) (h2 : y0 * a2 + (y1 * b2 + (y2 * c2 + 0)) = 0) : y1 * d3 a0 a1 a2 b0 b1 b2 c0 c1 c2 = 0 := by
  have e : y1 * d3 a0 a1 a2 b0 b1 b2 c0 c1 c2 = -((y0 * a0 + (y1 * b0 + (y2 * c0 + 0))) * (d2 a1 a2 c1 c2)) + ((y0 * a1 + (y1 * b1 + (y2 * c1 + 0))) * (d2 a0 a2 c0 c2)) + -((y0 * a2 + (y1 * b2 + (y2 * c2 + 0))) * (d2 a0 a1 c0 c1)) := by unfold d3 d2; grind
  rw [e, h0, h1, h2]
  simp
theorem dep3_2 {a0 a1 a2 b0 b1 b2 c0 c1 c2 y0 y1 y2 : Int} (h0 : y0 * a0 + (y1 * b0 + (y2 * c0 + 0)) = 0) (h1 : y0 * a1 + (y1 * b1 + (y2 * c1 + 0)) = 0) (h2 : y0 * a2 + (y1 * b2 + (y2 * c2 + 0)) = 0) : y2 * d3 a0 a1 a2 b0 b1 b2 c0 c1 c2 = 0 := by
  have e : y2 * d3 a0 a1 a2 b0 b1 b2 c0 c1 c2 = ((y0 * a0 + (y1 * b0 + (y2 * c0 + 0))) * (d2 a1 a2 b1 b2)) + -((y0 * a1 + (y1 * b1 + (y2 * c1 + 0))) * (d2 a0 a2 b0 b2)) + ((y0 * a2 + (y1 * b2 + (y2 * c2 + 0))) * (d2 a0 a1 b0 b1)) := by unfold d3 d2; grind
  rw [e, h0, h1, h2]
  simp
theorem dep4_0 {a0 a1 a2 a3 b0 b1 b2 b3 c0 c1 c2 c3 e0 e1 e2 e3 y0 y1 y2 y3 : Int} (h0 : y0 * a0 + (y1 * b0 + (y2 * c0 + (y3 * e0 + 0))) = 0) (h1 : y0 * a1 + (y1 * b1 + (y2 * c1 + (y3 * e1 + 0))) = 0) (h2 : y0 * a2 + (y1 * b2 + (y2 * c2 + (y3 * e2 + 0))) = 0) (h3 : y0 * a3 + (y1 * b3 + (y2 * c3 + (y3 * e3 + 0))) = 0) : y0 * d4 a0 a1 a2 a3 b0 b1 b2 b3 c0 c1 c2 c3 e0 e1 e2 e3 = 0 := by
  have e : y0 * d4 a0 a1 a2 a3 b0 b1 b2 b3 c0 c1 c2 c3 e0 e1 e2 e3 = ((y0 * a0 + (y1 * b0 + (y2 * c0 + (y3 * e0 + 0)))) * (d3 b1 b2 b3 c1 c2 c3 e1 e2 e3)) + -((y0 * a1 + (y1 * b1 + (y2 * c1 + (y3 * e1 + 0)))) * (d3 b0 b2 b3 c0 c2 c3 e0 e2 e3)) + ((y0 * a2 + (y1 * b2 + (y2 * c2 + (y3 * e2 + 0)))) * (d3 b0 b1 b3 c0 c1 c3 e0 e1 e3)) + -((y0 * a3 + (y1 * b3 + (y2 * c3 + (y3 * e3 + 0)))) * (d3 b0 b1 b2 c0 c1 c2 e0 e1 e2)) := by unfold d4 d3 d2; grind
  rw [e, h0, h1, h2, h3]
  simp
theorem dep4_1 {a0 a1 a2 a3 b0 b1 b2 b3 c0 c1 c2 c3 e0 e1 e2 e3 y0 y1 y2 y3 : Int} (h0 : y0 * a0 + (y1 * b0 + (y2 * c0 + (y3 * e0 + 0))) = 0) (h1 : y0 * a1 + (y1 * b1 + (y2 * c1 + (y3 * e1 + 0))) = 0) (h2 : y0 * a2 + (y1 * b2 + (y2 * c2 + (y3 * e2 + 0))) = 0) (h3 : y0 * a3 + (y1 * b3 + (y2 * c3 + (y3 * e3 + 0))) = 0) : y1 * d4 a0 a1 a2 a3 b0 b1 b2 b3 c0 c1 c2 c3 e0 e1 e2 e3 = 0 := by
  have e : y1 * d4 a0 a1 a2 a3 b0 b1 b2 b3 c0 c1 c2 c3 e0 e1 e2 e3 = -((y0 * a0 + (y1 * b0 + (y2 * c0 + (y3 * e0 + 0)))) * (d3 a1 a2 a3 c1 c2 c3 e1 e2 e3)) + ((y0 * a1 + (y1 * b1 + (y2 * c1 + (y3 * e1 + 0)))) * (d3 a0 a2 a3 c0 c2 c3 e0 e2 e3)) + -((y0 * a2 + (y1 * b2 + (y2 * c2 + (y3 * e2 + 0)))) * (d3 a0 a1 a3 c0 c1 c3 e0 e1 e3)) + ((y0 * a3 + (y1 * b3 + (y2 * c3 + (y3 * e3 + 0)))) * (d3 a0 a1 a2 c0 c1 c2 e0 e1 e2)) := by unfold d4 d3 d2; grind
  rw [e, h0, h1, h2, h3]
  simp
theorem dep4_2 {a0 a1 a2 a3 b0 b1 b2 b3 c0 c1 c2 c3 e0 e1 e2 e3 y0 y1 y2 y3 : Int} (h0 : y0 * a0 + (y1 * b0 + (y2 * c0 + (y3 * e0 + 0))) = 0) (h1 : y0 * a1 + (y1 * b1 + (y2 * c1 + (y3 * e1 + 0))) = 0) (h2 : y0 * a2 + (y1 * b2 + (y2 * c2 + (y3 * e2 + 0))) = 0) (h3 : y0 * a3 + (y1 * b3 + (y2 * c3 + (y3 * e3 + 0))) = 0) : y2 * d4 a0 a1 a2 a3 b0 b1 b2 b3 c0 c1 c2 c3 e0 e1 e2 e3 = 0 := by
  have e : y2 * d4 a0 a1 a2 a3 b0 b1 b2 b3 c0 c1 c2 c3 e0 e1 e2 e3 = ((y0 * a0 + (y1 * b0 + (y2 * c0 + (y3 * e0 + 0)))) * (d3 a1 a2 a3 b1 b2 b3 e1 e2 e3)) + -((y0 * a1 + (y1 * b1 + (y2 * c1 + (y3 * e1 + 0)))) * (d3 a0 a2 a3 b0 b2 b3 e0 e2 e3)) + ((y0 * a2 + (y1 * b2 + (y2 * c2 + (y3 * e2 + 0)))) * (d3 a0 a1 a3 b0 b1 b3 e0 e1 e3)) + -((y0 * a3 + (y1 * b3 + (y2 * c3 + (y3 * e3 + 0)))) * (d3 a0 a1 a2 b0 b1 b2 e0 e1 e2)) := by unfold d4 d3 d2; grind
  rw [e, h0, h1, h2, h3]
  simp
theorem dep4_3 {a0 a1 a2 a3 b0 b1 b2 b3 c0 c1 c2 c3 e0 e1 e2 e3 y0 y1 y2 y3 : Int} (h0 : y0 * a0 + (y1 * b0 + (y2 * c0 + (y3 * e0 + 0))) = 0) (h1 : y0 * a1 + (y1 * b1 + (y2 * c1 + (y3 * e1 + 0))) = 0) (h2 : y0 * a2 + (y1 * b2 + (y2 * c2 + (y3 * e2 + 0))) = 0) (h3 : y0 * a3 + (y1 * b3 + (y2 * c3 + (y3 * e3 + 0))) = 0) : y3 * d4 a0 a1 a2 a3 b0 b1 b2 b3 c0 c1 c2 c3 e0 e1 e2 e3 = 0 := by
  have e : y3 * d4 a0 a1 a2 a3 b0 b1 b2 b3 c0 c1 c2 c3 e0 e1 e2 e3 = -((y0 * a0 + (y1 * b0 + (y2 * c0 + (y3 * e0 + 0)))) * (d3 a1 a2 a3 b1 b2 b3 c1 c2 c3)) + ((y0 * a1 + (y1 * b1 + (y2 * c1 + (y3 * e1 + 0)))) * (d3 a0 a2 a3 b0 b2 b3 c0 c2 c3)) + -((y0 * a2 + (y1 * b2 + (y2 * c2 + (y3 * e2 + 0)))) * (d3 a0 a1 a3 b0 b1 b3 c0 c1 c3)) + ((y0 * a3 + (y1 * b3 + (y2 * c3 + (y3 * e3 + 0)))) * (d3 a0 a1 a2 b0 b1 b2 c0 c1 c2)) := by unfold d4 d3 d2; grind
  rw [e, h0, h1, h2, h3]
  simp
theorem step2_0 {a0 a1 b0 b1 x0 x1 g c  : Int} (h0 : g * a0 = c * x0 + (0)) (h1 : g * a1 = c * x1 + (0)) : g * d2 a0 a1 b0 b1 = c * d2 x0 x1 b0 b1 := by
  have e : g * d2 a0 a1 b0 b1 = ((g * a0) * (b1)) + -((g * a1) * (b0)) := by unfold d2; grind
  rw [e, h0, h1]
  unfold d2; grind
theorem step2_1 {a0 a1 b0 b1 x0 x1 g c t0 : Int} (h0 : g * b0 = c * x0 + (t0 * a0)) (h1 : g * b1 = c * x1 + (t0 * a1)) : g * d2 a0 a1 b0 b1 = c * d2 a0 a1 x0 x1 := by
  have e : g * d2 a0 a1 b0 b1 = -((g * b0) * (a1)) + ((g * b1) * (a0)) := by unfold d2; grind
  rw [e, h0, h1]
  unfold d2; grind
theorem step3_0 {a0 a1 a2 b0 b1 b2 c0 c1 c2 x0 x1 x2 g c  : Int} (h0 : g * a0 = c * x0 + (0)) (h1 : g * a1 = c * x1 + (0)) (h2 : g * a2 = c * x2 + (0)) : g * d3 a0 a1 a2 b0 b1 b2 c0 c1 c2 = c * d3 x0 x1 x2 b0 b1 b2 c0 c1 c2 := by
  have e : g * d3 a0 a1 a2 b0 b1 b2 c0 c1 c2 = ((g * a0) * (d2 b1 b2 c1 c2)) + -((g * a1) * (d2 b0 b2 c0 c2)) + ((g * a2) * (d2 b0 b1 c0 c1)) := by unfold d3 d2; grind
  rw [e, h0, h1, h2]
  unfold d3 d2; grind
theorem step3_1 {a0 a1 a2 b0 b1 b2 c0 c1 c2 x0 x1 x2 g c t0 : Int} (h0 : g * b0 = c * x0 + (t0 * a0)) (h1 : g * b1 = c * x1 + (t0 * a1)) (h2 : g * b2 = c * x2 + (t0 * a2)) : g * d3 a0 a1 a2 b0 b1 b2 c0 c1 c2 = c * d3 a0 a1 a2 x0 x1 x2 c0 c1 c2 := by
  have e : g * d3 a0 a1 a2 b0 b1 b2 c0 c1 c2 = -((g * b0) * (d2 a1 a2 c1 c2)) + ((g * b1) * (d2 a0 a2 c0 c2)) + -((g * b2) * (d2 a0 a1 c0 c1)) := by unfold d3 d2; grind
  rw [e, h0, h1, h2]
  unfold d3 d2; grind
theorem step3_2 {a0 a1 a2 b0 b1 b2 c0 c1 c2 x0 x1 x2 g c t0 t1 : Int} (h0 : g * c0 = c * x0 + (t0 * a0 + t1 * b0)) (h1 : g * c1 = c * x1 + (t0 * a1 + t1 * b1)) (h2 : g * c2 = c * x2 + (t0 * a2 + t1 * b2)) : g * d3 a0 a1 a2 b0 b1 b2 c0 c1 c2 = c * d3 a0 a1 a2 b0 b1 b2 x0 x1 x2 := by
  have e : g * d3 a0 a1 a2 b0 b1 b2 c0 c1 c2 = ((g * c0) * (d2 a1 a2 b1 b2)) + -((g * c1) * (d2 a0 a2 b0 b2)) + ((g * c2) * (d2 a0 a1 b0 b1)) := by unfold d3 d2; grind
  rw [e, h0, h1, h2]
  unfold d3 d2; grind
theorem step4_0 {a0 a1 a2 a3 b0 b1 b2 b3 c0 c1 c2 c3 e0 e1 e2 e3 x0 x1 x2 x3 g c  : Int} (h0 : g * a0 = c * x0 + (0)) (h1 : g * a1 = c * x1 + (0)) (h2 : g * a2 = c * x2 + (0)) (h3 : g * a3 = c * x3 + (0)) : g * d4 a0 a1 a2 a3 b0 b1 b2 b3 c0 c1 c2 c3 e0 e1 e2 e3 = c * d4 x0 x1 x2 x3 b0 b1 b2 b3 c0 c1 c2 c3 e0 e1 e2 e3 := by
  have e : g * d4 a0 a1 a2 a3 b0 b1 b2 b3 c0 c1 c2 c3 e0 e1 e2 e3 = ((g * a0) * (d3 b1 b2 b3 c1 c2 c3 e1 e2 e3)) + -((g * a1) * (d3 b0 b2 b3 c0 c2 c3 e0 e2 e3)) + ((g * a2) * (d3 b0 b1 b3 c0 c1 c3 e0 e1 e3)) + -((g * a3) * (d3 b0 b1 b2 c0 c1 c2 e0 e1 e2)) := by unfold d4 d3 d2; grind
  rw [e, h0, h1, h2, h3]
  unfold d4 d3 d2; grind
theorem step4_1 {a0 a1 a2 a3 b0 b1 b2 b3 c0 c1 c2 c3 e0 e1 e2 e3 x0 x1 x2 x3 g c t0 : Int} (h0 : g * b0 = c * x0 + (t0 * a0)) (h1 : g * b1 = c * x1 + (t0 * a1)) (h2 : g * b2 = c * x2 + (t0 * a2)) (h3 : g * b3 = c * x3 + (t0 * a3)) : g * d4 a0 a1 a2 a3 b0 b1 b2 b3 c0 c1 c2 c3 e0 e1 e2 e3 = c * d4 a0 a1 a2 a3 x0 x1 x2 x3 c0 c1 c2 c3 e0 e1 e2 e3 := by
  have e : g * d4 a0 a1 a2 a3 b0 b1 b2 b3 c0 c1 c2 c3 e0 e1 e2 e3 = -((g * b0) * (d3 a1 a2 a3 c1 c2 c3 e1 e2 e3)) + ((g * b1) * (d3 a0 a2 a3 c0 c2 c3 e0 e2 e3)) + -((g * b2) * (d3 a0 a1 a3 c0 c1 c3 e0 e1 e3)) + ((g * b3) * (d3 a0 a1 a2 c0 c1 c2 e0 e1 e2)) := by unfold d4 d3 d2; grind
  rw [e, h0, h1, h2, h3]
  unfold d4 d3 d2; grind
theorem step4_2 {a0 a1 a2 a3 b0 b1 b2 b3 c0 c1 c2 c3 e0 e1 e2 e3 x0 x1 x2 x3 g c t0 t1 : Int} (h0 : g * c0 = c * x0 + (t0 * a0 + t1 * b0)) (h1 : g * c1 = c * x1 + (t0 * a1 + t1 * b1)) (h2 : g * c2 = c * x2 + (t0 * a2 + t1 * b2)) (h3 : g * c3 = c * x3 + (t0 * a3 + t1 * b3)) : g * d4 a0 a1 a2 a3 b0 b1 b2 b3 c0 c1 c2 c3 e0 e1 e2 e3 = c * d4 a0 a1 a2 a3 b0 b1 b2 b3 x0 x1 x2 x3 e0 e1 e2 e3 := by
  have e : g * d4 a0 a1 a2 a3 b0 b1 b2 b3 c0 c1 c2 c3 e0 e1 e2 e3 = ((g * c0) * (d3 a1 a2 a3 b1 b2 b3 e1 e2 e3)) + -((g * c1) * (d3 a0 a2 a3 b0 b2 b3 e0 e2 e3)) + ((g * c2) * (d3 a0 a1 a3 b0 b1 b3 e0 e1 e3)) + -((g * c3) * (d3 a0 a1 a2 b0 b1 b2 e0 e1 e2)) := by unfold d4 d3 d2; grind
  rw [e, h0, h1, h2, h3]
  unfold d4 d3 d2; grind
theorem step4_3 {a0 a1 a2 a3 b0 b1 b2 b3 c0 c1 c2 c3 e0 e1 e2 e3 x0 x1 x2 x3 g c t0 t1 t2 : Int} (h0 : g * e0 = c * x0 + (t0 * a0 + t1 * b0 + t2 * c0)) (h1 : g * e1 = c * x1 + (t0 * a1 + t1 * b1 + t2 * c1)) (h2 : g * e2 = c * x2 + (t0 * a2 + t1 * b2 + t2 * c2)) (h3 : g * e3 = c * x3 + (t0 * a3 + t1 * b3 + t2 * c3)) : g * d4 a0 a1 a2 a3 b0 b1 b2 b3 c0 c1 c2 c3 e0 e1 e2 e3 = c * d4 a0 a1 a2 a3 b0 b1 b2 b3 c0 c1 c2 c3 x0 x1 x2 x3 := by
  have e : g * d4 a0 a1 a2 a3 b0 b1 b2 b3 c0 c1 c2 c3 e0 e1 e2 e3 = -((g * e0) * (d3 a1 a2 a3 b1 b2 b3 c1 c2 c3)) + ((g * e1) * (d3 a0 a2 a3 b0 b2 b3 c0 c2 c3)) + -((g * e2) * (d3 a0 a1 a3 b0 b1 b3 c0 c1 c3)) + ((g * e3) * (d3 a0 a1 a2 b0 b1 b2 c0 c1 c2)) := by unfold d4 d3 d2; grind
  rw [e, h0, h1, h2, h3]
  unfold d4 d3 d2; grind
end L74
end
section
set_option maxHeartbeats 2000000
namespace L74
open PySem hiding ret
open Py L2 R74
def S (F : List (List Int)) (f : Nat → Int) (q : Nat) : Int := match F with
  | [] => 0
  | v :: vs => f 0 * at' v q + S vs (fun j => f (j + 1)) q
theorem S_range : ∀ (F : List (List Int)) (f : Nat → Int) (q : Nat), comb ((List.range F.length).map f) F q = S F f q
  | [], f, q => rfl
  | v :: vs, f, q => by
    rw [List.length_cons, List.range_succ_eq_map, List.map_cons, List.map_map]
    show f 0 * at' v q + comb ((List.range vs.length).map (f ∘ Nat.succ)) vs q = f 0 * at' v q + _
    rw [S_range vs (f ∘ Nat.succ) q]
    rfl
theorem S_comb : ∀ (F : List (List Int)) (ts : List Int) (q : Nat), comb ts F q = S F (at' ts) q
  | [], ts, q => by cases ts <;> rfl
  | v :: vs, [], q => by
    show (0 : Int) = 0 * at' v q + S vs (fun j => at' [] (j + 1)) q
    have := S_comb vs [] q
    rw [comb_nil] at this
    have e : (fun j => at' [] (j + 1)) = at' [] := rfl
    rw [e, ← this]
    simp
  | v :: vs, t :: ts, q => by
    show t * at' v q + comb ts vs q = t * at' v q + S vs (fun j => at' (t :: ts) (j + 1)) q
    rw [S_comb vs ts q]
    rfl
theorem S_lin : ∀ (F : List (List Int)) (a : Int) (f g : Nat → Int) (q : Nat), S F (fun j => a * f j + g j) q = a * S F f q + S F g q
  | [], a, f, g, q => by show (0 : Int) = a * 0 + 0; simp
  | v :: vs, a, f, g, q => by
    show (a * f 0 + g 0) * at' v q + S vs (fun j => a * f (j + 1) + g (j + 1)) q = a * (f 0 * at' v q + S vs (fun j => f (j + 1)) q) + (g 0 * at' v q + S vs (fun j => g (j + 1)) q)
    rw [S_lin vs a (fun j => f (j + 1)) (fun j => g (j + 1)) q]
    grind
theorem S_zero : ∀ (F : List (List Int)) (f : Nat → Int) (q : Nat), (∀ j, j < F.length → f j = 0) → S F f q = 0
  | [], f, q, _ => rfl
  | v :: vs, f, q, h => by
    show f 0 * at' v q + S vs (fun j => f (j + 1)) q = 0
    rw [h 0 (by simp), S_zero vs _ q fun j hj => h (j + 1) (by simp; omega)]
    simp
theorem dep_null {F : List (List Int)} : ∀ (R : List (List Int)), (∀ r ∈ R, ∃ c : Int, c ≠ 0 ∧ ∃ ts : List Int, ∀ q, c * at' r q = comb ts F q) →
    ∃ (A : List (List Int)) (cs : List Int), A.length = R.length ∧ cs.length = R.length ∧ (∀ c ∈ cs, c ≠ 0) ∧ ∀ (y : List Int) (q : Nat), y.length = R.length → comb (List.zipWith (· * ·) y cs) R q = S F (fun j => comb y A j) q
  | [], _ => ⟨[], [], rfl, rfl, by simp, fun y q _ => by
    rw [List.zipWith_nil_right, comb_nil]
    exact (S_zero F _ q fun j _ => by cases y <;> rfl).symm⟩
  | r :: R, h => by
    obtain ⟨A, cs, h1, h2, h3, h4⟩ := dep_null R fun x hx => h x (List.mem_cons_of_mem _ hx)
    obtain ⟨c, nc, ts, e⟩ := h r (by simp)
    refine ⟨ts :: A, c :: cs, by simp [h1], by simp [h2], fun x hx => ?_, fun y q hl => ?_⟩
    · rcases List.mem_cons.mp hx with rfl | hx
      · exact nc
      · exact h3 x hx
    · cases y with
      | nil => simp at hl
      | cons y0 ys =>
        show y0 * c * at' r q + comb (List.zipWith (· * ·) ys cs) R q = S F (fun j => y0 * at' ts j + comb ys A j) q
        rw [S_lin, h4 ys q (by simpa using hl), ← S_comb, ← e q, Int.mul_assoc]
theorem null_rows {F R : List (List Int)} (h : ∀ r ∈ R, ∃ c : Int, c ≠ 0 ∧ ∃ ts : List Int, ∀ q, c * at' r q = comb ts F q) (hl : F.length < R.length) : ∃ z : List Int, z.length = R.length ∧ (∃ c ∈ z, c ≠ 0) ∧ ∀ q, comb z R q = 0 := by
  obtain ⟨A, cs, h1, h2, h3, h4⟩ := dep_null R h
  obtain ⟨y, y1, ⟨c, hc, nc⟩, y3⟩ := null_vec F.length A (by omega)
  refine ⟨List.zipWith (· * ·) y cs, by simp; omega, ?_, fun q => by rw [h4 y q (by omega)]; exact S_zero F _ q y3⟩
  obtain ⟨i, hi, rfl⟩ := List.getElem_of_mem hc
  have hi' : i < cs.length := by omega
  refine ⟨y[i] * cs[i], ?_, Int.mul_ne_zero nc (h3 _ (List.getElem_mem hi'))⟩
  exact List.mem_iff_getElem.mpr ⟨i, by simp; omega, by simp⟩
def cols (P : List Nat) (r : List Int) : List Int := P.map (at' r)
def mat (T : List (List Int)) (I P : List Nat) : List (List Int) := I.map fun i => cols P (T.getD i [])
theorem mul_z {a d : Int} (h : a * d = 0) (n : a ≠ 0) : d = 0 := (Int.mul_eq_zero.mp h).resolve_left n
theorem det_null {R : List (List Int)} {z : List Int} {P : List Nat} {k : Nat} (k1 : 1 ≤ k) (k4 : k ≤ 4) (hR : R.length = k) (hz : z.length = k) (hP : P.length = k) (nz : ∃ c ∈ z, c ≠ 0) (h : ∀ q, comb z R q = 0) : detM (R.map (cols P)) = 0 := by
  obtain ⟨c, hc, nc⟩ := nz
  have ks : k = 1 ∨ k = 2 ∨ k = 3 ∨ k = 4 := by omega
  rcases ks with rfl | rfl | rfl | rfl
  · obtain ⟨r0, rfl⟩ := l1 hR
    obtain ⟨z0, rfl⟩ := l1 hz
    obtain ⟨p0, rfl⟩ := l1 hP
    simp only [List.mem_cons, List.not_mem_nil, or_false] at hc
    subst hc
    have := h p0
    exact mul_z (a := c) (by have e : c * at' r0 p0 + 0 = 0 := this; show c * at' r0 p0 = 0; omega) nc
  · obtain ⟨r0, r1, rfl⟩ := l2 hR
    obtain ⟨z0, z1, rfl⟩ := l2 hz
    obtain ⟨p0, p1, rfl⟩ := l2 hP
    simp only [List.mem_cons, List.not_mem_nil, or_false] at hc
    rcases hc with rfl | rfl
    · exact mul_z (dep2_0 (h p0) (h p1)) nc
    · exact mul_z (dep2_1 (h p0) (h p1)) nc
  · obtain ⟨r0, r1, r2, rfl⟩ := l3 hR
    obtain ⟨z0, z1, z2, rfl⟩ := l3 hz
    obtain ⟨p0, p1, p2, rfl⟩ := l3 hP
    simp only [List.mem_cons, List.not_mem_nil, or_false] at hc
    rcases hc with rfl | rfl | rfl
    · exact mul_z (dep3_0 (h p0) (h p1) (h p2)) nc
    · exact mul_z (dep3_1 (h p0) (h p1) (h p2)) nc
    · exact mul_z (dep3_2 (h p0) (h p1) (h p2)) nc
  · obtain ⟨r0, r1, r2, r3, rfl⟩ := l4 hR
    obtain ⟨z0, z1, z2, z3, rfl⟩ := l4 hz
    obtain ⟨p0, p1, p2, p3, rfl⟩ := l4 hP
    simp only [List.mem_cons, List.not_mem_nil, or_false] at hc
    rcases hc with rfl | rfl | rfl | rfl
    · exact mul_z (dep4_0 (h p0) (h p1) (h p2) (h p3)) nc
    · exact mul_z (dep4_1 (h p0) (h p1) (h p2) (h p3)) nc
    · exact mul_z (dep4_2 (h p0) (h p1) (h p2) (h p3)) nc
    · exact mul_z (dep4_3 (h p0) (h p1) (h p2) (h p3)) nc
theorem minor_zero {m : Nat} {T : List (List Int)} {F : List (Nat × List Int)} {I0 : List Nat} (h : Inv m T F I0) {I P : List Nat} (hI : ∀ i ∈ I, i < T.length) (k1 : 1 ≤ I.length) (k4 : I.length ≤ 4) (hP : P.length = I.length) (hF : F.length < I.length) : detM (mat T I P) = 0 := by
  obtain ⟨z, z1, z2, z3⟩ := null_rows (F := vecs F) (R := I.map fun i => T.getD i []) (fun r hr => by
    obtain ⟨i, hi, rfl⟩ := List.mem_map.mp hr
    have hi' := hI i hi
    obtain ⟨c, nc, ts, _, e⟩ := h.dep (T.getD i []) (by rw [List.getD_eq_getElem?_getD, List.getElem?_eq_getElem hi']; exact List.getElem_mem hi')
    exact ⟨c, nc, ts, e⟩) (by simp; omega)
  have := det_null (P := P) k1 k4 (by simp) (by rw [z1]; simp) hP z2 z3
  rw [List.map_map] at this
  exact this
theorem ne_step {g c D D' : Int} (h : g * D = c * D') (hg : g ≠ 0) (hD : D ≠ 0) : D' ≠ 0 := by
  intro e
  rw [e, Int.mul_zero] at h
  exact hD (mul_z h hg)
theorem comb0 (ts : List Int) (q : Nat) : comb ts [] q = 0 := by cases ts <;> rfl
theorem comb1 (ts : List Int) (v : List Int) (q : Nat) : comb ts [v] q = at' ts 0 * at' v q := by
  rw [S_comb]
  show at' ts 0 * at' v q + 0 = _
  omega
theorem comb2 (ts : List Int) (v w : List Int) (q : Nat) : comb ts [v, w] q = at' ts 0 * at' v q + at' ts 1 * at' w q := by
  rw [S_comb]
  show at' ts 0 * at' v q + (at' ts 1 * at' w q + 0) = _
  omega
theorem comb3 (ts : List Int) (v w x : List Int) (q : Nat) : comb ts [v, w, x] q = at' ts 0 * at' v q + at' ts 1 * at' w q + at' ts 2 * at' x q := by
  rw [S_comb]
  show at' ts 0 * at' v q + (at' ts 1 * at' w q + (at' ts 2 * at' x q + 0)) = _
  omega
theorem tri_ne {m : Nat} {T : List (List Int)} {F : List (Nat × List Int)} {I : List Nat} (h : Inv m T F I) (k1 : 1 ≤ F.length) (k4 : F.length ≤ 4) : detM (mat T I (F.map (·.1))) ≠ 0 := by
  obtain ⟨k, hk⟩ : ∃ k, F.length = k := ⟨_, rfl⟩
  have hI : I.length = k := by rw [h.len, hk]
  have ks : k = 1 ∨ k = 2 ∨ k = 3 ∨ k = 4 := by omega
  rcases ks with rfl | rfl | rfl | rfl
  · obtain ⟨f0, rfl⟩ := l1 hk
    obtain ⟨i0, rfl⟩ := l1 hI
    have n0 := h.ok.nz f0 (by simp)
    have tr := h.ok.tri
    obtain ⟨g0, c0, ng0, ts0, e0⟩ := h.rel 0 (by simp)
    have e0 : ∀ q, g0 * at' f0.2 q = c0 * at' (T.getD i0 []) q + comb ts0 [] q := e0
    simp only [comb0] at e0
    have e := e0 f0.1
    show at' (T.getD i0 []) f0.1 ≠ 0
    intro z
    rw [z] at e
    exact n0 (mul_z (by omega) ng0)
  · obtain ⟨f0, f1, rfl⟩ := l2 hk
    obtain ⟨i0, i1, rfl⟩ := l2 hI
    have n0 := h.ok.nz f0 (by simp)
    have n1 := h.ok.nz f1 (by simp)
    have tr := h.ok.tri
    simp only [List.pairwise_cons, List.mem_cons, List.not_mem_nil, or_false, forall_eq_or_imp, forall_eq, and_true, List.Pairwise.nil, false_implies, implies_true] at tr
    obtain ⟨g0, c0, ng0, ts0, e0⟩ := h.rel 0 (by simp)
    obtain ⟨g1, c1, ng1, ts1, e1⟩ := h.rel 1 (by simp)
    have e0 : ∀ q, g0 * at' f0.2 q = c0 * at' (T.getD i0 []) q + comb ts0 [] q := e0
    simp only [comb0] at e0
    have e1 : ∀ q, g1 * at' f1.2 q = c1 * at' (T.getD i1 []) q + comb ts1 [f0.2] q := e1
    simp only [comb1] at e1
    have z10 := tr
    have D2 : d2 (at' f0.2 f0.1) (at' f0.2 f1.1) (at' f1.2 f0.1) (at' f1.2 f1.1) ≠ 0 := by
      rw [show d2 (at' f0.2 f0.1) (at' f0.2 f1.1) (at' f1.2 f0.1) (at' f1.2 f1.1) = (at' f0.2 f0.1) * (at' f1.2 f1.1) by rw [z10]; unfold d2; grind]
      exact (Int.mul_ne_zero n0 n1)
    have D1 : d2 (at' f0.2 f0.1) (at' f0.2 f1.1) (at' (T.getD i1 []) f0.1) (at' (T.getD i1 []) f1.1) ≠ 0 := ne_step (step2_1 (e1 f0.1) (e1 f1.1)) ng1 D2
    have D0 : d2 (at' (T.getD i0 []) f0.1) (at' (T.getD i0 []) f1.1) (at' (T.getD i1 []) f0.1) (at' (T.getD i1 []) f1.1) ≠ 0 := ne_step (step2_0 (e0 f0.1) (e0 f1.1)) ng0 D1
    exact D0
  · obtain ⟨f0, f1, f2, rfl⟩ := l3 hk
    obtain ⟨i0, i1, i2, rfl⟩ := l3 hI
    have n0 := h.ok.nz f0 (by simp)
    have n1 := h.ok.nz f1 (by simp)
    have n2 := h.ok.nz f2 (by simp)
    have tr := h.ok.tri
    simp only [List.pairwise_cons, List.mem_cons, List.not_mem_nil, or_false, forall_eq_or_imp, forall_eq, and_true, List.Pairwise.nil, false_implies, implies_true] at tr
    obtain ⟨g0, c0, ng0, ts0, e0⟩ := h.rel 0 (by simp)
    obtain ⟨g1, c1, ng1, ts1, e1⟩ := h.rel 1 (by simp)
    obtain ⟨g2, c2, ng2, ts2, e2⟩ := h.rel 2 (by simp)
    have e0 : ∀ q, g0 * at' f0.2 q = c0 * at' (T.getD i0 []) q + comb ts0 [] q := e0
    simp only [comb0] at e0
    have e1 : ∀ q, g1 * at' f1.2 q = c1 * at' (T.getD i1 []) q + comb ts1 [f0.2] q := e1
    simp only [comb1] at e1
    have e2 : ∀ q, g2 * at' f2.2 q = c2 * at' (T.getD i2 []) q + comb ts2 [f0.2, f1.2] q := e2
    simp only [comb2] at e2
    obtain ⟨⟨z10, z20⟩, z21⟩ := tr
    have D3 : d3 (at' f0.2 f0.1) (at' f0.2 f1.1) (at' f0.2 f2.1) (at' f1.2 f0.1) (at' f1.2 f1.1) (at' f1.2 f2.1) (at' f2.2 f0.1) (at' f2.2 f1.1) (at' f2.2 f2.1) ≠ 0 := by
      rw [show d3 (at' f0.2 f0.1) (at' f0.2 f1.1) (at' f0.2 f2.1) (at' f1.2 f0.1) (at' f1.2 f1.1) (at' f1.2 f2.1) (at' f2.2 f0.1) (at' f2.2 f1.1) (at' f2.2 f2.1) = (at' f0.2 f0.1) * (at' f1.2 f1.1) * (at' f2.2 f2.1) by rw [z10, z20, z21]; unfold d3 d2; grind]
      exact (Int.mul_ne_zero (Int.mul_ne_zero n0 n1) n2)
    have D2 : d3 (at' f0.2 f0.1) (at' f0.2 f1.1) (at' f0.2 f2.1) (at' f1.2 f0.1) (at' f1.2 f1.1) (at' f1.2 f2.1) (at' (T.getD i2 []) f0.1) (at' (T.getD i2 []) f1.1) (at' (T.getD i2 []) f2.1) ≠ 0 := ne_step (step3_2 (e2 f0.1) (e2 f1.1) (e2 f2.1)) ng2 D3
    have D1 : d3 (at' f0.2 f0.1) (at' f0.2 f1.1) (at' f0.2 f2.1) (at' (T.getD i1 []) f0.1) (at' (T.getD i1 []) f1.1) (at' (T.getD i1 []) f2.1) (at' (T.getD i2 []) f0.1) (at' (T.getD i2 []) f1.1) (at' (T.getD i2 []) f2.1) ≠ 0 := ne_step (step3_1 (e1 f0.1) (e1 f1.1) (e1 f2.1)) ng1 D2
    have D0 : d3 (at' (T.getD i0 []) f0.1) (at' (T.getD i0 []) f1.1) (at' (T.getD i0 []) f2.1) (at' (T.getD i1 []) f0.1) (at' (T.getD i1 []) f1.1) (at' (T.getD i1 []) f2.1) (at' (T.getD i2 []) f0.1) (at' (T.getD i2 []) f1.1) (at' (T.getD i2 []) f2.1) ≠ 0 := ne_step (step3_0 (e0 f0.1) (e0 f1.1) (e0 f2.1)) ng0 D1
    exact D0
  · obtain ⟨f0, f1, f2, f3, rfl⟩ := l4 hk
    obtain ⟨i0, i1, i2, i3, rfl⟩ := l4 hI
    have n0 := h.ok.nz f0 (by simp)
    have n1 := h.ok.nz f1 (by simp)
    have n2 := h.ok.nz f2 (by simp)
    have n3 := h.ok.nz f3 (by simp)
    have tr := h.ok.tri
    simp only [List.pairwise_cons, List.mem_cons, List.not_mem_nil, or_false, forall_eq_or_imp, forall_eq, and_true, List.Pairwise.nil, false_implies, implies_true] at tr
    obtain ⟨g0, c0, ng0, ts0, e0⟩ := h.rel 0 (by simp)
    obtain ⟨g1, c1, ng1, ts1, e1⟩ := h.rel 1 (by simp)
    obtain ⟨g2, c2, ng2, ts2, e2⟩ := h.rel 2 (by simp)
    obtain ⟨g3, c3, ng3, ts3, e3⟩ := h.rel 3 (by simp)
    have e0 : ∀ q, g0 * at' f0.2 q = c0 * at' (T.getD i0 []) q + comb ts0 [] q := e0
    simp only [comb0] at e0
    have e1 : ∀ q, g1 * at' f1.2 q = c1 * at' (T.getD i1 []) q + comb ts1 [f0.2] q := e1
    simp only [comb1] at e1
    have e2 : ∀ q, g2 * at' f2.2 q = c2 * at' (T.getD i2 []) q + comb ts2 [f0.2, f1.2] q := e2
    simp only [comb2] at e2
    have e3 : ∀ q, g3 * at' f3.2 q = c3 * at' (T.getD i3 []) q + comb ts3 [f0.2, f1.2, f2.2] q := e3
    simp only [comb3] at e3
    obtain ⟨⟨z10, z20, z30⟩, ⟨z21, z31⟩, z32⟩ := tr
    have D4 : d4 (at' f0.2 f0.1) (at' f0.2 f1.1) (at' f0.2 f2.1) (at' f0.2 f3.1) (at' f1.2 f0.1) (at' f1.2 f1.1) (at' f1.2 f2.1) (at' f1.2 f3.1) (at' f2.2 f0.1) (at' f2.2 f1.1) (at' f2.2 f2.1) (at' f2.2 f3.1) (at' f3.2 f0.1) (at' f3.2 f1.1) (at' f3.2 f2.1) (at' f3.2 f3.1) ≠ 0 := by
      rw [show d4 (at' f0.2 f0.1) (at' f0.2 f1.1) (at' f0.2 f2.1) (at' f0.2 f3.1) (at' f1.2 f0.1) (at' f1.2 f1.1) (at' f1.2 f2.1) (at' f1.2 f3.1) (at' f2.2 f0.1) (at' f2.2 f1.1) (at' f2.2 f2.1) (at' f2.2 f3.1) (at' f3.2 f0.1) (at' f3.2 f1.1) (at' f3.2 f2.1) (at' f3.2 f3.1) = (at' f0.2 f0.1) * (at' f1.2 f1.1) * (at' f2.2 f2.1) * (at' f3.2 f3.1) by rw [z10, z20, z21, z30, z31, z32]; unfold d4 d3 d2; grind]
      exact (Int.mul_ne_zero (Int.mul_ne_zero (Int.mul_ne_zero n0 n1) n2) n3)
    have D3 : d4 (at' f0.2 f0.1) (at' f0.2 f1.1) (at' f0.2 f2.1) (at' f0.2 f3.1) (at' f1.2 f0.1) (at' f1.2 f1.1) (at' f1.2 f2.1) (at' f1.2 f3.1) (at' f2.2 f0.1) (at' f2.2 f1.1) (at' f2.2 f2.1) (at' f2.2 f3.1) (at' (T.getD i3 []) f0.1) (at' (T.getD i3 []) f1.1) (at' (T.getD i3 []) f2.1) (at' (T.getD i3 []) f3.1) ≠ 0 := ne_step (step4_3 (e3 f0.1) (e3 f1.1) (e3 f2.1) (e3 f3.1)) ng3 D4
    have D2 : d4 (at' f0.2 f0.1) (at' f0.2 f1.1) (at' f0.2 f2.1) (at' f0.2 f3.1) (at' f1.2 f0.1) (at' f1.2 f1.1) (at' f1.2 f2.1) (at' f1.2 f3.1) (at' (T.getD i2 []) f0.1) (at' (T.getD i2 []) f1.1) (at' (T.getD i2 []) f2.1) (at' (T.getD i2 []) f3.1) (at' (T.getD i3 []) f0.1) (at' (T.getD i3 []) f1.1) (at' (T.getD i3 []) f2.1) (at' (T.getD i3 []) f3.1) ≠ 0 := ne_step (step4_2 (e2 f0.1) (e2 f1.1) (e2 f2.1) (e2 f3.1)) ng2 D3
    have D1 : d4 (at' f0.2 f0.1) (at' f0.2 f1.1) (at' f0.2 f2.1) (at' f0.2 f3.1) (at' (T.getD i1 []) f0.1) (at' (T.getD i1 []) f1.1) (at' (T.getD i1 []) f2.1) (at' (T.getD i1 []) f3.1) (at' (T.getD i2 []) f0.1) (at' (T.getD i2 []) f1.1) (at' (T.getD i2 []) f2.1) (at' (T.getD i2 []) f3.1) (at' (T.getD i3 []) f0.1) (at' (T.getD i3 []) f1.1) (at' (T.getD i3 []) f2.1) (at' (T.getD i3 []) f3.1) ≠ 0 := ne_step (step4_1 (e1 f0.1) (e1 f1.1) (e1 f2.1) (e1 f3.1)) ng1 D2
    have D0 : d4 (at' (T.getD i0 []) f0.1) (at' (T.getD i0 []) f1.1) (at' (T.getD i0 []) f2.1) (at' (T.getD i0 []) f3.1) (at' (T.getD i1 []) f0.1) (at' (T.getD i1 []) f1.1) (at' (T.getD i1 []) f2.1) (at' (T.getD i1 []) f3.1) (at' (T.getD i2 []) f0.1) (at' (T.getD i2 []) f1.1) (at' (T.getD i2 []) f2.1) (at' (T.getD i2 []) f3.1) (at' (T.getD i3 []) f0.1) (at' (T.getD i3 []) f1.1) (at' (T.getD i3 []) f2.1) (at' (T.getD i3 []) f3.1) ≠ 0 := ne_step (step4_0 (e0 f0.1) (e0 f1.1) (e0 f2.1) (e0 f3.1)) ng0 D1
    exact D0
end L74
end
section
set_option maxHeartbeats 2000000
namespace L74
open PySem hiding ret
open Py L2 R74
theorem sw2_0 {a0 a1 b0 b1 : Int} (h : d2 a0 a1 b0 b1 ≠ 0) : d2 a1 a0 b1 b0 ≠ 0 := by
  have e : d2 a1 a0 b1 b0 = -d2 a0 a1 b0 b1 := by unfold d2; grind
  omega
theorem sw3_0 {a0 a1 a2 b0 b1 b2 c0 c1 c2 : Int} (h : d3 a0 a1 a2 b0 b1 b2 c0 c1 c2 ≠ 0) : d3 a1 a0 a2 b1 b0 b2 c1 c0 c2 ≠ 0 := by
  have e : d3 a1 a0 a2 b1 b0 b2 c1 c0 c2 = -d3 a0 a1 a2 b0 b1 b2 c0 c1 c2 := by unfold d3 d2; grind
  omega
theorem sw3_1 {a0 a1 a2 b0 b1 b2 c0 c1 c2 : Int} (h : d3 a0 a1 a2 b0 b1 b2 c0 c1 c2 ≠ 0) : d3 a0 a2 a1 b0 b2 b1 c0 c2 c1 ≠ 0 := by
  have e : d3 a0 a2 a1 b0 b2 b1 c0 c2 c1 = -d3 a0 a1 a2 b0 b1 b2 c0 c1 c2 := by unfold d3 d2; grind
  omega
theorem sw4_0 {a0 a1 a2 a3 b0 b1 b2 b3 c0 c1 c2 c3 e0 e1 e2 e3 : Int} (h : d4 a0 a1 a2 a3 b0 b1 b2 b3 c0 c1 c2 c3 e0 e1 e2 e3 ≠ 0) : d4 a1 a0 a2 a3 b1 b0 b2 b3 c1 c0 c2 c3 e1 e0 e2 e3 ≠ 0 := by
  have e : d4 a1 a0 a2 a3 b1 b0 b2 b3 c1 c0 c2 c3 e1 e0 e2 e3 = -d4 a0 a1 a2 a3 b0 b1 b2 b3 c0 c1 c2 c3 e0 e1 e2 e3 := by unfold d4 d3 d2; grind
  omega
theorem sw4_1 {a0 a1 a2 a3 b0 b1 b2 b3 c0 c1 c2 c3 e0 e1 e2 e3 : Int} (h : d4 a0 a1 a2 a3 b0 b1 b2 b3 c0 c1 c2 c3 e0 e1 e2 e3 ≠ 0) : d4 a0 a2 a1 a3 b0 b2 b1 b3 c0 c2 c1 c3 e0 e2 e1 e3 ≠ 0 := by
  have e : d4 a0 a2 a1 a3 b0 b2 b1 b3 c0 c2 c1 c3 e0 e2 e1 e3 = -d4 a0 a1 a2 a3 b0 b1 b2 b3 c0 c1 c2 c3 e0 e1 e2 e3 := by unfold d4 d3 d2; grind
  omega
theorem sw4_2 {a0 a1 a2 a3 b0 b1 b2 b3 c0 c1 c2 c3 e0 e1 e2 e3 : Int} (h : d4 a0 a1 a2 a3 b0 b1 b2 b3 c0 c1 c2 c3 e0 e1 e2 e3 ≠ 0) : d4 a0 a1 a3 a2 b0 b1 b3 b2 c0 c1 c3 c2 e0 e1 e3 e2 ≠ 0 := by
  have e : d4 a0 a1 a3 a2 b0 b1 b3 b2 c0 c1 c3 c2 e0 e1 e3 e2 = -d4 a0 a1 a2 a3 b0 b1 b2 b3 c0 c1 c2 c3 e0 e1 e2 e3 := by unfold d4 d3 d2; grind
  omega
theorem det_swap {T : List (List Int)} {I : List Nat} {k : Nat} (hI : I.length = k) (k4 : k ≤ 4) (l1 : List Nat) (a b : Nat) (l2 : List Nat) (hl : (l1 ++ a :: b :: l2).length = k) (h : detM (mat T I (l1 ++ a :: b :: l2)) ≠ 0) : detM (mat T I (l1 ++ b :: a :: l2)) ≠ 0 := by
  have ks : k = 0 ∨ k = 1 ∨ k = 2 ∨ k = 3 ∨ k = 4 := by omega
  rw [List.length_append, List.length_cons, List.length_cons] at hl
  rcases ks with rfl | rfl | rfl | rfl | rfl
  · omega
  · omega
  · obtain ⟨i0, i1, rfl⟩ := L74.l2 hI
    match l1, l2, hl with
    | [], [], _ => exact sw2_0 h
    | x :: t, l, h => exact absurd h (by rw [List.length_cons]; omega)
  · obtain ⟨i0, i1, i2, rfl⟩ := L74.l3 hI
    match l1, l2, hl with
    | [], [y0], _ => exact sw3_0 h
    | [x0], [], _ => exact sw3_1 h
    | [x], y :: t, h => exact absurd h (by rw [List.length_cons, List.length_cons]; simp; omega)
    | x :: y :: t, l, h => exact absurd h (by rw [List.length_cons, List.length_cons]; omega)
  · obtain ⟨i0, i1, i2, i3, rfl⟩ := L74.l4 hI
    match l1, l2, hl with
    | [], [y0, y1], _ => exact sw4_0 h
    | [x0], [y0], _ => exact sw4_1 h
    | [x0, x1], [], _ => exact sw4_2 h
    | x :: y :: z :: t, l, h => exact absurd h (by rw [List.length_cons, List.length_cons, List.length_cons]; omega)
theorem perm_inv {P : List Nat → Prop} {k : Nat} (sw : ∀ l1 a b l2, (l1 ++ a :: b :: l2).length = k → P (l1 ++ a :: b :: l2) → P (l1 ++ b :: a :: l2)) : ∀ {p q : List Nat}, p.Perm q → ∀ l, (l ++ p).length = k → P (l ++ p) → P (l ++ q) := by
  intro p q h
  induction h with
  | nil => intro l _ h; exact h
  | @cons x p q _ ih =>
    intro l hl h
    have e : ∀ z : List Nat, l ++ x :: z = (l ++ [x]) ++ z := fun z => by simp
    rw [e] at hl h
    rw [e]
    exact ih _ hl h
  | swap x y p =>
    intro l hl h
    exact sw l y x p hl h
  | trans h1 _ ih1 ih2 =>
    intro l hl h
    have l1 := h1.length_eq
    exact ih2 l (by rw [List.length_append] at hl ⊢; omega) (ih1 l hl h)
theorem asc_len : ∀ (l : List Nat) (b m : Nat), l.Pairwise (· < ·) → (∀ x ∈ l, b ≤ x ∧ x < m) → b ≤ m → b + l.length ≤ m
  | [], b, m, _, _, h => by simpa using h
  | x :: l, b, m, pw, hx, h => by
    obtain ⟨h1, h2⟩ := List.pairwise_cons.mp pw
    have h3 := hx x (by simp)
    have := asc_len l (x + 1) m h2 (fun y hy => ⟨h1 y hy, (hx y (List.mem_cons_of_mem _ hy)).2⟩) (by omega)
    rw [List.length_cons]; omega
/-- the places, rising -/
theorem places_asc {m : Nat} {F : List (Nat × List Int)} (ok : Ok m F) : ∃ Q : List Nat, (F.map (·.1)).Perm Q ∧ Q.Pairwise (· < ·) ∧ ∀ q ∈ Q, q < m := by
  have nd : (F.map (·.1)).Nodup := by
    rw [List.Nodup, List.pairwise_map]
    refine List.Pairwise.imp_of_mem (R := fun a b => at' b.2 a.1 = 0) (fun {a b} ha hb h e => ?_) ok.tri
    rw [e] at h
    exact ok.nz b hb h
  refine ⟨(F.map (·.1)).mergeSort, (List.mergeSort_perm _ _).symm, ?_, fun q hq => ?_⟩
  · have s : ((F.map (·.1)).mergeSort).Pairwise (· ≤ ·) := by
      have := List.pairwise_mergeSort (le := fun a b : Nat => decide (a ≤ b)) (fun a b c h1 h2 => by simp at *; omega) (fun a b => by simp; omega) (F.map (·.1))
      exact this.imp fun h => by simpa using h
    have n : ((F.map (·.1)).mergeSort).Nodup := (List.mergeSort_perm _ _).nodup_iff.mpr nd
    exact (List.Pairwise.and s n).imp fun h => by have h1 := h.1; have h2 := h.2; omega
  · obtain ⟨a, ha, rfl⟩ := List.mem_map.mp (List.mem_mergeSort.mp hq)
    exact ok.lt a ha
theorem rank_le {m : Nat} {T : List (List Int)} {F : List (Nat × List Int)} {I : List Nat} (h : Inv m T F I) : F.length ≤ m ∧ F.length ≤ T.length := by
  obtain ⟨Q, q1, q2, q3⟩ := places_asc h.ok
  have a := asc_len Q 0 m q2 (fun x hx => ⟨by omega, q3 x hx⟩) (by omega)
  have b := asc_len I 0 T.length h.asc (fun x hx => ⟨by omega, h.bd x hx⟩) (by omega)
  have l := q1.length_eq
  rw [List.length_map] at l
  rw [h.len] at b
  exact ⟨by omega, by omega⟩
theorem asc_minor {m : Nat} {T : List (List Int)} {F : List (Nat × List Int)} {I : List Nat} (h : Inv m T F I) (k1 : 1 ≤ F.length) (k4 : F.length ≤ 4) : ∃ Q : List Nat, Q.length = F.length ∧ Q.Pairwise (· < ·) ∧ (∀ q ∈ Q, q < m) ∧ detM (mat T I Q) ≠ 0 := by
  obtain ⟨Q, q1, q2, q3⟩ := places_asc h.ok
  have l := q1.length_eq
  rw [List.length_map] at l
  refine ⟨Q, l.symm, q2, q3, ?_⟩
  exact perm_inv (P := fun p => detM (mat T I p) ≠ 0) (k := F.length) (det_swap h.len k4) q1 [] (by simp) (tri_ne h k1 k4)
theorem rank_pos {m : Nat} {T : List (List Int)} {F : List (Nat × List Int)} {I : List Nat} (h : Inv m T F I) (hT : ∃ r ∈ T, at' r 0 ≠ 0) : 1 ≤ F.length := by
  obtain ⟨r, hr, nz⟩ := hT
  obtain ⟨c, nc, ts, _, e⟩ := h.dep r hr
  cases F with
  | cons _ _ => simp
  | nil =>
    exfalso
    have := e 0
    rw [show vecs [] = [] from rfl, comb0] at this
    exact nz (mul_z this nc)
/-- a square table: its determinant is not 0 exactly if it has as many lines -/
theorem det_full {m : Nat} {T : List (List Int)} (hT : T.length = m) (hr : ∀ r ∈ T, r.length = m) (m1 : 1 ≤ m) (m4 : m ≤ 4) : detM T = 0 ↔ (lines T).length < m := by
  obtain ⟨I, h⟩ := inv_lines hr
  have hl := rank_le h
  have rng : ∀ (l : List Nat), l.Pairwise (· < ·) → (∀ x ∈ l, x < m) → l.length = m → l = List.range m := by
    intro l pw hx hm
    have key : ∀ (l : List Nat) (b : Nat), l.Pairwise (· < ·) → (∀ x ∈ l, b ≤ x ∧ x < m) → b + l.length = m → l = List.range' b l.length := by
      intro l
      induction l with
      | nil => intro b _ _ _; rfl
      | cons x l ih =>
        intro b pw hx hm
        obtain ⟨h1, h2⟩ := List.pairwise_cons.mp pw
        have h3 := hx x (by simp)
        have h4 := asc_len l (x + 1) m h2 (fun y hy => ⟨h1 y hy, (hx y (List.mem_cons_of_mem _ hy)).2⟩) (by omega)
        rw [List.length_cons] at hm
        have ex : x = b := by omega
        subst ex
        rw [List.length_cons, List.range'_succ, ← ih (x + 1) h2 (fun y hy => ⟨h1 y hy, (hx y (List.mem_cons_of_mem _ hy)).2⟩) (by omega)]
    have := key l 0 pw (fun x hx' => ⟨by omega, hx x hx'⟩) (by omega)
    rw [this, hm, List.range_eq_range']
  have whole : mat T (List.range m) (List.range m) = T := by
    apply List.ext_getElem
    · simp [mat, hT]
    · intro i h1 h2
      simp only [mat, cols, List.getElem_map, List.getElem_range]
      rw [List.getD_eq_getElem?_getD, List.getElem?_eq_getElem h2, Option.getD_some]
      have li := hr _ (List.getElem_mem h2)
      apply List.ext_getElem
      · simp [li]
      · intro j h3 h4
        simp only [List.getElem_map, List.getElem_range, at']
        rw [List.getD_eq_getElem?_getD, List.getElem?_eq_getElem h4, Option.getD_some]
  constructor
  · intro hd
    apply Classical.byContradiction
    intro hn
    have e : (lines T).length = m := by omega
    obtain ⟨Q, q1, q2, q3, q4⟩ := asc_minor h (by omega) (by omega)
    rw [rng I h.asc (fun x hx => hT ▸ h.bd x hx) (by rw [h.len, e]), rng Q q2 q3 (by rw [q1, e]), whole] at q4
    exact q4 hd
  · intro hlt
    have := minor_zero h (I := List.range m) (P := List.range m) (fun i hi => by rw [hT]; exact List.mem_range.mp hi) (by simpa using m1) (by simpa using m4) rfl (by simpa using hlt)
    rw [whole] at this
    exact this
end L74
end
namespace L74
open PySem hiding ret
open Py L2 R74
def dv1 : Py.Env → M Out := (sAsg 1 (eC (.int 0)))
def dv2f : Py.Env → M Out := (sAsg 1 (cal cGcd (aCons (eVar 1) (aCons (eVar 2) aNil))))
def dv2 : Py.Env → M Out := (sFor (itSeq (eVar 0)) (tgN 2) dv2f)
theorem b_divisor_of_all_eq : b_divisor_of_all = (sSeq dv1 (sSeq dv2 (sRet (eVar 1)))) := rfl
def lr1 : Py.Env → M Out := (sOwn 1 (lDisp aNil))
def lr2f1 : Py.Env → M Out := (sAsg 3 (mkL (calL cLst (aCons (eVar 2) aNil))))
def lr2f2 : Py.Env → M Out := (sForO 1 (tgTup 2 (tgsCons (tgN 4) (tgsCons (tgN 5) tgsNil)))
  (sIf (tst (bin gNe (bin gIx (eVar 3) (eVar 4)) (eC (.int 0)))) (sAsg 3 (mkL (eLc (itZip (aCons (eVar 3) (aCons (eVar 5) aNil))) (tgTup 2 (tgsCons (tgN 7) (tgsCons (tgN 8) tgsNil))) cYes (bin gSub (bin gMulX (bin gIx (eVar 5) (eVar 4)) (eVar 7)) (bin gMulX (bin gIx (eVar 3) (eVar 4)) (eVar 8))) [7, 8]))) sNx))
def lr2f3 : Py.Env → M Out := (sAsg 6 (eCall 1 F_divisor_of_all (aCons (eVar 3) aNil)))
def lr2f4a1 : Py.Env → M Out := (sAsg 3 (mkL (eLc (itSeq (eVar 3)) (tgN 7) cYes (bin gFdiv (eVar 7) (eVar 6)) [7])))
def lr2f4a2 : Py.Env → M Out := (sApp 1 (eTup (aCons (bin gIx (mkL (eLc (itEnum (aCons (eVar 3) aNil)) (tgTup 2 (tgsCons (tgN 4) (tgsCons (tgN 7) tgsNil))) (tst (bin gNe (eVar 7) (eC (.int 0)))) (eVar 4) [4, 7])) (eC (.int 0))) (aCons (eVar 3) aNil))))
def lr2f4a : Py.Env → M Out := (sSeq lr2f4a1 lr2f4a2)
def lr2f4 : Py.Env → M Out := (sIf (tst (bin gGt (eVar 6) (eC (.int 0)))) lr2f4a sNx)
def lr2f : Py.Env → M Out := (sSeq lr2f1 (sSeq lr2f2 (sSeq lr2f3 lr2f4)))
def lr2 : Py.Env → M Out := (sFor (itSeq (eVar 0)) (tgN 2) lr2f)
theorem b_lines_reduced_eq : b_lines_reduced = (sSeq lr1 (sSeq lr2 (sRetOwn 1))) := rfl
def lrB : Py.Env → M Out := (sIf (tst (bin gNe (bin gIx (eVar 3) (eVar 4)) (eC (.int 0)))) (sAsg 3 (mkL (eLc (itZip (aCons (eVar 3) (aCons (eVar 5) aNil))) (tgTup 2 (tgsCons (tgN 7) (tgsCons (tgN 8) tgsNil))) cYes (bin gSub (bin gMulX (bin gIx (eVar 5) (eVar 4)) (eVar 7)) (bin gMulX (bin gIx (eVar 3) (eVar 4)) (eVar 8))) [7, 8]))) sNx)
theorem gcd_e {ρ : Py.Env} {a x : Int} {i j : Nat} (h1 : ρ[i]? = some (some (.int a))) (h2 : ρ[j]? = some (some (.int x))) : cal cGcd (aCons (eVar i) (aCons (eVar j) aNil)) ρ = ret (.int (Int.gcd a x : Nat)) := by
  rw [x_cal, args_2 h1 h2, bnd_ret']
  rfl
theorem div_loop : ∀ (xs : List Int) (a : Int) (u : Option D) (z : D), ∃ u', forW (tgN 2) dv2f (dInts xs) [some z, some (.int a), u] = ret (.nx [some z, some (.int (xs.foldl (fun a x => ((Int.gcd a x : Nat) : Int)) a)), u'])
  | [], a, u, z => ⟨u, rfl⟩
  | x :: xs, a, u, z => by
    obtain ⟨u', h⟩ := div_loop xs ((Int.gcd a x : Nat) : Int) (some (.int x)) z
    refine ⟨u', ?_⟩
    show forW (tgN 2) dv2f (.int x :: dInts xs) _ = _
    rw [forW_cons, x_tgN, bnd_ret']
    show bnd (dv2f [some z, some (.int a), some (.int x)]) _ = _
    rw [dv2f, x_sAsg, gcd_e (a := a) (x := x) rfl rfl, bnd_ret', bnd_ret', oLoop_nx]
    exact h
theorem divisor_eq (xs : List Int) : F_divisor_of_all [lstI xs] = ret (.int (gcdL xs)) := by
  refine fn_rt (env := [some (lstI xs), none, none]) rfl ?_
  obtain ⟨u', h⟩ := div_loop xs 0 none (lstI xs)
  rw [b_divisor_of_all_eq, dv1, asg_nx (x_eC _ _)]
  show (sSeq dv2 (sRet (eVar 1))) [some (lstI xs), some (.int 0), none] = _
  rw [x_sSeq, dv2, x_sFor, x_itSeq, var_eq (d := lstI xs) rfl, bnd_ret']
  show bnd (bnd (ret (dInts xs)) _) _ = _
  rw [bnd_ret', h, bnd_ret', oThen_nx, x_sRet, var_eq (d := .int (gcdL xs)) rfl, bnd_ret']
/-! ### reduced lines -/
def lnD (a : Nat × List Int) : D := .tuple [.int (a.1 : Nat), lstI a.2]
/-- sizes -/
def bnd' : Nat → Nat
  | 0 => 10
  | n + 1 => 2 * bnd' n + 1
def Bl (n : Nat) (l : List Int) : Prop := ∀ x ∈ l, B n x
theorem at_B {n : Nat} {l : List Int} (h : Bl n l) (q : Nat) : B n (at' l q) := by
  by_cases hq : q < l.length
  · exact h _ (at_mem hq)
  · rw [at_out (by omega)]
    unfold B
    exact Nat.zero_le _
theorem redStep_B {n : Nat} {line : List Int} {a : Nat × List Int} (h : Bl n line) (ha : Bl n a.2) : Bl (2 * n + 1) (redStep line a) := by
  unfold redStep
  split
  · exact fun x hx => (h x hx).mono (by omega)
  · intro z hz
    obtain ⟨i, hi, rfl⟩ := List.getElem_of_mem hz
    rw [List.getElem_zipWith]
    have e1 := ((at_B ha a.1).mul (h _ (List.getElem_mem (by simp at hi; omega : i < line.length))))
    have e2 := ((at_B h a.1).mul (ha _ (List.getElem_mem (by simp at hi; omega : i < a.2.length))))
    exact (e1.sub e2).mono (by omega)
theorem set9 {ρ : Py.Env} {i : Nat} {d : D} (h : i < ρ.length) : (ρ.set i (some d))[i]? = some (some d) := List.getElem?_set_self h
/-- one line is led to 0 at a place -/
theorem lrB_eq {n m : Nat} {line : List Int} {a : Nat × List Int} {ρ : Py.Env} (hl : ρ.length = 9) (h3 : ρ[3]? = some (some (lstI line))) (h4 : ρ[4]? = some (some (.int (a.1 : Nat)))) (h5 : ρ[5]? = some (some (lstI a.2))) (bl : Bl n line) (ba : Bl n a.2) (n9 : n < 1000) (la : line.length = m) (laa : a.2.length = m) (hp : a.1 < m) :
    lrB ρ = ret (.nx (ρ.set 3 (some (lstI (redStep line a))))) := by
  have g1 : line[a.1]? = some (at' line a.1) := getD_some (by omega)
  have g2 : a.2[a.1]? = some (at' a.2 a.1) := getD_some (by omega)
  have t : bin gNe (bin gIx (eVar 3) (eVar 4)) (eC (.int 0)) ρ = ret (.bool (!decide (at' line a.1 = 0))) := by
    rw [x_bin, x_bin, var_eq h3, bnd_ret', var_eq h4, bnd_ret', ix_l g1, bnd_ret', x_eC, bnd_ret']
    simp only [gNe, shp_int, Bool.and_self, if_true, eqv_int]
  rw [lrB, x_sIf, tst_b t, bnd_ret']
  by_cases z : at' line a.1 = 0
  · rw [decide_eq_true z, if_neg (show ¬ ((!true) = true) from by decide), x_sNx, redStep, if_pos z]
    congr 2
    apply List.ext_getElem?
    intro j
    by_cases e : 3 = j
    · subst e; rw [set9 (by omega), h3]
    · rw [List.getElem?_set_ne e]
  · rw [decide_eq_false z, if_pos (show (!false) = true from rfl), redStep, if_neg z]
    have lc : mkL (eLc (itZip (aCons (eVar 3) (aCons (eVar 5) aNil))) (tgTup 2 (tgsCons (tgN 7) (tgsCons (tgN 8) tgsNil))) cYes (bin gSub (bin gMulX (bin gIx (eVar 5) (eVar 4)) (eVar 7)) (bin gMulX (bin gIx (eVar 3) (eVar 4)) (eVar 8))) [7, 8]) ρ = ret (lstI (List.zipWith (fun x y => at' a.2 a.1 * x - at' line a.1 * y) line a.2)) := by
      have e := comp_all (ρ := ρ) (its := itZip (aCons (eVar 3) (aCons (eVar 5) aNil))) (tg := tgTup 2 (tgsCons (tgN 7) (tgsCons (tgN 8) tgsNil))) (elt := bin gSub (bin gMulX (bin gIx (eVar 5) (eVar 4)) (eVar 7)) (bin gMulX (bin gIx (eVar 3) (eVar 4)) (eVar 8))) (vs := [7, 8])
        (fun q : Int × Int => PyData.tuple [.int q.1, .int q.2]) (fun q => .int (at' a.2 a.1 * q.1 - at' line a.1 * q.2)) (line.zip a.2) (by
          rw [x_itZip, args_2 h3 h5, bnd_ret', zip2_2]
          show bnd (ret (dInts line)) _ = _
          rw [bnd_ret']
          show bnd (ret (dInts a.2)) _ = _
          rw [bnd_ret', zipD_ints]) ?_
      · rw [e]
        congr 2
        rw [dInts, List.map_zipWith, List.zip, List.map_zipWith]
      · intro q hq
        have hx := bl _ (List.of_mem_zip hq).1
        have hy := ba _ (List.of_mem_zip hq).2
        refine ⟨_, tgAB, ?_⟩
        simp only [x_wipeD_cons, x_wipeD_nil]
        have E : ∀ j, j ≠ 7 → j ≠ 8 → ((((ρ.set 8 none).set 7 none).set 7 (some (.int q.1))).set 8 (some (.int q.2)))[j]? = ρ[j]? := fun j h1 h2 => by
          rw [List.getElem?_set_ne (by omega), List.getElem?_set_ne (by omega), List.getElem?_set_ne (by omega), List.getElem?_set_ne (by omega)]
        have E7 : ((((ρ.set 8 none).set 7 none).set 7 (some (.int q.1))).set 8 (some (.int q.2)))[7]? = some (some (.int q.1)) := by
          rw [List.getElem?_set_ne (by decide), set9 (by simp only [List.length_set]; omega)]
        have E8 : ((((ρ.set 8 none).set 7 none).set 7 (some (.int q.1))).set 8 (some (.int q.2)))[8]? = some (some (.int q.2)) := set9 (by simp only [List.length_set]; omega)
        have m1 := mulq (at_B ba a.1) hx n9 n9
        have m2 := mulq (at_B bl a.1) hy n9 n9
        rw [x_bin, x_bin, x_bin, var_eq ((E 5 (by decide) (by decide)).trans h5), bnd_ret', var_eq ((E 4 (by decide) (by decide)).trans h4), bnd_ret', ix_l g2, bnd_ret', var_eq E7, bnd_ret', x_gMulX_i, if_pos m1, bnd_ret', x_bin, x_bin, var_eq ((E 3 (by decide) (by decide)).trans h3), bnd_ret', var_eq ((E 4 (by decide) (by decide)).trans h4), bnd_ret', ix_l g1, bnd_ret', var_eq E8, bnd_ret', x_gMulX_i, if_pos m2, bnd_ret', gSub_i]
    rw [x_sAsg, lc, bnd_ret']
theorem red_loop {m : Nat} {l : D} : ∀ (F : List (Nat × List Int)) (j : Nat) (line : List Int) (ρ : Py.Env), ρ.length = 9 → ρ[1]? = some (some l) → ρ[3]? = some (some (lstI line)) → (∀ i (h : i < F.length), Bl (bnd' (j + i)) F[i].2) → Bl (bnd' j) line → j + F.length ≤ 6 → (∀ a ∈ F, a.2.length = m ∧ a.1 < m) → line.length = m →
    ∃ ρ', ρ'.length = 9 ∧ ρ'[1]? = some (some l) ∧ (∀ i, i ≤ 2 → ρ'[i]? = ρ[i]?) ∧ ρ'[3]? = some (some (lstI (red line F))) ∧ Bl (bnd' (j + F.length)) (red line F) ∧ forWO 1 (tgTup 2 (tgsCons (tgN 4) (tgsCons (tgN 5) tgsNil))) lrB (F.map lnD) ρ = ret (.nx ρ')
  | [], j, line, ρ, hl, h1, h3, _, bl, _, _, _ => by
    refine ⟨ρ, hl, h1, fun i _ => rfl, h3, bl, ?_⟩
    show bnd (eVar 1 ρ) _ = _
    rw [var_eq h1, bnd_ret']
  | a :: F, j, line, ρ, hl, h1, h3, hb, bl, h6, ha, hm => by
    rw [List.length_cons] at h6
    have b0 : Bl (bnd' j) a.2 := hb 0 (by simp)
    have n9 : bnd' j < 1000 := by
      have js : j = 0 ∨ j = 1 ∨ j = 2 ∨ j = 3 ∨ j = 4 ∨ j = 5 := by omega
      rcases js with rfl | rfl | rfl | rfl | rfl | rfl <;> decide
    obtain ⟨la, pa⟩ := ha a (by simp)
    have e := lrB_eq (ρ := (ρ.set 4 (some (.int (a.1 : Nat)))).set 5 (some (lstI a.2))) (n := bnd' j) (m := m) (line := line) (a := a) (by simp only [List.length_set]; exact hl) (by rw [List.getElem?_set_ne (by decide), List.getElem?_set_ne (by decide), h3]) (by rw [List.getElem?_set_ne (by decide), set9 (by omega)]) (set9 (by simp only [List.length_set]; omega)) bl b0 n9 hm la pa
    obtain ⟨ρ', r1, r2, r3, r4, r5, r6⟩ := red_loop (m := m) (l := l) F (j + 1) (redStep line a) ((((ρ.set 4 (some (.int (a.1 : Nat)))).set 5 (some (lstI a.2)))).set 3 (some (lstI (redStep line a)))) (by simp only [List.length_set]; exact hl) (by rw [List.getElem?_set_ne (by decide), List.getElem?_set_ne (by decide), List.getElem?_set_ne (by decide), h1]) (set9 (by simp only [List.length_set]; omega)) (fun i hi => by
      have := hb (i + 1) (by simp; omega)
      rw [show j + 1 + i = j + (i + 1) by omega]
      exact this) (redStep_B bl b0) (by omega) (fun x hx => ha x (List.mem_cons_of_mem _ hx)) (redStep_len hm la)
    refine ⟨ρ', r1, r2, fun i hi => ?_, r4, ?_, ?_⟩
    · rw [r3 i hi, List.getElem?_set_ne (by omega), List.getElem?_set_ne (by omega), List.getElem?_set_ne (by omega)]
    · rw [List.length_cons, show j + (F.length + 1) = j + 1 + F.length by omega]
      exact r5
    · show bnd (eVar 1 ρ) (fun _ => bnd (tgTup 2 (tgsCons (tgN 4) (tgsCons (tgN 5) tgsNil)) (.tuple [.int (a.1 : Nat), lstI a.2]) ρ) fun ρ' => bnd (lrB ρ') fun o => oLoop o (forWO 1 (tgTup 2 (tgsCons (tgN 4) (tgsCons (tgN 5) tgsNil))) lrB (F.map lnD))) = _
      rw [var_eq h1, bnd_ret', tgAB, bnd_ret', e, bnd_ret', oLoop_nx]
      exact r6
end L74
namespace L74
open PySem hiding ret
open Py L2 R74
theorem enum_ints : ∀ (xs : List Int) (k : Nat), enumD k (dInts xs) = (xs.zipIdx k).map fun p => .tuple [.int (p.2 : Nat), .int p.1]
  | [], k => rfl
  | x :: xs, k => by
    show PyData.tuple [.int (k : Nat), .int x] :: enumD (k + 1) (dInts xs) = _
    rw [enum_ints xs (k + 1), List.zipIdx_cons]
    rfl
theorem first_filter : ∀ (xs : List Int) (k : Nat), (∃ x ∈ xs, x ≠ 0) → ∃ x tl, (xs.zipIdx k).filter (fun p => !decide (p.1 = 0)) = (x, k + firstNZ xs) :: tl
  | [], k, h => by obtain ⟨x, hx, _⟩ := h; cases hx
  | y :: ys, k, h => by
    rw [List.zipIdx_cons]
    by_cases z : y = 0
    · obtain ⟨x, hx, nx⟩ := h
      have hx' : x ∈ ys := by
        rcases List.mem_cons.mp hx with e | e
        · exact absurd (e.trans z) nx
        · exact e
      obtain ⟨x', tl, e⟩ := first_filter ys (k + 1) ⟨x, hx', nx⟩
      refine ⟨x', tl, ?_⟩
      rw [List.filter_cons_of_neg (by simp [z]), e]
      have : firstNZ (y :: ys) = firstNZ ys + 1 := by
        obtain ⟨h1, h2⟩ := firstNZ_spec (l := ys) ⟨x, hx', nx⟩
        unfold firstNZ
        rw [List.findIdx?_cons]
        simp only [z, ne_eq, not_true, decide_false, Bool.false_eq_true, if_false]
        cases e : ys.findIdx? fun x => decide (x ≠ 0) with
        | none =>
          rw [List.findIdx?_eq_none_iff] at e
          have := e x hx'
          simp at this
          exact absurd this nx
        | some i => rfl
      rw [this, show k + 1 + firstNZ ys = k + (firstNZ ys + 1) by omega]
    · refine ⟨y, (ys.zipIdx (k + 1)).filter (fun p => !decide (p.1 = 0)), ?_⟩
      rw [List.filter_cons_of_pos (by simp [z])]
      have : firstNZ (y :: ys) = 0 := by
        unfold firstNZ
        rw [List.findIdx?_cons]
        simp [z]
      rw [this]
      rfl
theorem gcd_pos_ex {l : List Int} (h : 0 < gcdL l) : ∃ x ∈ l, x ≠ 0 := by
  apply Classical.byContradiction
  intro e
  have : gcdL l = 0 := gcdL_of_zero fun x hx => Classical.byContradiction fun n => e ⟨x, hx, n⟩
  omega
theorem gcd_B {n : Nat} {l : List Int} (h : Bl n l) : B n (gcdL l) := by
  have h0 := gcdL_nonneg l
  by_cases z : gcdL l = 0
  · rw [z]; unfold B; exact Nat.zero_le _
  · obtain ⟨x, hx, nx⟩ := gcd_pos_ex (l := l) (by omega)
    have hd := gcdL_dvd hx
    have h1 := h x hx
    unfold B at *
    have := Nat.le_of_dvd (by omega) (Int.natAbs_dvd_natAbs.mpr hd)
    omega
theorem fdiv_B {n : Nat} {x g : Int} (h : B n x) (hg : 0 < g) (hd : g ∣ x) : B n (x.fdiv g) := by
  obtain ⟨c, rfl⟩ := hd
  rw [Int.mul_comm, Int.mul_fdiv_cancel _ (by omega)]
  unfold B at *
  rw [Int.natAbs_mul] at h
  have : 1 ≤ g.natAbs := by omega
  have := Nat.mul_le_mul_right c.natAbs this
  omega
theorem div_e {n : Nat} {L : List Int} {g : Int} {ρ : Py.Env} {i j r : Nat} (hr : r < ρ.length) (h3 : ρ[i]? = some (some (lstI L))) (h6 : ρ[j]? = some (some (.int g))) (jr : j ≠ r) (bg : B n g) (hg : g ≠ 0) (n9 : n < 1000) :
    mkL (eLc (itSeq (eVar i)) (tgN r) cYes (bin gFdiv (eVar r) (eVar j)) [r]) ρ = ret (lstI (L.map fun x => x.fdiv g)) := by
  have e := comp_all (ρ := ρ) (its := itSeq (eVar i)) (tg := tgN r) (elt := bin gFdiv (eVar r) (eVar j)) (vs := [r]) PyData.int (fun x => .int (x.fdiv g)) L (by rw [x_itSeq, var_eq h3, bnd_ret']; rfl) ?_
  · rw [e]
    congr 2
    rw [dInts, List.map_map]
    rfl
  · intro x hx
    rw [x_wipeD_cons, x_wipeD_nil]
    refine ⟨_, rfl, ?_⟩
    rw [x_bin, var_eq (set9 (by rw [List.length_set]; exact hr)), bnd_ret', var_eq (d := .int g) (by rw [List.getElem?_set_ne (Ne.symm jr), List.getElem?_set_ne (Ne.symm jr), h6]), bnd_ret', fdiv_i, if_pos (divB (bg.bd n9) hg)]
theorem app_e {ρ : Py.Env} {i : Nat} {e : Py.Env → M D} {ds : List D} {d : D} (h : ρ[i]? = some (some (.list ds))) (he : e ρ = ret d) (hl : ds.length < 100000) : sApp i e ρ = ret (.nx (ρ.set i (some (.list (ds ++ [d]))))) := by
  have se : sApp i e ρ = bnd (eVar i ρ) fun l => bnd (e ρ) fun d => match l with
    | .list ds => if lenOk (ds.length + 1) = true then ret (.nx (ρ.set i (some (.list (ds ++ [d]))))) else stuck
    | _ => stuck := rfl
  rw [se, var_eq h, bnd_ret', he, bnd_ret']
  show (if lenOk (ds.length + 1) = true then ret (Out.nx (ρ.set i (some (.list (ds ++ [d]))))) else stuck) = _
  rw [if_pos (by rw [lenOk_def]; omega)]
/-- one row -/
theorem row_eq {m : Nat} {b : Bool} {F : List (Nat × List Int)} {r : List Int} {ρ : Py.Env} (hl : ρ.length = 9) (h1 : ρ[1]? = some (some (.list (F.map lnD)))) (h2 : ρ[2]? = some (some (rD b r))) (hF : ∀ i (h : i < F.length), Bl (bnd' i) F[i].2) (F5 : F.length ≤ 5) (ok : ∀ a ∈ F, a.2.length = m ∧ a.1 < m) (hr : Bl 10 r) (hm : r.length = m) (m9 : m ≤ 1000) :
    ∃ ρ', ρ'.length = 9 ∧ ρ'[1]? = some (some (.list ((addRow F r).map lnD))) ∧ ρ'[0]? = ρ[0]? ∧ (∀ i (h : i < (addRow F r).length), Bl (bnd' i) (addRow F r)[i].2) ∧ lr2f ρ = ret (.nx ρ') := by
  have e1 : mkL (calL cLst (aCons (eVar 2) aNil)) ρ = ret (lstI r) := by
    rw [x_mkL, x_calL, args_1 h2, bnd_ret', cLst_rD, bnd_ret']; rfl
  have k0 : (ρ.set 3 (some (lstI r))).length = 9 := by rw [List.length_set]; exact hl
  have k1 : (ρ.set 3 (some (lstI r)))[1]? = some (some (.list (F.map lnD))) := by rw [List.getElem?_set_ne (by decide), h1]
  have k3 : (ρ.set 3 (some (lstI r)))[3]? = some (some (lstI r)) := set9 (by omega)
  have kk : (ρ.set 3 (some (lstI r)))[0]? = ρ[0]? := List.getElem?_set_ne (by decide)
  rw [lr2f, lr2f1, asg_nx e1]
  generalize (ρ.set 3 (some (lstI r))) = ρ1 at *
  obtain ⟨ρ2, r1, r2, r3, r4, r5, r6⟩ := red_loop (m := m) (l := .list (F.map lnD)) F 0 r ρ1 k0 k1 k3 (fun i h => by rw [Nat.zero_add]; exact hF i h) hr (by omega) ok hm
  rw [Nat.zero_add] at r5
  have f2 : lr2f2 ρ1 = ret (.nx ρ2) := by
    show bnd (eVar 1 ρ1) (fun d => bnd (seqD d) fun ds => forWO 1 _ lrB ds ρ1) = _
    rw [var_eq k1, bnd_ret']
    show bnd (ret (F.map lnD)) _ = _
    rw [bnd_ret']
    exact r6
  rw [seq_nx f2]
  have lred : (red r F).length = m := by
    have : ∀ (F : List (Nat × List Int)) (l : List Int), l.length = m → (∀ a ∈ F, a.2.length = m ∧ a.1 < m) → (red l F).length = m := by
      intro F
      induction F with
      | nil => intro l h _; exact h
      | cons a F ih => intro l h ha; exact ih _ (redStep_len h (ha a (by simp)).1) fun x hx => ha x (List.mem_cons_of_mem _ hx)
    exact this F r hm ok
  have n9 : bnd' F.length < 1000 := by
    have js : F.length = 0 ∨ F.length = 1 ∨ F.length = 2 ∨ F.length = 3 ∨ F.length = 4 ∨ F.length = 5 := by omega
    rcases js with e | e | e | e | e | e <;> (rw [e]; decide)
  have e3 : eCall 1 F_divisor_of_all (aCons (eVar 3) aNil) ρ2 = ret (.int (gcdL (red r F))) := (eCall_1 _ (args_1 r4)).trans (divisor_eq _)
  rw [lr2f3, asg_nx e3]
  have q0 : (ρ2.set 6 (some (.int (gcdL (red r F))))).length = 9 := by rw [List.length_set]; exact r1
  have q1 : (ρ2.set 6 (some (.int (gcdL (red r F)))))[1]? = some (some (.list (F.map lnD))) := by rw [List.getElem?_set_ne (by decide), r2]
  have q3 : (ρ2.set 6 (some (.int (gcdL (red r F)))))[3]? = some (some (lstI (red r F))) := by rw [List.getElem?_set_ne (by decide), r4]
  have q6 : (ρ2.set 6 (some (.int (gcdL (red r F)))))[6]? = some (some (.int (gcdL (red r F)))) := set9 (by omega)
  have qq : (ρ2.set 6 (some (.int (gcdL (red r F)))))[0]? = ρ[0]? := by rw [List.getElem?_set_ne (by decide), r3 0 (by decide), kk]
  generalize (ρ2.set 6 (some (.int (gcdL (red r F))))) = ρ3 at *
  have t : bin gGt (eVar 6) (eC (.int 0)) ρ3 = ret (.bool (decide (gcdL (red r F) > 0))) := by rw [x_bin, var_eq q6, bnd_ret', x_eC, bnd_ret', gGt0]
  rw [lr2f4, x_sIf, tst_b t, bnd_ret']
  unfold addRow
  by_cases z : gcdL (red r F) > 0
  · rw [decide_eq_true z, if_pos rfl, if_pos z]
    have bg := gcd_B r5
    have e4 := div_e (n := bnd' F.length) (L := red r F) (g := gcdL (red r F)) (ρ := ρ3) (i := 3) (j := 6) (r := 7) (by omega) q3 q6 (by decide) bg (by omega) n9
    rw [lr2f4a, lr2f4a1, asg_nx e4]
    obtain ⟨L, hL⟩ : ∃ L, L = (red r F).map fun x => x.fdiv (gcdL (red r F)) := ⟨_, rfl⟩
    rw [← hL]
    have lL : L.length = m := by rw [hL, List.length_map, lred]
    have BL : Bl (bnd' F.length) L := by
      intro x hx
      rw [hL] at hx
      obtain ⟨y, hy, rfl⟩ := List.mem_map.mp hx
      exact fdiv_B (r5 y hy) z (gcdL_dvd hy)
    have nzL : ∃ x ∈ L, x ≠ 0 := by
      obtain ⟨x, hx, nx⟩ := gcd_pos_ex z
      refine ⟨x.fdiv (gcdL (red r F)), by rw [hL]; exact List.mem_map.mpr ⟨x, hx, rfl⟩, fun e => ?_⟩
      obtain ⟨c, hc⟩ := gcdL_dvd hx
      rw [hc, Int.mul_comm, Int.mul_fdiv_cancel _ (by omega)] at e
      rw [hc, e] at nx
      simp at nx
    have s1 : (ρ3.set 3 (some (lstI L)))[1]? = some (some (.list (F.map lnD))) := by rw [List.getElem?_set_ne (by decide), q1]
    have s3 : (ρ3.set 3 (some (lstI L)))[3]? = some (some (lstI L)) := set9 (by omega)
    have s0 : (ρ3.set 3 (some (lstI L))).length = 9 := by rw [List.length_set]; exact q0
    have ss : (ρ3.set 3 (some (lstI L)))[0]? = ρ[0]? := by rw [List.getElem?_set_ne (by decide), qq]
    generalize (ρ3.set 3 (some (lstI L))) = ρ4 at *
    obtain ⟨x0, tl, ef⟩ := first_filter L 0 nzL
    rw [Nat.zero_add] at ef
    have ec : mkL (eLc (itEnum (aCons (eVar 3) aNil)) (tgTup 2 (tgsCons (tgN 4) (tgsCons (tgN 7) tgsNil))) (tst (bin gNe (eVar 7) (eC (.int 0)))) (eVar 4) [4, 7]) ρ4 = ret (.list (((L.zipIdx 0).filter fun p => !decide (p.1 = 0)).map fun p => .int (p.2 : Nat))) := by
      refine comp_map (fun p : Int × Nat => PyData.tuple [.int (p.2 : Nat), .int p.1]) (fun p => !decide (p.1 = 0)) (fun p => .int (p.2 : Nat)) (L.zipIdx 0) ?_ ?_
      · rw [x_itEnum, args_1 s3, bnd_ret']
        show ret (enumD 0 (dInts L)) = _
        rw [enum_ints]
      · intro p hp
        refine ⟨_, tgAB, ?_, fun _ => ?_⟩
        · refine tst_b ?_
          simp only [x_wipeD_cons, x_wipeD_nil]
          rw [x_bin, var_eq (d := .int p.1) (set9 (by simp only [List.length_set]; omega)), bnd_ret', x_eC, bnd_ret']
          simp only [gNe, shp_int, Bool.and_self, if_true, eqv_int]
        · simp only [x_wipeD_cons, x_wipeD_nil]
          exact var_eq (by rw [List.getElem?_set_ne (by decide), set9 (by simp only [List.length_set]; omega)])
    have ei : bin gIx (mkL (eLc (itEnum (aCons (eVar 3) aNil)) (tgTup 2 (tgsCons (tgN 4) (tgsCons (tgN 7) tgsNil))) (tst (bin gNe (eVar 7) (eC (.int 0)))) (eVar 4) [4, 7])) (eC (.int 0)) ρ4 = ret (.int (firstNZ L : Nat)) := by
      rw [x_bin, ec, bnd_ret', x_eC, bnd_ret', ef]
      exact gIx_l (atI_nat (i := 0) rfl)
    have ea := app_e (ρ := ρ4) (i := 1) s1 (eTup_2 ei (var_eq s3)) (by simp; omega)
    refine ⟨_, ?_, ?_, ?_, ?_, by rw [lr2f4a2]; exact ea⟩
    · rw [List.length_set]; exact s0
    · rw [set9 (by omega), List.map_append]; rfl
    · rw [List.getElem?_set_ne (by decide), ss]
    · intro i hi
      rw [List.getElem_append]
      split
      · rename_i h; exact hF i h
      · rename_i h
        rw [List.length_append, List.length_singleton] at hi
        have : i = F.length := by omega
        subst this
        simp only [Nat.sub_self, List.getElem_cons_zero]
        exact BL
  · rw [decide_eq_false z, if_neg z, if_neg Bool.false_ne_true, x_sNx]
    exact ⟨ρ3, q0, q1, qq, hF, rfl⟩
theorem rows_loop {m : Nat} {b : Bool} : ∀ (rest done : List (List Int)) (F : List (Nat × List Int)) (I : List Nat) (ρ : Py.Env), Inv m done F I → F.length ≤ done.length → done.length + rest.length ≤ 6 → ρ.length = 9 → ρ[1]? = some (some (.list (F.map lnD))) → (∀ i (h : i < F.length), Bl (bnd' i) F[i].2) → (∀ r ∈ rest, Bl 10 r ∧ r.length = m) → m ≤ 1000 →
    ∃ ρ', ρ'.length = 9 ∧ ρ'[1]? = some (some (.list ((rest.foldl addRow F).map lnD))) ∧ forW (tgN 2) lr2f (rest.map (rD b)) ρ = ret (.nx ρ')
  | [], done, F, I, ρ, _, _, _, hl, h1, _, _, _ => ⟨ρ, hl, h1, rfl⟩
  | r :: rest, done, F, I, ρ, inv, fl, h6, hl, h1, hF, hr, m9 => by
    rw [List.length_cons] at h6
    obtain ⟨br, lr⟩ := hr r (by simp)
    obtain ⟨ρ1, a1, a2, a3, a4, a5⟩ := row_eq (m := m) (b := b) (F := F) (r := r) (ρ := ρ.set 2 (some (rD b r))) (by rw [List.length_set]; exact hl) (by rw [List.getElem?_set_ne (by decide), h1]) (set9 (by omega)) hF (by omega) (fun a ha => ⟨inv.ok.len a ha, inv.ok.lt a ha⟩) br lr m9
    obtain ⟨I', inv'⟩ := inv_add inv lr
    have fl' : (addRow F r).length ≤ (done ++ [r]).length := by
      have := (rank_le inv').2
      exact this
    obtain ⟨ρ2, b1, b2, b3⟩ := rows_loop (b := b) rest (done ++ [r]) (addRow F r) I' ρ1 inv' fl' (by rw [List.length_append, List.length_singleton]; omega) a1 a2 a4 (fun x hx => hr x (List.mem_cons_of_mem _ hx)) m9
    refine ⟨ρ2, b1, b2, ?_⟩
    rw [List.map_cons, forW_cons, x_tgN, bnd_ret', a5, bnd_ret', oLoop_nx]
    exact b3
theorem lines_eq {m : Nat} {c b : Bool} {T : List (List Int)} (h6 : T.length ≤ 6) (hr : ∀ r ∈ T, Bl 10 r ∧ r.length = m) (m9 : m ≤ 1000) : F_lines_reduced [tD c b T] = ret (.list ((lines T).map lnD)) := by
  refine fn_rt (env := [some (tD c b T), none, none, none, none, none, none, none, none]) rfl ?_
  have e1 : lr1 ([some (tD c b T), none, none, none, none, none, none, none, none] : Py.Env) = ret (.nx [some (tD c b T), some (.list []), none, none, none, none, none, none, none]) := rfl
  obtain ⟨ρ', a1, a2, a3⟩ := rows_loop (m := m) (b := b) T [] [] [] [some (tD c b T), some (.list []), none, none, none, none, none, none, none] (inv_nil m) (by simp) (by simpa using h6) rfl rfl (fun i h => absurd h (by simp)) hr m9
  rw [b_lines_reduced_eq, seq_nx e1, x_sSeq, lr2, x_sFor, x_itSeq, var_eq (d := tD c b T) rfl, bnd_ret', seq_tD, bnd_ret', a3, bnd_ret', oThen_nx]
  show bnd (eVar 1 ρ') _ = _
  rw [var_eq a2, bnd_ret']
  rfl
end L74
namespace L74
open PySem hiding ret
open Py L2
def natI (l : List Nat) : List Int := l.map fun (i : Nat) => (i : Int)
def lotD (l : List Nat) : D := tupI (natI l)
theorem dInts_nat (l : List Nat) : dInts (natI l) = l.map fun (i : Nat) => .int (i : Int) := by simp [dInts, natI]
theorem alikeAll_ints : ∀ a b : List Int, PySem.W.alikeAll (dInts a) (dInts b) = true
  | [], b => by simp [dInts, PySem.W.alikeAll]
  | x :: a, [] => by simp [dInts, PySem.W.alikeAll]
  | x :: a, y :: b => by
    show PySem.W.alikeAll (.int x :: dInts a) (.int y :: dInts b) = true
    simp [PySem.W.alikeAll, PySem.W.alike, alikeAll_ints a b]
theorem alike_lot (a b : List Nat) : PySem.W.alike (lotD a) (lotD b) = true := by
  show PySem.W.alike (.tuple (dInts (natI a))) (.tuple (dInts (natI b))) = true
  rw [PySem.W.alike]; exact alikeAll_ints _ _
theorem shp_lot (a : List Nat) : shp (lotD a) = true := shp_intsT _
end L74
namespace L74
open PySem hiding ret
open Py L2 R74
def ls1 : Py.Env → M Out := (sAsg 2 (mkL (lDisp (aCons (eTup aNil) aNil))))
def ls2f : Py.Env → M Out := (sAsg 2 (bin gAdd (eVar 2) (mkL (eLc (itSeq (eVar 2)) (tgN 4) (tst (bin gLt (cal cLen (aCons (eVar 4) aNil)) (eVar 1))) (bin gAdd (eVar 4) (eTup (aCons (eVar 3) aNil))) [4]))))
def ls2 : Py.Env → M Out := (sFor (itRng1 (aCons (eVar 0) aNil)) (tgN 3) ls2f)
def ls3 : Py.Env → M Out := (sRet (mkL (calL cSrt (aCons (mkL (eLc (itSeq (eVar 2)) (tgN 4) (tst (bin gEq (cal cLen (aCons (eVar 4) aNil)) (eVar 1))) (eVar 4) [4])) aNil))))
theorem b__law_some_eq : b__law_some = (sSeq ls1 (sSeq ls2 ls3)) := rfl
def lf1 : Py.Env → M Out := (sAsg 1 (mkL (eLc (itSeq (eVar 0)) (tgN 5) cYes (bin gAdd (mkL (lDisp (aCons (eC (.int 1)) aNil))) (mkL (calL cLst (aCons (eVar 5) aNil)))) [5])))
def lf2fff : Py.Env → M Out := (sIf (tst (bin gNe (eCall 1 F__law_turns (aCons (mkL (eLc (itSeq (eVar 3)) (tgN 6) cYes (mkL (eLc (itSeq (eVar 4)) (tgN 7) cYes (bin gIx (bin gIx (eVar 1) (eVar 6)) (eVar 7)) [7])) [6])) aNil)) (eC (.int 0)))) (sRet (bin gSub (eVar 2) (eC (.int 1)))) sNx)
def lf2ff : Py.Env → M Out := (sFor (itSeq (eCall 2 F__law_some (aCons (cal cLen (aCons (bin gIx (eVar 1) (eC (.int 0))) aNil)) (aCons (eVar 2) aNil)))) (tgN 4) lf2fff)
def lf2f : Py.Env → M Out := (sFor (itSeq (eCall 2 F__law_some (aCons (cal cLen (aCons (eVar 1) aNil)) (aCons (eVar 2) aNil)))) (tgN 3) lf2ff)
def lf2 : Py.Env → M Out := (sFor (itDown (aCons (cal cMin2 (aCons (cal cLen (aCons (eVar 1) aNil)) (aCons (cal cLen (aCons (bin gIx (eVar 1) (eC (.int 0))) aNil)) aNil))) (aCons (eC (.int 1)) (aCons (una gNeg (eC (.int 1))) aNil)))) (tgN 2) lf2f)
theorem b__law_flat_eq : b__law_flat = (sSeq lf1 (sSeq lf2 (sRet (eC (.int 0))))) := rfl
def lotT (L : List (List Int)) : D := .tuple (L.map tupI)
def ones (L : List (List Int)) : List (List Int) := L.map fun p => 1 :: p
/-! ### with one, flats -/
theorem one_e {ρ : Py.Env} {i : Nat} {p : List Int} (h : ρ[i]? = some (some (tupI p))) (hl : p.length ≤ 1000) : eTup (aCons (eC (.int 1)) (aStar (eVar i) aNil)) ρ = ret (tupI (1 :: p)) := by
  rw [x_eTup, x_aCons, x_eC, bnd_ret', x_aStar, var_eq h, bnd_ret']
  show bnd (bnd (bnd (ret (dInts p)) _) _) _ = _
  rw [bnd_ret', x_aNil, bnd_ret', bnd_ret', bnd_ret', if_pos (by rw [lenOk_def]; simp; omega)]
  show ret (PyData.tuple (.int 1 :: (dInts p ++ []))) = _
  rw [List.append_nil]
  rfl
theorem with_one_eq {p : List Int} (hl : p.length ≤ 1000) : F_with_one [tupI p] = ret (tupI (1 :: p)) := by
  refine fn_rt (env := [some (tupI p)]) rfl ?_
  rw [b_with_one, x_sRet, one_e (p := p) rfl hl, bnd_ret']
theorem ones_e {ρ : Py.Env} {L : List (List Int)} {i r : Nat} (hr : r < ρ.length) (h : ρ[i]? = some (some (lotT L))) (hl : ∀ p ∈ L, p.length ≤ 1000) : mkL (eLc (itSeq (eVar i)) (tgN r) cYes (eCall 1 F_with_one (aCons (eVar r) aNil)) [r]) ρ = ret (tD true false (ones L)) := by
  have e := comp_all (ρ := ρ) (its := itSeq (eVar i)) (tg := tgN r) (elt := eCall 1 F_with_one (aCons (eVar r) aNil)) (vs := [r]) tupI (fun p => tupI (1 :: p)) L (by rw [x_itSeq, var_eq h, bnd_ret']; rfl) ?_
  · rw [e, tD, if_pos rfl, ones, List.map_map]
    rfl
  · intro p hp
    rw [x_wipeD_cons, x_wipeD_nil]
    exact ⟨_, rfl, (eCall_1 _ (args_1 (set9 (by rw [List.length_set]; exact hr)))).trans (with_one_eq (hl p hp))⟩
/-- such a lot -/
structure Lt (d : Nat) (L : List (List Int)) : Prop where
  ne : 1 ≤ L.length
  six : L.length ≤ 6
  len : ∀ p ∈ L, p.length = d
  bd : ∀ p ∈ L, Bl 9 p
  d1 : 1 ≤ d
  d3 : d ≤ 3
theorem Lt.rows {d : Nat} {L : List (List Int)} (h : Lt d L) : ∀ r ∈ ones L, Bl 10 r ∧ r.length = d + 1 := by
  intro r hr
  obtain ⟨p, hp, rfl⟩ := List.mem_map.mp hr
  refine ⟨fun x hx => ?_, by simp [h.len p hp]⟩
  rcases List.mem_cons.mp hx with rfl | hx
  · unfold B; decide
  · exact (h.bd p hp x hx).mono (by decide)
theorem Lt.ones_len {L : List (List Int)} : (ones L).length = L.length := by simp [ones]
theorem flat_eq {d : Nat} {L : List (List Int)} (h : Lt d L) : F_flat_size [lotT L] = ret (.int (((lines (ones L)).length : Nat) - 1)) := by
  have hp : ∀ p ∈ L, p.length ≤ 1000 := fun p hp => by rw [h.len p hp]; have := h.d3; omega
  refine fn_rt (env := [some (lotT L), none]) rfl ?_
  rw [b_flat_size, x_sRet, x_bin, x_cal, args_e ((eCall_1 _ (args_e (ones_e (i := 0) (r := 1) (by simp) rfl hp))).trans (lines_eq (m := d + 1) (by rw [Lt.ones_len]; exact h.six) h.rows (by have := h.d3; omega))), bnd_ret', x_cLen_l, List.length_map, bnd_ret', x_eC, bnd_ret', gSub_i, bnd_ret']
theorem plane_eq {d : Nat} {L : List (List Int)} (h : Lt d L) : F_is_on_plane [lotT L] = ret (.bool (decide ((((lines (ones L)).length : Nat) : Int) - 1 < (d : Nat)))) := by
  refine fn_rt (env := [some (lotT L)]) rfl ?_
  have l0 : 0 < L.length := h.ne
  have g0 : L[0]? = some (L.getD 0 []) := getD_some l0
  have e0 : bin gIx (eVar 0) (eC (.int 0)) ([some (lotT L)] : Py.Env) = ret (tupI (L.getD 0 [])) := by
    rw [x_bin, var_eq (d := lotT L) rfl, bnd_ret', x_eC, bnd_ret']
    exact gIx_t (atI_nat (i := 0) (by rw [List.getElem?_map, g0]; rfl))
  have ld : (L.getD 0 []).length = d := h.len _ (List.mem_of_getElem? g0)
  rw [b_is_on_plane, x_sRet, x_bin, (eCall_1 F_flat_size (args_1 (x := lotT L) rfl)).trans (flat_eq h), bnd_ret', x_cal, args_e e0, bnd_ret', tupI, x_cLen_t, dInts_len, ld, bnd_ret']
  rfl
/-! ### rising numbers, k of them -/
def someS (k : Nat) : Nat → List (List Nat)
  | 0 => [[]]
  | n + 1 => someS k n ++ ((someS k n).filter fun l => decide (l.length < k)).map (· ++ [n])
theorem someS_mem {k : Nat} : ∀ {n : Nat} {l : List Nat}, l ∈ someS k n ↔ l.length ≤ k ∧ l.Pairwise (· < ·) ∧ ∀ x ∈ l, x < n
  | 0, l => by
    constructor
    · intro h
      have : l = [] := by simpa [someS] using h
      subst this
      exact ⟨by simp, .nil, by simp⟩
    · rintro ⟨_, _, h⟩
      have : l = [] := by
        cases l with
        | nil => rfl
        | cons x l => exact absurd (h x (by simp)) (by omega)
      subst this
      simp [someS]
  | n + 1, l => by
    rw [someS, List.mem_append, someS_mem, List.mem_map]
    constructor
    · rintro (⟨h1, h2, h3⟩ | ⟨l', hl, rfl⟩)
      · exact ⟨h1, h2, fun x hx => Nat.lt_succ_of_lt (h3 x hx)⟩
      · rw [List.mem_filter, someS_mem, decide_eq_true_eq] at hl
        obtain ⟨⟨h1, h2, h3⟩, h4⟩ := hl
        refine ⟨by simp; omega, ?_, fun x hx => ?_⟩
        · rw [List.pairwise_append]
          exact ⟨h2, by simp, fun a ha b hb => by rw [List.mem_singleton.mp hb]; exact h3 a ha⟩
        · rcases List.mem_append.mp hx with q | q
          · exact Nat.lt_succ_of_lt (h3 x q)
          · rw [List.mem_singleton.mp q]; omega
    · rintro ⟨h1, h2, h3⟩
      by_cases e : n ∈ l
      · right
        obtain ⟨a, b, rfl⟩ := List.append_of_mem e
        obtain ⟨p1, p2, p3⟩ := List.pairwise_append.mp h2
        have hb : b = [] := by
          cases b with
          | nil => rfl
          | cons x b =>
            have q1 := (List.pairwise_cons.mp p2).1 x (by simp)
            have q2 := h3 x (by simp)
            omega
        subst hb
        refine ⟨a, ?_, rfl⟩
        rw [List.mem_filter, someS_mem, decide_eq_true_eq]
        rw [List.length_append, List.length_singleton] at h1
        exact ⟨⟨by omega, p1, fun x hx => p3 x hx n (by simp)⟩, by omega⟩
      · left
        refine ⟨h1, h2, fun x hx => ?_⟩
        have := h3 x hx
        have : x ≠ n := fun z => e (z ▸ hx)
        omega
theorem someS_len (k : Nat) : ∀ n, (someS k n).length ≤ 2 ^ n
  | 0 => by simp [someS]
  | n + 1 => by
    have h := someS_len k n
    rw [someS, List.length_append, List.length_map, Nat.pow_succ]
    have := List.length_filter_le (fun l : List Nat => decide (l.length < k)) (someS k n)
    omega
def some' (k n : Nat) : List (List Nat) := ((someS k n).filter fun l => decide (l.length = k)).mergeSort fun a b => leD (lotD a) (lotD b)
theorem some_mem {k n : Nat} {l : List Nat} : l ∈ some' k n ↔ l.length = k ∧ l.Pairwise (· < ·) ∧ ∀ x ∈ l, x < n := by
  rw [some', List.mem_mergeSort, List.mem_filter, someS_mem, decide_eq_true_eq]
  constructor
  · rintro ⟨⟨_, h2, h3⟩, h4⟩
    exact ⟨h4, h2, h3⟩
  · rintro ⟨h1, h2, h3⟩
    exact ⟨⟨by omega, h2, h3⟩, h1⟩
theorem len_lot (l : List Nat) : cLen [lotD l] = ret (.int (l.length : Nat)) := by
  rw [lotD, tupI, x_cLen_t, dInts_len]
  simp [natI]
theorem ls_one {k n : Nat} {ρ : Py.Env} (hl : ρ.length = 5) (h1 : ρ[1]? = some (some (.int (k : Nat)))) (h2 : ρ[2]? = some (some (.list ((someS k n).map lotD)))) (h3 : ρ[3]? = some (some (.int (n : Nat)))) (hn : n ≤ 10) : ls2f ρ = ret (.nx (ρ.set 2 (some (.list ((someS k (n + 1)).map lotD))))) := by
  have e := comp_map (ρ := ρ) (its := itSeq (eVar 2)) (tg := tgN 4) (cond := tst (bin gLt (cal cLen (aCons (eVar 4) aNil)) (eVar 1))) (elt := bin gAdd (eVar 4) (eTup (aCons (eVar 3) aNil))) (vs := [4]) lotD (fun l => decide (l.length < k)) (fun l => lotD (l ++ [n])) (someS k n) (by rw [x_itSeq, var_eq h2, bnd_ret']; rfl) ?_
  · have l1 := someS_len k n
    have l2 : 2 ^ n ≤ 2 ^ 10 := Nat.pow_le_pow_right (by decide) hn
    have l3 := List.length_filter_le (fun l : List Nat => decide (l.length < k)) (someS k n)
    rw [ls2f, x_sAsg, x_bin, var_eq h2, bnd_ret', e, bnd_ret', x_gAdd_l, if_pos (by rw [lenOk_def, List.length_map, List.length_map]; omega), bnd_ret', someS, List.map_append, List.map_map]
    rfl
  · intro l hl'
    rw [x_wipeD_cons, x_wipeD_nil]
    have g4 : ((ρ.set 4 none).set 4 (some (lotD l)))[4]? = some (some (lotD l)) := set9 (by rw [List.length_set]; omega)
    have g : ∀ i, i ≠ 4 → ((ρ.set 4 none).set 4 (some (lotD l)))[i]? = ρ[i]? := fun i hi => by rw [List.getElem?_set_ne (by omega), List.getElem?_set_ne (by omega)]
    refine ⟨_, rfl, tst_b ?_, fun _ => ?_⟩
    · rw [x_bin, x_cal, args_1 g4, bnd_ret', len_lot, bnd_ret', var_eq ((g 1 (by decide)).trans h1), bnd_ret']
      show ret (PyData.bool (decide (((l.length : Nat) : Int) < (k : Nat)))) = _
      congr 2
      rw [decide_eq_decide]; omega
    · have ll := (someS_mem.mp hl')
      have : l.length ≤ n := by
        have := asc_len l 0 n ll.2.1 (fun x hx => ⟨by omega, ll.2.2 x hx⟩) (by omega)
        omega
      rw [x_bin, var_eq g4, bnd_ret', eTup_1 (var_eq ((g 3 (by decide)).trans h3)), bnd_ret', lotD, tupI, x_gAdd_t, if_pos (by rw [lenOk_def]; simp [natI]; omega), lotD, tupI, dInts_nat, dInts_nat, List.map_append]
      rfl
theorem ls_loop {k : Nat} {x0 : D} : ∀ (m n : Nat) (ρ : Py.Env), ρ.length = 5 → ρ[1]? = some (some (.int (k : Nat))) → ρ[2]? = some (some (.list ((someS k n).map lotD))) → n + m ≤ 10 →
    ∃ ρ', ρ'.length = 5 ∧ ρ'[1]? = some (some (.int (k : Nat))) ∧ ρ'[2]? = some (some (.list ((someS k (n + m)).map lotD))) ∧ forW (tgN 3) ls2f (rangeD (n : Nat) m) ρ = ret (.nx ρ')
  | 0, n, ρ, hl, h1, h2, _ => ⟨ρ, hl, h1, h2, rfl⟩
  | m + 1, n, ρ, hl, h1, h2, hm => by
    have e := ls_one (k := k) (n := n) (ρ := ρ.set 3 (some (.int (n : Nat)))) (by rw [List.length_set]; exact hl) (by rw [List.getElem?_set_ne (by decide), h1]) (by rw [List.getElem?_set_ne (by decide), h2]) (set9 (by omega)) (by omega)
    obtain ⟨ρ', r1, r2, r3, r4⟩ := ls_loop (x0 := x0) m (n + 1) _ (by simp only [List.length_set]; exact hl : (((ρ.set 3 (some (.int (n : Nat)))).set 2 (some (.list ((someS k (n + 1)).map lotD))))).length = 5) (by rw [List.getElem?_set_ne (by decide), List.getElem?_set_ne (by decide), h1]) (set9 (by rw [List.length_set]; omega)) (by omega)
    refine ⟨ρ', r1, r2, by rw [r3, show n + 1 + m = n + (m + 1) by omega], ?_⟩
    rw [rangeD_succ, forW_cons, x_tgN, bnd_ret', e, bnd_ret', oLoop_nx]
    exact r4
theorem srt_some {k n : Nat} (k1 : 1 ≤ k) : cSrt [.list (((someS k n).filter fun l => decide (l.length = k)).map lotD)] = ret ((some' k n).map lotD) := by
  have h1 : alls (((someS k n).filter fun l => decide (l.length = k)).map lotD) = true := by
    unfold alls
    rw [List.all_eq_true]
    intro x hx
    obtain ⟨a, ha, rfl⟩ := List.mem_map.mp hx
    rw [Bool.and_eq_true, Bool.and_eq_true]
    refine ⟨⟨shp_lot a, rfl⟩, List.all_eq_true.mpr fun y hy => ?_⟩
    obtain ⟨b, hb, rfl⟩ := List.mem_map.mp hy
    exact alike_lot a b
  have ok : srtOk (((someS k n).filter fun l => decide (l.length = k)).map lotD) = true := by
    unfold srtOk
    rw [h1, Bool.true_and]
    have : (((someS k n).filter fun l => decide (l.length = k)).map lotD).all isTup1 = true := by
      rw [List.all_eq_true]
      intro x hx
      obtain ⟨a, ha, rfl⟩ := List.mem_map.mp hx
      rw [List.mem_filter, decide_eq_true_eq] at ha
      cases a with
      | nil => have := ha.2; simp at this; omega
      | cons _ _ => rfl
    rw [this, Bool.true_or, Bool.true_or]
  show (if srtOk (((someS k n).filter fun l => decide (l.length = k)).map lotD) = true then ret ((((someS k n).filter fun l => decide (l.length = k)).map lotD).mergeSort leD) else stuck) = _
  rw [if_pos ok, some', List.map_mergeSort]
  intros; rfl
theorem some_eq {k n : Nat} (k1 : 1 ≤ k) (hn : n ≤ 10) : F__law_some [.int (n : Nat), .int (k : Nat)] = ret (.list ((some' k n).map lotD)) := by
  refine fn_rt (env := [some (.int (n : Nat)), some (.int (k : Nat)), none, none, none]) rfl ?_
  have e1 : mkL (lDisp (aCons (eTup aNil) aNil)) ([some (.int (n : Nat)), some (.int (k : Nat)), none, none, none] : Py.Env) = ret (.list ((someS k 0).map lotD)) := by
    have e0 : eTup aNil ([some (.int (n : Nat)), some (.int (k : Nat)), none, none, none] : Py.Env) = ret (.tuple []) := by rw [x_eTup, x_aNil, bnd_ret', if_pos (by decide)]
    rw [x_mkL, x_lDisp, args_e e0, bnd_ret', if_pos (by simp [lenOk]), bnd_ret']
    rfl
  rw [b__law_some_eq, ls1, asg_nx e1]
  have r1 : rngOk (n : Int) = true := by simp [rngOk]; omega
  obtain ⟨ρ', a1, a2, a3, a4⟩ := ls_loop (k := k) (x0 := .none) n 0 (([some (.int (n : Nat)), some (.int (k : Nat)), none, none, none] : Py.Env).set 2 (some (.list ((someS k 0).map lotD)))) rfl rfl rfl (by omega)
  have it : itRng1 (aCons (eVar 0) aNil) (([some (.int (n : Nat)), some (.int (k : Nat)), none, none, none] : Py.Env).set 2 (some (.list ((someS k 0).map lotD)))) = ret (rangeD ((0 : Nat) : Int) n) := by
    rw [x_itRng1, args_1 (x := .int (n : Nat)) rfl, bnd_ret', rng1_i, if_pos r1, Int.toNat_natCast]
    rfl
  rw [x_sSeq, ls2, x_sFor, it, bnd_ret', a4, bnd_ret', oThen_nx]
  rw [Nat.zero_add] at a3
  have e := comp_map (ρ := ρ') (its := itSeq (eVar 2)) (tg := tgN 4) (cond := tst (bin gEq (cal cLen (aCons (eVar 4) aNil)) (eVar 1))) (elt := eVar 4) (vs := [4]) lotD (fun l => decide (l.length = k)) lotD (someS k n) (by rw [x_itSeq, var_eq a3, bnd_ret']; rfl) (by
    intro l hl
    rw [x_wipeD_cons, x_wipeD_nil]
    have g4 : ((ρ'.set 4 none).set 4 (some (lotD l)))[4]? = some (some (lotD l)) := set9 (by rw [List.length_set]; omega)
    refine ⟨_, rfl, tst_b ?_, fun _ => var_eq g4⟩
    rw [x_bin, x_cal, args_1 g4, bnd_ret', len_lot, bnd_ret', var_eq (d := .int (k : Nat)) (by rw [List.getElem?_set_ne (by decide), List.getElem?_set_ne (by decide), a2]), bnd_ret', gEq_i]
    congr 2
    rw [decide_eq_decide]; omega)
  rw [ls3, x_sRet, x_mkL, x_calL, args_e e, bnd_ret', srt_some k1, bnd_ret', bnd_ret']
end L74
namespace L74
open PySem hiding ret
open Py L2 R74
/-- what stands in the loops -/
structure Fs (T : List (List Int)) (k : Nat) (ρ : Py.Env) : Prop where
  len : ρ.length = 8
  e1 : ρ[1]? = some (some (dL T))
  e2 : ρ[2]? = some (some (.int (k : Nat)))
theorem Fs.set {T : List (List Int)} {k : Nat} {ρ : Py.Env} (s : Fs T k ρ) {i : Nat} {v : Option D} (hi : 3 ≤ i) : Fs T k (ρ.set i v) :=
  ⟨by rw [List.length_set, s.len], by rw [List.getElem?_set_ne (by omega), s.e1], by rw [List.getElem?_set_ne (by omega), s.e2]⟩
section
variable {T : List (List Int)} {n m k : Nat}
theorem mat_sq {I P : List Nat} (hT : T.length = n) (hr : ∀ r ∈ T, Bl 10 r ∧ r.length = m) (hI : ∀ i ∈ I, i < n) (hP : ∀ q ∈ P, q < m) (e : P.length = I.length) : Sq I.length (mat T I P) := by
  refine ⟨by simp [mat], fun r hr' => ?_⟩
  obtain ⟨i, hi, rfl⟩ := List.mem_map.mp hr'
  have hi' : i < T.length := by rw [hT]; exact hI i hi
  have hrow := hr (T.getD i []) (by rw [List.getD_eq_getElem?_getD, List.getElem?_eq_getElem hi']; exact List.getElem_mem hi')
  refine ⟨by simp [cols, e], fun x hx => ?_⟩
  obtain ⟨q, hq, rfl⟩ := List.mem_map.mp hx
  exact (at_B hrow.1 q).mono (by decide)
theorem mat_e {I P : List Nat} {ρ : Py.Env} (s : Fs T k ρ) (h3 : ρ[3]? = some (some (lotD I))) (h4 : ρ[4]? = some (some (lotD P))) (hT : T.length = n) (hr : ∀ r ∈ T, Bl 10 r ∧ r.length = m) (hI : ∀ i ∈ I, i < n) (hP : ∀ q ∈ P, q < m) :
    mkL (eLc (itSeq (eVar 3)) (tgN 6) cYes (mkL (eLc (itSeq (eVar 4)) (tgN 7) cYes (bin gIx (bin gIx (eVar 1) (eVar 6)) (eVar 7)) [7])) [6]) ρ = ret (dL (mat T I P)) := by
  have e := comp_all (ρ := ρ) (its := itSeq (eVar 3)) (tg := tgN 6) (elt := mkL (eLc (itSeq (eVar 4)) (tgN 7) cYes (bin gIx (bin gIx (eVar 1) (eVar 6)) (eVar 7)) [7])) (vs := [6]) (fun i : Nat => PyData.int (i : Nat)) (fun i => lstI (cols P (T.getD i []))) I (by
    rw [x_itSeq, var_eq h3, bnd_ret']
    show ret (dInts (natI I)) = _
    rw [dInts_nat]) ?_
  · rw [e, dL, mat, List.map_map]
    rfl
  · intro i hi
    rw [x_wipeD_cons, x_wipeD_nil]
    have g6 : ((ρ.set 6 none).set 6 (some (.int (i : Nat))))[6]? = some (some (.int (i : Nat))) := set9 (by rw [List.length_set, s.len]; decide)
    have s' : Fs T k ((ρ.set 6 none).set 6 (some (.int (i : Nat)))) := (s.set (by decide)).set (by decide)
    have g4 : ((ρ.set 6 none).set 6 (some (.int (i : Nat))))[4]? = some (some (lotD P)) := by rw [List.getElem?_set_ne (by decide), List.getElem?_set_ne (by decide), h4]
    refine ⟨_, rfl, ?_⟩
    generalize (ρ.set 6 none).set 6 (some (.int (i : Nat))) = ρ' at *
    have hi' : i < T.length := by rw [hT]; exact hI i hi
    have gi : T[i]? = some (T.getD i []) := getD_some hi'
    have lr := (hr _ (List.mem_of_getElem? gi)).2
    have e2 := comp_all (ρ := ρ') (its := itSeq (eVar 4)) (tg := tgN 7) (elt := bin gIx (bin gIx (eVar 1) (eVar 6)) (eVar 7)) (vs := [7]) (fun q : Nat => PyData.int (q : Nat)) (fun q => .int (at' (T.getD i []) q)) P (by
      rw [x_itSeq, var_eq g4, bnd_ret']
      show ret (dInts (natI P)) = _
      rw [dInts_nat]) ?_
    · rw [e2, lstI, cols, dInts, List.map_map]
      rfl
    · intro q hq
      rw [x_wipeD_cons, x_wipeD_nil]
      refine ⟨_, rfl, ?_⟩
      have hq' : (T.getD i [])[q]? = some (at' (T.getD i []) q) := getD_some (by rw [lr]; exact hP q hq)
      rw [x_bin, x_bin, var_eq (d := dL T) (by rw [List.getElem?_set_ne (by decide), List.getElem?_set_ne (by decide), s'.e1]), bnd_ret', var_eq (d := .int (i : Nat)) (by rw [List.getElem?_set_ne (by decide), List.getElem?_set_ne (by decide), g6]), bnd_ret', ix_dL gi, bnd_ret', var_eq (d := .int (q : Nat)) (set9 (by rw [List.length_set, s'.len]; decide)), bnd_ret', ix_l hq']
def nzD (T : List (List Int)) (I P : List Nat) : Bool := !decide (detM (mat T I P) = 0)
theorem in_places {I : List Nat} (hT : T.length = n) (hr : ∀ r ∈ T, Bl 10 r ∧ r.length = m) (hI : ∀ i ∈ I, i < n) (k1 : 1 ≤ k) (k4 : k ≤ 4) (lI : I.length = k) : ∀ (Ps : List (List Nat)) (ρ : Py.Env), Fs T k ρ → ρ[3]? = some (some (lotD I)) → (∀ P ∈ Ps, P.length = k ∧ ∀ q ∈ P, q < m) →
    ∃ ρ', Fs T k ρ' ∧ forW (tgN 4) lf2fff (Ps.map lotD) ρ = ret (if Ps.any (nzD T I) = true then .rt (.int ((k : Nat) - 1)) else .nx ρ')
  | [], ρ, s, h3, _ => ⟨ρ, s, rfl⟩
  | P :: Ps, ρ, s, h3, hP => by
    obtain ⟨lP, bP⟩ := hP P (by simp)
    have s4 : Fs T k (ρ.set 4 (some (lotD P))) := s.set (by decide)
    have q3 : (ρ.set 4 (some (lotD P)))[3]? = some (some (lotD I)) := by rw [List.getElem?_set_ne (by decide), h3]
    have q4 : (ρ.set 4 (some (lotD P)))[4]? = some (some (lotD P)) := set9 (by rw [s.len]; decide)
    obtain ⟨ρ', t1, t2⟩ := in_places hT hr hI k1 k4 lI Ps (ρ.set 4 (some (lotD P))) s4 q3 (fun Q hQ => hP Q (List.mem_cons_of_mem _ hQ))
    rw [List.map_cons, forW_cons, x_tgN, bnd_ret']
    generalize (ρ.set 4 (some (lotD P))) = ρ1 at *
    have sq := mat_sq (I := I) (P := P) hT hr hI bP (by rw [lP, lI])
    rw [lI] at sq
    have ed := (eCall_1 F__law_turns (args_e (mat_e s4 q3 q4 hT hr hI bP))).trans (turns_eq k1 k4 sq)
    have t : bin gNe (eCall 1 F__law_turns (aCons (mkL (eLc (itSeq (eVar 3)) (tgN 6) cYes (mkL (eLc (itSeq (eVar 4)) (tgN 7) cYes (bin gIx (bin gIx (eVar 1) (eVar 6)) (eVar 7)) [7])) [6])) aNil)) (eC (.int 0)) ρ1 = ret (.bool (nzD T I P)) := by
      rw [x_bin, ed, bnd_ret', x_eC, bnd_ret']
      simp only [gNe, shp_int, Bool.and_self, if_true, eqv_int]
      rfl
    rw [lf2fff, x_sIf, tst_b t, bnd_ret']
    by_cases z : nzD T I P = true
    · rw [if_pos z, x_sRet, x_bin, var_eq s4.e2, bnd_ret', x_eC, bnd_ret', gSub_i, bnd_ret', bnd_ret', oLoop_rt]
      exact ⟨ρ1, s4, by rw [List.any_cons, z, Bool.true_or, if_pos rfl]⟩
    · rw [if_neg z, x_sNx, bnd_ret', oLoop_nx]
      refine ⟨ρ', t1, ?_⟩
      rw [List.any_cons, Bool.eq_false_iff.mpr z, Bool.false_or]
      exact t2
theorem in_rows (hT : T.length = n) (hr : ∀ r ∈ T, Bl 10 r ∧ r.length = m) (n1 : 1 ≤ n) (m10 : m ≤ 10) (k1 : 1 ≤ k) (k4 : k ≤ 4) : ∀ (Is : List (List Nat)) (ρ : Py.Env), Fs T k ρ → (∀ I ∈ Is, I.length = k ∧ ∀ i ∈ I, i < n) →
    ∃ ρ', Fs T k ρ' ∧ forW (tgN 3) lf2ff (Is.map lotD) ρ = ret (if (Is.any fun I => (some' k m).any (nzD T I)) = true then .rt (.int ((k : Nat) - 1)) else .nx ρ')
  | [], ρ, s, _ => ⟨ρ, s, rfl⟩
  | I :: Is, ρ, s, hI => by
    obtain ⟨lI, bI⟩ := hI I (by simp)
    have s3 : Fs T k (ρ.set 3 (some (lotD I))) := s.set (by decide)
    have q3 : (ρ.set 3 (some (lotD I)))[3]? = some (some (lotD I)) := set9 (by rw [s.len]; decide)
    rw [List.map_cons, forW_cons, x_tgN, bnd_ret']
    generalize (ρ.set 3 (some (lotD I))) = ρ1 at *
    have g0 : T[0]? = some (T.getD 0 []) := getD_some (by omega)
    have l0 := (hr _ (List.mem_of_getElem? g0)).2
    have el : cal cLen (aCons (bin gIx (eVar 1) (eC (.int 0))) aNil) ρ1 = ret (.int (m : Nat)) := by
      have : bin gIx (eVar 1) (eC (.int 0)) ρ1 = ret (lstI (T.getD 0 [])) := by rw [x_bin, var_eq s3.e1, bnd_ret', x_eC, bnd_ret']; exact ix_dL (i := 0) g0
      rw [x_cal, args_e this, bnd_ret', lstI, x_cLen_l, dInts_len, l0]
    have ec : itSeq (eCall 2 F__law_some (aCons (cal cLen (aCons (bin gIx (eVar 1) (eC (.int 0))) aNil)) (aCons (eVar 2) aNil))) ρ1 = ret ((some' k m).map lotD) := by
      rw [x_itSeq, eCall_2 (x := .int (m : Nat)) (y := .int (k : Nat)) _ (by rw [x_aCons, el, bnd_ret', args_1 s3.e2, bnd_ret']), some_eq k1 m10, bnd_ret', x_seqD_l]
    obtain ⟨ρ2, t1, t2⟩ := in_places hT hr bI k1 k4 lI (some' k m) ρ1 s3 q3 (fun P hP => ⟨(some_mem.mp hP).1, (some_mem.mp hP).2.2⟩)
    rw [lf2ff, x_sFor, ec, bnd_ret', t2, bnd_ret']
    by_cases z : (some' k m).any (nzD T I) = true
    · rw [if_pos z, oLoop_rt]
      exact ⟨ρ1, s3, by rw [List.any_cons, z, Bool.true_or, if_pos rfl]⟩
    · rw [if_neg z, oLoop_nx]
      obtain ⟨ρ', b1, b2⟩ := in_rows hT hr n1 m10 k1 k4 Is ρ2 t1 (fun J hJ => hI J (List.mem_cons_of_mem _ hJ))
      refine ⟨ρ', b1, ?_⟩
      rw [List.any_cons, Bool.eq_false_iff.mpr z, Bool.false_or]
      exact b2
def hasM (T : List (List Int)) (n m k : Nat) : Bool := (some' k n).any fun I => (some' k m).any (nzD T I)
/-- the sizes, falling -/
theorem in_sizes (hT : T.length = n) (hr : ∀ r ∈ T, Bl 10 r ∧ r.length = m) (n1 : 1 ≤ n) (n10 : n ≤ 10) (m10 : m ≤ 10) : ∀ (c hi : Nat) (ρ : Py.Env), ρ.length = 8 → ρ[1]? = some (some (dL T)) → hi ≤ 4 → c + 1 ≤ hi →
    (∃ k, hi - c < k ∧ k ≤ hi ∧ hasM T n m k = true ∧ (∀ j, k < j → j ≤ hi → hasM T n m j = false) ∧ forW (tgN 2) lf2f (downD (hi : Nat) c) ρ = ret (.rt (.int ((k : Nat) - 1)))) ∨
    ((∀ j, hi - c < j → j ≤ hi → hasM T n m j = false) ∧ ∃ ρ', forW (tgN 2) lf2f (downD (hi : Nat) c) ρ = ret (.nx ρ'))
  | 0, hi, ρ, _, _, _, _ => .inr ⟨fun j h1 h2 => by omega, ρ, rfl⟩
  | c + 1, hi, ρ, hl, h1, h4, hc => by
    have ed : downD ((hi : Nat) : Int) (c + 1) = .int (hi : Nat) :: downD ((hi - 1 : Nat) : Int) c := by
      unfold downD
      rw [List.range_succ_eq_map, List.map_cons, List.map_map]
      congr 1
      · simp
        intro i _
        omega
    have s : Fs T hi (ρ.set 2 (some (.int (hi : Nat)))) := ⟨by rw [List.length_set]; exact hl, by rw [List.getElem?_set_ne (by decide), h1], set9 (by omega)⟩
    have ec : itSeq (eCall 2 F__law_some (aCons (cal cLen (aCons (eVar 1) aNil)) (aCons (eVar 2) aNil))) (ρ.set 2 (some (.int (hi : Nat)))) = ret ((some' hi n).map lotD) := by
      have el : cal cLen (aCons (eVar 1) aNil) (ρ.set 2 (some (.int (hi : Nat)))) = ret (.int (n : Nat)) := by rw [x_cal, args_1 s.e1, bnd_ret', len_dL, hT]
      rw [x_itSeq, eCall_2 (x := .int (n : Nat)) (y := .int (hi : Nat)) _ (by rw [x_aCons, el, bnd_ret', args_1 s.e2, bnd_ret']), some_eq (by omega) n10, bnd_ret', x_seqD_l]
    obtain ⟨ρ1, t1, t2⟩ := in_rows hT hr n1 m10 (by omega) h4 (some' hi n) (ρ.set 2 (some (.int (hi : Nat)))) s (fun I hI => ⟨(some_mem.mp hI).1, (some_mem.mp hI).2.2⟩)
    have step : forW (tgN 2) lf2f (downD (hi : Nat) (c + 1)) ρ = bnd (ret (if hasM T n m hi = true then Out.rt (.int ((hi : Nat) - 1)) else Out.nx ρ1)) fun o => oLoop o (forW (tgN 2) lf2f (downD ((hi - 1 : Nat) : Int) c)) := by
      rw [ed, forW_cons, x_tgN, bnd_ret', lf2f, x_sFor, ec, bnd_ret', t2]
      rfl
    by_cases z : hasM T n m hi = true
    · left
      refine ⟨hi, by omega, Nat.le_refl _, z, fun j h1 h2 => by omega, ?_⟩
      rw [step, if_pos z, bnd_ret', oLoop_rt]
    · have zf := Bool.eq_false_iff.mpr z
      rw [if_neg z, bnd_ret', oLoop_nx] at step
      have low : ∀ j, hi - (c + 1) < j → j ≤ hi → j = hi ∨ (hi - 1 - c < j ∧ j ≤ hi - 1) := fun j h1 h2 => by omega
      rcases in_sizes hT hr n1 n10 m10 c (hi - 1) ρ1 t1.len t1.e1 (by omega) (by omega) with ⟨k, a1, a2, a3, a4, a5⟩ | ⟨a1, ρ', a2⟩
      · left
        refine ⟨k, by omega, by omega, a3, fun j h1 h2 => ?_, by rw [step]; exact a5⟩
        by_cases e : j = hi
        · rw [e]; exact zf
        · exact a4 j h1 (by omega)
      · right
        refine ⟨fun j h1 h2 => ?_, ρ', by rw [step]; exact a2⟩
        rcases low j h1 h2 with e | ⟨e1, e2⟩
        · rw [e]; exact zf
        · exact a1 j e1 e2
end
theorem min2_i (a b : Int) : cMin2 [.int a, .int b] = ret (.int (if b < a then b else a)) ∨ cMin2 [.int a, .int b] = ret (.int (min a b)) := by
  first
    | exact .inl rfl
    | exact .inr rfl
theorem lawflat_eq {d : Nat} {L : List (List Int)} (h : Lt d L) : F__law_flat [lotT L] = ret (.int (((lines (ones L)).length : Nat) - 1)) := by
  obtain ⟨I0, inv⟩ := inv_lines (m := d + 1) (T := ones L) (fun r hr => (h.rows r hr).2)
  have d3 := h.d3
  have d1 := h.d1
  have l6 := h.six
  have l1 := h.ne
  obtain ⟨r1, r2⟩ := rank_le inv
  have r0 : 1 ≤ (lines (ones L)).length := rank_pos inv (by
    have g0 : L[0]? = some (L.getD 0 []) := getD_some (by omega)
    exact ⟨1 :: L.getD 0 [], List.mem_map.mpr ⟨_, List.mem_of_getElem? g0, rfl⟩, fun e => absurd (show (1 : Int) = 0 from e) (by decide)⟩)
  have hT : (ones L).length = L.length := Lt.ones_len
  rw [hT] at r2
  obtain ⟨r, hr⟩ : ∃ r, r = (lines (ones L)).length := ⟨_, rfl⟩
  rw [← hr] at r0 r1 r2 ⊢
  have has : hasM (ones L) L.length (d + 1) r = true := by
    obtain ⟨Q, q1, q2, q3, q4⟩ := asc_minor inv (by omega) (by omega)
    unfold hasM
    rw [List.any_eq_true]
    refine ⟨I0, some_mem.mpr ⟨by rw [inv.len, hr], inv.asc, fun i hi => hT ▸ inv.bd i hi⟩, List.any_eq_true.mpr ⟨Q, some_mem.mpr ⟨by rw [q1, hr], q2, q3⟩, ?_⟩⟩
    unfold nzD
    rw [decide_eq_false q4]
    rfl
  have hno : ∀ k, r < k → k ≤ 4 → hasM (ones L) L.length (d + 1) k = false := by
    intro k hk k4
    unfold hasM
    rw [List.any_eq_false]
    intro I hI
    rw [Bool.not_eq_true, List.any_eq_false]
    intro P hP
    have i := some_mem.mp hI
    have p := some_mem.mp hP
    have z := minor_zero inv (I := I) (P := P) (fun x hx => by rw [hT]; exact i.2.2 x hx) (by omega) (by omega) (by rw [i.1, p.1]) (by rw [i.1, ← hr]; exact hk)
    unfold nzD
    rw [decide_eq_true z]
    decide
  refine fn_rt (env := [some (lotT L), none, none, none, none, none, none, none]) rfl ?_
  have e1 : mkL (eLc (itSeq (eVar 0)) (tgN 5) cYes (bin gAdd (mkL (lDisp (aCons (eC (.int 1)) aNil))) (mkL (calL cLst (aCons (eVar 5) aNil)))) [5]) ([some (lotT L), none, none, none, none, none, none, none] : Py.Env) = ret (dL (ones L)) := by
    have e := comp_all (ρ := [some (lotT L), none, none, none, none, none, none, none]) (its := itSeq (eVar 0)) (tg := tgN 5) (elt := bin gAdd (mkL (lDisp (aCons (eC (.int 1)) aNil))) (mkL (calL cLst (aCons (eVar 5) aNil)))) (vs := [5]) tupI (fun p => lstI (1 :: p)) L (by rfl) (by
      intro p hp
      refine ⟨_, rfl, ?_⟩
      rw [x_bin, x_mkL, x_lDisp, args_e (x_eC _ _), bnd_ret', if_pos (by simp [lenOk]), bnd_ret', bnd_ret', x_mkL, x_calL, args_1 (x := tupI p) rfl, bnd_ret']
      show bnd (bnd (ret (dInts p)) _) _ = _
      rw [bnd_ret', bnd_ret', x_gAdd_l, if_pos (by rw [lenOk_def]; simp [h.len p hp]; omega)]
      rfl)
    rw [e, dL, ones, List.map_map]
    rfl
  rw [b__law_flat_eq, lf1, asg_nx e1]
  show (sSeq lf2 _) [some (lotT L), some (dL (ones L)), none, none, none, none, none, none] = _
  have g0 : (ones L)[0]? = some ((ones L).getD 0 []) := getD_some (by rw [hT]; omega)
  have lg := (h.rows _ (List.mem_of_getElem? g0)).2
  have el : cal cLen (aCons (bin gIx (eVar 1) (eC (.int 0))) aNil) ([some (lotT L), some (dL (ones L)), none, none, none, none, none, none] : Py.Env) = ret (.int ((d + 1 : Nat) : Int)) := by
    have : bin gIx (eVar 1) (eC (.int 0)) ([some (lotT L), some (dL (ones L)), none, none, none, none, none, none] : Py.Env) = ret (lstI ((ones L).getD 0 [])) := by rw [x_bin, var_eq (d := dL (ones L)) rfl, bnd_ret', x_eC, bnd_ret']; exact ix_dL (i := 0) g0
    rw [x_cal, args_e this, bnd_ret', lstI, x_cLen_l, dInts_len, lg]
  obtain ⟨hi, ehi⟩ : ∃ hi : Nat, hi = min L.length (d + 1) := ⟨_, rfl⟩
  have em : cal cMin2 (aCons (cal cLen (aCons (eVar 1) aNil)) (aCons (cal cLen (aCons (bin gIx (eVar 1) (eC (.int 0))) aNil)) aNil)) ([some (lotT L), some (dL (ones L)), none, none, none, none, none, none] : Py.Env) = ret (.int (hi : Nat)) := by
    rw [x_cal, x_aCons, x_cal, args_1 (x := dL (ones L)) rfl, bnd_ret', len_dL, hT, bnd_ret', args_e el, bnd_ret', bnd_ret']
    rcases min2_i ((L.length : Nat) : Int) ((d + 1 : Nat) : Int) with e | e
    · rw [e]
      congr 2
      split <;> omega
    · rw [e]
      congr 2
      omega
  have it : itDown (aCons (cal cMin2 (aCons (cal cLen (aCons (eVar 1) aNil)) (aCons (cal cLen (aCons (bin gIx (eVar 1) (eC (.int 0))) aNil)) aNil))) (aCons (eC (.int 1)) (aCons (una gNeg (eC (.int 1))) aNil))) ([some (lotT L), some (dL (ones L)), none, none, none, none, none, none] : Py.Env) = ret (downD (hi : Nat) (hi - 1)) := by
    show bnd ((aCons _ _) _) _ = _
    rw [x_aCons, em, bnd_ret', x_aCons, x_eC, bnd_ret', args_e ng_e, bnd_ret', bnd_ret', bnd_ret']
    have rk1 : rngOk (hi : Int) = true := by simp [rngOk]; omega
    show (if (decide ((-1 : Int) = -1) && (rngOk (hi : Int) && rngOk 1)) = true then ret (downD (hi : Int) ((hi : Int) - 1).toNat) else stuck) = _
    rw [rk1, show ((hi : Int) - 1).toNat = hi - 1 by omega, if_pos (by decide)]
  rw [x_sSeq, lf2, x_sFor, it, bnd_ret']
  have hr' : ∀ x ∈ ones L, Bl 10 x ∧ x.length = d + 1 := h.rows
  rcases in_sizes (T := ones L) (n := L.length) (m := d + 1) hT hr' l1 (by omega) (by omega) (hi - 1) hi [some (lotT L), some (dL (ones L)), none, none, none, none, none, none] rfl rfl (by omega) (by omega) with ⟨k, a1, a2, a3, a4, a5⟩ | ⟨a1, ρ', a2⟩
  · rw [a5, bnd_ret', oThen_rt]
    have : k = r := by
      by_cases e : k < r
      · rw [a4 r e (by omega)] at has
        cases has
      · by_cases e2 : r < k
        · rw [hno k e2 (by omega)] at a3
          cases a3
        · omega
    rw [this]
  · rw [a2, bnd_ret', oThen_nx, x_sRet, x_eC, bnd_ret']
    have : r = 1 := by
      apply Classical.byContradiction
      intro e
      rw [a1 r (by omega) (by omega)] at has
      cases has
    rw [this]
    rfl
end L74
namespace L74
open PySem hiding ret
open Py L2 R74
def wd1 : Py.Env → M Out := (sAsg 1 (eCall 1 F_divisor_of_all (aCons (eVar 0) aNil)))
def wd2 : Py.Env → M Out := (sIf (tst (bin gEq (eVar 1) (eC (.int 0)))) (sRet (cal cTup (aCons (eVar 0) aNil))) sNx)
def wd3 : Py.Env → M Out := (sAsg 2 (bin gIx (mkL (eLc (itSeq (eVar 0)) (tgN 3) (tst (bin gNe (eVar 3) (eC (.int 0)))) (eVar 3) [3])) (eC (.int 0))))
def wd4 : Py.Env → M Out := (sRet (cal cTup (aCons (mkL (eLc (itSeq (eVar 0)) (tgN 3) cYes (eIf (tst (bin gGt (eVar 2) (eC (.int 0)))) (bin gFdiv (eVar 3) (eVar 1)) (bin gFdiv (una gNeg (eVar 3)) (eVar 1))) [3])) aNil)))
theorem b_without_divisor_eq : b_without_divisor = (sSeq wd1 (sSeq wd2 (sSeq wd3 wd4))) := rfl
def bo1 : Py.Env → M Out := (sAsg 1 (mkL (eLc (itSeq (eVar 0)) (tgN 5) cYes (eCall 1 F_with_one (aCons (eVar 5) aNil)) [5])))
def bo2 : Py.Env → M Out := (sOwn 2 (lDisp aNil))
def bo3f1 : Py.Env → M Out := (sAsg 4 (eCall 1 F_table_determinant (aCons (bin gAdd (eSl (eVar 1) oNo (oPart (eVar 3))) (eSl (eVar 1) (oPart (bin gAdd (eVar 3) (eC (.int 1)))) oNo)) aNil)))
def bo3f2 : Py.Env → M Out := (sApp 2 (eIf (tst (bin gEq (bin gMod (eVar 3) (eC (.int 2))) (eC (.int 0)))) (eVar 4) (una gNeg (eVar 4))))
def bo3f : Py.Env → M Out := (sSeq bo3f1 bo3f2)
def bo3 : Py.Env → M Out := (sFor (itRng1 (aCons (cal cLen (aCons (eVar 1) aNil)) aNil)) (tgN 3) bo3f)
def bo4 : Py.Env → M Out := (sFrz (sRet (eCall 1 F_without_divisor (aCons (eVar 2) aNil))))
theorem b_balance_of_eq : b_balance_of = (sSeq bo1 (sSeq bo2 (sSeq bo3 bo4))) := rfl
def lcm1 : Py.Env → M Out := (sAsg 1 (eC (.int 0)))
def lcm2f1 : Py.Env → M Out := (sAsg 3 (cal cMax2 (aCons (eVar 2) (aCons (bin gSub (eC (.int 0)) (eVar 2)) aNil))))
def lcm2f2 : Py.Env → M Out := (sWhile (fun _ => 200) (tst (bin gGt (eVar 3) (eC (.int 0))))
  (sPar 1 3 (aCons (eVar 3) (aCons (bin gMod (cal cInt (aCons (eVar 1) aNil)) (eVar 3)) aNil))))
def lcm2f : Py.Env → M Out := (sSeq lcm2f1 lcm2f2)
def lcm2 : Py.Env → M Out := (sFor (itSeq (eVar 0)) (tgN 2) lcm2f)
theorem b__law_common_eq : b__law_common = (sSeq lcm1 (sSeq lcm2 (sRet (eVar 1)))) := rfl
def lb1 : Py.Env → M Out := (sAsg 1 (mkL (eLc (itSeq (eVar 0)) (tgN 6) cYes (bin gAdd (mkL (lDisp (aCons (eC (.int 1)) aNil))) (mkL (calL cLst (aCons (eVar 6) aNil)))) [6])))
def lb2 : Py.Env → M Out := (sOwn 2 (lDisp aNil))
def lb3f : Py.Env → M Out := (sApp 2 (bin gMulX (bin gSub (eC (.int 1)) (bin gMulX (eC (.int 2)) (bin gMod (cal cInt (aCons (eVar 3) aNil)) (eC (.int 2))))) (eCall 1 F__law_turns (aCons (bin gAdd (eSl (eVar 1) oNo (oPart (eVar 3))) (eSl (eVar 1) (oPart (bin gAdd (eVar 3) (eC (.int 1)))) oNo)) aNil))))
def lb3 : Py.Env → M Out := (sFor (itRng1 (aCons (cal cLen (aCons (eVar 1) aNil)) aNil)) (tgN 3) lb3f)
def lb4 : Py.Env → M Out := (sFrz (sSeq (sAsg 4 (eCall 1 F__law_common (aCons (eVar 2) aNil)))
  (sSeq (sIf (tst (bin gEq (eVar 4) (eC (.int 0)))) (sRet (cal cTup (aCons (eVar 2) aNil))) sNx)
  (sSeq (sAsg 5 (bin gIx (mkL (eLc (itSeq (eVar 2)) (tgN 7) (tst (bin gNe (eVar 7) (eC (.int 0)))) (eVar 7) [7])) (eC (.int 0))))
  (sRet (cal cTup (aCons (mkL (eLc (itSeq (eVar 2)) (tgN 7) cYes (eIf (tst (bin gGt (eVar 5) (eC (.int 0)))) (bin gFdiv (eVar 7) (eVar 4)) (bin gSub (eC (.int 0)) (bin gFdiv (eVar 7) (eVar 4)))) [7])) aNil)))))))
theorem b__law_balance_eq : b__law_balance = (sSeq lb1 (sSeq lb2 (sSeq lb3 lb4))) := rfl
def eB : Py.Env → M Out := (sPar 1 3 (aCons (eVar 3) (aCons (bin gMod (cal cInt (aCons (eVar 1) aNil)) (eVar 3)) aNil)))
def eT : Py.Env → M Bool := (tst (bin gGt (eVar 3) (eC (.int 0))))
theorem eB_eq {z u : Option D} {a b : Int} (h : 0 < b) : eB [z, some (.int a), u, some (.int b)] = ret (.nx [z, some (.int b), u, some (.int (a.fmod b))]) := by
  have md : modOk a b = true := by simp [modOk]; omega
  have em : bin gMod (cal cInt (aCons (eVar 1) aNil)) (eVar 3) ([z, some (.int a), u, some (.int b)] : Py.Env) = ret (.int (a.fmod b)) := by
    show gMod (.int a) (.int b) = _
    show (if modOk a b = true then ret (PyData.int (a.fmod b)) else stuck) = _
    rw [if_pos md]
  rw [eB, x_sPar, x_aCons, var_eq (d := .int b) rfl, bnd_ret', args_e em, bnd_ret', bnd_ret', par2_2]
  rfl
theorem wh_stop {z u : Option D} {a : Int} {fuel : Nat} (hf : 0 < fuel) : whW eT eB fuel [z, some (.int a), u, some (.int 0)] = ret (.nx [z, some (.int a), u, some (.int 0)]) := by
  obtain ⟨f, rfl⟩ : ∃ f, fuel = f + 1 := ⟨fuel - 1, by omega⟩
  show bnd (eT [z, some (.int a), u, some (.int 0)]) (fun y => if y = true then bnd (eB [z, some (.int a), u, some (.int 0)]) fun o => oLoop o (whW eT eB f) else ret (Out.nx [z, some (.int a), u, some (.int 0)])) = _
  have t : eT [z, some (.int a), u, some (.int 0)] = ret false := tst_b (by rw [x_bin, var_eq (d := .int 0) rfl, bnd_ret', x_eC, bnd_ret', gGt0]; rfl)
  rw [t, bnd_ret', if_neg Bool.false_ne_true]
theorem wh_go {z u : Option D} {a b : Int} {fuel : Nat} (h : 0 < b) : whW eT eB (fuel + 1) [z, some (.int a), u, some (.int b)] = whW eT eB fuel [z, some (.int b), u, some (.int (a.fmod b))] := by
  show bnd (eT [z, some (.int a), u, some (.int b)]) (fun y => if y = true then bnd (eB [z, some (.int a), u, some (.int b)]) fun o => oLoop o (whW eT eB fuel) else ret (Out.nx [z, some (.int a), u, some (.int b)])) = _
  have t : eT [z, some (.int a), u, some (.int b)] = ret true := tst_b (by rw [x_bin, var_eq (d := .int b) rfl, bnd_ret', x_eC, bnd_ret', gGt0, decide_eq_true h])
  rw [t, bnd_ret', if_pos rfl, eB_eq h, bnd_ret', oLoop_nx]
theorem euclid {z u : Option D} : ∀ (k fuel : Nat) (a b : Nat), b < 2 ^ k → 2 * k + 1 ≤ fuel → whW eT eB fuel [z, some (.int (a : Nat)), u, some (.int (b : Nat))] = ret (.nx [z, some (.int (Nat.gcd a b : Nat)), u, some (.int 0)])
  | 0, fuel, a, b, hb, hf => by
    have : b = 0 := by omega
    subst this
    rw [Nat.gcd_zero_right]
    exact wh_stop (by omega)
  | k + 1, fuel, a, b, hb, hf => by
    by_cases b0 : b = 0
    · subst b0
      rw [Nat.gcd_zero_right]
      exact wh_stop (by omega)
    · obtain ⟨f, rfl⟩ : ∃ f, fuel = f + 2 := ⟨fuel - 2, by omega⟩
      have m1 : ((a : Nat) : Int).fmod (b : Nat) = ((a % b : Nat) : Int) := by rw [Int.fmod_eq_emod_of_nonneg _ (by omega)]; rfl
      rw [wh_go (fuel := f + 1) (by omega), m1]
      by_cases r0 : a % b = 0
      · rw [r0]
        have g : Nat.gcd a b = b := by
          rw [Nat.gcd_comm, Nat.gcd_rec, r0, Nat.gcd_zero_left]
        rw [g]
        exact wh_stop (by omega)
      · have hr : a % b < b := Nat.mod_lt _ (by omega)
        have m2 : ((b : Nat) : Int).fmod ((a % b : Nat) : Int) = ((b % (a % b) : Nat) : Int) := by rw [Int.fmod_eq_emod_of_nonneg _ (by omega)]; rfl
        rw [wh_go (fuel := f) (by omega), m2]
        have half : b % (a % b) < 2 ^ k := by
          have h1 : b % (a % b) < a % b := Nat.mod_lt _ (by omega)
          have h2 : b % (a % b) ≤ b - a % b := by
            rw [Nat.mod_eq_sub_mod (by omega)]
            exact Nat.mod_le _ _
          rw [Nat.pow_succ] at hb
          omega
        have g : Nat.gcd a b = Nat.gcd (a % b) (b % (a % b)) := by
          rw [Nat.gcd_comm a b, Nat.gcd_rec b a, Nat.gcd_rec (a % b) b, Nat.gcd_comm]
        rw [g]
        exact euclid k f (a % b) (b % (a % b)) half (by omega)
theorem max2_abs (x : Int) : cMax2 [.int x, .int (0 - x)] = ret (.int (x.natAbs : Nat)) := by
  show ret (PyData.int (if 0 - x > x then 0 - x else x)) = _
  congr 2
  split <;> omega
theorem com_loop {n : Nat} (n9 : n ≤ 90) : ∀ (xs : List Int) (a : Nat) (u v : Option D) (z : D), Bl n xs → ∃ u' v', forW (tgN 2) lcm2f (dInts xs) [some z, some (.int (a : Nat)), u, v] = ret (.nx [some z, some (.int (xs.foldl (fun a x => ((Int.gcd a x : Nat) : Int)) (a : Nat))), u', v'])
  | [], a, u, v, z, _ => ⟨u, v, rfl⟩
  | x :: xs, a, u, v, z, hb => by
    have hx := hb x (by simp)
    obtain ⟨u', v', h⟩ := com_loop n9 xs (Nat.gcd a x.natAbs) (some (.int x)) (some (.int 0)) z (fun y hy => hb y (List.mem_cons_of_mem _ hy))
    refine ⟨u', v', ?_⟩
    show forW (tgN 2) lcm2f (.int x :: dInts xs) _ = _
    rw [forW_cons, x_tgN, bnd_ret']
    show bnd (lcm2f [some z, some (.int (a : Nat)), some (.int x), v]) _ = _
    have e1 : cal cMax2 (aCons (eVar 2) (aCons (bin gSub (eC (.int 0)) (eVar 2)) aNil)) ([some z, some (.int (a : Nat)), some (.int x), v] : Py.Env) = ret (.int (x.natAbs : Nat)) := by
      have e0 : bin gSub (eC (.int 0)) (eVar 2) ([some z, some (.int (a : Nat)), some (.int x), v] : Py.Env) = ret (.int (0 - x)) := by rw [x_bin, x_eC, bnd_ret', var_eq (d := .int x) rfl, bnd_ret', gSub_i]
      rw [x_cal, x_aCons, var_eq (d := .int x) rfl, bnd_ret', args_e e0, bnd_ret', bnd_ret', max2_abs]
    have e2 : lcm2f2 ([some z, some (.int (a : Nat)), some (.int x), some (.int (x.natAbs : Nat))] : Py.Env) = ret (.nx [some z, some (.int (Nat.gcd a x.natAbs : Nat)), some (.int x), some (.int 0)]) := by
      exact euclid (z := some z) (u := some (.int x)) (n + 1) 200 a x.natAbs (by have := Nat.two_pow_pos n; unfold B at hx; rw [Nat.pow_succ]; omega) (by omega)
    rw [lcm2f, lcm2f1, asg_nx e1]
    show bnd (lcm2f2 [some z, some (.int (a : Nat)), some (.int x), some (.int (x.natAbs : Nat))]) _ = _
    rw [e2, bnd_ret', oLoop_nx]
    exact h
theorem common_eq {n : Nat} (n9 : n ≤ 90) {xs : List Int} (h : Bl n xs) : F__law_common [lstI xs] = ret (.int (gcdL xs)) := by
  refine fn_rt (env := [some (lstI xs), none, none, none]) rfl ?_
  obtain ⟨u', v', e⟩ := com_loop n9 xs 0 none none (lstI xs) h
  rw [b__law_common_eq, lcm1, asg_nx (x_eC _ _)]
  show (sSeq lcm2 (sRet (eVar 1))) [some (lstI xs), some (.int ((0 : Nat) : Int)), none, none] = _
  rw [x_sSeq, lcm2, x_sFor, x_itSeq, var_eq (d := lstI xs) rfl, bnd_ret']
  show bnd (bnd (ret (dInts xs)) _) _ = _
  rw [bnd_ret', e, bnd_ret', oThen_nx, x_sRet, var_eq (d := .int (gcdL xs)) rfl, bnd_ret']
/-! ### without a divisor -/
def fstNZ (xs : List Int) : Int := (xs.filter fun x => !decide (x = 0)).getD 0 0
def wdv (xs : List Int) : List Int := if gcdL xs = 0 then xs else xs.map fun x => if fstNZ xs > 0 then x.fdiv (gcdL xs) else (-x).fdiv (gcdL xs)
theorem fst_e {xs : List Int} {ρ : Py.Env} {i r : Nat} (hr : r < ρ.length) (h : ρ[i]? = some (some (lstI xs))) (hg : gcdL xs ≠ 0) : bin gIx (mkL (eLc (itSeq (eVar i)) (tgN r) (tst (bin gNe (eVar r) (eC (.int 0)))) (eVar r) [r])) (eC (.int 0)) ρ = ret (.int (fstNZ xs)) := by
  have e := comp_map (ρ := ρ) (its := itSeq (eVar i)) (tg := tgN r) (cond := tst (bin gNe (eVar r) (eC (.int 0)))) (elt := eVar r) (vs := [r]) PyData.int (fun x => !decide (x = 0)) PyData.int xs (by rw [x_itSeq, var_eq h, bnd_ret']; rfl) (by
    intro x hx
    rw [x_wipeD_cons, x_wipeD_nil]
    have g : ((ρ.set r none).set r (some (.int x)))[r]? = some (some (.int x)) := set9 (by rw [List.length_set]; exact hr)
    refine ⟨_, rfl, tst_b ?_, fun _ => var_eq g⟩
    rw [x_bin, var_eq g, bnd_ret', x_eC, bnd_ret']
    simp only [gNe, shp_int, Bool.and_self, if_true, eqv_int])
  have pos : 0 < (xs.filter fun x => !decide (x = 0)).length := by
    obtain ⟨x, hx, nx⟩ := gcd_pos_ex (l := xs) (by have := gcdL_nonneg xs; omega)
    exact List.length_pos_of_mem (List.mem_filter.mpr ⟨hx, by simp [nx]⟩)
  rw [x_bin, e, bnd_ret', x_eC, bnd_ret']
  exact gIx_l (atI_nat (i := 0) (by rw [List.getElem?_map, getD_some (d := 0) pos]; rfl))
theorem cTup_l (ds : List D) : cTup [.list ds] = ret (.tuple ds) := rfl
theorem without_eq {n : Nat} (n9 : n < 1000) {xs : List Int} (h : Bl n xs) : F_without_divisor [lstI xs] = ret (tupI (wdv xs)) := by
  refine fn_rt (env := [some (lstI xs), none, none, none]) rfl ?_
  rw [b_without_divisor_eq, wd1, asg_nx ((eCall_1 _ (args_1 (x := lstI xs) rfl)).trans (divisor_eq xs))]
  have t : bin gEq (eVar 1) (eC (.int 0)) (([some (lstI xs), none, none, none] : Py.Env).set 1 (some (.int (gcdL xs)))) = ret (.bool (decide (gcdL xs = 0))) := by rw [x_bin, var_eq (d := .int (gcdL xs)) rfl, bnd_ret', x_eC, bnd_ret', gEq_i]
  rw [wd2, x_sSeq, x_sIf, tst_b t, bnd_ret']
  unfold wdv
  by_cases z : gcdL xs = 0
  · rw [decide_eq_true z, if_pos rfl, if_pos z, x_sRet, x_cal, args_1 (x := lstI xs) rfl, bnd_ret', lstI, cTup_l, bnd_ret', bnd_ret', oThen_rt]
    rfl
  · rw [decide_eq_false z, if_neg Bool.false_ne_true, if_neg z, x_sNx, bnd_ret', oThen_nx, wd3]
    have e3 := fst_e (xs := xs) (ρ := ([some (lstI xs), none, none, none] : Py.Env).set 1 (some (.int (gcdL xs)))) (i := 0) (r := 3) (by simp) rfl z
    rw [asg_nx e3]
    have bg := (gcd_B h).bd n9
    have e4 := comp_all (ρ := [some (lstI xs), some (.int (gcdL xs)), some (.int (fstNZ xs)), none]) (its := itSeq (eVar 0)) (tg := tgN 3) (elt := eIf (tst (bin gGt (eVar 2) (eC (.int 0)))) (bin gFdiv (eVar 3) (eVar 1)) (bin gFdiv (una gNeg (eVar 3)) (eVar 1))) (vs := [3]) PyData.int (fun x => .int (if fstNZ xs > 0 then x.fdiv (gcdL xs) else (-x).fdiv (gcdL xs))) xs rfl (by
      intro x hx
      refine ⟨_, rfl, ?_⟩
      have t : bin gGt (eVar 2) (eC (.int 0)) ([some (lstI xs), some (.int (gcdL xs)), some (.int (fstNZ xs)), some (.int x)] : Py.Env) = ret (.bool (decide (fstNZ xs > 0))) := by rw [x_bin, var_eq (d := .int (fstNZ xs)) rfl, bnd_ret', x_eC, bnd_ret', gGt0]
      show eIf _ _ _ ([some (lstI xs), some (.int (gcdL xs)), some (.int (fstNZ xs)), some (.int x)] : Py.Env) = _
      rw [x_eIf, tst_b t, bnd_ret']
      by_cases p : fstNZ xs > 0
      · rw [decide_eq_true p, if_pos rfl, if_pos p, x_bin, var_eq (d := .int x) rfl, bnd_ret', var_eq (d := .int (gcdL xs)) rfl, bnd_ret', fdiv_i, if_pos (divB bg z)]
      · rw [decide_eq_false p, if_neg Bool.false_ne_true, if_neg p, x_bin, x_una, var_eq (d := .int x) rfl, bnd_ret', x_gNeg_i, bnd_ret', var_eq (d := .int (gcdL xs)) rfl, bnd_ret', fdiv_i, if_pos (divB bg z)])
    show wd4 [some (lstI xs), some (.int (gcdL xs)), some (.int (fstNZ xs)), none] = _
    rw [wd4, x_sRet, x_cal, args_e e4, bnd_ret', cTup_l, bnd_ret', tupI, dInts, List.map_map]
    rfl
end L74
section
set_option maxHeartbeats 4000000
namespace L74
open PySem hiding ret
open Py L2 R74
def dropR (i : Nat) (T : List (List Int)) : List (List Int) := T.take i ++ T.drop (i + 1)
def balT (T : List (List Int)) : List Int := (List.range T.length).map fun i => sgn i * detM (dropR i T)
theorem lap2_0 (a0 a1 b0 b1 c0 c1 : Int) : d2 b0 b1 c0 c1 * a0 + -(d2 a0 a1 c0 c1) * b0 + d2 a0 a1 b0 b1 * c0 = 0 := by
  unfold d2; grind
theorem lap2_1 (a0 a1 b0 b1 c0 c1 : Int) : d2 b0 b1 c0 c1 * a1 + -(d2 a0 a1 c0 c1) * b1 + d2 a0 a1 b0 b1 * c1 = 0 := by
  unfold d2; grind
theorem lap3_0 (a0 a1 a2 b0 b1 b2 c0 c1 c2 e0 e1 e2 : Int) : d3 b0 b1 b2 c0 c1 c2 e0 e1 e2 * a0 + -(d3 a0 a1 a2 c0 c1 c2 e0 e1 e2) * b0 + d3 a0 a1 a2 b0 b1 b2 e0 e1 e2 * c0 + -(d3 a0 a1 a2 b0 b1 b2 c0 c1 c2) * e0 = 0 := by
  unfold d3 d2; grind
theorem lap3_1 (a0 a1 a2 b0 b1 b2 c0 c1 c2 e0 e1 e2 : Int) : d3 b0 b1 b2 c0 c1 c2 e0 e1 e2 * a1 + -(d3 a0 a1 a2 c0 c1 c2 e0 e1 e2) * b1 + d3 a0 a1 a2 b0 b1 b2 e0 e1 e2 * c1 + -(d3 a0 a1 a2 b0 b1 b2 c0 c1 c2) * e1 = 0 := by
  unfold d3 d2; grind
theorem lap3_2 (a0 a1 a2 b0 b1 b2 c0 c1 c2 e0 e1 e2 : Int) : d3 b0 b1 b2 c0 c1 c2 e0 e1 e2 * a2 + -(d3 a0 a1 a2 c0 c1 c2 e0 e1 e2) * b2 + d3 a0 a1 a2 b0 b1 b2 e0 e1 e2 * c2 + -(d3 a0 a1 a2 b0 b1 b2 c0 c1 c2) * e2 = 0 := by
  unfold d3 d2; grind
theorem lap4_0 (a0 a1 a2 a3 b0 b1 b2 b3 c0 c1 c2 c3 e0 e1 e2 e3 f0 f1 f2 f3 : Int) : d4 b0 b1 b2 b3 c0 c1 c2 c3 e0 e1 e2 e3 f0 f1 f2 f3 * a0 + -(d4 a0 a1 a2 a3 c0 c1 c2 c3 e0 e1 e2 e3 f0 f1 f2 f3) * b0 + d4 a0 a1 a2 a3 b0 b1 b2 b3 e0 e1 e2 e3 f0 f1 f2 f3 * c0 + -(d4 a0 a1 a2 a3 b0 b1 b2 b3 c0 c1 c2 c3 f0 f1 f2 f3) * e0 + d4 a0 a1 a2 a3 b0 b1 b2 b3 c0 c1 c2 c3 e0 e1 e2 e3 * f0 = 0 := by
  unfold d4 d3 d2; grind
theorem lap4_1 (a0 a1 a2 a3 b0 b1 b2 b3 c0 c1 c2 c3 e0 e1 e2 e3 f0 f1 f2 f3 : Int) : d4 b0 b1 b2 b3 c0 c1 c2 c3 e0 e1 e2 e3 f0 f1 f2 f3 * a1 + -(d4 a0 a1 a2 a3 c0 c1 c2 c3 e0 e1 e2 e3 f0 f1 f2 f3) * b1 + d4 a0 a1 a2 a3 b0 b1 b2 b3 e0 e1 e2 e3 f0 f1 f2 f3 * c1 + -(d4 a0 a1 a2 a3 b0 b1 b2 b3 c0 c1 c2 c3 f0 f1 f2 f3) * e1 + d4 a0 a1 a2 a3 b0 b1 b2 b3 c0 c1 c2 c3 e0 e1 e2 e3 * f1 = 0 := by
  unfold d4 d3 d2; grind
theorem lap4_2 (a0 a1 a2 a3 b0 b1 b2 b3 c0 c1 c2 c3 e0 e1 e2 e3 f0 f1 f2 f3 : Int) : d4 b0 b1 b2 b3 c0 c1 c2 c3 e0 e1 e2 e3 f0 f1 f2 f3 * a2 + -(d4 a0 a1 a2 a3 c0 c1 c2 c3 e0 e1 e2 e3 f0 f1 f2 f3) * b2 + d4 a0 a1 a2 a3 b0 b1 b2 b3 e0 e1 e2 e3 f0 f1 f2 f3 * c2 + -(d4 a0 a1 a2 a3 b0 b1 b2 b3 c0 c1 c2 c3 f0 f1 f2 f3) * e2 + d4 a0 a1 a2 a3 b0 b1 b2 b3 c0 c1 c2 c3 e0 e1 e2 e3 * f2 = 0 := by
  unfold d4 d3 d2; grind
theorem lap4_3 (a0 a1 a2 a3 b0 b1 b2 b3 c0 c1 c2 c3 e0 e1 e2 e3 f0 f1 f2 f3 : Int) : d4 b0 b1 b2 b3 c0 c1 c2 c3 e0 e1 e2 e3 f0 f1 f2 f3 * a3 + -(d4 a0 a1 a2 a3 c0 c1 c2 c3 e0 e1 e2 e3 f0 f1 f2 f3) * b3 + d4 a0 a1 a2 a3 b0 b1 b2 b3 e0 e1 e2 e3 f0 f1 f2 f3 * c3 + -(d4 a0 a1 a2 a3 b0 b1 b2 b3 c0 c1 c2 c3 f0 f1 f2 f3) * e3 + d4 a0 a1 a2 a3 b0 b1 b2 b3 c0 c1 c2 c3 e0 e1 e2 e3 * f3 = 0 := by
  unfold d4 d3 d2; grind
theorem dots {m : Nat} {T : List (List Int)} (m2 : 2 ≤ m) (m4 : m ≤ 4) (hT : T.length = m + 1) (hr : ∀ r ∈ T, r.length = m) (q : Nat) : comb (balT T) T q = 0 := by
  by_cases hq : q < m
  · have ks : m = 2 ∨ m = 3 ∨ m = 4 := by omega
    rcases ks with rfl | rfl | rfl
    · obtain ⟨r0, r1, r2, rfl⟩ : ∃ r0 r1 r2, T = [r0, r1, r2] := by
        match T, hT with
        | [r0, r1, r2], _ => exact ⟨r0, r1, r2, rfl⟩
      obtain ⟨a0, a1, rfl⟩ := l2 (hr r0 (by simp))
      obtain ⟨b0, b1, rfl⟩ := l2 (hr r1 (by simp))
      obtain ⟨c0, c1, rfl⟩ := l2 (hr r2 (by simp))
      have hqs : q = 0 ∨ q = 1 := by omega
      rcases hqs with rfl | rfl
      · have h := lap2_0 a0 a1 b0 b1 c0 c1
        rw [balT, show List.length _ = 3 from rfl, show List.range 3 = [0, 1, 2] from by decide]
        show ((1 - 2 * ((0 : Nat) : Int)) * (d2 b0 b1 c0 c1) * a0 + ((1 - 2 * ((1 : Nat) : Int)) * (d2 a0 a1 c0 c1) * b0 + ((1 - 2 * ((0 : Nat) : Int)) * (d2 a0 a1 b0 b1) * c0 + 0))) = 0
        grind
      · have h := lap2_1 a0 a1 b0 b1 c0 c1
        rw [balT, show List.length _ = 3 from rfl, show List.range 3 = [0, 1, 2] from by decide]
        show ((1 - 2 * ((0 : Nat) : Int)) * (d2 b0 b1 c0 c1) * a1 + ((1 - 2 * ((1 : Nat) : Int)) * (d2 a0 a1 c0 c1) * b1 + ((1 - 2 * ((0 : Nat) : Int)) * (d2 a0 a1 b0 b1) * c1 + 0))) = 0
        grind
    · obtain ⟨r0, r1, r2, r3, rfl⟩ : ∃ r0 r1 r2 r3, T = [r0, r1, r2, r3] := by
        match T, hT with
        | [r0, r1, r2, r3], _ => exact ⟨r0, r1, r2, r3, rfl⟩
      obtain ⟨a0, a1, a2, rfl⟩ := l3 (hr r0 (by simp))
      obtain ⟨b0, b1, b2, rfl⟩ := l3 (hr r1 (by simp))
      obtain ⟨c0, c1, c2, rfl⟩ := l3 (hr r2 (by simp))
      obtain ⟨e0, e1, e2, rfl⟩ := l3 (hr r3 (by simp))
      have hqs : q = 0 ∨ q = 1 ∨ q = 2 := by omega
      rcases hqs with rfl | rfl | rfl
      · have h := lap3_0 a0 a1 a2 b0 b1 b2 c0 c1 c2 e0 e1 e2
        rw [balT, show List.length _ = 4 from rfl, show List.range 4 = [0, 1, 2, 3] from by decide]
        show ((1 - 2 * ((0 : Nat) : Int)) * (d3 b0 b1 b2 c0 c1 c2 e0 e1 e2) * a0 + ((1 - 2 * ((1 : Nat) : Int)) * (d3 a0 a1 a2 c0 c1 c2 e0 e1 e2) * b0 + ((1 - 2 * ((0 : Nat) : Int)) * (d3 a0 a1 a2 b0 b1 b2 e0 e1 e2) * c0 + ((1 - 2 * ((1 : Nat) : Int)) * (d3 a0 a1 a2 b0 b1 b2 c0 c1 c2) * e0 + 0)))) = 0
        grind
      · have h := lap3_1 a0 a1 a2 b0 b1 b2 c0 c1 c2 e0 e1 e2
        rw [balT, show List.length _ = 4 from rfl, show List.range 4 = [0, 1, 2, 3] from by decide]
        show ((1 - 2 * ((0 : Nat) : Int)) * (d3 b0 b1 b2 c0 c1 c2 e0 e1 e2) * a1 + ((1 - 2 * ((1 : Nat) : Int)) * (d3 a0 a1 a2 c0 c1 c2 e0 e1 e2) * b1 + ((1 - 2 * ((0 : Nat) : Int)) * (d3 a0 a1 a2 b0 b1 b2 e0 e1 e2) * c1 + ((1 - 2 * ((1 : Nat) : Int)) * (d3 a0 a1 a2 b0 b1 b2 c0 c1 c2) * e1 + 0)))) = 0
        grind
      · have h := lap3_2 a0 a1 a2 b0 b1 b2 c0 c1 c2 e0 e1 e2
        rw [balT, show List.length _ = 4 from rfl, show List.range 4 = [0, 1, 2, 3] from by decide]
        show ((1 - 2 * ((0 : Nat) : Int)) * (d3 b0 b1 b2 c0 c1 c2 e0 e1 e2) * a2 + ((1 - 2 * ((1 : Nat) : Int)) * (d3 a0 a1 a2 c0 c1 c2 e0 e1 e2) * b2 + ((1 - 2 * ((0 : Nat) : Int)) * (d3 a0 a1 a2 b0 b1 b2 e0 e1 e2) * c2 + ((1 - 2 * ((1 : Nat) : Int)) * (d3 a0 a1 a2 b0 b1 b2 c0 c1 c2) * e2 + 0)))) = 0
        grind
    · obtain ⟨r0, r1, r2, r3, r4, rfl⟩ : ∃ r0 r1 r2 r3 r4, T = [r0, r1, r2, r3, r4] := by
        match T, hT with
        | [r0, r1, r2, r3, r4], _ => exact ⟨r0, r1, r2, r3, r4, rfl⟩
      obtain ⟨a0, a1, a2, a3, rfl⟩ := l4 (hr r0 (by simp))
      obtain ⟨b0, b1, b2, b3, rfl⟩ := l4 (hr r1 (by simp))
      obtain ⟨c0, c1, c2, c3, rfl⟩ := l4 (hr r2 (by simp))
      obtain ⟨e0, e1, e2, e3, rfl⟩ := l4 (hr r3 (by simp))
      obtain ⟨f0, f1, f2, f3, rfl⟩ := l4 (hr r4 (by simp))
      have hqs : q = 0 ∨ q = 1 ∨ q = 2 ∨ q = 3 := by omega
      rcases hqs with rfl | rfl | rfl | rfl
      · have h := lap4_0 a0 a1 a2 a3 b0 b1 b2 b3 c0 c1 c2 c3 e0 e1 e2 e3 f0 f1 f2 f3
        rw [balT, show List.length _ = 5 from rfl, show List.range 5 = [0, 1, 2, 3, 4] from by decide]
        show ((1 - 2 * ((0 : Nat) : Int)) * (d4 b0 b1 b2 b3 c0 c1 c2 c3 e0 e1 e2 e3 f0 f1 f2 f3) * a0 + ((1 - 2 * ((1 : Nat) : Int)) * (d4 a0 a1 a2 a3 c0 c1 c2 c3 e0 e1 e2 e3 f0 f1 f2 f3) * b0 + ((1 - 2 * ((0 : Nat) : Int)) * (d4 a0 a1 a2 a3 b0 b1 b2 b3 e0 e1 e2 e3 f0 f1 f2 f3) * c0 + ((1 - 2 * ((1 : Nat) : Int)) * (d4 a0 a1 a2 a3 b0 b1 b2 b3 c0 c1 c2 c3 f0 f1 f2 f3) * e0 + ((1 - 2 * ((0 : Nat) : Int)) * (d4 a0 a1 a2 a3 b0 b1 b2 b3 c0 c1 c2 c3 e0 e1 e2 e3) * f0 + 0))))) = 0
        grind
      · have h := lap4_1 a0 a1 a2 a3 b0 b1 b2 b3 c0 c1 c2 c3 e0 e1 e2 e3 f0 f1 f2 f3
        rw [balT, show List.length _ = 5 from rfl, show List.range 5 = [0, 1, 2, 3, 4] from by decide]
        show ((1 - 2 * ((0 : Nat) : Int)) * (d4 b0 b1 b2 b3 c0 c1 c2 c3 e0 e1 e2 e3 f0 f1 f2 f3) * a1 + ((1 - 2 * ((1 : Nat) : Int)) * (d4 a0 a1 a2 a3 c0 c1 c2 c3 e0 e1 e2 e3 f0 f1 f2 f3) * b1 + ((1 - 2 * ((0 : Nat) : Int)) * (d4 a0 a1 a2 a3 b0 b1 b2 b3 e0 e1 e2 e3 f0 f1 f2 f3) * c1 + ((1 - 2 * ((1 : Nat) : Int)) * (d4 a0 a1 a2 a3 b0 b1 b2 b3 c0 c1 c2 c3 f0 f1 f2 f3) * e1 + ((1 - 2 * ((0 : Nat) : Int)) * (d4 a0 a1 a2 a3 b0 b1 b2 b3 c0 c1 c2 c3 e0 e1 e2 e3) * f1 + 0))))) = 0
        grind
      · have h := lap4_2 a0 a1 a2 a3 b0 b1 b2 b3 c0 c1 c2 c3 e0 e1 e2 e3 f0 f1 f2 f3
        rw [balT, show List.length _ = 5 from rfl, show List.range 5 = [0, 1, 2, 3, 4] from by decide]
        show ((1 - 2 * ((0 : Nat) : Int)) * (d4 b0 b1 b2 b3 c0 c1 c2 c3 e0 e1 e2 e3 f0 f1 f2 f3) * a2 + ((1 - 2 * ((1 : Nat) : Int)) * (d4 a0 a1 a2 a3 c0 c1 c2 c3 e0 e1 e2 e3 f0 f1 f2 f3) * b2 + ((1 - 2 * ((0 : Nat) : Int)) * (d4 a0 a1 a2 a3 b0 b1 b2 b3 e0 e1 e2 e3 f0 f1 f2 f3) * c2 + ((1 - 2 * ((1 : Nat) : Int)) * (d4 a0 a1 a2 a3 b0 b1 b2 b3 c0 c1 c2 c3 f0 f1 f2 f3) * e2 + ((1 - 2 * ((0 : Nat) : Int)) * (d4 a0 a1 a2 a3 b0 b1 b2 b3 c0 c1 c2 c3 e0 e1 e2 e3) * f2 + 0))))) = 0
        grind
      · have h := lap4_3 a0 a1 a2 a3 b0 b1 b2 b3 c0 c1 c2 c3 e0 e1 e2 e3 f0 f1 f2 f3
        rw [balT, show List.length _ = 5 from rfl, show List.range 5 = [0, 1, 2, 3, 4] from by decide]
        show ((1 - 2 * ((0 : Nat) : Int)) * (d4 b0 b1 b2 b3 c0 c1 c2 c3 e0 e1 e2 e3 f0 f1 f2 f3) * a3 + ((1 - 2 * ((1 : Nat) : Int)) * (d4 a0 a1 a2 a3 c0 c1 c2 c3 e0 e1 e2 e3 f0 f1 f2 f3) * b3 + ((1 - 2 * ((0 : Nat) : Int)) * (d4 a0 a1 a2 a3 b0 b1 b2 b3 e0 e1 e2 e3 f0 f1 f2 f3) * c3 + ((1 - 2 * ((1 : Nat) : Int)) * (d4 a0 a1 a2 a3 b0 b1 b2 b3 c0 c1 c2 c3 f0 f1 f2 f3) * e3 + ((1 - 2 * ((0 : Nat) : Int)) * (d4 a0 a1 a2 a3 b0 b1 b2 b3 c0 c1 c2 c3 e0 e1 e2 e3) * f3 + 0))))) = 0
        grind
  · have all : ∀ (ts : List Int) (T : List (List Int)), (∀ r ∈ T, r.length = m) → comb ts T q = 0 := by
      intro ts
      induction ts with
      | nil => intro T _; exact comb_nil T q
      | cons t ts ih =>
        intro T h
        cases T with
        | nil => rfl
        | cons r T =>
          show t * at' r q + comb ts T q = 0
          rw [at_out (by rw [h r (by simp)]; omega), ih T fun x hx => h x (List.mem_cons_of_mem _ hx)]
          simp
    exact all _ _ hr
end L74
end
namespace L74
open PySem hiding ret
open Py L2 R74
structure Lb (d : Nat) (L : List (List Int)) : Prop where
  n : L.length = d + 2
  len : ∀ p ∈ L, p.length = d
  bd : ∀ p ∈ L, Bl 6 p
  d1 : 1 ≤ d
  d3 : d ≤ 3
/-- rows of small entries -/
def Sm (m : Nat) (T : List (List Int)) : Prop := ∀ r ∈ T, r.length = m ∧ Bl 6 r
theorem Lb.sm {d : Nat} {L : List (List Int)} (h : Lb d L) : Sm (d + 1) (ones L) := by
  intro r hr
  obtain ⟨p, hp, rfl⟩ := List.mem_map.mp hr
  refine ⟨by simp [h.len p hp], fun x hx => ?_⟩
  rcases List.mem_cons.mp hx with rfl | hx
  · unfold B; decide
  · exact h.bd p hp x hx
theorem d2_6 {n : Nat} {a b c d : Int} (ha : B n a) (hb : B n b) (hc : B n c) (hd : B n d) : B (2 * n + 1) (d2 a b c d) := ((ha.mul hd).sub (hb.mul hc)).mono (by omega)
theorem det_B {m : Nat} {T : List (List Int)} (hT : T.length = m) (m4 : m ≤ 4) (h : Sm m T) : B 30 (detM T) := by
  have ks : m = 0 ∨ m = 1 ∨ m = 2 ∨ m = 3 ∨ m = 4 := by omega
  have d3B : ∀ {a b c d e f g h i : Int}, B 6 a → B 6 b → B 6 c → B 6 d → B 6 e → B 6 f → B 6 g → B 6 h → B 6 i → B 21 (d3 a b c d e f g h i) := fun ha hb hc hd he hf hg hh hi =>
    ((((ha.mul (d2_6 he hf hh hi)).sub (hb.mul (d2_6 hd hf hg hi))).add ((hc.mul (d2_6 hd he hg hh)).mono (by decide))).mono (by decide))
  rcases ks with rfl | rfl | rfl | rfl | rfl
  · have : T = [] := List.length_eq_zero_iff.mp hT
    subst this
    show B 30 1
    unfold B; decide
  · obtain ⟨r, rfl⟩ := l1 hT
    have h1 := h r (by simp)
    obtain ⟨a, rfl⟩ := l1 h1.1
    exact (h1.2 a (by simp)).mono (by decide)
  · obtain ⟨r, s, rfl⟩ := l2 hT
    have h1 := h r (by simp)
    have h2 := h s (by simp)
    obtain ⟨a0, a1, rfl⟩ := l2 h1.1
    obtain ⟨b0, b1, rfl⟩ := l2 h2.1
    exact (d2_6 (h1.2 a0 (by simp)) (h1.2 a1 (by simp)) (h2.2 b0 (by simp)) (h2.2 b1 (by simp))).mono (by decide)
  · obtain ⟨r, s, t, rfl⟩ := l3 hT
    have h1 := h r (by simp)
    have h2 := h s (by simp)
    have h3 := h t (by simp)
    obtain ⟨a0, a1, a2, rfl⟩ := l3 h1.1
    obtain ⟨b0, b1, b2, rfl⟩ := l3 h2.1
    obtain ⟨c0, c1, c2, rfl⟩ := l3 h3.1
    exact (d3B (h1.2 a0 (by simp)) (h1.2 a1 (by simp)) (h1.2 a2 (by simp)) (h2.2 b0 (by simp)) (h2.2 b1 (by simp)) (h2.2 b2 (by simp)) (h3.2 c0 (by simp)) (h3.2 c1 (by simp)) (h3.2 c2 (by simp))).mono (by decide)
  · obtain ⟨r, s, t, u, rfl⟩ := l4 hT
    have h1 := h r (by simp)
    have h2 := h s (by simp)
    have h3 := h t (by simp)
    have h4 := h u (by simp)
    obtain ⟨a0, a1, a2, a3, rfl⟩ := l4 h1.1
    obtain ⟨b0, b1, b2, b3, rfl⟩ := l4 h2.1
    obtain ⟨c0, c1, c2, c3, rfl⟩ := l4 h3.1
    obtain ⟨e0, e1, e2, e3, rfl⟩ := l4 h4.1
    have A0 := h1.2 a0 (by simp); have A1 := h1.2 a1 (by simp); have A2 := h1.2 a2 (by simp); have A3 := h1.2 a3 (by simp)
    have B0 := h2.2 b0 (by simp); have B1 := h2.2 b1 (by simp); have B2 := h2.2 b2 (by simp); have B3 := h2.2 b3 (by simp)
    have C0 := h3.2 c0 (by simp); have C1 := h3.2 c1 (by simp); have C2 := h3.2 c2 (by simp); have C3 := h3.2 c3 (by simp)
    have E0 := h4.2 e0 (by simp); have E1 := h4.2 e1 (by simp); have E2 := h4.2 e2 (by simp); have E3 := h4.2 e3 (by simp)
    exact (((((A0.mul (d3B B1 B2 B3 C1 C2 C3 E1 E2 E3)).sub (A1.mul (d3B B0 B2 B3 C0 C2 C3 E0 E2 E3))).add ((A2.mul (d3B B0 B1 B3 C0 C1 C3 E0 E1 E3)).mono (by decide))).sub ((A3.mul (d3B B0 B1 B2 C0 C1 C2 E0 E1 E2)).mono (by decide)))).mono (by decide)
theorem dropR_len {T : List (List Int)} {i : Nat} (h : i < T.length) : (dropR i T).length = T.length - 1 := by
  rw [dropR, List.length_append, List.length_take, List.length_drop]; omega
theorem dropR_mem {α : Type} {T : List α} {i : Nat} {r : α} (h : r ∈ T.take i ++ T.drop (i + 1)) : r ∈ T := by
  rcases List.mem_append.mp h with q | q
  · exact List.mem_of_mem_take q
  · exact List.mem_of_mem_drop q
theorem dropR_sm {m i : Nat} {T : List (List Int)} (h : Sm m T) : Sm m (dropR i T) := fun r hr => h r (dropR_mem hr)
theorem sm_sq {m : Nat} {T : List (List Int)} (hT : T.length = m) (h : Sm m T) : Sq m T := ⟨hT, fun r hr => ⟨(h r hr).1, fun x hx => ((h r hr).2 x hx).mono (by decide)⟩⟩
theorem drop_e {b : Bool} {T : List (List Int)} {ρ : Py.Env} {i j k : Nat} (h : ρ[i]? = some (some (tD true b T))) (hj : ρ[j]? = some (some (.int (k : Nat)))) (hk : k < T.length) (h9 : T.length ≤ 1000) : bin gAdd (eSl (eVar i) oNo (oPart (eVar j))) (eSl (eVar i) (oPart (bin gAdd (eVar j) (eC (.int 1)))) oNo) ρ = ret (tD true b (dropR k T)) := by
  have c1 : eSl (eVar i) oNo (oPart (eVar j)) ρ = ret (.list ((T.take k).map (rD b))) := by
    rw [x_eSl, var_eq h, bnd_ret', x_oNo, bnd_ret', x_oPart, var_eq hj, bnd_ret', toI_i, bnd_ret']
    show ret (PyData.list (cutD (T.map (rD b)) none (some ((k : Nat) : Int)))) = _
    rw [cutD_to (by rw [List.length_map]; omega), ← List.map_take]
  have c2 : eSl (eVar i) (oPart (bin gAdd (eVar j) (eC (.int 1)))) oNo ρ = ret (.list ((T.drop (k + 1)).map (rD b))) := by
    rw [x_eSl, var_eq h, bnd_ret', x_oPart, x_bin, var_eq hj, bnd_ret', x_eC, bnd_ret', x_gAdd_i, bnd_ret', toI_i, bnd_ret', x_oNo, bnd_ret']
    show ret (PyData.list (cutD (T.map (rD b)) (some ((k + 1 : Nat) : Int)) none)) = _
    rw [cutD_from (by rw [List.length_map]; omega), ← List.map_drop]
  rw [x_bin, c1, bnd_ret', c2, bnd_ret', x_gAdd_l, if_pos (by rw [lenOk_def]; simp; omega), ← List.map_append]
  rfl
theorem rng_succ_map (f : Nat → Int) (j : Nat) : dInts ((List.range j).map f) ++ [PyData.int (f j)] = dInts ((List.range (j + 1)).map f) := by
  simp [dInts, List.range_succ]
section
variable {m : Nat} {T : List (List Int)}
theorem bo_loop (hT : T.length = m + 1) (m1 : 1 ≤ m) (m4 : m ≤ 4) (sm : Sm m T) : ∀ (c j : Nat) (ρ : Py.Env), j + c = T.length → ρ.length = 6 → ρ[1]? = some (some (tD true false T)) → ρ[2]? = some (some (lstI ((List.range j).map fun i => sgn i * detM (dropR i T)))) →
    ∃ ρ', ρ'.length = 6 ∧ ρ'[2]? = some (some (lstI (balT T))) ∧ forW (tgN 3) bo3f (rangeD (j : Nat) c) ρ = ret (.nx ρ')
  | 0, j, ρ, hj, hl, h1, h2 => by
    have : j = T.length := by omega
    subst this
    exact ⟨ρ, hl, h2, rfl⟩
  | c + 1, j, ρ, hj, hl, h1, h2 => by
    have q1 : (ρ.set 3 (some (.int (j : Nat))))[1]? = some (some (tD true false T)) := by rw [List.getElem?_set_ne (by decide), h1]
    have q2 : (ρ.set 3 (some (.int (j : Nat))))[2]? = some (some (lstI ((List.range j).map fun i => sgn i * detM (dropR i T)))) := by rw [List.getElem?_set_ne (by decide), h2]
    have q3 : (ρ.set 3 (some (.int (j : Nat))))[3]? = some (some (.int (j : Nat))) := set9 (by omega)
    have ql : (ρ.set 3 (some (.int (j : Nat)))).length = 6 := by rw [List.length_set]; exact hl
    rw [rangeD_succ, forW_cons, x_tgN, bnd_ret']
    generalize (ρ.set 3 (some (.int (j : Nat)))) = ρ1 at *
    have sq := sm_sq (by rw [dropR_len (by omega), hT]; rfl) (dropR_sm (i := j) sm)
    have e1 := (eCall_1 F_table_determinant (args_e (drop_e (k := j) q1 q3 (by omega) (by omega)))).trans (table_eq m1 m4 sq)
    rw [bo3f, bo3f1, asg_nx e1]
    have r2 : (ρ1.set 4 (some (.int (detM (dropR j T)))))[2]? = some (some (lstI ((List.range j).map fun i => sgn i * detM (dropR i T)))) := by rw [List.getElem?_set_ne (by decide), q2]
    have r3 : (ρ1.set 4 (some (.int (detM (dropR j T)))))[3]? = some (some (.int (j : Nat))) := by rw [List.getElem?_set_ne (by decide), q3]
    have r1 : (ρ1.set 4 (some (.int (detM (dropR j T)))))[1]? = some (some (tD true false T)) := by rw [List.getElem?_set_ne (by decide), q1]
    have r4 : (ρ1.set 4 (some (.int (detM (dropR j T)))))[4]? = some (some (.int (detM (dropR j T)))) := set9 (by omega)
    have rl : (ρ1.set 4 (some (.int (detM (dropR j T))))).length = 6 := by rw [List.length_set]; exact ql
    generalize (ρ1.set 4 (some (.int (detM (dropR j T))))) = ρ2 at *
    have t : bin gEq (bin gMod (eVar 3) (eC (.int 2))) (eC (.int 0)) ρ2 = ret (.bool (decide (j % 2 = 0))) := by
      rw [x_bin, x_bin, var_eq r3, bnd_ret', x_eC, bnd_ret', gMod2, bnd_ret', x_eC, bnd_ret', gEq_i]
      congr 2
      rw [decide_eq_decide]; omega
    have ev : eIf (tst (bin gEq (bin gMod (eVar 3) (eC (.int 2))) (eC (.int 0)))) (eVar 4) (una gNeg (eVar 4)) ρ2 = ret (.int (sgn j * detM (dropR j T))) := by
      rw [x_eIf, tst_b t, bnd_ret']
      by_cases z : j % 2 = 0
      · rw [decide_eq_true z, if_pos rfl, var_eq r4, sgn, z]
        simp
      · have z1 : j % 2 = 1 := by omega
        rw [decide_eq_false z, if_neg Bool.false_ne_true, x_una, var_eq r4, bnd_ret', x_gNeg_i, sgn, z1]
        congr 2
        omega
    have ea := app_e (ρ := ρ2) (i := 2) r2 ev (by rw [dInts_len]; simp; omega)
    rw [rng_succ_map (fun i => sgn i * detM (dropR i T)) j] at ea
    obtain ⟨ρ', b1, b2, b3⟩ := bo_loop hT m1 m4 sm c (j + 1) _ (by omega) (by simp only [List.length_set]; exact rl : (ρ2.set 2 (some (.list (dInts ((List.range (j + 1)).map fun i => sgn i * detM (dropR i T)))))).length = 6) (by rw [List.getElem?_set_ne (by decide), r1]) (by rw [set9 (by omega)]; rfl)
    refine ⟨ρ', b1, b2, ?_⟩
    rw [bo3f2, ea, bnd_ret', oLoop_nx]
    exact b3
theorem lb_loop (hT : T.length = m + 1) (m1 : 1 ≤ m) (m4 : m ≤ 4) (sm : Sm m T) : ∀ (c j : Nat) (ρ : Py.Env), j + c = T.length → ρ.length = 8 → ρ[1]? = some (some (tD true true T)) → ρ[2]? = some (some (lstI ((List.range j).map fun i => sgn i * detM (dropR i T)))) →
    ∃ ρ', ρ'.length = 8 ∧ ρ'[2]? = some (some (lstI (balT T))) ∧ forW (tgN 3) lb3f (rangeD (j : Nat) c) ρ = ret (.nx ρ')
  | 0, j, ρ, hj, hl, h1, h2 => by
    have : j = T.length := by omega
    subst this
    exact ⟨ρ, hl, h2, rfl⟩
  | c + 1, j, ρ, hj, hl, h1, h2 => by
    have q1 : (ρ.set 3 (some (.int (j : Nat))))[1]? = some (some (tD true true T)) := by rw [List.getElem?_set_ne (by decide), h1]
    have q2 : (ρ.set 3 (some (.int (j : Nat))))[2]? = some (some (lstI ((List.range j).map fun i => sgn i * detM (dropR i T)))) := by rw [List.getElem?_set_ne (by decide), h2]
    have q3 : (ρ.set 3 (some (.int (j : Nat))))[3]? = some (some (.int (j : Nat))) := set9 (by omega)
    have ql : (ρ.set 3 (some (.int (j : Nat)))).length = 8 := by rw [List.length_set]; exact hl
    rw [rangeD_succ, forW_cons, x_tgN, bnd_ret']
    generalize (ρ.set 3 (some (.int (j : Nat)))) = ρ1 at *
    have hd : (dropR j T).length = m := by rw [dropR_len (by omega), hT]; rfl
    have sq := sm_sq hd (dropR_sm (i := j) sm)
    have e1 := (eCall_1 F__law_turns (args_e (drop_e (k := j) q1 q3 (by omega) (by omega)))).trans (show F__law_turns [tD true true (dropR j T)] = _ from turns_eq m1 m4 sq)
    have bD := det_B hd m4 (dropR_sm (i := j) sm)
    have bm : B 1 ((j % 2 : Nat) : Int) := by unfold B; simp only [Int.natAbs_natCast]; omega
    have o1 := mulq (show B 2 (2 : Int) by unfold B; decide) bm
    have bs : B 2 (1 - 2 * ((j % 2 : Nat) : Int)) := by unfold B; omega
    have o2 := mulq bs bD
    have ev : bin gMulX (bin gSub (eC (.int 1)) (bin gMulX (eC (.int 2)) (bin gMod (cal cInt (aCons (eVar 3) aNil)) (eC (.int 2))))) (eCall 1 F__law_turns (aCons (bin gAdd (eSl (eVar 1) oNo (oPart (eVar 3))) (eSl (eVar 1) (oPart (bin gAdd (eVar 3) (eC (.int 1)))) oNo)) aNil)) ρ1 = ret (.int (sgn j * detM (dropR j T))) := by
      rw [x_bin, x_bin, x_eC, bnd_ret', x_bin, x_eC, bnd_ret', x_bin, x_cal, args_1 q3, bnd_ret', x_cInt_i, bnd_ret', x_eC, bnd_ret', gMod2, bnd_ret', x_gMulX_i, if_pos o1, bnd_ret', gSub_i, bnd_ret', e1, bnd_ret', x_gMulX_i, if_pos o2]
      rfl
    have ea := app_e (ρ := ρ1) (i := 2) q2 ev (by rw [dInts_len]; simp; omega)
    rw [rng_succ_map (fun i => sgn i * detM (dropR i T)) j] at ea
    obtain ⟨ρ', b1, b2, b3⟩ := lb_loop hT m1 m4 sm c (j + 1) _ (by omega) (by simp only [List.length_set]; exact ql : (ρ1.set 2 (some (.list (dInts ((List.range (j + 1)).map fun i => sgn i * detM (dropR i T)))))).length = 8) (by rw [List.getElem?_set_ne (by decide), q1]) (by rw [set9 (by omega)]; rfl)
    refine ⟨ρ', b1, b2, ?_⟩
    rw [lb3f, ea, bnd_ret', oLoop_nx]
    exact b3
theorem balT_B (hT : T.length = m + 1) (m4 : m ≤ 4) (sm : Sm m T) : Bl 31 (balT T) := by
  intro x hx
  obtain ⟨i, hi, rfl⟩ := List.mem_map.mp hx
  have hi' := List.mem_range.mp hi
  have b := det_B (m := m) (by rw [dropR_len hi', hT]; rfl) m4 (dropR_sm (i := i) sm)
  unfold sgn
  have : i % 2 = 0 ∨ i % 2 = 1 := by omega
  rcases this with e | e <;> rw [e] <;> (unfold B at *; omega)
end
theorem balance_eq {d : Nat} {L : List (List Int)} (h : Lb d L) : F_balance_of [lotT L] = ret (tupI (wdv (balT (ones L)))) := by
  have d1 := h.d1
  have d3 := h.d3
  have hT : (ones L).length = (d + 1) + 1 := by rw [Lt.ones_len, h.n]
  refine fn_rt (env := [some (lotT L), none, none, none, none, none]) rfl ?_
  have e1 := ones_e (ρ := [some (lotT L), none, none, none, none, none]) (L := L) (i := 0) (r := 5) (by simp) rfl (fun p hp => by rw [h.len p hp]; omega)
  rw [b_balance_of_eq, bo1, asg_nx e1]
  have e2 : bo2 (([some (lotT L), none, none, none, none, none] : Py.Env).set 1 (some (tD true false (ones L)))) = ret (.nx [some (lotT L), some (tD true false (ones L)), some (.list []), none, none, none]) := rfl
  rw [seq_nx e2]
  have it : itRng1 (aCons (cal cLen (aCons (eVar 1) aNil)) aNil) ([some (lotT L), some (tD true false (ones L)), some (.list []), none, none, none] : Py.Env) = ret (rangeD ((0 : Nat) : Int) (ones L).length) := by
    have el : cal cLen (aCons (eVar 1) aNil) ([some (lotT L), some (tD true false (ones L)), some (.list []), none, none, none] : Py.Env) = ret (.int ((ones L).length : Nat)) := by
      rw [x_cal, args_1 (x := tD true false (ones L)) rfl, bnd_ret', tD, if_pos rfl, x_cLen_l, List.length_map]
    have r1 : rngOk ((ones L).length : Int) = true := by simp [rngOk]; omega
    rw [x_itRng1, args_e el, bnd_ret', rng1_i, if_pos r1, Int.toNat_natCast]
    rfl
  obtain ⟨ρ', b1, b2, b3⟩ := bo_loop (m := d + 1) hT (by omega) (by omega) h.sm (ones L).length 0 [some (lotT L), some (tD true false (ones L)), some (.list []), none, none, none] (by omega) rfl rfl rfl
  rw [x_sSeq, bo3, x_sFor, it, bnd_ret', b3, bnd_ret', oThen_nx]
  show sRet (eCall 1 F_without_divisor (aCons (eVar 2) aNil)) ρ' = _
  rw [x_sRet, (eCall_1 F_without_divisor (args_1 b2)).trans (without_eq (by decide) (balT_B hT (by omega) h.sm)), bnd_ret']
theorem lawbalance_eq {d : Nat} {L : List (List Int)} (h : Lb d L) : F__law_balance [lotT L] = ret (tupI (wdv (balT (ones L)))) := by
  have d1 := h.d1
  have d3 := h.d3
  have hT : (ones L).length = (d + 1) + 1 := by rw [Lt.ones_len, h.n]
  refine fn_rt (env := [some (lotT L), none, none, none, none, none, none, none]) rfl ?_
  have e1 : mkL (eLc (itSeq (eVar 0)) (tgN 6) cYes (bin gAdd (mkL (lDisp (aCons (eC (.int 1)) aNil))) (mkL (calL cLst (aCons (eVar 6) aNil)))) [6]) ([some (lotT L), none, none, none, none, none, none, none] : Py.Env) = ret (tD true true (ones L)) := by
    have e := comp_all (ρ := [some (lotT L), none, none, none, none, none, none, none]) (its := itSeq (eVar 0)) (tg := tgN 6) (elt := bin gAdd (mkL (lDisp (aCons (eC (.int 1)) aNil))) (mkL (calL cLst (aCons (eVar 6) aNil)))) (vs := [6]) tupI (fun p => lstI (1 :: p)) L (by rfl) (by
      intro p hp
      refine ⟨_, rfl, ?_⟩
      rw [x_bin, x_mkL, x_lDisp, args_e (x_eC _ _), bnd_ret', if_pos (by simp [lenOk]), bnd_ret', bnd_ret', x_mkL, x_calL, args_1 (x := tupI p) rfl, bnd_ret']
      show bnd (bnd (ret (dInts p)) _) _ = _
      rw [bnd_ret', bnd_ret', x_gAdd_l, if_pos (by rw [lenOk_def]; simp [h.len p hp]; omega)]
      rfl)
    rw [e, tD, if_pos rfl, ones, List.map_map]
    rfl
  rw [b__law_balance_eq, lb1, asg_nx e1]
  have e2 : lb2 (([some (lotT L), none, none, none, none, none, none, none] : Py.Env).set 1 (some (tD true true (ones L)))) = ret (.nx [some (lotT L), some (tD true true (ones L)), some (.list []), none, none, none, none, none]) := rfl
  rw [seq_nx e2]
  have it : itRng1 (aCons (cal cLen (aCons (eVar 1) aNil)) aNil) ([some (lotT L), some (tD true true (ones L)), some (.list []), none, none, none, none, none] : Py.Env) = ret (rangeD ((0 : Nat) : Int) (ones L).length) := by
    have el : cal cLen (aCons (eVar 1) aNil) ([some (lotT L), some (tD true true (ones L)), some (.list []), none, none, none, none, none] : Py.Env) = ret (.int ((ones L).length : Nat)) := by
      rw [x_cal, args_1 (x := tD true true (ones L)) rfl, bnd_ret', tD, if_pos rfl, x_cLen_l, List.length_map]
    have r1 : rngOk ((ones L).length : Int) = true := by simp [rngOk]; omega
    rw [x_itRng1, args_e el, bnd_ret', rng1_i, if_pos r1, Int.toNat_natCast]
    rfl
  obtain ⟨ρ', b1, b2, b3⟩ := lb_loop (m := d + 1) hT (by omega) (by omega) h.sm (ones L).length 0 [some (lotT L), some (tD true true (ones L)), some (.list []), none, none, none, none, none] (by omega) rfl rfl rfl
  rw [x_sSeq, lb3, x_sFor, it, bnd_ret', b3, bnd_ret', oThen_nx]
  have Bb := balT_B hT (by omega) h.sm
  generalize balT (ones L) = xs at *
  show (sSeq (sAsg 4 (eCall 1 F__law_common (aCons (eVar 2) aNil))) _) ρ' = _
  rw [asg_nx ((eCall_1 F__law_common (args_1 b2)).trans (common_eq (by decide) Bb))]
  have q2 : (ρ'.set 4 (some (.int (gcdL xs))))[2]? = some (some (lstI xs)) := by rw [List.getElem?_set_ne (by decide), b2]
  have q4 : (ρ'.set 4 (some (.int (gcdL xs))))[4]? = some (some (.int (gcdL xs))) := set9 (by omega)
  have ql : (ρ'.set 4 (some (.int (gcdL xs)))).length = 8 := by rw [List.length_set]; exact b1
  generalize (ρ'.set 4 (some (.int (gcdL xs)))) = ρ1 at *
  have t : bin gEq (eVar 4) (eC (.int 0)) ρ1 = ret (.bool (decide (gcdL xs = 0))) := by rw [x_bin, var_eq q4, bnd_ret', x_eC, bnd_ret', gEq_i]
  rw [x_sSeq, x_sIf, tst_b t, bnd_ret']
  unfold wdv
  by_cases z : gcdL xs = 0
  · rw [decide_eq_true z, if_pos rfl, if_pos z, x_sRet, x_cal, args_1 q2, bnd_ret', lstI, cTup_l, bnd_ret', bnd_ret', oThen_rt]
    rfl
  · rw [decide_eq_false z, if_neg Bool.false_ne_true, if_neg z, x_sNx, bnd_ret', oThen_nx]
    have e3 := fst_e (xs := xs) (ρ := ρ1) (i := 2) (r := 7) (by omega) q2 z
    rw [asg_nx e3]
    have s2 : (ρ1.set 5 (some (.int (fstNZ xs))))[2]? = some (some (lstI xs)) := by rw [List.getElem?_set_ne (by decide), q2]
    have s4 : (ρ1.set 5 (some (.int (fstNZ xs))))[4]? = some (some (.int (gcdL xs))) := by rw [List.getElem?_set_ne (by decide), q4]
    have s5 : (ρ1.set 5 (some (.int (fstNZ xs))))[5]? = some (some (.int (fstNZ xs))) := set9 (by omega)
    have sl : (ρ1.set 5 (some (.int (fstNZ xs)))).length = 8 := by rw [List.length_set]; exact ql
    generalize (ρ1.set 5 (some (.int (fstNZ xs)))) = ρ2 at *
    have bg := (gcd_B Bb).bd (by decide)
    have e4 := comp_all (ρ := ρ2) (its := itSeq (eVar 2)) (tg := tgN 7) (elt := eIf (tst (bin gGt (eVar 5) (eC (.int 0)))) (bin gFdiv (eVar 7) (eVar 4)) (bin gSub (eC (.int 0)) (bin gFdiv (eVar 7) (eVar 4)))) (vs := [7]) PyData.int (fun x => .int (if fstNZ xs > 0 then x.fdiv (gcdL xs) else (-x).fdiv (gcdL xs))) xs (by rw [x_itSeq, var_eq s2, bnd_ret']; rfl) (by
      intro x hx
      rw [x_wipeD_cons, x_wipeD_nil]
      have g7 : ((ρ2.set 7 none).set 7 (some (.int x)))[7]? = some (some (.int x)) := set9 (by rw [List.length_set]; omega)
      have g : ∀ i, i ≠ 7 → ((ρ2.set 7 none).set 7 (some (.int x)))[i]? = ρ2[i]? := fun i hi => by rw [List.getElem?_set_ne (by omega), List.getElem?_set_ne (by omega)]
      refine ⟨_, rfl, ?_⟩
      have t : bin gGt (eVar 5) (eC (.int 0)) ((ρ2.set 7 none).set 7 (some (.int x))) = ret (.bool (decide (fstNZ xs > 0))) := by rw [x_bin, var_eq ((g 5 (by decide)).trans s5), bnd_ret', x_eC, bnd_ret', gGt0]
      have dv : bin gFdiv (eVar 7) (eVar 4) ((ρ2.set 7 none).set 7 (some (.int x))) = ret (.int (x.fdiv (gcdL xs))) := by rw [x_bin, var_eq g7, bnd_ret', var_eq ((g 4 (by decide)).trans s4), bnd_ret', fdiv_i, if_pos (divB bg z)]
      rw [x_eIf, tst_b t, bnd_ret']
      by_cases p : fstNZ xs > 0
      · rw [decide_eq_true p, if_pos rfl, if_pos p, dv]
      · rw [decide_eq_false p, if_neg Bool.false_ne_true, if_neg p, x_bin, x_eC, bnd_ret', dv, bnd_ret', gSub_i]
        obtain ⟨c, hc⟩ := gcdL_dvd hx
        have e1 : x.fdiv (gcdL xs) = c := by
          have : x = c * gcdL xs := by rw [Int.mul_comm]; exact hc
          rw [this]; exact Int.mul_fdiv_cancel _ z
        have e2 : (-x).fdiv (gcdL xs) = -c := by
          have : -x = (-c) * gcdL xs := by rw [Int.neg_mul, Int.mul_comm c, ← hc]
          rw [this]; exact Int.mul_fdiv_cancel _ z
        rw [e1, e2]
        congr 2
        omega)
    rw [x_sRet, x_cal, args_e e4, bnd_ret', cTup_l, bnd_ret', tupI, dInts, List.map_map]
    rfl
end L74
namespace L74
open PySem hiding ret
open Py L2 R74
/-! ### what balances tell -/
theorem wdv_spec (xs : List Int) : ∃ g e : Int, g ≠ 0 ∧ (e = 1 ∨ e = -1) ∧ ∃ f : Int → Int, wdv xs = xs.map f ∧ ∀ x ∈ xs, g * f x = e * x := by
  unfold wdv
  by_cases z : gcdL xs = 0
  · rw [if_pos z]
    exact ⟨1, 1, by decide, .inl rfl, id, by simp, fun x _ => rfl⟩
  · rw [if_neg z]
    by_cases p : fstNZ xs > 0
    · refine ⟨gcdL xs, 1, z, .inl rfl, _, rfl, fun x hx => ?_⟩
      rw [if_pos p]
      obtain ⟨c, hc⟩ := gcdL_dvd hx
      have : x = c * gcdL xs := by rw [Int.mul_comm]; exact hc
      have e1 : x.fdiv (gcdL xs) = c := by
        conv => lhs; rw [this]
        exact Int.mul_fdiv_cancel _ z
      rw [e1, Int.one_mul]
      exact hc.symm
    · refine ⟨gcdL xs, -1, z, .inr rfl, _, rfl, fun x hx => ?_⟩
      rw [if_neg p]
      obtain ⟨c, hc⟩ := gcdL_dvd hx
      have e2 : (-x).fdiv (gcdL xs) = -c := by
        have : -x = (-c) * gcdL xs := by rw [Int.neg_mul, Int.mul_comm c, ← hc]
        rw [this]; exact Int.mul_fdiv_cancel _ z
      rw [e2, Int.mul_neg, ← hc]
      omega
theorem comb_rel {g e : Int} {f : Int → Int} : ∀ (xs : List Int) (T : List (List Int)) (q : Nat), (∀ x ∈ xs, g * f x = e * x) → g * comb (xs.map f) T q = e * comb xs T q
  | [], T, q, _ => by rw [List.map_nil, comb_nil]; simp
  | x :: xs, [], q, _ => by show g * 0 = e * 0; simp
  | x :: xs, v :: T, q, h => by
    show g * (f x * at' v q + comb (xs.map f) T q) = e * (x * at' v q + comb xs T q)
    rw [Int.mul_add, Int.mul_add, comb_rel xs T q fun y hy => h y (List.mem_cons_of_mem _ hy), ← Int.mul_assoc, h x (by simp), Int.mul_assoc]
section
variable {d : Nat} {L : List (List Int)}
theorem told_dots (h : Lb d L) (q : Nat) : comb (wdv (balT (ones L))) (ones L) q = 0 := by
  obtain ⟨g, e, ng, _, f, ew, hf⟩ := wdv_spec (balT (ones L))
  have d1 := h.d1
  have d3 := h.d3
  have c := comb_rel (balT (ones L)) (ones L) q hf
  rw [dots (m := d + 1) (by omega) (by omega) (by rw [Lt.ones_len, h.n]) (fun r hr => (h.sm r hr).1), Int.mul_zero, ← ew] at c
  exact mul_z c ng
theorem told_len : (wdv (balT (ones L))).length = L.length := by
  obtain ⟨g, e, ng, _, f, ew, hf⟩ := wdv_spec (balT (ones L))
  rw [ew, List.length_map, balT, List.length_map, List.length_range, Lt.ones_len]
theorem told_B (h : Lb d L) : Bl 31 (wdv (balT (ones L))) := by
  obtain ⟨g, e, ng, ee, f, ew, hf⟩ := wdv_spec (balT (ones L))
  have d3 := h.d3
  have b := balT_B (m := d + 1) (by rw [Lt.ones_len, h.n]) (by omega) h.sm
  rw [ew]
  intro y hy
  obtain ⟨x, hx, rfl⟩ := List.mem_map.mp hy
  have h1 := hf x hx
  have h2 := b x hx
  have h3 := congrArg Int.natAbs h1
  rw [Int.natAbs_mul, Int.natAbs_mul] at h3
  have e1 : e.natAbs = 1 := by rcases ee with rfl | rfl <;> rfl
  rw [e1, Nat.one_mul] at h3
  unfold B at *
  have : 1 ≤ g.natAbs := by omega
  have := Nat.mul_le_mul_right (f x).natAbs this
  omega
theorem ones_drop (i : Nat) : dropR i (ones L) = ones (L.take i ++ L.drop (i + 1)) := by
  rw [dropR, ones, ones, List.map_append, List.map_take, List.map_drop]
/-- a told number is 0 exactly if the others lie on a plane -/
theorem told_zero (h : Lb d L) {i : Nat} (hi : i < L.length) : (at' (wdv (balT (ones L))) i = 0) ↔ ((lines (ones (L.take i ++ L.drop (i + 1)))).length < d + 1) := by
  obtain ⟨g, e, ng, ee, f, ew, hf⟩ := wdv_spec (balT (ones L))
  have d1 := h.d1
  have d3 := h.d3
  have hT : (ones L).length = (d + 1) + 1 := by rw [Lt.ones_len, h.n]
  have hb : at' (balT (ones L)) i = sgn i * detM (dropR i (ones L)) := by
    unfold at' balT
    rw [List.getD_eq_getElem?_getD, List.getElem?_map, List.getElem?_range (by rw [Lt.ones_len]; exact hi)]
    rfl
  have hl : i < (balT (ones L)).length := by rw [balT, List.length_map, List.length_range, Lt.ones_len]; exact hi
  have hw : at' (wdv (balT (ones L))) i = f (at' (balT (ones L)) i) := by
    rw [ew]
    unfold at'
    rw [List.getD_eq_getElem?_getD, List.getD_eq_getElem?_getD, List.getElem?_map, List.getElem?_eq_getElem hl]
    rfl
  have h1 := hf _ (at_mem hl)
  rw [← hw] at h1
  have s0 : sgn i ≠ 0 := by
    unfold sgn
    have : i % 2 = 0 ∨ i % 2 = 1 := by omega
    rcases this with e | e <;> (rw [e]; decide)
  have full := det_full (m := d + 1) (T := dropR i (ones L)) (by rw [dropR_len (by rw [Lt.ones_len]; exact hi), hT]; rfl) (fun r hr => (h.sm r (dropR_mem hr)).1) (by omega) (by omega)
  rw [ones_drop] at full
  rw [← full, ← ones_drop]
  constructor
  · intro z
    rw [z, Int.mul_zero] at h1
    have h2 : at' (balT (ones L)) i = 0 := by rcases ee with rfl | rfl <;> omega
    rw [hb] at h2
    exact mul_z h2 s0
  · intro z
    rw [hb, z, Int.mul_zero, Int.mul_zero] at h1
    exact mul_z h1 ng
end
/-! ### drawn lots -/
def ll1 : Py.Env → M Out := (sOwn 4 (lDisp aNil))
def ll2f1 : Py.Env → M Out := (sAsg 6 (cal cTup (aCons (mkL (eLc (itRng1 (aCons (eVar 1) aNil)) (tgN 7) cYes (bin gSub (eCallS 0 1 F__law_pick (aCons (bin gAdd (bin gMulX (eC (.int 2)) (eVar 3)) (eC (.int 1))) aNil)) (eVar 3)) [7])) aNil)))
def ll2f2 : Py.Env → M Out := (sWhile (fun _ => 200) (tst (bin (gIn false) (eVar 6) (eVar 4)))
  (sAsg 6 (bin gAdd (eSl (eVar 6) oNo (oPart (una gNeg (eC (.int 1))))) (eTup (aCons (bin gAdd (bin gIx (eVar 6) (una gNeg (eC (.int 1)))) (eC (.int 1))) aNil)))))
def ll2f3 : Py.Env → M Out := (sApp 4 (eVar 6))
def ll2f : Py.Env → M Out := (sSeq ll2f1 (sSeq ll2f2 ll2f3))
def ll2 : Py.Env → M Out := (sFor (itRng1 (aCons (eVar 2) aNil)) (tgN 5) ll2f)
def ll3 : Py.Env → M Out := (sRet (cal cTup (aCons (mkL (calL cSrt (aCons (eVar 4) aNil))) aNil)))
theorem b__law_lot_eq : b__law_lot = (sSeq ll1 (sSeq ll2 ll3)) := rfl
def llT : Py.Env → M Bool := (tst (bin (gIn false) (eVar 6) (eVar 4)))
def llB : Py.Env → M Out := (sAsg 6 (bin gAdd (eSl (eVar 6) oNo (oPart (una gNeg (eC (.int 1))))) (eTup (aCons (bin gAdd (bin gIx (eVar 6) (una gNeg (eC (.int 1)))) (eC (.int 1))) aNil))))
theorem cut_last (xs : List D) (x : D) : cutD (xs ++ [x]) none (some (-1)) = xs := by
  unfold cutD
  have e : HT.sIx (xs ++ [x]).length (xs ++ [x]).length (some (-1)) = xs.length := by
    show (if (-1 : Int) < 0 then ((-1 : Int) + ((xs ++ [x]).length : Int)).toNat else min (-1 : Int).toNat (xs ++ [x]).length) = _
    rw [if_pos (by decide), List.length_append, List.length_singleton]
    omega
  rw [e, HT.sIx_none, Nat.sub_zero, List.drop_zero, List.take_left]
theorem ix_last (xs : List D) (x : D) : gIx (.tuple (xs ++ [x])) (.int (-1)) = ret x := gIx_t (atI_last (by simp))
theorem eqv_ints : ∀ a b : List Int, PyData.eqvAll (dInts a) (dInts b) = decide (a = b) := eqvAll_ints
theorem in_K {K : List (List Int)} {p : List Int} : gIn false (tupI p) (.list (K.map tupI)) = ret (.bool (decide (p ∈ K))) := by
  have cl : PyData.canLayAll0 (K.map tupI) = true := by
    induction K with
    | nil => simp [PyData.canLayAll0]
    | cons k K ih =>
      have : PyData.canLay0 (tupI k) = true := by
        show PyData.canLay0 (.tuple (dInts k)) = true
        simp [PyData.canLay0, canLayAll_ints]
      simp [PyData.canLayAll0, this, ih]
  show (if (shp (tupI p) && PyData.canLayAll0 (K.map tupI)) = true then ret (PyData.bool (xor false ((K.map tupI).any fun z => PyData.eqv z (tupI p)))) else stuck) = _
  rw [shp_intsT, cl, if_pos (show (true && true) = true from rfl), Bool.false_xor, List.any_map]
  congr 2
  rw [Bool.eq_iff_iff, List.any_eq_true, decide_eq_true_eq]
  constructor
  · rintro ⟨k, hk, e⟩
    simp only [Function.comp_apply, tupI, PyData.eqv, eqv_ints, decide_eq_true_eq] at e
    exact e ▸ hk
  · intro h
    exact ⟨p, h, by simp only [Function.comp_apply, tupI, PyData.eqv, eqv_ints, decide_true]⟩
/-- how many stand at or behind -/
def beh (K : List (List Int)) (pre : List Int) (y : Int) : Nat := K.countP fun q => decide (q.dropLast = pre ∧ y ≤ q.getLastD 0)
theorem beh_lt {K : List (List Int)} {pre : List Int} {y : Int} (h : pre ++ [y] ∈ K) : beh K pre (y + 1) < beh K pre y := by
  unfold beh
  induction K with
  | nil => cases h
  | cons k K ih =>
    have mono : ∀ K : List (List Int), K.countP (fun q => decide (q.dropLast = pre ∧ y + 1 ≤ q.getLastD 0)) ≤ K.countP (fun q => decide (q.dropLast = pre ∧ y ≤ q.getLastD 0)) := fun K => List.countP_mono_left fun q _ hq => by
      rw [decide_eq_true_eq] at hq ⊢
      exact ⟨hq.1, by omega⟩
    rw [List.countP_cons, List.countP_cons]
    rcases List.mem_cons.mp h with rfl | h
    · have e1 : decide ((pre ++ [y]).dropLast = pre ∧ y ≤ (pre ++ [y]).getLastD 0) = true := by simp
      have e2 : decide ((pre ++ [y]).dropLast = pre ∧ y + 1 ≤ (pre ++ [y]).getLastD 0) = false := by simp; omega
      rw [e1, e2, if_pos rfl, if_neg Bool.false_ne_true]
      have := mono K
      omega
    · have := ih h
      have c : (if decide (k.dropLast = pre ∧ y + 1 ≤ k.getLastD 0) = true then 1 else 0) ≤ (if decide (k.dropLast = pre ∧ y ≤ k.getLastD 0) = true then 1 else 0 : Nat) := by
        by_cases z : k.dropLast = pre ∧ y + 1 ≤ k.getLastD 0
        · rw [if_pos (decide_eq_true z), if_pos (decide_eq_true ⟨z.1, by omega⟩)]
          exact Nat.le_refl _
        · rw [if_neg (by rw [decide_eq_false z]; exact Bool.false_ne_true)]
          exact Nat.zero_le _
      omega
theorem wh_lot {K : List (List Int)} {pre : List Int} (hp : pre.length ≤ 1000) : ∀ (fuel : Nat) (y : Int) (ρ : Py.Env), beh K pre y < fuel → ρ.length = 8 → ρ[4]? = some (some (.list (K.map tupI))) → ρ[6]? = some (some (tupI (pre ++ [y]))) →
    ∃ y' ρ', y ≤ y' ∧ y' ≤ y + (beh K pre y : Nat) ∧ ρ'.length = 8 ∧ (∀ i, i ≠ 6 → ρ'[i]? = ρ[i]?) ∧ ρ'[6]? = some (some (tupI (pre ++ [y']))) ∧ whW llT llB fuel ρ = ret (.nx ρ')
  | 0, y, ρ, h, _, _, _ => absurd h (by omega)
  | fuel + 1, y, ρ, h, hl, h4, h6 => by
    have t : llT ρ = ret (decide (pre ++ [y] ∈ K)) := tst_b (by rw [x_bin, var_eq h6, bnd_ret', var_eq h4, bnd_ret', in_K])
    have st : whW llT llB (fuel + 1) ρ = bnd (llT ρ) (fun b => if b = true then bnd (llB ρ) fun o => oLoop o (whW llT llB fuel) else ret (Out.nx ρ)) := rfl
    rw [st, t, bnd_ret']
    by_cases z : pre ++ [y] ∈ K
    · have lt := beh_lt z
      have eb : llB ρ = ret (.nx (ρ.set 6 (some (tupI (pre ++ [y + 1]))))) := by
        have e1 : eSl (eVar 6) oNo (oPart (una gNeg (eC (.int 1)))) ρ = ret (tupI pre) := by
          rw [x_eSl, var_eq h6, bnd_ret', x_oNo, bnd_ret', x_oPart, ng_e, bnd_ret', toI_i, bnd_ret']
          show ret (PyData.tuple (cutD (dInts (pre ++ [y])) none (some (-1)))) = _
          rw [show dInts (pre ++ [y]) = dInts pre ++ [PyData.int y] by simp [dInts], cut_last]
          rfl
        have e2 : bin gIx (eVar 6) (una gNeg (eC (.int 1))) ρ = ret (.int y) := by
          rw [x_bin, var_eq h6, bnd_ret', ng_e, bnd_ret']
          show gIx (.tuple (dInts (pre ++ [y]))) (.int (-1)) = _
          rw [show dInts (pre ++ [y]) = dInts pre ++ [PyData.int y] by simp [dInts], ix_last]
        have e3 : bin gAdd (bin gIx (eVar 6) (una gNeg (eC (.int 1)))) (eC (.int 1)) ρ = ret (.int (y + 1)) := by rw [x_bin, e2, bnd_ret', x_eC, bnd_ret', x_gAdd_i]
        rw [llB, x_sAsg, x_bin, e1, bnd_ret', eTup_1 e3, bnd_ret', tupI, x_gAdd_t, if_pos (by rw [lenOk_def]; simp; omega), bnd_ret', tupI, dInts, dInts, List.map_append]
        rfl
      rw [decide_eq_true z, if_pos rfl, eb, bnd_ret', oLoop_nx]
      obtain ⟨y', ρ', a1, a2, a3, a4, a5, a6⟩ := wh_lot (K := K) hp fuel (y + 1) (ρ.set 6 (some (tupI (pre ++ [y + 1])))) (by omega) (by rw [List.length_set]; exact hl) (by rw [List.getElem?_set_ne (by decide), h4]) (set9 (by omega))
      exact ⟨y', ρ', by omega, by omega, a3, fun i hi => by rw [a4 i hi, List.getElem?_set_ne (by omega)], a5, a6⟩
    · rw [decide_eq_false z, if_neg Bool.false_ne_true]
      exact ⟨y, ρ, by omega, by omega, hl, fun i _ => rfl, h6, rfl⟩
end L74
namespace L74
open PySem hiding ret
open Py L2 R74
theorem srtOk_tups {K : List (List Int)} (h : ∀ p ∈ K, 1 ≤ p.length) : srtOk (K.map tupI) = true := by
  have h1 : alls (K.map tupI) = true := by
    unfold alls
    rw [List.all_eq_true]
    intro x hx
    obtain ⟨a, ha, rfl⟩ := List.mem_map.mp hx
    rw [Bool.and_eq_true, Bool.and_eq_true]
    refine ⟨⟨shp_intsT a, rfl⟩, List.all_eq_true.mpr fun y hy => ?_⟩
    obtain ⟨b, hb, rfl⟩ := List.mem_map.mp hy
    show PySem.W.alike (.tuple (dInts a)) (.tuple (dInts b)) = true
    rw [PySem.W.alike]; exact alikeAll_ints _ _
  unfold srtOk
  rw [h1, Bool.true_and]
  have : (K.map tupI).all isTup1 = true := by
    rw [List.all_eq_true]
    intro x hx
    obtain ⟨a, ha, rfl⟩ := List.mem_map.mp hx
    have := h a ha
    cases a with
    | nil => simp at this
    | cons _ _ => rfl
  rw [this, Bool.true_or, Bool.true_or]
theorem sort_tups (K : List (List Int)) : ∃ K' : List (List Int), K'.length = K.length ∧ (∀ a ∈ K', a ∈ K) ∧ (K.map tupI).mergeSort leD = K'.map tupI := by
  refine ⟨K.mergeSort fun a b => leD (tupI a) (tupI b), List.length_mergeSort _, fun a ha => List.mem_mergeSort.mp ha, ?_⟩
  exact (List.map_mergeSort (r := fun a b => leD (tupI a) (tupI b)) (s := leD) (f := tupI) (l := K) (fun a _ b _ => rfl)).symm
theorem draws {most : Int} {e : Py.Env → M D} {ρ : Py.Env} {r : Nat} (he : ∀ (d : D) (Q : D → Prop), (∀ x : Int, -most ≤ x → x ≤ most → Q (.int x)) → e (ρ.set r (some d)) Q) : ∀ (ds : List D) (P : List D → Prop), (∀ xs : List Int, xs.length = ds.length → (∀ x ∈ xs, -most ≤ x ∧ x ≤ most) → P (dInts xs)) → lcW (tgN r) cYes e ρ ds P
  | [], P, k => k [] rfl (by simp)
  | d :: ds, P, k => by
    rw [lcN_app]
    refine he d _ fun x x0 x1 => ?_
    refine draws he ds _ fun xs hl hb => ?_
    refine k (x :: xs) (by simp [hl]) fun y hy => ?_
    rcases List.mem_cons.mp hy with rfl | hy
    · exact ⟨x0, x1⟩
    · exact hb y hy
structure Ll (d n : Nat) (most : Int) (K : List (List Int)) (ρ : Py.Env) : Prop where
  len : ρ.length = 8
  src : ρ[0]? = some (some .none)
  e1 : ρ[1]? = some (some (.int (d : Nat)))
  e3 : ρ[3]? = some (some (.int most))
  e4 : ρ[4]? = some (some (.list (K.map tupI)))
  kd : ∀ p ∈ K, p.length = d ∧ Bl 6 p
theorem Ll.set {d n : Nat} {most : Int} {K : List (List Int)} {ρ : Py.Env} (s : Ll d n most K ρ) {i : Nat} {v : Option D} (hi : 5 ≤ i) : Ll d n most K (ρ.set i v) := by
  have g : ∀ j, j < 5 → (ρ.set i v)[j]? = ρ[j]? := fun j hj => List.getElem?_set_ne (by omega)
  exact ⟨by rw [List.length_set, s.len], by rw [g 0 (by decide), s.src], by rw [g 1 (by decide), s.e1], by rw [g 3 (by decide), s.e3], by rw [g 4 (by decide), s.e4], s.kd⟩
section
variable {d n : Nat} {most : Int}
theorem lap_ok {K : List (List Int)} {ρ : Py.Env} {P : Out → Prop} (s : Ll d n most K ρ) (d1 : 1 ≤ d) (d3 : d ≤ 3) (m1 : 1 ≤ most) (m30 : most ≤ 30) (k6 : K.length ≤ 6) (k : ∀ p ρ', Ll d n most (K ++ [p]) ρ' → P (.nx ρ')) : ll2f ρ P := by
  have r1 : rngOk (d : Int) = true := by simp [rngOk]; omega
  have it : itRng1 (aCons (eVar 1) aNil) ρ = ret (rangeD 0 d) := by rw [x_itRng1, args_1 s.e1, bnd_ret', rng1_i, if_pos r1, Int.toNat_natCast]
  have dr : ∀ (x : D) (Q : D → Prop), (∀ x : Int, -most ≤ x → x ≤ most → Q (.int x)) → bin gSub (eCallS 0 1 F__law_pick (aCons (bin gAdd (bin gMulX (eC (.int 2)) (eVar 3)) (eC (.int 1))) aNil)) (eVar 3) ((ρ.set 7 none).set 7 (some x)) Q := by
    intro x Q hq
    have g : ∀ i, i ≠ 7 → ((ρ.set 7 none).set 7 (some x))[i]? = ρ[i]? := fun i hi => by rw [List.getElem?_set_ne (by omega), List.getElem?_set_ne (by omega)]
    have e : bin gAdd (bin gMulX (eC (.int 2)) (eVar 3)) (eC (.int 1)) ((ρ.set 7 none).set 7 (some x)) = ret (.int (2 * most + 1)) := by
      rw [x_bin, x_bin, x_eC, bnd_ret', var_eq ((g 3 (by decide)).trans s.e3), bnd_ret', x_gMulX_i, if_pos (mulq (n := 2) (m := 8) (by unfold B; decide) (by unfold B; omega)), bnd_ret', x_eC, bnd_ret', x_gAdd_i]
    rw [x_bin, bnd_app]
    refine pick_c ((g 0 (by decide)).trans s.src) e (by omega) (by omega) fun j j0 j1 => ?_
    rw [var_eq ((g 3 (by decide)).trans s.e3), bnd_ret', gSub_i]
    exact hq _ (by omega) (by omega)
  rw [ll2f, x_sSeq, bnd_app, ll2f1, x_sAsg, bnd_app, x_cal, bnd_app, aCons_app, x_mkL, bnd_app, x_eLc, it, bnd_ret', x_wipeD_cons, x_wipeD_nil]
  refine draws dr _ _ fun xs hl hb => ?_
  have lx : xs.length = d := by rw [hl]; simp [rangeD]
  rw [ret_app, x_aNil, ret_app, cTup_l, ret_app, ret_app, oThen_nx]
  obtain ⟨pre, y, rfl⟩ : ∃ pre y, xs = pre ++ [y] := by
    rcases List.eq_nil_or_concat xs with e | ⟨pre, y, e⟩
    · rw [e] at lx; simp at lx; omega
    · exact ⟨pre, y, by simpa using e⟩
  have s6 : Ll d n most K (ρ.set 6 (some (tupI (pre ++ [y])))) := s.set (by decide)
  have g6 : (ρ.set 6 (some (tupI (pre ++ [y]))))[6]? = some (some (tupI (pre ++ [y]))) := set9 (by rw [s.len]; decide)
  have bh : beh K pre y ≤ K.length := List.countP_le_length
  obtain ⟨y', ρ', a1, a2, a3, a4, a5, a6⟩ := wh_lot (K := K) (pre := pre) (by rw [List.length_append, List.length_singleton] at lx; omega) 200 y (ρ.set 6 (some (tupI (pre ++ [y])))) (by omega) s6.len s6.e4 g6
  have hy := hb y (by simp)
  show (sSeq ll2f2 ll2f3) (ρ.set 6 (some (tupI (pre ++ [y])))) P
  have a6' : ll2f2 (ρ.set 6 (some (tupI (pre ++ [y])))) = ret (.nx ρ') := a6
  rw [seq_nx a6']
  have s' : Ll d n most K ρ' := ⟨a3, by rw [a4 0 (by decide), s6.src], by rw [a4 1 (by decide), s6.e1], by rw [a4 3 (by decide), s6.e3], by rw [a4 4 (by decide), s6.e4], s.kd⟩
  have ea := app_e (ρ := ρ') (i := 4) s'.e4 (var_eq a5) (by rw [List.length_map]; omega)
  rw [ll2f3, ea]
  refine k (pre ++ [y']) _ ?_
  have g : ∀ j, j ≠ 4 → (ρ'.set 4 (some (.list (K.map tupI ++ [tupI (pre ++ [y'])]))))[j]? = ρ'[j]? := fun j hj => List.getElem?_set_ne (by omega)
  refine ⟨by rw [List.length_set, s'.len], by rw [g 0 (by decide), s'.src], by rw [g 1 (by decide), s'.e1], by rw [g 3 (by decide), s'.e3], by rw [set9 (by rw [s'.len]; decide), List.map_append]; rfl, fun q hq => ?_⟩
  rcases List.mem_append.mp hq with q' | q'
  · exact s.kd q q'
  · rw [List.mem_singleton.mp q']
    refine ⟨by rw [← lx]; simp, fun x hx => ?_⟩
    rcases List.mem_append.mp hx with h | h
    · have := hb x (by simp [h])
      unfold B; omega
    · rw [List.mem_singleton.mp h]
      unfold B; omega
theorem laps_ok {P : Out → Prop} (d1 : 1 ≤ d) (d3 : d ≤ 3) (m1 : 1 ≤ most) (m30 : most ≤ 30) : ∀ (ds : List D) (K : List (List Int)) (ρ : Py.Env), Ll d n most K ρ → K.length + ds.length ≤ 6 → (∀ K' ρ', Ll d n most K' ρ' → K'.length = K.length + ds.length → P (.nx ρ')) → forW (tgN 5) ll2f ds ρ P
  | [], K, ρ, s, _, k => k K ρ s (by simp)
  | x :: ds, K, ρ, s, h6, k => by
    rw [List.length_cons] at h6
    rw [forW_cons, x_tgN, bnd_ret', bnd_app]
    refine lap_ok (s.set (by decide)) d1 d3 m1 m30 (by omega) fun p ρ' s' => ?_
    rw [oLoop_nx]
    refine laps_ok d1 d3 m1 m30 ds (K ++ [p]) ρ' s' (by rw [List.length_append, List.length_singleton]; omega) fun K' ρ2 s2 hl => ?_
    exact k K' ρ2 s2 (by rw [hl, List.length_append, List.length_singleton, List.length_cons]; omega)
theorem lot_ok {P : D → Prop} (d1 : 1 ≤ d) (d3 : d ≤ 3) (n6 : n ≤ 6) (m1 : 1 ≤ most) (m30 : most ≤ 30) (k : ∀ L : List (List Int), L.length = n → (∀ p ∈ L, p.length = d ∧ Bl 6 p) → P (lotT L)) : F__law_lot [.int (d : Nat), .int (n : Nat), .int most] P := by
  refine fnS_c (env := [some .none, some (.int (d : Nat)), some (.int (n : Nat)), some (.int most), none, none, none, none]) rfl ?_
  have e1 : ll1 ([some .none, some (.int (d : Nat)), some (.int (n : Nat)), some (.int most), none, none, none, none] : Py.Env) = ret (.nx [some .none, some (.int (d : Nat)), some (.int (n : Nat)), some (.int most), some (.list []), none, none, none]) := rfl
  have r1 : rngOk (n : Int) = true := by simp [rngOk]; omega
  have it : itRng1 (aCons (eVar 2) aNil) ([some .none, some (.int (d : Nat)), some (.int (n : Nat)), some (.int most), some (.list []), none, none, none] : Py.Env) = ret (rangeD 0 n) := by rw [x_itRng1, args_1 (x := .int (n : Nat)) rfl, bnd_ret', rng1_i, if_pos r1, Int.toNat_natCast]
  rw [b__law_lot_eq, seq_nx e1, x_sSeq, bnd_app, ll2, x_sFor, it, bnd_ret']
  refine laps_ok (n := n) d1 d3 m1 m30 _ [] _ ⟨rfl, rfl, rfl, rfl, rfl, by simp⟩ (by simp [rangeD]; omega) fun K ρ' s hl => ?_
  have lK : K.length = n := by rw [hl]; simp [rangeD]
  obtain ⟨K', k1, k2, k3⟩ := sort_tups K
  have cs : mkL (calL cSrt (aCons (eVar 4) aNil)) ρ' = ret (.list (K'.map tupI)) := by
    rw [x_mkL, x_calL, args_1 s.e4, bnd_ret']
    show bnd (if srtOk (K.map tupI) = true then ret ((K.map tupI).mergeSort leD) else stuck) _ = _
    rw [if_pos (srtOk_tups fun p hp => by rw [(s.kd p hp).1]; exact d1), bnd_ret', k3]
  rw [oThen_nx, ll3, x_sRet, x_cal, args_e cs, bnd_ret', cTup_l, bnd_ret', ret_app]
  exact k K' (by rw [k1, lK]) fun p hp => s.kd p (k2 p hp)
end
end L74
namespace L74
open PySem hiding ret
open Py L2 R74
def q1f1 : Py.Env → M Out := (sAsg 3 (bin gAdd (eC (.int 1)) (eCallS 1 1 F__law_pick (aCons (eC (.int 4)) aNil))))
def q1f2 : Py.Env → M Out := (sAsg 4 (cal cTup (aCons (mkL (eLc (itRng1 (aCons (eVar 3) aNil)) (tgN 11) cYes (cal cTup (aCons (mkL (eLc (itRng1 (aCons (eVar 3) aNil)) (tgN 13) cYes (bin gSub (eCallS 1 1 F__law_pick (aCons (eC (.int 9)) aNil)) (eC (.int 4))) [13])) aNil)) [11])) aNil)))
def q1f3a : Py.Env → M Out := (sAsg 4 (bin gAdd (eSl (eVar 4) oNo (oPart (una gNeg (eC (.int 1))))) (eTup (aCons (bin gIx (eVar 4) (eC (.int 0))) aNil))))
def q1f3 : Py.Env → M Out := (sIf (tst (bin gEqX (eCallS 1 1 F__law_pick (aCons (eC (.int 3)) aNil)) (eC (.int 0)))) q1f3a sNx)
def q1f4 : Py.Env → M Out := (sIf (tst (bin gNeX (cal cReprX (aCons (eCall 1 F_table_determinant (aCons (eVar 4) aNil)) aNil)) (cal cReprX (aCons (eCall 1 F__law_turns (aCons (mkL (eLc (itSeq (eVar 4)) (tgN 14) cYes (mkL (calL cLst (aCons (eVar 14) aNil))) [14])) aNil)) aNil)))) (sRet (eC (.bool false))) sNx)
def q1f5 : Py.Env → M Out := (sAsg 5 (bin gAdd (eC (.int 1)) (eCallS 1 1 F__law_pick (aCons (eC (.int 3)) aNil))))
def q1f6 : Py.Env → M Out := (sAsg 6 (eCallS 1 3 F__law_lot (aCons (eVar 5) (aCons (bin gAdd (eC (.int 1)) (eCallS 1 1 F__law_pick (aCons (eC (.int 6)) aNil))) (aCons (eCallS 1 1 F__law_of (aCons (mkL (lDisp (aCons (eC (.int 2)) (aCons (eC (.int 30)) aNil)))) aNil)) aNil)))))
def q1f7a : Py.Env → M Out := (sAsg 6 (cal cTup (aCons (mkL (eSrtP (mkL (eLc (itSeq (eVar 6)) (tgN 15) cYes (eTup (aCons (bin gAdd (eSl (eVar 15) oNo (oPart (una gNeg (eC (.int 1))))) (eTup (aCons (cal cSumX (aCons (eSl (eVar 15) oNo (oPart (una gNeg (eC (.int 1))))) aNil)) aNil))) (aCons (eC (.int 0)) aNil))) [15])))) aNil)))
def q1f7 : Py.Env → M Out := (sIf (bAnd (tst (bin gEqX (eCallS 1 1 F__law_pick (aCons (eC (.int 3)) aNil)) (eC (.int 0)))) (tst (bin gGt (eVar 5) (eC (.int 1))))) q1f7a sNx)
def q1f8 : Py.Env → M Out := (sPar 7 8 (aCons (cal cReprX (aCons (eVar 6) aNil)) (aCons (eCall 1 F__law_flat (aCons (eVar 6) aNil)) aNil)))
def q1f9 : Py.Env → M Out := (sIf (tst (bin gNeX (cal cReprX (aCons (mkL (lDisp (aCons (eCall 1 F_flat_size (aCons (eVar 6) aNil)) (aCons (eCall 1 F_is_on_plane (aCons (eVar 6) aNil)) aNil)))) aNil)) (cal cReprX (aCons (mkL (lDisp (aCons (eVar 8) (aCons (bin gLt (eVar 8) (eVar 5)) aNil)))) aNil)))) (sRet (eC (.bool false))) sNx)
def q1f10 : Py.Env → M Out := (sAsg 9 (eCallS 1 3 F__law_lot (aCons (eVar 5) (aCons (bin gAdd (eVar 5) (eC (.int 2))) (aCons (eCallS 1 1 F__law_of (aCons (mkL (lDisp (aCons (eC (.int 2)) (aCons (eC (.int 30)) aNil)))) aNil)) aNil)))))
def q1f11 : Py.Env → M Out := (sAsg 10 (eCall 1 F_balance_of (aCons (eVar 9) aNil)))
def q1f12 : Py.Env → M Out := (sIf (bOr (tst (bin gNeX (cal cReprX (aCons (eVar 10) aNil)) (cal cReprX (aCons (eCall 1 F__law_balance (aCons (eVar 9) aNil)) aNil)))) (tst (bin gNeX (cal cSumX (aCons (eVar 10) aNil)) (eC (.int 0))))) (sRet (eC (.bool false))) sNx)
def q1f13 : Py.Env → M Out := (sIf (tst (bin gNeX (mkL (eLc (itRng1 (aCons (eVar 5) aNil)) (tgN 13) (tst (bin gNeX (cal cSumX (aCons (mkL (eLc (itZip (aCons (eVar 10) (aCons (eVar 9) aNil))) (tgTup 2 (tgsCons (tgN 12) (tgsCons (tgN 15) tgsNil))) cYes (bin gMulX (eVar 12) (bin gIx (eVar 15) (eVar 13))) [12, 15])) aNil)) (eC (.int 0)))) (eVar 13) [13])) (mkL (lDisp aNil)))) (sRet (eC (.bool false))) sNx)
def q1f14f : Py.Env → M Out := (sIf (tst (bin gNeX (bin gEqX (eVar 12) (eC (.int 0))) (eCall 1 F_is_on_plane (aCons (bin gAdd (eSl (eVar 9) oNo (oPart (eVar 11))) (eSl (eVar 9) (oPart (bin gAdd (eVar 11) (eC (.int 1)))) oNo)) aNil)))) (sRet (eC (.bool false))) sNx)
def q1f14 : Py.Env → M Out := (sFor (itEnum (aCons (eVar 10) aNil)) (tgTup 2 (tgsCons (tgN 11) (tgsCons (tgN 12) tgsNil))) q1f14f)
def q1f15 : Py.Env → M Out := (sIf (tst (bin gNeX (cal cReprX (aCons (eVar 6) aNil)) (eVar 7))) (sRet (eC (.bool false))) sNx)
def q1f : Py.Env → M Out := (sSeq q1f1 (sSeq q1f2 (sSeq q1f3 (sSeq q1f4 (sSeq q1f5 (sSeq q1f6 (sSeq q1f7 (sSeq q1f8 (sSeq q1f9 (sSeq q1f10 (sSeq q1f11 (sSeq q1f12 (sSeq q1f13 (sSeq q1f14 q1f15))))))))))))))
def q1 : Py.Env → M Out := (sFor (itRng1 (aCons (eC (.int 4)) aNil)) (tgN 2) q1f)
def q2 : Py.Env → M Out := (sRet (bin gEqX (eCall 1 F_balance_of (aCons (eTup (aCons (eTup (aCons (eC (.int 0)) aNil)) (aCons (eTup (aCons (eC (.int 1)) aNil)) (aCons (eTup (aCons (eC (.int 3)) aNil)) aNil)))) aNil)) (eTup (aCons (eC (.int 2)) (aCons (una gNeg (eC (.int 3))) (aCons (eC (.int 1)) aNil))))))
theorem b_law_eq : b_law = (sSeq q1 q2) := rfl
/-! ### what repr and == want -/
structure RqOk (d : D) : Prop where
  rep : cReprX [d] = ret (.str d.shown)
  shp : Py.shp (.str d.shown) = true
theorem rokq {d : D} (h : rok d) : RqOk d := ⟨by
  show (if rpOk d = true then ret (PyData.str d.shown) else if rpX d = true then ret (.str d.shown) else stuck) = _
  rw [if_pos h.rp], h.shp⟩
theorem neX_self {x : Str} (h : Py.shp (.str x) = true) : gNeX (.str x) (.str x) = ret (.bool false) := by
  show (if (Py.shp (.str x) && Py.shp (.str x)) = true then ret (PyData.bool (!PyData.eqv (.str x) (.str x))) else _) = _
  rw [h, Bool.and_self, if_pos rfl]
  simp [PyData.eqv]
theorem rep_neX {a b : Py.Env → M D} {ρ : Py.Env} {d : D} (ha : a ρ = ret d) (hb : b ρ = ret d) (h : RqOk d) : bin gNeX (cal cReprX (aCons a aNil)) (cal cReprX (aCons b aNil)) ρ = ret (.bool false) := by
  rw [x_bin, x_cal, args_e ha, bnd_ret', h.rep, bnd_ret', x_cal, args_e hb, bnd_ret', h.rep, bnd_ret', neX_self h.shp]
theorem rep_held {a b : Py.Env → M D} {ρ : Py.Env} {d : D} (ha : a ρ = ret d) (hb : b ρ = ret (.str d.shown)) (h : RqOk d) : bin gNeX (cal cReprX (aCons a aNil)) b ρ = ret (.bool false) := by
  rw [x_bin, x_cal, args_e ha, bnd_ret', h.rep, bnd_ret', hb, bnd_ret', neX_self h.shp]
theorem eqX_i (a b : Int) : gEqX (.int a) (.int b) = ret (.bool (decide (a = b))) := by
  show (if (Py.shp (.int a) && Py.shp (.int b)) = true then ret (PyData.bool (PyData.eqv (.int a) (.int b))) else _) = _
  rw [shp_int, shp_int, Bool.and_self, if_pos rfl, eqv_int]
theorem neX_i (a b : Int) : gNeX (.int a) (.int b) = ret (.bool (!decide (a = b))) := by
  show (if (Py.shp (.int a) && Py.shp (.int b)) = true then ret (PyData.bool (!PyData.eqv (.int a) (.int b))) else _) = _
  rw [shp_int, shp_int, Bool.and_self, if_pos rfl, eqv_int]
theorem neX_b (a b : Bool) : gNeX (.bool a) (.bool b) = ret (.bool (!decide (a = b))) := by
  cases a <;> cases b <;> rfl
theorem neX_nil : gNeX (.list []) (.list []) = ret (.bool false) := rfl
theorem rk_lot {n m k : Nat} {L : List (List Int)} (h : ∀ p ∈ L, p.length ≤ m ∧ Bl k p) (hl : L.length ≤ n) (hk : k < 1919) : rk 2 (n * ((m * (k + 5) + 3) + 2) + 3) (lotT L) :=
  rk_tuple (fun d hd => by
    obtain ⟨p, hp, rfl⟩ := List.mem_map.mp hd
    exact rk_ints (xs := p) (k := k) (fun x hx => (h p hp).2 x hx) hk (h p hp).1) (by rw [List.length_map]; exact hl)
structure St (ρ : Py.Env) : Prop where
  len : ρ.length = 16
  src : ρ[1]? = some (some .none)
theorem St.set {ρ : Py.Env} (h : St ρ) {i : Nat} {v : Option D} (hi : i ≠ 1) : St (ρ.set i v) := ⟨by rw [List.length_set, h.len], by rw [List.getElem?_set_ne hi, h.src]⟩
/-- 1 + a number -/
theorem one_pick {ρ : Py.Env} {Q : D → Prop} {m : Int} {e : Py.Env → M D} (h : ρ[1]? = some (some .none)) (he : e ρ = ret (.int m)) (h2 : 2 ≤ m) (h3 : m < 1000) (k : ∀ j : Nat, 1 ≤ j → (j : Int) ≤ m → Q (.int (j : Nat))) : bin gAdd (eC (.int 1)) (eCallS 1 1 F__law_pick (aCons e aNil)) ρ Q := by
  rw [x_bin, x_eC, bnd_ret', bnd_app]
  refine pick_c h he h2 (by omega) fun j j0 j1 => ?_
  rw [x_gAdd_i]
  obtain ⟨q, hq⟩ : ∃ q : Nat, 1 + j = (q : Int) := ⟨(1 + j).toNat, by omega⟩
  rw [hq]
  exact k q (by omega) (by omega)
/-- a drawn table -/
theorem table_c {ρ : Py.Env} {Q : D → Prop} {k : Nat} (s : St ρ) (h3 : ρ[3]? = some (some (.int (k : Nat)))) (k4 : k ≤ 4) (kk : ∀ T : List (List Int), T.length = k → (∀ r ∈ T, r.length = k ∧ Bl 3 r) → Q (lotT T)) :
    cal cTup (aCons (mkL (eLc (itRng1 (aCons (eVar 3) aNil)) (tgN 11) cYes (cal cTup (aCons (mkL (eLc (itRng1 (aCons (eVar 3) aNil)) (tgN 13) cYes (bin gSub (eCallS 1 1 F__law_pick (aCons (eC (.int 9)) aNil)) (eC (.int 4))) [13])) aNil)) [11])) aNil) ρ Q := by
  have r1 : rngOk (k : Int) = true := by simp [rngOk]; omega
  have it : ∀ ρ' : Py.Env, ρ'[3]? = some (some (.int (k : Nat))) → itRng1 (aCons (eVar 3) aNil) ρ' = ret (rangeD 0 k) := fun ρ' h => by rw [x_itRng1, args_1 h, bnd_ret', rng1_i, if_pos r1, Int.toNat_natCast]
  have lk : (rangeD 0 k).length = k := by simp [rangeD]
  rw [x_cal, bnd_app, aCons_app, x_mkL, bnd_app, x_eLc, it ρ h3, bnd_ret', x_wipeD_cons, x_wipeD_nil]
  have key : ∀ (ds : List D) (P : List D → Prop), (∀ T : List (List Int), T.length = ds.length → (∀ r ∈ T, r.length = k ∧ Bl 3 r) → P (T.map tupI)) → lcW (tgN 11) cYes (cal cTup (aCons (mkL (eLc (itRng1 (aCons (eVar 3) aNil)) (tgN 13) cYes (bin gSub (eCallS 1 1 F__law_pick (aCons (eC (.int 9)) aNil)) (eC (.int 4))) [13])) aNil)) (ρ.set 11 none) ds P := by
    intro ds
    induction ds with
    | nil => intro P h; exact h [] rfl (by simp)
    | cons d ds ih =>
      intro P h
      rw [lcN_app]
      have s' : St ((ρ.set 11 none).set 11 (some d)) := (s.set (by decide)).set (by decide)
      have g3 : ((ρ.set 11 none).set 11 (some d))[3]? = some (some (.int (k : Nat))) := by rw [List.getElem?_set_ne (by decide), List.getElem?_set_ne (by decide), h3]
      rw [x_cal, bnd_app, aCons_app, x_mkL, bnd_app, x_eLc, it _ g3, bnd_ret', x_wipeD_cons, x_wipeD_nil]
      refine draws (most := 4) (fun x Q hq => ?_) _ _ fun xs hl hb => ?_
      · rw [x_bin, bnd_app]
        refine pick_c (by rw [List.getElem?_set_ne (by decide), List.getElem?_set_ne (by decide), s'.src]) (x_eC _ _) (by decide) (by decide) fun j j0 j1 => ?_
        rw [x_eC, bnd_ret', gSub_i]
        exact hq _ (by omega) (by omega)
      · rw [ret_app, x_aNil, ret_app, cTup_l, ret_app]
        refine ih _ fun T hT hr => ?_
        refine h (xs :: T) (by simp [hT]) fun r hr' => ?_
        rcases List.mem_cons.mp hr' with rfl | hr'
        · exact ⟨by rw [hl, lk], fun x hx => by have := hb x hx; unfold B; omega⟩
        · exact hr r hr'
  refine key _ _ fun T hT hr => ?_
  rw [ret_app, x_aNil, ret_app, cTup_l]
  exact kk T (by rw [hT, lk]) hr
/-- one of two numbers -/
theorem of2_c {ρ : Py.Env} {Q : D → Prop} (s : St ρ) (k : ∀ m : Int, 1 ≤ m → m ≤ 30 → Q (.int m)) : eCallS 1 1 F__law_of (aCons (mkL (lDisp (aCons (eC (.int 2)) (aCons (eC (.int 30)) aNil)))) aNil) ρ Q := by
  have el : mkL (lDisp (aCons (eC (.int 2)) (aCons (eC (.int 30)) aNil))) ρ = ret (.list [.int 2, .int 30]) := by
    rw [x_mkL, x_lDisp, x_aCons, x_eC, bnd_ret', x_aCons, x_eC, bnd_ret', x_aNil, bnd_ret', bnd_ret', bnd_ret', if_pos (by simp [lenOk]), bnd_ret']
  refine of_c s.src el (.inl rfl) (by simp) (by simp) fun y hy => ?_
  simp only [List.mem_cons, List.not_mem_nil, or_false] at hy
  rcases hy with rfl | rfl
  · exact k 2 (by decide) (by decide)
  · exact k 30 (by decide) (by decide)
/-- a drawn lot -/
theorem lot_c {ρ : Py.Env} {Q : D → Prop} {d : Nat} {e : Py.Env → M D} (s : St ρ) (h5 : ρ[5]? = some (some (.int (d : Nat)))) (d1 : 1 ≤ d) (d3 : d ≤ 3) (he : ∀ R : D → Prop, (∀ n : Nat, 1 ≤ n → n ≤ 6 → (e ρ = ret (.int (n : Nat)) ∨ True) → R (.int (n : Nat))) → e ρ R) (k : ∀ (L : List (List Int)), 1 ≤ L.length → L.length ≤ 6 → (∀ p ∈ L, p.length = d ∧ Bl 6 p) → Q (lotT L)) :
    eCallS 1 3 F__law_lot (aCons (eVar 5) (aCons e (aCons (eCallS 1 1 F__law_of (aCons (mkL (lDisp (aCons (eC (.int 2)) (aCons (eC (.int 30)) aNil)))) aNil)) aNil))) ρ Q := by
  rw [x_eCallS, var_eq s.src, bnd_ret', bnd_app, aCons_app, var_eq h5, ret_app, aCons_app]
  refine he _ fun n n1 n6 _ => ?_
  rw [aCons_app]
  refine of2_c s fun m m1 m30 => ?_
  rw [x_aNil, ret_app, if_pos (by rfl)]
  exact lot_ok d1 d3 n6 m1 m30 fun L hl hp => k L (by omega) (by omega) hp
end L74
namespace L74
open PySem hiding ret
open Py L2 R74
theorem lot_n {ρ : Py.Env} {Q : D → Prop} {d n : Nat} {e : Py.Env → M D} (s : St ρ) (h5 : ρ[5]? = some (some (.int (d : Nat)))) (d1 : 1 ≤ d) (d3 : d ≤ 3) (he : e ρ = ret (.int (n : Nat))) (n6 : n ≤ 6) (k : ∀ (L : List (List Int)), L.length = n → (∀ p ∈ L, p.length = d ∧ Bl 6 p) → Q (lotT L)) :
    eCallS 1 3 F__law_lot (aCons (eVar 5) (aCons e (aCons (eCallS 1 1 F__law_of (aCons (mkL (lDisp (aCons (eC (.int 2)) (aCons (eC (.int 30)) aNil)))) aNil)) aNil))) ρ Q := by
  rw [x_eCallS, var_eq s.src, bnd_ret', bnd_app, aCons_app, var_eq h5, ret_app, aCons_app, he, ret_app, aCons_app]
  refine of2_c s fun m m1 m30 => ?_
  rw [x_aNil, ret_app, if_pos (by rfl)]
  exact lot_ok d1 d3 n6 m1 m30 k
theorem cut_lastI (p : List Int) (x : Int) : cutD (dInts (p ++ [x])) none (some (-1)) = dInts p := by
  rw [show dInts (p ++ [x]) = dInts p ++ [PyData.int x] by simp [dInts], cut_last]
theorem init_e {ρ : Py.Env} {i : Nat} {p : List Int} {x : Int} (h : ρ[i]? = some (some (tupI (p ++ [x])))) : eSl (eVar i) oNo (oPart (una gNeg (eC (.int 1)))) ρ = ret (tupI p) := by
  rw [x_eSl, var_eq h, bnd_ret', x_oNo, bnd_ret', x_oPart, ng_e, bnd_ret', toI_i, bnd_ret']
  show ret (PyData.tuple (cutD (dInts (p ++ [x])) none (some (-1)))) = _
  rw [cut_lastI]
  rfl
theorem keyT_tup (ks : List (List Int)) : keyT ks = ks.map tupI := rfl
theorem dedup_mem : ∀ (ks acc : List (List Int)) (k : List Int), k ∈ ks.foldl putI acc → k ∈ acc ∨ k ∈ ks
  | [], acc, k, h => .inl h
  | x :: ks, acc, k, h => by
    rcases dedup_mem ks (putI acc x) k h with q | q
    · unfold putI at q
      split at q
      · exact .inl q
      · rcases List.mem_append.mp q with q | q
        · exact .inl q
        · rw [List.mem_singleton.mp q]; exact .inr (by simp)
    · exact .inr (List.mem_cons_of_mem _ q)
theorem dedup_len : ∀ (ks acc : List (List Int)), acc.length ≤ (ks.foldl putI acc).length ∧ (ks.foldl putI acc).length ≤ acc.length + ks.length
  | [], acc => ⟨Nat.le_refl _, by simp⟩
  | x :: ks, acc => by
    obtain ⟨h1, h2⟩ := dedup_len ks (putI acc x)
    have h3 : acc.length ≤ (putI acc x).length ∧ (putI acc x).length ≤ acc.length + 1 := by
      unfold putI
      split
      · exact ⟨Nat.le_refl _, by omega⟩
      · simp
    show acc.length ≤ (ks.foldl putI (putI acc x)).length ∧ (ks.foldl putI (putI acc x)).length ≤ acc.length + (ks.length + 1)
    omega
theorem dedup_pos {ks : List (List Int)} (h : 1 ≤ ks.length) : 1 ≤ (dedup ks).length := by
  cases ks with
  | nil => simp at h
  | cons x ks =>
    have := (dedup_len ks (putI [] x)).1
    have e : (putI [] x).length = 1 := rfl
    show 1 ≤ (ks.foldl putI (putI [] x)).length
    omega
/-- a lot drawn onto a plane -/
theorem flat_lot {ρ : Py.Env} {d : Nat} {L : List (List Int)} (s : St ρ) (h6 : ρ[6]? = some (some (lotT L))) (l1 : 1 ≤ L.length) (l6 : L.length ≤ 6) (hp : ∀ p ∈ L, p.length = d ∧ Bl 6 p) (d1 : 1 ≤ d) (d3 : d ≤ 3) :
    ∃ L' : List (List Int), 1 ≤ L'.length ∧ L'.length ≤ 6 ∧ (∀ p ∈ L', p.length = d ∧ Bl 9 p) ∧ cal cTup (aCons (mkL (eSrtP (mkL (eLc (itSeq (eVar 6)) (tgN 15) cYes (eTup (aCons (bin gAdd (eSl (eVar 15) oNo (oPart (una gNeg (eC (.int 1))))) (eTup (aCons (cal cSumX (aCons (eSl (eVar 15) oNo (oPart (una gNeg (eC (.int 1))))) aNil)) aNil))) (aCons (eC (.int 0)) aNil))) [15])))) aNil) ρ = ret (lotT L') := by
  have e := comp_all (ρ := ρ) (its := itSeq (eVar 6)) (tg := tgN 15) (elt := eTup (aCons (bin gAdd (eSl (eVar 15) oNo (oPart (una gNeg (eC (.int 1))))) (eTup (aCons (cal cSumX (aCons (eSl (eVar 15) oNo (oPart (una gNeg (eC (.int 1))))) aNil)) aNil))) (aCons (eC (.int 0)) aNil))) (vs := [15]) tupI (fun p => PyData.tuple [tupI (p.dropLast ++ [p.dropLast.sum]), .int 0]) L (by rw [x_itSeq, var_eq h6, bnd_ret']; rfl) (by
    intro p hp'
    rw [x_wipeD_cons, x_wipeD_nil]
    obtain ⟨q, x, rfl⟩ : ∃ q x, p = q ++ [x] := by
      rcases List.eq_nil_or_concat p with e | ⟨q, x, e⟩
      · have := (hp p hp').1
        rw [e] at this; simp at this; omega
      · exact ⟨q, x, by simpa using e⟩
    have g15 : ((ρ.set 15 none).set 15 (some (tupI (q ++ [x]))))[15]? = some (some (tupI (q ++ [x]))) := set9 (by rw [List.length_set, s.len]; decide)
    refine ⟨_, rfl, ?_⟩
    have e1 := init_e g15
    have lq : q.length ≤ 3 := by have := (hp _ hp').1; simp at this; omega
    have e2 : cal cSumX (aCons (eSl (eVar 15) oNo (oPart (una gNeg (eC (.int 1))))) aNil) ((ρ.set 15 none).set 15 (some (tupI (q ++ [x])))) = ret (.int q.sum) := by
      rw [x_cal, args_e e1, bnd_ret']
      exact cSumX_t q
    refine eTup_2 ?_ (x_eC _ _)
    rw [x_bin, e1, bnd_ret', eTup_1 e2, bnd_ret', tupI, x_gAdd_t, if_pos (by rw [lenOk_def]; simp; omega), List.dropLast_concat, tupI, dInts, dInts, List.map_append]
    rfl)
  have pk : ∀ L : List (List Int), pairKeys (L.map fun p => PyData.tuple [tupI (p.dropLast ++ [p.dropLast.sum]), .int 0]) = some (L.map fun p => p.dropLast ++ [p.dropLast.sum]) := by
    intro L
    induction L with
    | nil => rfl
    | cons p L ih =>
      show (match intsD (dInts (p.dropLast ++ [p.dropLast.sum])), pairKeys (L.map fun p => PyData.tuple [tupI (p.dropLast ++ [p.dropLast.sum]), .int 0]) with | some is, some ks => some (is :: ks) | _, _ => none) = _
      rw [intsD_dInts, ih]
      rfl
  obtain ⟨ks, hks⟩ : ∃ ks, ks = L.map fun p => p.dropLast ++ [p.dropLast.sum] := ⟨_, rfl⟩
  have kd : ∀ k ∈ dedup ks, k.length = d ∧ Bl 9 k := by
    intro k hk
    have hk' : k ∈ ks := by
      rcases dedup_mem ks [] k hk with q | q
      · cases q
      · exact q
    rw [hks] at hk'
    obtain ⟨p, hp', rfl⟩ := List.mem_map.mp hk'
    obtain ⟨lp, bp⟩ := hp p hp'
    refine ⟨by simp [lp]; omega, fun x hx => ?_⟩
    have bd : ∀ x ∈ p.dropLast, B 6 x := fun x hx => bp x (List.dropLast_subset p hx)
    rcases List.mem_append.mp hx with q | q
    · exact (bd x q).mono (by decide)
    · rw [List.mem_singleton.mp q]
      have l2 : p.dropLast.length ≤ 2 := by simp [lp]; omega
      generalize p.dropLast = z at *
      match z, l2 with
      | [], _ => unfold B; decide
      | [a], _ =>
        have := bd a (by simp)
        simp only [List.sum_cons, List.sum_nil]
        unfold B at *; omega
      | [a, b], _ =>
        have := bd a (by simp)
        have := bd b (by simp)
        simp only [List.sum_cons, List.sum_nil]
        unfold B at *; omega
  have lks : ks.length = L.length := by rw [hks, List.length_map]
  have dl := (dedup_len ks []).2
  have dl' : (dedup ks).length ≤ ks.length := by simpa [dedup] using dl
  have dp := dedup_pos (ks := ks) (by omega)
  obtain ⟨K', k1, k2, k3⟩ := sort_tups (dedup ks)
  refine ⟨K', by omega, by omega, fun p hp' => kd p (k2 p hp'), ?_⟩
  have es : eSrtP (mkL (eLc (itSeq (eVar 6)) (tgN 15) cYes (eTup (aCons (bin gAdd (eSl (eVar 15) oNo (oPart (una gNeg (eC (.int 1))))) (eTup (aCons (cal cSumX (aCons (eSl (eVar 15) oNo (oPart (una gNeg (eC (.int 1))))) aNil)) aNil))) (aCons (eC (.int 0)) aNil))) [15])) ρ = ret (K'.map tupI) := by
    have se : ∀ (e : Py.Env → M D), eSrtP e ρ = bnd (e ρ) fun d => match d with
      | .list ds => match pairKeys ds with
        | some ks => if (srtOk (keyT (dedup ks)) && lenOk (keyT (dedup ks)).length) = true then ret ((keyT (dedup ks)).mergeSort leD) else stuck
        | none => stuck
      | _ => stuck := fun _ => rfl
    rw [se, e, bnd_ret']
    show (match pairKeys (L.map fun p => PyData.tuple [tupI (p.dropLast ++ [p.dropLast.sum]), .int 0]) with
        | some ks => if (srtOk (keyT (dedup ks)) && lenOk (keyT (dedup ks)).length) = true then ret ((keyT (dedup ks)).mergeSort leD) else stuck
        | none => stuck) = _
    rw [pk L, ← hks]
    show (if (srtOk (keyT (dedup ks)) && lenOk (keyT (dedup ks)).length) = true then ret ((keyT (dedup ks)).mergeSort leD) else stuck) = _
    rw [keyT_tup, if_pos (by rw [srtOk_tups (fun p hp' => by rw [(kd p hp').1]; exact d1), Bool.true_and, lenOk_def, List.length_map]; omega), k3]
  rw [x_cal, args_e (x := .list (K'.map tupI)) (by rw [x_mkL, es, bnd_ret']), bnd_ret', cTup_l]
  rfl
structure Tn (d : Nat) (L : List (List Int)) (ρ : Py.Env) : Prop where
  st : St ρ
  e5 : ρ[5]? = some (some (.int (d : Nat)))
  e6 : ρ[6]? = some (some (lotT L))
theorem Tn.set {d : Nat} {L : List (List Int)} {ρ : Py.Env} (s : Tn d L ρ) {i : Nat} {v : Option D} (hi : 7 ≤ i) : Tn d L (ρ.set i v) :=
  ⟨s.st.set (by omega), by rw [List.getElem?_set_ne (by omega), s.e5], by rw [List.getElem?_set_ne (by omega), s.e6]⟩
theorem rk_pair {a : Int} {b : Bool} (h : B 10 a) : rk 1 (2 * (13 + 2) + 3) (.list [.int a, .bool b]) := rk_list (m := 0) (s := 13) (n := 2) (fun x hx => by
  simp only [List.mem_cons, List.not_mem_nil, or_false] at hx
  rcases hx with rfl | rfl
  · exact rk_int h (by decide)
  · exact (rk_bool b).mono (by decide) (by decide)) (by simp)
/-- x + (row 0) in the last row's place -/
theorem dup_eq {ρ : Py.Env} {k : Nat} {T : List (List Int)} (h4 : ρ[4]? = some (some (lotT T))) (hT : T.length = k) (k1 : 1 ≤ k) (k4 : k ≤ 4) (hr : ∀ r ∈ T, r.length = k ∧ Bl 3 r) : ∃ T' : List (List Int), T'.length = k ∧ (∀ r ∈ T', r.length = k ∧ Bl 3 r) ∧ q1f3a ρ = ret (.nx (ρ.set 4 (some (lotT T')))) := by
  obtain ⟨U, x, rfl⟩ : ∃ U x, T = U ++ [x] := by
    rcases List.eq_nil_or_concat T with e | ⟨q, x, e⟩
    · rw [e] at hT; simp at hT; omega
    · exact ⟨q, x, by simpa using e⟩
  have g0 : (U ++ [x])[0]? = some ((U ++ [x]).getD 0 []) := getD_some (by omega)
  refine ⟨U ++ [(U ++ [x]).getD 0 []], by simpa using hT, fun r hr' => ?_, ?_⟩
  · rcases List.mem_append.mp hr' with q | q
    · exact hr r (by simp [q])
    · rw [List.mem_singleton.mp q]
      exact hr _ (List.mem_of_getElem? g0)
  · have e1 : eSl (eVar 4) oNo (oPart (una gNeg (eC (.int 1)))) ρ = ret (lotT U) := by
      rw [x_eSl, var_eq h4, bnd_ret', x_oNo, bnd_ret', x_oPart, ng_e, bnd_ret', toI_i, bnd_ret']
      show ret (PyData.tuple (cutD ((U ++ [x]).map tupI) none (some (-1)))) = _
      rw [List.map_append]
      show ret (PyData.tuple (cutD (U.map tupI ++ [tupI x]) none (some (-1)))) = _
      rw [cut_last]
      rfl
    have e2 : bin gIx (eVar 4) (eC (.int 0)) ρ = ret (tupI ((U ++ [x]).getD 0 [])) := by
      rw [x_bin, var_eq h4, bnd_ret', x_eC, bnd_ret']
      exact gIx_t (atI_nat (i := 0) (by rw [List.getElem?_map, g0]; rfl))
    have lU : U.length + 1 = k := by simpa using hT
    rw [q1f3a, x_sAsg, x_bin, e1, bnd_ret', eTup_1 e2, bnd_ret', lotT, x_gAdd_t, if_pos (by rw [lenOk_def]; simp; omega), bnd_ret', lotT, List.map_append]
    rfl
theorem sm_of {k : Nat} {T : List (List Int)} (hT : T.length = k) (hr : ∀ r ∈ T, r.length = k ∧ Bl 3 r) : Sq k T ∧ Sm k T :=
  ⟨⟨hT, fun r h => ⟨(hr r h).1, fun x hx => ((hr r h).2 x hx).mono (by decide)⟩⟩, fun r h => ⟨(hr r h).1, fun x hx => ((hr r h).2 x hx).mono (by decide)⟩⟩
/-- both determinants of a drawn table -/
theorem f4_eq {ρ : Py.Env} {k : Nat} {T : List (List Int)} (s : St ρ) (h4 : ρ[4]? = some (some (lotT T))) (hT : T.length = k) (k1 : 1 ≤ k) (k4 : k ≤ 4) (hr : ∀ r ∈ T, r.length = k ∧ Bl 3 r) (g : Py.Env → M Out) : sSeq q1f4 g ρ = g ρ := by
  obtain ⟨sq, sm⟩ := sm_of hT hr
  have e1 : eCall 1 F_table_determinant (aCons (eVar 4) aNil) ρ = ret (.int (detM T)) := (eCall_1 _ (args_1 h4)).trans (table_eq (c := false) (b := false) k1 k4 sq)
  have el : mkL (eLc (itSeq (eVar 4)) (tgN 14) cYes (mkL (calL cLst (aCons (eVar 14) aNil))) [14]) ρ = ret (dL T) := by
    have e := comp_all (ρ := ρ) (its := itSeq (eVar 4)) (tg := tgN 14) (elt := mkL (calL cLst (aCons (eVar 14) aNil))) (vs := [14]) tupI lstI T (by rw [x_itSeq, var_eq h4, bnd_ret']; rfl) (by
      intro p hp
      rw [x_wipeD_cons, x_wipeD_nil]
      refine ⟨_, rfl, ?_⟩
      rw [x_mkL, x_calL, args_1 (x := tupI p) (set9 (by rw [List.length_set, s.len]; decide)), bnd_ret']
      rfl)
    rw [e]
    rfl
  have e2 : eCall 1 F__law_turns (aCons (mkL (eLc (itSeq (eVar 4)) (tgN 14) cYes (mkL (calL cLst (aCons (eVar 14) aNil))) [14])) aNil) ρ = ret (.int (detM T)) := (eCall_1 _ (args_e el)).trans (turns_eq k1 k4 sq)
  rw [q1f4, if_no (tst_b (rep_neX e1 e2 (rokq (rk_int (det_B hT k4 sm) (by decide)).ok)))]
end L74
namespace L74
open PySem hiding ret
open Py L2 R74
/-- the second half of a turn, on the lot of d + 2 points -/
theorem dot_eq {W : List Int} {T : List (List Int)} (hl : W.length = T.length) (q : Nat) : comb W T q = ((W.zip T).map fun z => z.1 * at' z.2 q).sum := by
  induction W generalizing T with
  | nil => rw [comb_nil]; rfl
  | cons w W ih =>
    cases T with
    | nil => simp at hl
    | cons v T =>
      show w * at' v q + comb W T q = _
      rw [ih (by simpa using hl)]
      simp
theorem sum_told {d : Nat} {S : List (List Int)} (h : Lb d S) : (wdv (balT (ones S))).sum = 0 := by
  have e := told_dots h 0
  have l : (wdv (balT (ones S))).length = (ones S).length := by rw [told_len, Lt.ones_len]
  generalize wdv (balT (ones S)) = W at *
  rw [dot_eq l 0] at e
  have : (W.zip (ones S)).map (fun z => z.1 * at' z.2 0) = W := by
    have key : ∀ (W : List Int) (S : List (List Int)), W.length = (ones S).length → (W.zip (ones S)).map (fun z => z.1 * at' z.2 0) = W := by
      intro W
      induction W with
      | nil => intro S _; rfl
      | cons w W ih =>
        intro S hl
        cases S with
        | nil => simp [ones] at hl
        | cons p S =>
          show w * at' (1 :: p) 0 :: (W.zip (ones S)).map (fun z => z.1 * at' z.2 0) = w :: W
          rw [ih S (by simpa [ones] using hl), show at' (1 :: p) 0 = 1 from rfl, Int.mul_one]
    exact key W S l
  rw [this] at e
  exact e
theorem dots_told {d j : Nat} {S : List (List Int)} (h : Lb d S) : (((wdv (balT (ones S))).zip S).map fun z => z.1 * at' z.2 j).sum = 0 := by
  have e := told_dots h (j + 1)
  have l : (wdv (balT (ones S))).length = (ones S).length := by rw [told_len, Lt.ones_len]
  generalize wdv (balT (ones S)) = W at *
  rw [dot_eq l (j + 1)] at e
  have key : ∀ (W : List Int) (S : List (List Int)), (W.zip (ones S)).map (fun z => z.1 * at' z.2 (j + 1)) = (W.zip S).map fun z => z.1 * at' z.2 j := by
    intro W
    induction W with
    | nil => intro S; rfl
    | cons w W ih =>
      intro S
      cases S with
      | nil => rfl
      | cons p S =>
        show w * at' (1 :: p) (j + 1) :: (W.zip (ones S)).map (fun z => z.1 * at' z.2 (j + 1)) = w * at' p j :: (W.zip S).map fun z => z.1 * at' z.2 j
        rw [ih S]
        rfl
  rw [← key W S]
  exact e
structure Un (d : Nat) (L S : List (List Int)) (ρ : Py.Env) : Prop where
  tn : Tn d L ρ
  e7 : ρ[7]? = some (some (.str (lotT L).shown))
  e9 : ρ[9]? = some (some (lotT S))
  e10 : ρ[10]? = some (some (tupI (wdv (balT (ones S)))))
theorem Un.set {d : Nat} {L S : List (List Int)} {ρ : Py.Env} (s : Un d L S ρ) {i : Nat} {v : Option D} (hi : 11 ≤ i) : Un d L S (ρ.set i v) :=
  ⟨s.tn.set (by omega), by rw [List.getElem?_set_ne (by omega), s.e7], by rw [List.getElem?_set_ne (by omega), s.e9], by rw [List.getElem?_set_ne (by omega), s.e10]⟩
section
variable {d : Nat} {L S : List (List Int)} {ρ : Py.Env}
theorem f12_eq (u : Un d L S ρ) (h : Lb d S) (g : Py.Env → M Out) : sSeq q1f12 g ρ = g ρ := by
  have d3 := h.d3
  have rk := rk_ints (xs := wdv (balT (ones S))) (k := 31) (n := 5) (told_B h) (by decide) (by rw [told_len, h.n]; omega)
  have e2 : eCall 1 F__law_balance (aCons (eVar 9) aNil) ρ = ret (tupI (wdv (balT (ones S)))) := (eCall_1 _ (args_1 u.e9)).trans (lawbalance_eq h)
  have t1 := tst_b (rep_neX (var_eq u.e10) e2 (rokq rk.ok))
  have t2 : tst (bin gNeX (cal cSumX (aCons (eVar 10) aNil)) (eC (.int 0))) ρ = ret false := by
    refine tst_b ?_
    rw [x_bin, x_cal, args_1 u.e10, bnd_ret', show cSumX [tupI (wdv (balT (ones S)))] = _ from cSumX_t _, sum_told h, bnd_ret', x_eC, bnd_ret', neX_i]
    rfl
  rw [q1f12, if_no (or_no t1 t2)]
theorem f13_eq (u : Un d L S ρ) (h : Lb d S) (g : Py.Env → M Out) : sSeq q1f13 g ρ = g ρ := by
  have d3 := h.d3
  have r1 : rngOk (d : Int) = true := by simp [rngOk]; omega
  obtain ⟨W, hW⟩ : ∃ W, W = wdv (balT (ones S)) := ⟨_, rfl⟩
  have BW : Bl 31 W := hW ▸ told_B h
  have e10 := u.e10
  rw [← hW] at e10
  have e := comp_map (ρ := ρ) (its := itRng1 (aCons (eVar 5) aNil)) (tg := tgN 13) (cond := tst (bin gNeX (cal cSumX (aCons (mkL (eLc (itZip (aCons (eVar 10) (aCons (eVar 9) aNil))) (tgTup 2 (tgsCons (tgN 12) (tgsCons (tgN 15) tgsNil))) cYes (bin gMulX (eVar 12) (bin gIx (eVar 15) (eVar 13))) [12, 15])) aNil)) (eC (.int 0)))) (elt := eVar 13) (vs := [13]) (fun j : Nat => PyData.int (j : Nat)) (fun _ => false) (fun j : Nat => PyData.int (j : Nat)) (List.range d) (by
    rw [x_itRng1, args_1 u.tn.e5, bnd_ret', rng1_i, if_pos r1, Int.toNat_natCast]
    simp [rangeD]) (by
    intro j hj
    rw [x_wipeD_cons, x_wipeD_nil]
    have hj' := List.mem_range.mp hj
    have u' : Un d L S ((ρ.set 13 none).set 13 (some (.int (j : Nat)))) := (u.set (by decide)).set (by decide)
    have g13 : ((ρ.set 13 none).set 13 (some (.int (j : Nat))))[13]? = some (some (.int (j : Nat))) := set9 (by rw [List.length_set, u.tn.st.len]; decide)
    refine ⟨_, rfl, tst_b ?_, fun z => by cases z⟩
    generalize (ρ.set 13 none).set 13 (some (.int (j : Nat))) = ρ' at *
    have e10' := u'.e10
    rw [← hW] at e10'
    have zl : itZip (aCons (eVar 10) (aCons (eVar 9) aNil)) ρ' = ret ((W.zip S).map fun z => PyData.tuple [.int z.1, tupI z.2]) := by
      rw [x_itZip, args_2 e10' u'.e9, bnd_ret', zip2_2]
      show bnd (ret (dInts W)) _ = _
      rw [bnd_ret']
      show bnd (ret (S.map tupI)) _ = _
      rw [bnd_ret']
      congr 1
      have key : ∀ (W : List Int) (S : List (List Int)), zipD (dInts W) (S.map tupI) = (W.zip S).map fun z => PyData.tuple [.int z.1, tupI z.2] := by
        intro W
        induction W with
        | nil => intro S; rfl
        | cons w W ih =>
          intro S
          cases S with
          | nil => rfl
          | cons p S =>
            show PyData.tuple [.int w, tupI p] :: zipD (dInts W) (S.map tupI) = _
            rw [ih S]
            rfl
      exact key W S
    have e2 := comp_all (ρ := ρ') (its := itZip (aCons (eVar 10) (aCons (eVar 9) aNil))) (tg := tgTup 2 (tgsCons (tgN 12) (tgsCons (tgN 15) tgsNil))) (elt := bin gMulX (eVar 12) (bin gIx (eVar 15) (eVar 13))) (vs := [12, 15]) (fun z : Int × List Int => PyData.tuple [.int z.1, tupI z.2]) (fun z => .int (z.1 * at' z.2 j)) (W.zip S) zl (by
      intro z hz
      have z1 := BW _ (List.of_mem_zip hz).1
      have z2 := h.bd _ (List.of_mem_zip hz).2
      have zl := h.len _ (List.of_mem_zip hz).2
      refine ⟨_, tgAB, ?_⟩
      simp only [x_wipeD_cons, x_wipeD_nil]
      have l16 := u'.tn.st.len
      have c12 : ((((ρ'.set 15 none).set 12 none).set 12 (some (.int z.1))).set 15 (some (tupI z.2)))[12]? = some (some (.int z.1)) := by
        rw [List.getElem?_set_ne (by decide), set9 (by simp only [List.length_set]; omega)]
      have c15 : ((((ρ'.set 15 none).set 12 none).set 12 (some (.int z.1))).set 15 (some (tupI z.2)))[15]? = some (some (tupI z.2)) := set9 (by simp only [List.length_set]; omega)
      have c13 : ((((ρ'.set 15 none).set 12 none).set 12 (some (.int z.1))).set 15 (some (tupI z.2)))[13]? = some (some (.int (j : Nat))) := by
        rw [List.getElem?_set_ne (by decide), List.getElem?_set_ne (by decide), List.getElem?_set_ne (by decide), List.getElem?_set_ne (by decide), g13]
      have gj : z.2[j]? = some (at' z.2 j) := getD_some (by omega)
      have ix : gIx (tupI z.2) (.int (j : Nat)) = ret (.int (at' z.2 j)) := gIx_t (atI_nat (by rw [dInts, List.getElem?_map, gj]; rfl))
      rw [x_bin, var_eq c12, bnd_ret', x_bin, var_eq c15, bnd_ret', var_eq c13, bnd_ret', ix, bnd_ret', x_gMulX_i, if_pos (mulq z1 (at_B z2 j))])
    have es : dInts ((W.zip S).map fun z => z.1 * at' z.2 j) = (W.zip S).map fun z => PyData.int (z.1 * at' z.2 j) := by rw [dInts, List.map_map]; rfl
    rw [x_bin, x_cal, args_e e2, bnd_ret', ← es, cSumX_l, hW, dots_told h, bnd_ret', x_eC, bnd_ret', neX_i]
    rfl)
  rw [q1f13, if_no (tst_b ?_)]
  rw [x_bin, e, bnd_ret', lnil_e, bnd_ret', List.filter_eq_nil_iff.mpr (by simp)]
  exact neX_nil
/-- one told number and the plane of the others -/
theorem f14_one (u : Un d L S ρ) (h : Lb d S) {i : Nat} (hi : i < S.length) (h11 : ρ[11]? = some (some (.int (i : Nat)))) (h12 : ρ[12]? = some (some (.int (at' (wdv (balT (ones S))) i)))) : q1f14f ρ = ret (.nx ρ) := by
  have d1 := h.d1
  have d3 := h.d3
  have lt : Lt d (S.take i ++ S.drop (i + 1)) := by
    have l : (S.take i ++ S.drop (i + 1)).length = d + 1 := by
      rw [List.length_append, List.length_take, List.length_drop, h.n]
      have := h.n
      omega
    exact ⟨by omega, by omega, fun p hp => h.len p (dropR_mem hp), fun p hp x hx => (h.bd p (dropR_mem hp) x hx).mono (by decide), d1, d3⟩
  have e1 : bin gAdd (eSl (eVar 9) oNo (oPart (eVar 11))) (eSl (eVar 9) (oPart (bin gAdd (eVar 11) (eC (.int 1)))) oNo) ρ = ret (lotT (S.take i ++ S.drop (i + 1))) := by
    have c1 : eSl (eVar 9) oNo (oPart (eVar 11)) ρ = ret (.tuple ((S.take i).map tupI)) := by
      rw [x_eSl, var_eq u.e9, bnd_ret', x_oNo, bnd_ret', x_oPart, var_eq h11, bnd_ret', toI_i, bnd_ret']
      show ret (PyData.tuple (cutD (S.map tupI) none (some ((i : Nat) : Int)))) = _
      rw [cutD_to (by rw [List.length_map]; omega), ← List.map_take]
    have c2 : eSl (eVar 9) (oPart (bin gAdd (eVar 11) (eC (.int 1)))) oNo ρ = ret (.tuple ((S.drop (i + 1)).map tupI)) := by
      rw [x_eSl, var_eq u.e9, bnd_ret', x_oPart, x_bin, var_eq h11, bnd_ret', x_eC, bnd_ret', x_gAdd_i, bnd_ret', toI_i, bnd_ret', x_oNo, bnd_ret']
      show ret (PyData.tuple (cutD (S.map tupI) (some ((i + 1 : Nat) : Int)) none)) = _
      rw [cutD_from (by rw [List.length_map]; omega), ← List.map_drop]
    rw [x_bin, c1, bnd_ret', c2, bnd_ret', x_gAdd_t, if_pos (by rw [lenOk_def]; simp [h.n]; omega), ← List.map_append]
    rfl
  have e2 : eCall 1 F_is_on_plane (aCons (bin gAdd (eSl (eVar 9) oNo (oPart (eVar 11))) (eSl (eVar 9) (oPart (bin gAdd (eVar 11) (eC (.int 1)))) oNo)) aNil) ρ = ret (.bool (decide (at' (wdv (balT (ones S))) i = 0))) := by
    rw [(eCall_1 F_is_on_plane (args_e e1)).trans (plane_eq lt)]
    congr 2
    rw [decide_eq_decide, told_zero h hi]
    omega
  have e3 : bin gEqX (eVar 12) (eC (.int 0)) ρ = ret (.bool (decide (at' (wdv (balT (ones S))) i = 0))) := by rw [x_bin, var_eq h12, bnd_ret', x_eC, bnd_ret', eqX_i]
  rw [q1f14f, x_sIf, tst_b (b := false), bnd_ret', if_neg Bool.false_ne_true, x_sNx]
  rw [x_bin, e3, bnd_ret', e2, bnd_ret', neX_b]
  simp
theorem f14_loop (h : Lb d S) : ∀ (xs : List Int) (i : Nat) (ρ : Py.Env), Un d L S ρ → (wdv (balT (ones S))).drop i = xs → i + xs.length = S.length → ∃ ρ', Un d L S ρ' ∧ forW (tgTup 2 (tgsCons (tgN 11) (tgsCons (tgN 12) tgsNil))) q1f14f (enumD i (dInts xs)) ρ = ret (.nx ρ')
  | [], i, ρ, u, _, _ => ⟨ρ, u, rfl⟩
  | x :: xs, i, ρ, u, hd, hl => by
    rw [List.length_cons] at hl
    have hx : at' (wdv (balT (ones S))) i = x := by
      have := congrArg (fun l => l[0]?) hd
      simp only [List.getElem?_drop, Nat.add_zero, List.getElem?_cons_zero] at this
      unfold at'
      rw [List.getD_eq_getElem?_getD, this]
      rfl
    have u' : Un d L S ((ρ.set 11 (some (.int (i : Nat)))).set 12 (some (.int x))) := (u.set (by decide)).set (by decide)
    have l16 := u.tn.st.len
    have e := f14_one (i := i) u' h (by omega) (by rw [List.getElem?_set_ne (by decide), set9 (by omega)]) (by rw [hx]; exact set9 (by rw [List.length_set]; omega))
    obtain ⟨ρ', a1, a2⟩ := f14_loop h xs (i + 1) _ u' (by
      have := congrArg (List.drop 1) hd
      rw [List.drop_drop] at this
      simpa [Nat.add_comm] using this) (by omega)
    refine ⟨ρ', a1, ?_⟩
    show forW _ _ (PyData.tuple [.int (i : Nat), .int x] :: enumD (i + 1) (dInts xs)) _ = _
    rw [forW_cons, tgAB, bnd_ret', e, bnd_ret', oLoop_nx]
    exact a2
end
end L74
namespace L74
open PySem hiding ret
open Py L2 R74
theorem St.app {ρ : Py.Env} (s : St ρ) {i : Nat} {d : D} (hi : i < 16) : (ρ.set i (some d))[i]? = some (some d) := set9 (by rw [s.len]; exact hi)
theorem tail_ok {d : Nat} {L : List (List Int)} {ρ : Py.Env} {P : Out → Prop} (t : Tn d L ρ) (l1 : 1 ≤ L.length) (l6 : L.length ≤ 6) (hp : ∀ p ∈ L, p.length = d ∧ Bl 9 p) (d1 : 1 ≤ d) (d3 : d ≤ 3) (k : ∀ ρ', St ρ' → P (.nx ρ')) :
    (sSeq q1f8 (sSeq q1f9 (sSeq q1f10 (sSeq q1f11 (sSeq q1f12 (sSeq q1f13 (sSeq q1f14 q1f15))))))) ρ P := by
  have lt : Lt d L := ⟨l1, l6, fun p h => (hp p h).1, fun p h => (hp p h).2, d1, d3⟩
  have rL := rk_lot (n := 6) (m := 3) (k := 9) (L := L) (fun p h => ⟨by rw [(hp p h).1]; exact d3, (hp p h).2⟩) l6 (by decide)
  have qL : RqOk (lotT L) := rokq rL.ok
  obtain ⟨I, inv⟩ := inv_lines (m := d + 1) (T := ones L) (fun r hr => (lt.rows r hr).2)
  have rk := (rank_le inv).1
  obtain ⟨r, hr⟩ : ∃ r, r = (lines (ones L)).length := ⟨_, rfl⟩
  have e1 : cal cReprX (aCons (eVar 6) aNil) ρ = ret (.str (lotT L).shown) := by rw [x_cal, args_1 t.e6, bnd_ret', qL.rep]
  have e2 : eCall 1 F__law_flat (aCons (eVar 6) aNil) ρ = ret (.int ((r : Nat) - 1)) := by rw [(eCall_1 F__law_flat (args_1 t.e6)).trans (lawflat_eq lt), hr]
  have f8 : q1f8 ρ = ret (.nx ((ρ.set 7 (some (.str (lotT L).shown))).set 8 (some (.int ((r : Nat) - 1))))) := by
    rw [q1f8, x_sPar, x_aCons, e1, bnd_ret', args_e e2, bnd_ret', bnd_ret', par2_2]
  rw [seq_nx f8]
  have t1 : Tn d L ((ρ.set 7 (some (.str (lotT L).shown))).set 8 (some (.int ((r : Nat) - 1)))) := (t.set (by decide)).set (by decide)
  have g7 : ((ρ.set 7 (some (.str (lotT L).shown))).set 8 (some (.int ((r : Nat) - 1))))[7]? = some (some (.str (lotT L).shown)) := by rw [List.getElem?_set_ne (by decide), t.st.app (by decide)]
  have g8 : ((ρ.set 7 (some (.str (lotT L).shown))).set 8 (some (.int ((r : Nat) - 1))))[8]? = some (some (.int ((r : Nat) - 1))) := set9 (by rw [List.length_set, t.st.len]; decide)
  generalize ((ρ.set 7 (some (.str (lotT L).shown))).set 8 (some (.int ((r : Nat) - 1)))) = ρ1 at *
  have x1 : eCall 1 F_flat_size (aCons (eVar 6) aNil) ρ1 = ret (.int ((r : Nat) - 1)) := by rw [(eCall_1 F_flat_size (args_1 t1.e6)).trans (flat_eq lt), hr]
  have x2 : eCall 1 F_is_on_plane (aCons (eVar 6) aNil) ρ1 = ret (.bool (decide (((r : Nat) : Int) - 1 < (d : Nat)))) := by rw [(eCall_1 F_is_on_plane (args_1 t1.e6)).trans (plane_eq lt), hr]
  have x3 : bin gLt (eVar 8) (eVar 5) ρ1 = ret (.bool (decide (((r : Nat) : Int) - 1 < (d : Nat)))) := by
    rw [x_bin, var_eq g8, bnd_ret', var_eq t1.e5, bnd_ret']
    rfl
  have li : ∀ {a b : Py.Env → M D} {x y : D}, a ρ1 = ret x → b ρ1 = ret y → mkL (lDisp (aCons a (aCons b aNil))) ρ1 = ret (.list [x, y]) := fun ha hb => by
    rw [x_mkL, x_lDisp, x_aCons, ha, bnd_ret', args_e hb, bnd_ret', bnd_ret', if_pos (by simp [lenOk]), bnd_ret']
  have f9 := tst_b (rep_neX (li x1 x2) (li (var_eq g8) x3) (rokq (rk_pair (b := decide (((r : Nat) : Int) - 1 < (d : Nat))) (show B 10 (((r : Nat) : Int) - 1) by unfold B; omega)).ok))
  rw [q1f9, if_no f9]
  have ed : bin gAdd (eVar 5) (eC (.int 2)) ρ1 = ret (.int ((d + 2 : Nat) : Int)) := by
    rw [x_bin, var_eq t1.e5, bnd_ret', x_eC, bnd_ret', x_gAdd_i]
    rfl
  rw [q1f10, x_sSeq, bnd_app, x_sAsg, bnd_app]
  refine lot_n t1.st t1.e5 d1 d3 ed (by omega) fun S hS hpS => ?_
  have hb : Lb d S := ⟨hS, fun p h => (hpS p h).1, fun p h => (hpS p h).2, d1, d3⟩
  rw [ret_app, oThen_nx]
  have t2 : Tn d L (ρ1.set 9 (some (lotT S))) := t1.set (by decide)
  have y7 : (ρ1.set 9 (some (lotT S)))[7]? = some (some (.str (lotT L).shown)) := by rw [List.getElem?_set_ne (by decide), g7]
  have y9 : (ρ1.set 9 (some (lotT S)))[9]? = some (some (lotT S)) := t1.st.app (by decide)
  generalize (ρ1.set 9 (some (lotT S))) = ρ2 at *
  have e11 : eCall 1 F_balance_of (aCons (eVar 9) aNil) ρ2 = ret (tupI (wdv (balT (ones S)))) := (eCall_1 _ (args_1 y9)).trans (balance_eq hb)
  rw [q1f11, asg_nx e11]
  have u : Un d L S (ρ2.set 10 (some (tupI (wdv (balT (ones S)))))) := ⟨t2.set (by decide), by rw [List.getElem?_set_ne (by decide), y7], by rw [List.getElem?_set_ne (by decide), y9], t2.st.app (by decide)⟩
  generalize (ρ2.set 10 (some (tupI (wdv (balT (ones S)))))) = ρ3 at *
  rw [f12_eq u hb, f13_eq u hb]
  have it : itEnum (aCons (eVar 10) aNil) ρ3 = ret (enumD 0 (dInts (wdv (balT (ones S))))) := by
    rw [x_itEnum, args_1 u.e10, bnd_ret']
    rfl
  obtain ⟨ρ4, u4, e4⟩ := f14_loop hb (wdv (balT (ones S))) 0 ρ3 u rfl (by rw [told_len]; omega)
  rw [x_sSeq, q1f14, x_sFor, it, bnd_ret', e4, bnd_ret', oThen_nx]
  rw [q1f15, x_sIf, tst_b (rep_held (var_eq u4.tn.e6) (var_eq u4.e7) qL), bnd_ret', if_neg Bool.false_ne_true, x_sNx]
  exact k ρ4 u4.tn.st
theorem turn_ok {ρ : Py.Env} {P : Out → Prop} (s : St ρ) (k : ∀ ρ', St ρ' → P (.nx ρ')) : q1f ρ P := by
  rw [q1f, x_sSeq, bnd_app, q1f1, x_sAsg, bnd_app]
  refine one_pick s.src (x_eC _ _) (by decide) (by decide) fun n n1 n4 => ?_
  rw [ret_app, oThen_nx]
  have n4' : n ≤ 4 := by omega
  have s3 : St (ρ.set 3 (some (.int (n : Nat)))) := s.set (by decide)
  have v3 : (ρ.set 3 (some (.int (n : Nat))))[3]? = some (some (.int (n : Nat))) := s.app (by decide)
  generalize (ρ.set 3 (some (.int (n : Nat)))) = ρ1 at *
  rw [x_sSeq, bnd_app, q1f2, x_sAsg, bnd_app]
  refine table_c s3 v3 n4' fun T hT hr => ?_
  rw [ret_app, oThen_nx]
  have s4 : St (ρ1.set 4 (some (lotT T))) := s3.set (by decide)
  have v4 : (ρ1.set 4 (some (lotT T)))[4]? = some (some (lotT T)) := s3.app (by decide)
  generalize (ρ1.set 4 (some (lotT T))) = ρ2 at *
  -- behind the table
  have rest : ∀ (ρ : Py.Env) (T : List (List Int)), St ρ → ρ[4]? = some (some (lotT T)) → T.length = n → (∀ r ∈ T, r.length = n ∧ Bl 3 r) → (sSeq q1f4 (sSeq q1f5 (sSeq q1f6 (sSeq q1f7 (sSeq q1f8 (sSeq q1f9 (sSeq q1f10 (sSeq q1f11 (sSeq q1f12 (sSeq q1f13 (sSeq q1f14 q1f15))))))))))) ρ P := by
    intro ρ T s h4 hT hr
    rw [f4_eq s h4 hT n1 n4' hr, x_sSeq, bnd_app, q1f5, x_sAsg, bnd_app]
    refine one_pick s.src (x_eC _ _) (by decide) (by decide) fun d d1 d3 => ?_
    rw [ret_app, oThen_nx]
    have d3' : d ≤ 3 := by omega
    have s5 : St (ρ.set 5 (some (.int (d : Nat)))) := s.set (by decide)
    have v5 : (ρ.set 5 (some (.int (d : Nat))))[5]? = some (some (.int (d : Nat))) := s.app (by decide)
    generalize (ρ.set 5 (some (.int (d : Nat)))) = ρ3 at *
    rw [x_sSeq, bnd_app, q1f6, x_sAsg, bnd_app]
    refine lot_c s5 v5 d1 d3' (fun R hR => one_pick s5.src (x_eC _ _) (by decide) (by decide) fun m m1 m6 => hR m m1 (by omega) (.inr trivial)) fun L l1 l6 hp => ?_
    rw [ret_app, oThen_nx]
    have t : Tn d L (ρ3.set 6 (some (lotT L))) := ⟨s5.set (by decide), by rw [List.getElem?_set_ne (by decide), v5], s5.app (by decide)⟩
    generalize (ρ3.set 6 (some (lotT L))) = ρ4 at *
    have hp9 : ∀ p ∈ L, p.length = d ∧ Bl 9 p := fun p h => ⟨(hp p h).1, fun x hx => ((hp p h).2 x hx).mono (by decide)⟩
    rw [x_sSeq, bnd_app, q1f7, x_sIf, bnd_app, bAnd_app, tst_app, x_bin, bnd_app]
    refine pick_c t.st.src (x_eC _ _) (by decide) (by decide) fun j j0 j1 => ?_
    rw [x_eC, bnd_ret', eqX_i, ret_app, toB_b, ret_app]
    have go : ∀ b : Bool, (if b = true then q1f7a ρ4 else sNx ρ4) (fun o => oThen o (sSeq q1f8 (sSeq q1f9 (sSeq q1f10 (sSeq q1f11 (sSeq q1f12 (sSeq q1f13 (sSeq q1f14 q1f15))))))) P) := by
      intro b
      cases b with
      | true =>
        rw [if_pos rfl]
        obtain ⟨L', k1, k2, k3, k4⟩ := flat_lot t.st t.e6 l1 l6 hp d1 d3'
        rw [q1f7a, x_sAsg, k4, bnd_ret', ret_app, oThen_nx]
        have t' : Tn d L' (ρ4.set 6 (some (lotT L'))) := ⟨t.st.set (by decide), by rw [List.getElem?_set_ne (by decide), t.e5], t.st.app (by decide)⟩
        exact tail_ok t' k1 k2 k3 d1 d3' k
      | false =>
        rw [if_neg Bool.false_ne_true, x_sNx, ret_app, oThen_nx]
        exact tail_ok t l1 l6 hp9 d1 d3' k
    by_cases z : j = 0
    · rw [decide_eq_true z, if_pos rfl, tst_app, x_bin, var_eq t.e5, bnd_ret', x_eC, bnd_ret', gGt0, ret_app, toB_b, ret_app]
      exact go _
    · rw [decide_eq_false z, if_neg Bool.false_ne_true, ret_app]
      exact go false
  rw [x_sSeq, bnd_app, q1f3, x_sIf, bnd_app, tst_app, x_bin, bnd_app]
  refine pick_c s4.src (x_eC _ _) (by decide) (by decide) fun j j0 j1 => ?_
  rw [x_eC, bnd_ret', eqX_i, ret_app, toB_b, ret_app]
  by_cases z : j = 0
  · rw [decide_eq_true z, if_pos rfl]
    obtain ⟨T', h1, h2, h3⟩ := dup_eq v4 hT n1 n4' hr
    rw [h3, ret_app, oThen_nx]
    exact rest _ T' (s4.set (by decide)) (s4.app (by decide)) h1 h2
  · rw [decide_eq_false z, if_neg Bool.false_ne_true, x_sNx, ret_app, oThen_nx]
    exact rest ρ2 T s4 v4 hT hr
theorem turns_ok {P : Out → Prop} : ∀ (is : List Int) (ρ : Py.Env), St ρ → (∀ ρ', St ρ' → P (.nx ρ')) → forW (tgN 2) q1f (is.map .int) ρ P
  | [], ρ, s, k => k ρ s
  | i :: is, ρ, s, k => by
    rw [List.map_cons, forW_cons, x_tgN, bnd_ret', bnd_app]
    refine turn_ok (s.set (by decide)) fun ρ' s' => ?_
    rw [oLoop_nx]
    exact turns_ok is ρ' s' k
def Lx : List (List Int) := [[0], [1], [3]]
theorem q2_eq {ρ : Py.Env} : q2 ρ = ret (.rt (.bool true)) := by
  have hb : Lb 1 Lx := ⟨rfl, fun p hp => by
      simp only [Lx, List.mem_cons, List.not_mem_nil, or_false] at hp
      rcases hp with rfl | rfl | rfl <;> rfl, fun p hp x hx => by
      simp only [Lx, List.mem_cons, List.not_mem_nil, or_false] at hp
      rcases hp with rfl | rfl | rfl <;> (rw [List.mem_singleton.mp hx]; unfold B; decide), by decide, by decide⟩
  have e := balance_eq hb
  have w : wdv (balT (ones Lx)) = [2, -3, 1] := by decide +kernel
  rw [w] at e
  have ea : eTup (aCons (eTup (aCons (eC (.int 0)) aNil)) (aCons (eTup (aCons (eC (.int 1)) aNil)) (aCons (eTup (aCons (eC (.int 3)) aNil)) aNil))) ρ = ret (lotT Lx) := eTup_3 (eTup_1 (x_eC _ _)) (eTup_1 (x_eC _ _)) (eTup_1 (x_eC _ _))
  have eb : eTup (aCons (eC (.int 2)) (aCons (una gNeg (eC (.int 3))) (aCons (eC (.int 1)) aNil))) ρ = ret (tupI [2, -3, 1]) := eTup_3 (x_eC _ _) ng_e (x_eC _ _)
  have q : gEqX (tupI [2, -3, 1]) (tupI [2, -3, 1]) = ret (.bool true) := by
    show (if (Py.shp (tupI [2, -3, 1]) && Py.shp (tupI [2, -3, 1])) = true then ret (PyData.bool (PyData.eqv (tupI [2, -3, 1]) (tupI [2, -3, 1]))) else _) = _
    rw [shp_intsT, Bool.and_self, if_pos rfl]
    congr 2
  rw [q2, x_sRet, x_bin, (eCall_1 _ (args_e ea)).trans e, bnd_ret', eb, bnd_ret', q, bnd_ret']
theorem law_true : b_law (none :: some .none :: List.replicate 14 none) (fun o => o = .rt (.bool true)) := by
  have e : itRng1 (aCons (eC (.int 4)) aNil) (none :: some .none :: List.replicate 14 none) = ret (([0, 1, 2, 3] : List Int).map .int) := by
    rw [x_itRng1, x_aCons, x_eC, bnd_ret', x_aNil, bnd_ret', bnd_ret', rng1_i, if_pos (by decide)]
    rfl
  rw [b_law_eq, x_sSeq, q1, x_sFor, e, bnd_ret', bnd_app]
  refine turns_ok _ _ ⟨rfl, rfl⟩ fun ρ s => ?_
  rw [oThen_nx, q2_eq]
  rfl
end L74
namespace L74
open PySem PySem.Spec PyProof.Rows L2 Py StX
def topS (i : Nat) : Stmt := PySem.Challenge.pw_cornersmet_k74_whole_flats_and_balances.main.body.getD i (.Pass ⟨0, 0, 0, 0⟩)
abbrev s_divisor_of_all : Stmt := topS 2
theorem sc_divisor_of_all : FnScope ["numbers", "found", "number"] ["numbers"] (defScope s_divisor_of_all) := ⟨rfl, rfl, rfl, by decide +kernel, rfl, by decide +kernel, by decide +kernel⟩
abbrev s_lines_reduced : Stmt := topS 3
theorem sc_lines_reduced : FnScope ["rows", "found", "row", "line", "place", "late", "common", "x", "y"] ["rows"] (defScope s_lines_reduced) := ⟨rfl, rfl, rfl, by decide +kernel, rfl, by decide +kernel, by decide +kernel⟩
abbrev s_with_one : Stmt := topS 4
theorem sc_with_one : FnScope ["point"] ["point"] (defScope s_with_one) := ⟨rfl, rfl, rfl, by decide +kernel, rfl, by decide +kernel, by decide +kernel⟩
abbrev s_table_determinant : Stmt := topS 5
theorem sc_table_determinant : FnScope ["rows", "lines", "sign", "below", "k", "some", "gone", "top", "i", "row", "x", "y"] ["rows"] (defScope s_table_determinant) := ⟨rfl, rfl, rfl, by decide +kernel, rfl, by decide +kernel, by decide +kernel⟩
abbrev s_flat_size : Stmt := topS 6
theorem sc_flat_size : FnScope ["lot", "point"] ["lot"] (defScope s_flat_size) := ⟨rfl, rfl, rfl, by decide +kernel, rfl, by decide +kernel, by decide +kernel⟩
abbrev s_is_on_plane : Stmt := topS 7
theorem sc_is_on_plane : FnScope ["lot"] ["lot"] (defScope s_is_on_plane) := ⟨rfl, rfl, rfl, by decide +kernel, rfl, by decide +kernel, by decide +kernel⟩
abbrev s_without_divisor : Stmt := topS 8
theorem sc_without_divisor : FnScope ["numbers", "common", "first", "x"] ["numbers"] (defScope s_without_divisor) := ⟨rfl, rfl, rfl, by decide +kernel, rfl, by decide +kernel, by decide +kernel⟩
abbrev s_balance_of : Stmt := topS 9
theorem sc_balance_of : FnScope ["lot", "rows", "found", "i", "told", "point"] ["lot"] (defScope s_balance_of) := ⟨rfl, rfl, rfl, by decide +kernel, rfl, by decide +kernel, by decide +kernel⟩
abbrev s__law_open_cells : Stmt := topS 11
theorem sc__law_open_cells : FnScope ["script", "stirred", "cell", "cells"] ["script"] (defScope s__law_open_cells) := ⟨rfl, rfl, rfl, by decide +kernel, rfl, by decide +kernel, by decide +kernel⟩
abbrev s__law_pick : Stmt := topS 12
theorem sc__law_pick : FnScope ["source", "most", "cells", "others", "lap", "stirred"] ["source", "most"] (defScope s__law_pick) := ⟨rfl, rfl, rfl, by decide +kernel, rfl, by decide +kernel, by decide +kernel⟩
abbrev s__law_of : Stmt := topS 13
theorem sc__law_of : FnScope ["source", "some"] ["source", "some"] (defScope s__law_of) := ⟨rfl, rfl, rfl, by decide +kernel, rfl, by decide +kernel, by decide +kernel⟩
abbrev s__law_lot : Stmt := topS 14
theorem sc__law_lot : FnScope ["source", "d", "n", "most", "found", "lap", "point", "j"] ["source", "d", "n", "most"] (defScope s__law_lot) := ⟨rfl, rfl, rfl, by decide +kernel, rfl, by decide +kernel, by decide +kernel⟩
abbrev s__law_turns : Stmt := topS 15
theorem sc__law_turns : FnScope ["rows", "total", "j", "x", "part", "row"] ["rows"] (defScope s__law_turns) := ⟨rfl, rfl, rfl, by decide +kernel, rfl, by decide +kernel, by decide +kernel⟩
abbrev s__law_some : Stmt := topS 16
theorem sc__law_some : FnScope ["n", "k", "found", "i", "some"] ["n", "k"] (defScope s__law_some) := ⟨rfl, rfl, rfl, by decide +kernel, rfl, by decide +kernel, by decide +kernel⟩
abbrev s__law_common : Stmt := topS 17
theorem sc__law_common : FnScope ["numbers", "a", "x", "b"] ["numbers"] (defScope s__law_common) := ⟨rfl, rfl, rfl, by decide +kernel, rfl, by decide +kernel, by decide +kernel⟩
abbrev s__law_balance : Stmt := topS 18
theorem sc__law_balance : FnScope ["lot", "rows", "told", "i", "common", "first", "point", "x"] ["lot"] (defScope s__law_balance) := ⟨rfl, rfl, rfl, by decide +kernel, rfl, by decide +kernel, by decide +kernel⟩
abbrev s__law_flat : Stmt := topS 19
theorem sc__law_flat : FnScope ["lot", "rows", "k", "some", "places", "point", "i", "j"] ["lot"] (defScope s__law_flat) := ⟨rfl, rfl, rfl, by decide +kernel, rfl, by decide +kernel, by decide +kernel⟩
abbrev s_law : Stmt := topS 20
theorem sc_law : FnScope ["script", "source", "lap", "k", "rows", "d", "lot", "kept", "size", "some", "told", "i", "x", "j", "row", "point"] ["script"] (defScope s_law) := ⟨rfl, rfl, rfl, by decide +kernel, rfl, by decide +kernel, by decide +kernel⟩
structure Tx (K : PySem.W.Frag) (mg : Str → Option Value) where
  m_abs : mg "abs" = none
  m_dict : mg "dict" = none
  m_enumerate : mg "enumerate" = none
  m_int : mg "int" = none
  m_len : mg "len" = none
  m_list : mg "list" = none
  m_max : mg "max" = none
  m_min : mg "min" = none
  m_range : mg "range" = none
  m_repr : mg "repr" = none
  m_sorted : mg "sorted" = none
  m_sum : mg "sum" = none
  m_tuple : mg "tuple" = none
  m_zip : mg "zip" = none
  m_gcd : mg "gcd" = some (.builtin "math.gcd")
  a_divisor_of_all : Addr
  fd_divisor_of_all : FuncData
  F_divisor_of_all : Fun K "divisor_of_all" "divisor_of_all" s_divisor_of_all a_divisor_of_all fd_divisor_of_all
  g_divisor_of_all : mg "divisor_of_all" = some (.ref a_divisor_of_all)
  a_lines_reduced : Addr
  fd_lines_reduced : FuncData
  F_lines_reduced : Fun K "lines_reduced" "lines_reduced" s_lines_reduced a_lines_reduced fd_lines_reduced
  g_lines_reduced : mg "lines_reduced" = some (.ref a_lines_reduced)
  a_with_one : Addr
  fd_with_one : FuncData
  F_with_one : Fun K "with_one" "with_one" s_with_one a_with_one fd_with_one
  g_with_one : mg "with_one" = some (.ref a_with_one)
  a_table_determinant : Addr
  fd_table_determinant : FuncData
  F_table_determinant : Fun K "table_determinant" "table_determinant" s_table_determinant a_table_determinant fd_table_determinant
  g_table_determinant : mg "table_determinant" = some (.ref a_table_determinant)
  a_flat_size : Addr
  fd_flat_size : FuncData
  F_flat_size : Fun K "flat_size" "flat_size" s_flat_size a_flat_size fd_flat_size
  g_flat_size : mg "flat_size" = some (.ref a_flat_size)
  a_is_on_plane : Addr
  fd_is_on_plane : FuncData
  F_is_on_plane : Fun K "is_on_plane" "is_on_plane" s_is_on_plane a_is_on_plane fd_is_on_plane
  g_is_on_plane : mg "is_on_plane" = some (.ref a_is_on_plane)
  a_without_divisor : Addr
  fd_without_divisor : FuncData
  F_without_divisor : Fun K "without_divisor" "without_divisor" s_without_divisor a_without_divisor fd_without_divisor
  g_without_divisor : mg "without_divisor" = some (.ref a_without_divisor)
  a_balance_of : Addr
  fd_balance_of : FuncData
  F_balance_of : Fun K "balance_of" "balance_of" s_balance_of a_balance_of fd_balance_of
  g_balance_of : mg "balance_of" = some (.ref a_balance_of)
  a__law_open_cells : Addr
  fd__law_open_cells : FuncData
  F__law_open_cells : Fun K "_law_open_cells" "_law_open_cells" s__law_open_cells a__law_open_cells fd__law_open_cells
  g__law_open_cells : mg "_law_open_cells" = some (.ref a__law_open_cells)
  a__law_pick : Addr
  fd__law_pick : FuncData
  F__law_pick : Fun K "_law_pick" "_law_pick" s__law_pick a__law_pick fd__law_pick
  g__law_pick : mg "_law_pick" = some (.ref a__law_pick)
  a__law_of : Addr
  fd__law_of : FuncData
  F__law_of : Fun K "_law_of" "_law_of" s__law_of a__law_of fd__law_of
  g__law_of : mg "_law_of" = some (.ref a__law_of)
  a__law_lot : Addr
  fd__law_lot : FuncData
  F__law_lot : Fun K "_law_lot" "_law_lot" s__law_lot a__law_lot fd__law_lot
  g__law_lot : mg "_law_lot" = some (.ref a__law_lot)
  a__law_turns : Addr
  fd__law_turns : FuncData
  F__law_turns : Fun K "_law_turns" "_law_turns" s__law_turns a__law_turns fd__law_turns
  g__law_turns : mg "_law_turns" = some (.ref a__law_turns)
  a__law_some : Addr
  fd__law_some : FuncData
  F__law_some : Fun K "_law_some" "_law_some" s__law_some a__law_some fd__law_some
  g__law_some : mg "_law_some" = some (.ref a__law_some)
  a__law_common : Addr
  fd__law_common : FuncData
  F__law_common : Fun K "_law_common" "_law_common" s__law_common a__law_common fd__law_common
  g__law_common : mg "_law_common" = some (.ref a__law_common)
  a__law_balance : Addr
  fd__law_balance : FuncData
  F__law_balance : Fun K "_law_balance" "_law_balance" s__law_balance a__law_balance fd__law_balance
  g__law_balance : mg "_law_balance" = some (.ref a__law_balance)
  a__law_flat : Addr
  fd__law_flat : FuncData
  F__law_flat : Fun K "_law_flat" "_law_flat" s__law_flat a__law_flat fd__law_flat
  g__law_flat : mg "_law_flat" = some (.ref a__law_flat)
  a_law : Addr
  fd_law : FuncData
  F_law : Fun K "law" "law" s_law a_law fd_law
  g_law : mg "law" = some (.ref a_law)
section
variable {Pr : Program} {w : World} {K : PySem.W.Frag} {mg : Str → Option Value} {base : Heap}
theorem b_divisor_of_all_T (T : Tx K mg) : Binds K T.fd_divisor_of_all ["numbers"] [] := T.F_divisor_of_all.binds fun _ _ _ _ _ _ us hl => match us, hl with | [_], _ => rfl
set_option maxHeartbeats 4000000 in
theorem ok_divisor_of_all (T : Tx K mg) : FnG Pr w K mg base 1 T.a_divisor_of_all T.fd_divisor_of_all ["numbers"] (spP 1 F_divisor_of_all) := by
  refine fn_g (k := 0) T.F_divisor_of_all sc_divisor_of_all (fun vs H Q E h => h.1) (fun cdv A outer s H vs Q E hgd hr h => ⟨_, (pss_cons (ps_set (i := 1) sc_divisor_of_all.nd rfl (Or.inl rfl) pe_int)
  (pss_cons (ps_for PassesOwn.never rfl (piSeq (K := K) (pv 0)) (pg_name (i := 2) sc_divisor_of_all.nd rfl (Or.inl rfl))
  (pss_one (ps_set (i := 1) sc_divisor_of_all.nd rfl (Or.inl rfl) (pe_callBfun cr_gcd (by rfl) T.m_gcd (pa_cons (pv 1) (pa_cons (pv 2) pa_nil))))))
  (pss_one (ps_ret (pv 1))))), ?_⟩)
  exact body_p (n := 1) (m := 2) (Γr := [.fro, .fro]) (Γl := []) (Γ' := []) (N := ["numbers", "found", "number"]) (sem_seq (sem_asg sem_int (by decide))
  (sem_seq (sem_for (semI_seq (sem_var (i := 0) rfl)) (sem_gname (i := 2) rfl)
  (sem_asg (sem_cb ca_gcd (sem_vcons ((sem_var (i := 1) rfl)).v (sem_vcons ((sem_var (i := 2) rfl)).v sem_vnil))) (by decide)))
  (sem_ret (sem_var (i := 1) rfl)))) rfl rfl h
theorem b_lines_reduced_T (T : Tx K mg) : Binds K T.fd_lines_reduced ["rows"] [] := T.F_lines_reduced.binds fun _ _ _ _ _ _ us hl => match us, hl with | [_], _ => rfl
set_option maxHeartbeats 4000000 in
theorem ok_lines_reduced (T : Tx K mg) : FnG Pr w K mg base 2 T.a_lines_reduced T.fd_lines_reduced ["rows"] (spP 1 F_lines_reduced) := by
  refine fn_g (k := 1) T.F_lines_reduced sc_lines_reduced (fun vs H Q E h => h.1) (fun cdv A outer s H vs Q E hgd hr h => ⟨_, (pss_cons (ps_set (i := 1) sc_lines_reduced.nd rfl (Or.inl rfl) (pe_lst pa_nil))
  (pss_cons (ps_for PassesOwn.never rfl (piSeq (K := K) (pv 0)) (pg_name (i := 2) sc_lines_reduced.nd rfl (Or.inl rfl))
  (pss_cons (ps_set (i := 3) sc_lines_reduced.nd rfl (Or.inr rfl) (pe_callTy (kLst (K := K)) (by rfl) T.m_list bt_list (pa_cons (pv 2) pa_nil)))
  (pss_cons (ps_for PassesOwn.never rfl (piSeq (K := K) (pv 1)) (pgTup (K := K) (n := 2) rfl (pgs_cons (pg_name (i := 4) sc_lines_reduced.nd rfl (Or.inr rfl)) (pgs_cons (pg_name (i := 5) sc_lines_reduced.nd rfl (Or.inr rfl)) pgs_nil)))
  (pss_one (ps_if (pt_cmpR (kNe (K := K) hr) (pe_ix (kIx (K := K)) (pv 3) (pv 4) (fun _ _ => rfl)) pe_int (nomark _)) (pss_one (ps_set (i := 3) sc_lines_reduced.nd rfl (Or.inr rfl) (pe_lc (own := [("x", 7), ("y", 8)]) rfl sc_lines_reduced.nd  (piZip (K := K) (by rfl) T.m_zip (pa_cons (pv 3) (pa_cons (pv 5) pa_nil))) (blkOk_by (by kernel_rfl)) (fun _ _ _ _ _ => (pgTup (K := K) (n := 2) rfl (pgs_cons (pg_name (i := 7) sc_lines_reduced.nd rfl (Or.inl rfl)) (pgs_cons (pg_name (i := 8) sc_lines_reduced.nd rfl (Or.inl rfl)) pgs_nil)))) (fun _ _ _ _ _ => pts_nil) (fun _ _ _ _ _ => (pe_op op_sub (pe_op (kMul (K := K)) (pe_ix (kIx (K := K)) (pv 5) (pv 4) (fun _ _ => rfl)) (pv 7)) (pe_op (kMul (K := K)) (pe_ix (kIx (K := K)) (pv 3) (pv 4) (fun _ _ => rfl)) (pv 8))))))) pss_nil)))
  (pss_cons (ps_set (i := 6) sc_lines_reduced.nd rfl (Or.inr rfl) (pe_callG ((ok_divisor_of_all T).mono (by decide)) hgd hr (by rfl) T.g_divisor_of_all T.F_divisor_of_all.kp (b_divisor_of_all_T T) (pa_cons (pv 3) pa_nil)))
  (pss_one (ps_if (pt_cmpR op_gt (pv 6) pe_int (nomark _)) (pss_cons (ps_set (i := 3) sc_lines_reduced.nd rfl (Or.inr rfl) (pe_lc (own := [("x", 7)]) rfl sc_lines_reduced.nd  (piSeq (K := K) (pv 3)) (blkOk_by (by kernel_rfl)) (fun _ _ _ _ _ => (pg_name (i := 7) sc_lines_reduced.nd rfl (Or.inl rfl))) (fun _ _ _ _ _ => pts_nil) (fun _ _ _ _ _ => (pe_op op_fdivF (pv 7) (pv 6)))))
  (pss_one (ps_expr (pe_bm PySem.F.plainAttrs_list PySem.F.slot_list_append PySem.F.type_list_append mt_append (pv 1) (pa_cons (pe_tup (pa_cons (pe_ix (kIx (K := K)) (pe_lc (own := [("place", 4), ("x", 7)]) rfl sc_lines_reduced.nd  (piEnum (K := K) (by rfl) T.m_enumerate (pa_cons (pv 3) pa_nil)) (blkOk_by (by kernel_rfl)) (fun _ _ _ _ _ => (pgTup (K := K) (n := 2) rfl (pgs_cons (pg_name (i := 4) sc_lines_reduced.nd rfl (Or.inl rfl)) (pgs_cons (pg_name (i := 7) sc_lines_reduced.nd rfl (Or.inl rfl)) pgs_nil)))) (fun _ _ _ _ _ => (pts_one (pt_cmpR (kNe (K := K) hr) (pv 7) pe_int (nomark _)))) (fun _ _ _ _ _ => (pv 4))) pe_int (fun _ _ => rfl)) (pa_cons (pv 3) pa_nil))) pa_nil))))) pss_nil))))))
  (pss_one (ps_ret (pv 1))))), ?_⟩)
  exact body_p (n := 1) (m := 8) (Γr := [.own, .fro, .fro, .fro, .fro, .fro, .fro, .fro]) (Γl := []) (Γ' := []) (N := ["rows", "found", "row", "line", "place", "late", "common", "x", "y"]) (sem_seq (sem_asgOwn (sem_lst sem_anil) (by decide))
  (sem_seq (sem_for (semI_seq (sem_var (i := 0) rfl)) (sem_gname (i := 2) rfl)
  (sem_seq (sem_asg ((sem_cbL ca_lst (sem_vcons ((sem_var (i := 2) rfl)).v sem_vnil))).e (by decide))
  (sem_seq (sem_forO (K := K) (i := 1) rfl (fun _ _ => (sem_gtup (sem_gscons (sem_gname (i := 4) rfl) (sem_gscons (sem_gname (i := 5) rfl) sem_gsnil)))) (fun _ _ => (sem_if (sem_test ((sem_op oe_ne ((sem_op oe_ix ((sem_var (i := 3) rfl)).v ((sem_var (i := 4) rfl)).v)).v (sem_int).v)).v) (sem_asg ((sem_lc (semIc_zip (sem_vcons ((sem_var (i := 3) rfl)).v (sem_vcons ((sem_var (i := 5) rfl)).v sem_vnil))) (sem_gtup (sem_gscons (sem_gname (i := 7) rfl) (sem_gscons (sem_gname (i := 8) rfl) sem_gsnil))) sem_yes (sem_op oe_sub ((sem_op oe_mulX ((sem_op oe_ix ((sem_var (i := 5) rfl)).v ((sem_var (i := 4) rfl)).v)).v ((sem_var (i := 7) rfl)).v)).v ((sem_op oe_mulX ((sem_op oe_ix ((sem_var (i := 3) rfl)).v ((sem_var (i := 4) rfl)).v)).v ((sem_var (i := 8) rfl)).v)).v) (allFro rfl) (by decide))).e (by simp)) sem_nx)))
  (sem_seq (sem_asg (sem_call (sem_acons (sem_var (i := 3) rfl) sem_anil)) (by decide))
  (sem_if (sem_test ((sem_op oe_gt ((sem_var (i := 6) rfl)).v (sem_int).v)).v) (sem_seq (sem_asg ((sem_lc (semIc_seq ((sem_var (i := 3) rfl)).v) (sem_gname (i := 7) rfl) sem_yes (sem_op oe_fdiv ((sem_var (i := 7) rfl)).v ((sem_var (i := 6) rfl)).v) (allFro rfl) (by decide))).e (by decide))
  (sem_app (i := 1) rfl (sem_tup (sem_acons (sem_op oe_ix ((sem_lc (semIc_enum (sem_vcons ((sem_var (i := 3) rfl)).v sem_vnil)) (sem_gtup (sem_gscons (sem_gname (i := 4) rfl) (sem_gscons (sem_gname (i := 7) rfl) sem_gsnil))) (sem_test ((sem_op oe_ne ((sem_var (i := 7) rfl)).v (sem_int).v)).v) (sem_var (i := 4) rfl) (allFro rfl) (by decide))).e.v (sem_int).v) (sem_acons (sem_var (i := 3) rfl) sem_anil))))) sem_nx)))))
  (sem_retOwn (i := 1) rfl))) rfl rfl h
theorem b_with_one_T (T : Tx K mg) : Binds K T.fd_with_one ["point"] [] := T.F_with_one.binds fun _ _ _ _ _ _ us hl => match us, hl with | [_], _ => rfl
set_option maxHeartbeats 4000000 in
theorem ok_with_one (T : Tx K mg) : FnG Pr w K mg base 1 T.a_with_one T.fd_with_one ["point"] (spP 1 F_with_one) := by
  refine fn_g (k := 0) T.F_with_one sc_with_one (fun vs H Q E h => h.1) (fun cdv A outer s H vs Q E hgd hr h => ⟨_, (pss_one (ps_ret (pe_tup (pa_cons pe_int (paStar (K := K) (pv 0) pa_nil))))), ?_⟩)
  exact body_p (n := 1) (m := 0) (Γr := []) (Γl := []) (Γ' := []) (N := ["point"]) (sem_ret (sem_tup (sem_acons sem_int (sem_astar ((sem_var (i := 0) rfl)).v sem_anil)))) rfl rfl h
theorem b_table_determinant_T (T : Tx K mg) : Binds K T.fd_table_determinant ["rows"] [] := T.F_table_determinant.binds fun _ _ _ _ _ _ us hl => match us, hl with | [_], _ => rfl
set_option maxHeartbeats 4000000 in
theorem ok_table_determinant (T : Tx K mg) : FnG Pr w K mg base 1 T.a_table_determinant T.fd_table_determinant ["rows"] (spP 1 F_table_determinant) := by
  refine fn_g (k := 0) T.F_table_determinant sc_table_determinant (fun vs H Q E h => h.1) (fun cdv A outer s H vs Q E hgd hr h => ⟨_, (pss_cons (ps_asg (pe_tup (pa_cons (pe_lc (own := [("row", 9)]) rfl sc_table_determinant.nd  (piSeq (K := K) (pv 0)) (blkOk_by (by kernel_rfl)) (fun _ _ _ _ _ => (pg_name (i := 9) sc_table_determinant.nd rfl (Or.inl rfl))) (fun _ _ _ _ _ => pts_nil) (fun _ _ _ _ _ => (pe_callTy (kLst (K := K)) (by rfl) T.m_list bt_list (pa_cons (pv 9) pa_nil)))) (pa_cons pe_int (pa_cons pe_int pa_nil)))) (pgTup (K := K) (n := 3) rfl (pgs_cons (pg_name (i := 1) sc_table_determinant.nd rfl (Or.inr rfl)) (pgs_cons (pg_name (i := 2) sc_table_determinant.nd rfl (Or.inl rfl)) (pgs_cons (pg_name (i := 3) sc_table_determinant.nd rfl (Or.inr rfl)) pgs_nil)))))
  (pss_cons (ps_for PassesOwn.never rfl (pi_range1 (by rfl) T.m_range (pa_cons (pe_op op_sub (pe_callB (kLen (K := K)) (by rfl) T.m_len bt_len (pa_cons (pv 1) pa_nil)) pe_int) pa_nil)) (pg_name (i := 4) sc_table_determinant.nd rfl (Or.inr rfl))
  (pss_cons (ps_setLc (i := 5) (own := [("i", 8)]) rfl sc_table_determinant.nd rfl rfl (sw_true rfl rfl rfl (by decide +kernel)) (pi_range2 (by rfl) T.m_range (pa_cons (pv 4) (pa_cons (pe_callB (kLen (K := K)) (by rfl) T.m_len bt_len (pa_cons (pv 1) pa_nil)) pa_nil))) (blkOk_by (by kernel_rfl)) (fun _ _ _ _ _ => (pg_name (i := 8) sc_table_determinant.nd rfl (Or.inl rfl))) (fun _ _ _ _ _ => (pts_one (pt_cmpR (kNe (K := K) hr) (pe_ix (kIx (K := K)) (pe_ix (kIx (K := K)) (pv 1) (pv 8) (fun _ _ => rfl)) (pv 4) (fun _ _ => rfl)) pe_int (nomark _)))) (fun _ _ _ _ _ => (pv 8)))
  (pss_cons (ps_if (pt_cmpR (kEq (K := K) hr) (pv 5) (pe_lst pa_nil) (nomark _)) (pss_one (ps_ret pe_int)) pss_nil)
  (pss_cons (ps_if (pt_cmpR (kNe (K := K) hr) (pe_ix (kIx (K := K)) (pv 5) pe_int (fun _ _ => rfl)) (pv 4) (nomark _)) (pss_cons (ps_set (i := 6) sc_table_determinant.nd rfl (Or.inl rfl) (pe_ix (kIx (K := K)) (pv 1) (pv 4) (fun _ _ => rfl)))
  (pss_cons (ps_asg (pe_ix (kIx (K := K)) (pv 1) (pe_ix (kIx (K := K)) (pv 5) pe_int (fun _ _ => rfl)) (fun _ _ => rfl)) (pg_sub (pv 1) (pv 4) set_list))
  (pss_cons (ps_asg (pv 6) (pg_sub (pv 1) (pe_ix (kIx (K := K)) (pv 5) pe_int (fun _ _ => rfl)) set_list))
  (pss_one (ps_set (i := 2) sc_table_determinant.nd rfl (Or.inl rfl) (pe_un un_neg (pv 2))))))) pss_nil)
  (pss_cons (ps_set (i := 7) sc_table_determinant.nd rfl (Or.inr rfl) (pe_ix (kIx (K := K)) (pv 1) (pv 4) (fun _ _ => rfl)))
  (pss_cons (ps_for PassesOwn.never rfl (pi_range2 (by rfl) T.m_range (pa_cons (pe_op (kAdd (K := K)) (pv 4) pe_int) (pa_cons (pe_callB (kLen (K := K)) (by rfl) T.m_len bt_len (pa_cons (pv 1) pa_nil)) pa_nil))) (pg_name (i := 8) sc_table_determinant.nd rfl (Or.inr rfl))
  (pss_one (ps_asg (pe_lc (own := [("x", 10), ("y", 11)]) rfl sc_table_determinant.nd  (piZip (K := K) (by rfl) T.m_zip (pa_cons (pe_ix (kIx (K := K)) (pv 1) (pv 8) (fun _ _ => rfl)) (pa_cons (pv 7) pa_nil))) (blkOk_by (by kernel_rfl)) (fun _ _ _ _ _ => (pgTup (K := K) (n := 2) rfl (pgs_cons (pg_name (i := 10) sc_table_determinant.nd rfl (Or.inl rfl)) (pgs_cons (pg_name (i := 11) sc_table_determinant.nd rfl (Or.inl rfl)) pgs_nil)))) (fun _ _ _ _ _ => pts_nil) (fun _ _ _ _ _ => (pe_op op_fdivF (pe_op op_sub (pe_op (kMul (K := K)) (pv 10) (pe_ix (kIx (K := K)) (pv 7) (pv 4) (fun _ _ => rfl))) (pe_op (kMul (K := K)) (pe_ix (kIx (K := K)) (pe_ix (kIx (K := K)) (pv 1) (pv 8) (fun _ _ => rfl)) (pv 4) (fun _ _ => rfl)) (pv 11))) (pv 3)))) (pg_sub (pv 1) (pv 8) set_list))))
  (pss_one (ps_set (i := 3) sc_table_determinant.nd rfl (Or.inr rfl) (pe_ix (kIx (K := K)) (pv 7) (pv 4) (fun _ _ => rfl))))))))))
  (pss_one (ps_ret (pe_op (kMul (K := K)) (pv 2) (pe_ix (kIx (K := K)) (pe_ix (kIx (K := K)) (pv 1) (pe_un un_neg pe_int) (fun _ _ => rfl)) (pe_un un_neg pe_int) (fun _ _ => rfl))))))), ?_⟩)
  exact body_p (n := 1) (m := 11) (Γr := [.own, .fro, .fro, .fro, .fro, .fro, .fro, .fro, .fro, .fro, .fro]) (Γl := []) (Γ' := []) (N := ["rows", "lines", "sign", "below", "k", "some", "gone", "top", "i", "row", "x", "y"]) (sem_seq (sem_asgO3 (K := K) (i := 1) (j := 2) (l := 3) (sem_lc (semIc_seq ((sem_var (i := 0) rfl)).v) (sem_gname (i := 9) rfl) sem_yes ((sem_cbL ca_lst (sem_vcons ((sem_var (i := 9) rfl)).v sem_vnil))).e (allFro rfl) (by decide)) (by decide) rfl rfl)
  (sem_seq (sem_for (semI_rng1 (sem_vcons ((sem_op oe_sub ((sem_cb ca_len (sem_vcons (sem_own (i := 1) rfl) sem_vnil))).v (sem_int).v)).v sem_vnil)) (sem_gname (i := 4) rfl)
  (sem_seq (sem_asg ((sem_lc (semIc_rng2 (sem_vcons ((sem_var (i := 4) rfl)).v (sem_vcons ((sem_cb ca_len (sem_vcons (sem_own (i := 1) rfl) sem_vnil))).v sem_vnil))) (sem_gname (i := 8) rfl) (sem_test ((sem_op oe_ne ((sem_op oe_ix ((sem_op oe_ix (sem_own (i := 1) rfl) ((sem_var (i := 8) rfl)).v)).v ((sem_var (i := 4) rfl)).v)).v (sem_int).v)).v) (sem_var (i := 8) rfl) (allFro rfl) (by decide))).e (by decide))
  (sem_seq (sem_if (sem_test ((sem_op oe_eq ((sem_var (i := 5) rfl)).v ((sem_lst sem_anil)).e.v)).v) (sem_ret sem_int) sem_nx)
  (sem_seq (sem_if (sem_test ((sem_op oe_ne ((sem_op oe_ix ((sem_var (i := 5) rfl)).v (sem_int).v)).v ((sem_var (i := 4) rfl)).v)).v) (sem_seq (sem_asg (sem_op oe_ix (sem_own (i := 1) rfl) ((sem_var (i := 4) rfl)).v) (by decide))
  (sem_seq (sem_setI (i := 1) rfl (sem_op oe_ix (sem_own (i := 1) rfl) ((sem_op oe_ix ((sem_var (i := 5) rfl)).v (sem_int).v)).v) ((sem_var (i := 4) rfl)).v)
  (sem_seq (sem_setI (i := 1) rfl (sem_var (i := 6) rfl) ((sem_op oe_ix ((sem_var (i := 5) rfl)).v (sem_int).v)).v)
  (sem_asg (sem_un oe_neg ((sem_var (i := 2) rfl)).v) (by decide))))) sem_nx)
  (sem_seq (sem_asg (sem_op oe_ix (sem_own (i := 1) rfl) ((sem_var (i := 4) rfl)).v) (by decide))
  (sem_seq (sem_for (semI_rng2 (sem_vcons ((sem_op oe_add ((sem_var (i := 4) rfl)).v (sem_int).v)).v (sem_vcons ((sem_cb ca_len (sem_vcons (sem_own (i := 1) rfl) sem_vnil))).v sem_vnil))) (sem_gname (i := 8) rfl)
  (sem_setI (i := 1) rfl ((sem_lc (semIc_zip (sem_vcons ((sem_op oe_ix (sem_own (i := 1) rfl) ((sem_var (i := 8) rfl)).v)).v (sem_vcons ((sem_var (i := 7) rfl)).v sem_vnil))) (sem_gtup (sem_gscons (sem_gname (i := 10) rfl) (sem_gscons (sem_gname (i := 11) rfl) sem_gsnil))) sem_yes (sem_op oe_fdiv ((sem_op oe_sub ((sem_op oe_mulX ((sem_var (i := 10) rfl)).v ((sem_op oe_ix ((sem_var (i := 7) rfl)).v ((sem_var (i := 4) rfl)).v)).v)).v ((sem_op oe_mulX ((sem_op oe_ix ((sem_op oe_ix (sem_own (i := 1) rfl) ((sem_var (i := 8) rfl)).v)).v ((sem_var (i := 4) rfl)).v)).v ((sem_var (i := 11) rfl)).v)).v)).v ((sem_var (i := 3) rfl)).v) (allFro rfl) (by decide))).e ((sem_var (i := 8) rfl)).v))
  (sem_asg (sem_op oe_ix ((sem_var (i := 7) rfl)).v ((sem_var (i := 4) rfl)).v) (by decide))))))))
  (sem_ret (sem_op oe_mulX ((sem_var (i := 2) rfl)).v ((sem_op oe_ix ((sem_op oe_ix (sem_own (i := 1) rfl) ((sem_un oe_neg (sem_int).v)).v)).v ((sem_un oe_neg (sem_int).v)).v)).v)))) rfl rfl h
theorem b_flat_size_T (T : Tx K mg) : Binds K T.fd_flat_size ["lot"] [] := T.F_flat_size.binds fun _ _ _ _ _ _ us hl => match us, hl with | [_], _ => rfl
set_option maxHeartbeats 4000000 in
theorem ok_flat_size (T : Tx K mg) : FnG Pr w K mg base 3 T.a_flat_size T.fd_flat_size ["lot"] (spP 1 F_flat_size) := by
  refine fn_g (k := 2) T.F_flat_size sc_flat_size (fun vs H Q E h => h.1) (fun cdv A outer s H vs Q E hgd hr h => ⟨_, (pss_one (ps_ret (pe_op op_sub (pe_callB (kLen (K := K)) (by rfl) T.m_len bt_len (pa_cons (pe_callG ((ok_lines_reduced T).mono (by decide)) hgd hr (by rfl) T.g_lines_reduced T.F_lines_reduced.kp (b_lines_reduced_T T) (pa_cons (pe_lc (own := [("point", 1)]) rfl sc_flat_size.nd  (piSeq (K := K) (pv 0)) (blkOk_by (by kernel_rfl)) (fun _ _ _ _ _ => (pg_name (i := 1) sc_flat_size.nd rfl (Or.inl rfl))) (fun _ _ _ _ _ => pts_nil) (fun _ _ _ _ _ => (pe_callG ((ok_with_one T).mono (by decide)) hgd hr (by rfl) T.g_with_one T.F_with_one.kp (b_with_one_T T) (pa_cons (pv 1) pa_nil)))) pa_nil)) pa_nil)) pe_int))), ?_⟩)
  exact body_p (n := 1) (m := 1) (Γr := [.fro]) (Γl := []) (Γ' := []) (N := ["lot", "point"]) (sem_ret (sem_op oe_sub ((sem_cb ca_len (sem_vcons ((sem_call (sem_acons ((sem_lc (semIc_seq ((sem_var (i := 0) rfl)).v) (sem_gname (i := 1) rfl) sem_yes (sem_call (sem_acons (sem_var (i := 1) rfl) sem_anil)) (allFro rfl) (by decide))).e sem_anil))).v sem_vnil))).v (sem_int).v)) rfl rfl h
theorem b_is_on_plane_T (T : Tx K mg) : Binds K T.fd_is_on_plane ["lot"] [] := T.F_is_on_plane.binds fun _ _ _ _ _ _ us hl => match us, hl with | [_], _ => rfl
set_option maxHeartbeats 4000000 in
theorem ok_is_on_plane (T : Tx K mg) : FnG Pr w K mg base 4 T.a_is_on_plane T.fd_is_on_plane ["lot"] (spP 1 F_is_on_plane) := by
  refine fn_g (k := 3) T.F_is_on_plane sc_is_on_plane (fun vs H Q E h => h.1) (fun cdv A outer s H vs Q E hgd hr h => ⟨_, (pss_one (ps_ret (pe_cmpR op_lt (pe_callG ((ok_flat_size T).mono (by decide)) hgd hr (by rfl) T.g_flat_size T.F_flat_size.kp (b_flat_size_T T) (pa_cons (pv 0) pa_nil)) (pe_callB (kLen (K := K)) (by rfl) T.m_len bt_len (pa_cons (pe_ix (kIx (K := K)) (pv 0) pe_int (fun _ _ => rfl)) pa_nil)) (nomark _)))), ?_⟩)
  exact body_p (n := 1) (m := 0) (Γr := []) (Γl := []) (Γ' := []) (N := ["lot"]) (sem_ret (sem_op oe_lt ((sem_call (sem_acons (sem_var (i := 0) rfl) sem_anil))).v ((sem_cb ca_len (sem_vcons ((sem_op oe_ix ((sem_var (i := 0) rfl)).v (sem_int).v)).v sem_vnil))).v)) rfl rfl h
theorem b_without_divisor_T (T : Tx K mg) : Binds K T.fd_without_divisor ["numbers"] [] := T.F_without_divisor.binds fun _ _ _ _ _ _ us hl => match us, hl with | [_], _ => rfl
set_option maxHeartbeats 4000000 in
theorem ok_without_divisor (T : Tx K mg) : FnG Pr w K mg base 2 T.a_without_divisor T.fd_without_divisor ["numbers"] (spP 1 F_without_divisor) := by
  refine fn_g (k := 1) T.F_without_divisor sc_without_divisor (fun vs H Q E h => h.1) (fun cdv A outer s H vs Q E hgd hr h => ⟨_, (pss_cons (ps_set (i := 1) sc_without_divisor.nd rfl (Or.inr rfl) (pe_callG ((ok_divisor_of_all T).mono (by decide)) hgd hr (by rfl) T.g_divisor_of_all T.F_divisor_of_all.kp (b_divisor_of_all_T T) (pa_cons (pv 0) pa_nil)))
  (pss_cons (ps_if (pt_cmpR (kEq (K := K) hr) (pv 1) pe_int (nomark _)) (pss_one (ps_ret (pe_callTy (kTup (K := K)) (by rfl) T.m_tuple bt_tuple (pa_cons (pv 0) pa_nil)))) pss_nil)
  (pss_cons (ps_set (i := 2) sc_without_divisor.nd rfl (Or.inr rfl) (pe_ix (kIx (K := K)) (pe_lc (own := [("x", 3)]) rfl sc_without_divisor.nd  (piSeq (K := K) (pv 0)) (blkOk_by (by kernel_rfl)) (fun _ _ _ _ _ => (pg_name (i := 3) sc_without_divisor.nd rfl (Or.inl rfl))) (fun _ _ _ _ _ => (pts_one (pt_cmpR (kNe (K := K) hr) (pv 3) pe_int (nomark _)))) (fun _ _ _ _ _ => (pv 3))) pe_int (fun _ _ => rfl)))
  (pss_one (ps_ret (pe_callTy (kTup (K := K)) (by rfl) T.m_tuple bt_tuple (pa_cons (pe_lc (own := [("x", 3)]) rfl sc_without_divisor.nd  (piSeq (K := K) (pv 0)) (blkOk_by (by kernel_rfl)) (fun _ _ _ _ _ => (pg_name (i := 3) sc_without_divisor.nd rfl (Or.inl rfl))) (fun _ _ _ _ _ => pts_nil) (fun _ _ _ _ _ => (pe_ifExp (pt_cmpR op_gt (pv 2) pe_int (nomark _)) (pe_op op_fdivF (pv 3) (pv 1)) (pe_op op_fdivF (pe_un un_neg (pv 3)) (pv 1))))) pa_nil))))))), ?_⟩)
  exact body_p (n := 1) (m := 3) (Γr := [.fro, .fro, .fro]) (Γl := []) (Γ' := []) (N := ["numbers", "common", "first", "x"]) (sem_seq (sem_asg (sem_call (sem_acons (sem_var (i := 0) rfl) sem_anil)) (by decide))
  (sem_seq (sem_if (sem_test ((sem_op oe_eq ((sem_var (i := 1) rfl)).v (sem_int).v)).v) (sem_ret (sem_cb ca_tup (sem_vcons ((sem_var (i := 0) rfl)).v sem_vnil))) sem_nx)
  (sem_seq (sem_asg (sem_op oe_ix ((sem_lc (semIc_seq ((sem_var (i := 0) rfl)).v) (sem_gname (i := 3) rfl) (sem_test ((sem_op oe_ne ((sem_var (i := 3) rfl)).v (sem_int).v)).v) (sem_var (i := 3) rfl) (allFro rfl) (by decide))).e.v (sem_int).v) (by decide))
  (sem_ret (sem_cb ca_tup (sem_vcons ((sem_lc (semIc_seq ((sem_var (i := 0) rfl)).v) (sem_gname (i := 3) rfl) sem_yes (sem_eIf (sem_test ((sem_op oe_gt ((sem_var (i := 2) rfl)).v (sem_int).v)).v) (sem_op oe_fdiv ((sem_var (i := 3) rfl)).v ((sem_var (i := 1) rfl)).v) (sem_op oe_fdiv ((sem_un oe_neg ((sem_var (i := 3) rfl)).v)).v ((sem_var (i := 1) rfl)).v)) (allFro rfl) (by decide))).e.v sem_vnil)))))) rfl rfl h
theorem b_balance_of_T (T : Tx K mg) : Binds K T.fd_balance_of ["lot"] [] := T.F_balance_of.binds fun _ _ _ _ _ _ us hl => match us, hl with | [_], _ => rfl
set_option maxHeartbeats 4000000 in
theorem ok_balance_of (T : Tx K mg) : FnG Pr w K mg base 3 T.a_balance_of T.fd_balance_of ["lot"] (spP 1 F_balance_of) := by
  refine fn_g (k := 2) T.F_balance_of sc_balance_of (fun vs H Q E h => h.1) (fun cdv A outer s H vs Q E hgd hr h => ⟨_, (pss_cons (ps_setLc (i := 1) (own := [("point", 5)]) rfl sc_balance_of.nd rfl rfl (sw_true rfl rfl rfl (by decide +kernel)) (piSeq (K := K) (pv 0)) (blkOk_by (by kernel_rfl)) (fun _ _ _ _ _ => (pg_name (i := 5) sc_balance_of.nd rfl (Or.inl rfl))) (fun _ _ _ _ _ => pts_nil) (fun _ _ _ _ _ => (pe_callG ((ok_with_one T).mono (by decide)) hgd hr (by rfl) T.g_with_one T.F_with_one.kp (b_with_one_T T) (pa_cons (pv 5) pa_nil))))
  (pss_cons (ps_set (i := 2) sc_balance_of.nd rfl (Or.inl rfl) (pe_lst pa_nil))
  (pss_cons (ps_for PassesOwn.never rfl (pi_range1 (by rfl) T.m_range (pa_cons (pe_callB (kLen (K := K)) (by rfl) T.m_len bt_len (pa_cons (pv 1) pa_nil)) pa_nil)) (pg_name (i := 3) sc_balance_of.nd rfl (Or.inl rfl))
  (pss_cons (ps_set (i := 4) sc_balance_of.nd rfl (Or.inl rfl) (pe_callG ((ok_table_determinant T).mono (by decide)) hgd hr (by rfl) T.g_table_determinant T.F_table_determinant.kp (b_table_determinant_T T) (pa_cons (pe_op (kAdd (K := K)) (pe_slice (kSl (K := K)) (pv 1) po_none (po_some (pv 3))) (pe_slice (kSl (K := K)) (pv 1) (po_some (pe_op (kAdd (K := K)) (pv 3) pe_int)) po_none)) pa_nil)))
  (pss_one (ps_expr (pe_bm PySem.F.plainAttrs_list PySem.F.slot_list_append PySem.F.type_list_append mt_append (pv 2) (pa_cons (pe_ifExp (pt_cmpR (kEq (K := K) hr) (pe_op op_modN (pv 3) pe_int) pe_int (nomark _)) (pv 4) (pe_un un_neg (pv 4))) pa_nil))))))
  (pss_one (ps_ret (pe_callG ((ok_without_divisor T).mono (by decide)) hgd hr (by rfl) T.g_without_divisor T.F_without_divisor.kp (b_without_divisor_T T) (pa_cons (pv 2) pa_nil))))))), ?_⟩)
  exact body_p (n := 1) (m := 5) (Γr := [.fro, .fro, .fro, .fro, .fro]) (Γl := []) (Γ' := []) (N := ["lot", "rows", "found", "i", "told", "point"]) (sem_seq (sem_asg ((sem_lc (semIc_seq ((sem_var (i := 0) rfl)).v) (sem_gname (i := 5) rfl) sem_yes (sem_call (sem_acons (sem_var (i := 5) rfl) sem_anil)) (allFro rfl) (by decide))).e (by decide))
  (sem_seq (sem_asgOwn (sem_lst sem_anil) (by decide))
  (sem_seq (sem_for (semI_rng1 (sem_vcons ((sem_cb ca_len (sem_vcons ((sem_var (i := 1) rfl)).v sem_vnil))).v sem_vnil)) (sem_gname (i := 3) rfl)
  (sem_seq (sem_asg (sem_call (sem_acons (sem_op oe_add ((sem_sl ((sem_var (i := 1) rfl)).v sem_oNo (sem_oPart ((sem_var (i := 3) rfl)).v))).v ((sem_sl ((sem_var (i := 1) rfl)).v (sem_oPart ((sem_op oe_add ((sem_var (i := 3) rfl)).v (sem_int).v)).v) sem_oNo)).v) sem_anil)) (by decide))
  (sem_app (i := 2) rfl (sem_eIf (sem_test ((sem_op oe_eq ((sem_op oe_mod ((sem_var (i := 3) rfl)).v (sem_int).v)).v (sem_int).v)).v) (sem_var (i := 4) rfl) (sem_un oe_neg ((sem_var (i := 4) rfl)).v)))))
  (sem_frz (i := 2) rfl (sem_ret (sem_call (sem_acons (sem_var (i := 2) rfl) sem_anil))))))) rfl rfl h
theorem b__law_open_cells_T (T : Tx K mg) : Binds K T.fd__law_open_cells ["script"] [] := T.F__law_open_cells.binds fun _ _ _ _ _ _ us hl => match us, hl with | [_], _ => rfl
theorem ok__law_open_cells (T : Tx K mg) : FnG Pr w K mg base 1 T.a__law_open_cells T.fd__law_open_cells ["script"] (spOpen K) := by
  refine fn_g (k := 0) T.F__law_open_cells sc__law_open_cells (fun vs H Q E ⟨a, ns, e, _⟩ => by rw [e]; rfl) (fun cdv A outer s H vs Q E hgd hr h => ⟨tOpen K, (pss_cons (ps_set (i := 1) sc__law_open_cells.nd rfl (Or.inl rfl) pe_int)
  (pss_cons (ps_for PassesOwn.never rfl (pi_list (pv 0)) (pg_name (i := 2) sc__law_open_cells.nd rfl (Or.inl rfl)) (pss_one (ps_set (i := 1) sc__law_open_cells.nd rfl (Or.inl rfl) (pe_op op_mod (pe_callTy call_int1 (by rfl) T.m_int bt_int (pa_cons (pe_op op_add (pe_op op_add (pe_op op_mul (pv 1) pe_int) (pe_op op_mul (pv 2) pe_int)) pe_int) pa_nil)) pe_int))))
  (pss_cons (ps_setLc (i := 3) (own := [("cell", 2)]) rfl sc__law_open_cells.nd rfl rfl (sw_true rfl rfl rfl (by decide +kernel)) (pi_list (pv 0)) (blkOk_by (by kernel_rfl)) (fun _ _ _ _ _ => (pg_name (i := 2) sc__law_open_cells.nd rfl (Or.inl rfl))) (fun _ _ _ _ _ => pts_nil) (fun _ _ _ _ _ => (pe_callB call_abs (by rfl) T.m_abs bt_abs (pa_cons (pv 2) pa_nil))))
  (pss_one (ps_ret (pe_disp (pps_cons pe_str (pe_revL (pv 3)) (pps_cons pe_str pe_int (pps_cons pe_str (pv 1) (pps_cons pe_str pe_int pps_nil)))) rfl rfl (by simp) (by decide))))))), ?_⟩)
  exact open_body rfl h
theorem b__law_pick_T (T : Tx K mg) : Binds K T.fd__law_pick ["source", "most"] [] := T.F__law_pick.binds fun _ _ _ _ _ _ us hl => match us, hl with | [_, _], _ => rfl
theorem ok__law_pick (T : Tx K mg) : FnG Pr w K mg base 1 T.a__law_pick T.fd__law_pick ["source", "most"] (spX 1 F__law_pick) := by
  refine fn_g (k := 0) T.F__law_pick sc__law_pick (fun vs H Q E h => spX_len h) (fun cdv A outer s H vs Q E hgd hr h => ⟨tPick K, (pss_cons (ps_if (pt_cmpR op_lt (pv 1) pe_int (nomark _)) (pss_one (ps_ret pe_int)) pss_nil)
  (pss_cons (ps_set (i := 2) sc__law_pick.nd rfl (Or.inl rfl) (pe_dget (hu_of hr) (pv 0) pe_str (fun _ _ => rfl)))
  (pss_cons (ps_while PassesOwn.never (pw_and (pt_cmpR op_lt (pe_dget (hu_of hr) (pv 0) pe_str (fun _ _ => rfl)) pe_int (nomark _)) (pw_and1 (pt_cmpR op_gt (pe_callB (kLen (K := K)) (by rfl) T.m_len bt_len (pa_cons (pv 2) pa_nil)) pe_int (nomark _)))).pt (pss_one (ps_dput (hu_of hr) (pv 0) pe_str (pe_bm0 PySem.F.plainAttrs_list PySem.F.slot_list_pop PySem.F.type_list_pop mt_pop (pv 2)) rfl)))
  (pss_cons (ps_set (i := 3) sc__law_pick.nd rfl (Or.inl rfl) (pe_dget (hu_of hr) (pv 0) pe_str (fun _ _ => rfl)))
  (pss_cons (ps_if (pt_cmpR op_gt (pv 3) pe_int (nomark _)) (pss_cons (ps_dput (hu_of hr) (pv 0) pe_str (pe_op op_fdiv (pv 3) (pv 1)) rfl) (pss_one (ps_ret (pe_op op_mod (pe_callTy call_int1 (by rfl) T.m_int bt_int (pa_cons (pv 3) pa_nil)) (pv 1))))) pss_nil)
  (pss_cons (ps_dput (hu_of hr) (pv 0) pe_str (pe_op op_add (pe_dget (hu_of hr) (pv 0) pe_str (fun _ _ => rfl)) pe_int) rfl)
  (pss_cons (ps_set (i := 4) sc__law_pick.nd rfl (Or.inl rfl) (pe_dget (hu_of hr) (pv 0) pe_str (fun _ _ => rfl)))
  (pss_cons (ps_set (i := 5) sc__law_pick.nd rfl (Or.inl rfl) (pe_op op_mod (pe_callTy call_int1 (by rfl) T.m_int bt_int (pa_cons (pe_op op_add (pe_dget (hu_of hr) (pv 0) pe_str (fun _ _ => rfl)) (pe_op op_mul (pv 4) pe_int)) pa_nil)) pe_int))
  (pss_cons (ps_set (i := 5) sc__law_pick.nd rfl (Or.inl rfl) (pe_op op_mod (pe_callTy call_int1 (by rfl) T.m_int bt_int (pa_cons (pe_op op_add (pe_op op_mul (pv 5) (pv 5)) (pe_op op_mul (pv 4) pe_int)) pa_nil)) pe_int))
  (pss_one (ps_ret (pe_op op_mod (pe_callTy call_int1 (by rfl) T.m_int bt_int (pa_cons (pe_op op_fdiv (pv 5) pe_int) pa_nil)) (pv 1))))))))))))), ?_⟩)
  exact pick_x rfl h
theorem b__law_of_T (T : Tx K mg) : Binds K T.fd__law_of ["source", "some"] [] := T.F__law_of.binds fun _ _ _ _ _ _ us hl => match us, hl with | [_, _], _ => rfl
set_option maxHeartbeats 4000000 in
theorem ok__law_of (T : Tx K mg) : FnG Pr w K mg base 2 T.a__law_of T.fd__law_of ["source", "some"] (spX 1 F__law_of) := by
  refine fn_g (k := 1) T.F__law_of sc__law_of (fun vs H Q E h => spX_len h) (fun cdv A outer s H vs Q E hgd hr h => ⟨_, (pss_one (ps_ret (pe_ix (kIx (K := K)) (pv 1) (pe_callG ((ok__law_pick T).mono (by decide)) hgd hr (by rfl) T.g__law_pick T.F__law_pick.kp (b__law_pick_T T) (pa_cons (pv 0) (pa_cons (pe_callB (kLen (K := K)) (by rfl) T.m_len bt_len (pa_cons (pv 1) pa_nil)) pa_nil))) (fun _ _ => rfl)))), ?_⟩)
  exact body_x (n := 1) (m := 0) (Γr := []) (Γl := []) (Γ' := []) (N := ["source", "some"]) (fun src cl => (sem_ret (sem_op oe_ix ((sem_var (i := 1) rfl)).v ((sem_callX (i := 0) rfl (sem_acons (sem_cb ca_len (sem_vcons ((sem_var (i := 1) rfl)).v sem_vnil)) sem_anil))).v))) rfl rfl h
theorem b__law_lot_T (T : Tx K mg) : Binds K T.fd__law_lot ["source", "d", "n", "most"] [] := T.F__law_lot.binds fun _ _ _ _ _ _ us hl => match us, hl with | [_, _, _, _], _ => rfl
set_option maxHeartbeats 4000000 in
theorem ok__law_lot (T : Tx K mg) : FnG Pr w K mg base 2 T.a__law_lot T.fd__law_lot ["source", "d", "n", "most"] (spX 3 F__law_lot) := by
  refine fn_g (k := 1) T.F__law_lot sc__law_lot (fun vs H Q E h => spX_len h) (fun cdv A outer s H vs Q E hgd hr h => ⟨_, (pss_cons (ps_set (i := 4) sc__law_lot.nd rfl (Or.inl rfl) (pe_lst pa_nil))
  (pss_cons (ps_for PassesOwn.never rfl (pi_range1 (by rfl) T.m_range (pa_cons (pv 2) pa_nil)) (pg_name (i := 5) sc__law_lot.nd rfl (Or.inl rfl))
  (pss_cons (ps_set (i := 6) sc__law_lot.nd rfl (Or.inl rfl) (pe_callTy (kTup (K := K)) (by rfl) T.m_tuple bt_tuple (pa_cons (pe_lc (own := [("j", 7)]) rfl sc__law_lot.nd  (pi_range1 (by rfl) T.m_range (pa_cons (pv 1) pa_nil)) (blkOk_by (by kernel_rfl)) (fun _ _ _ _ _ => (pg_name (i := 7) sc__law_lot.nd rfl (Or.inl rfl))) (fun _ _ _ _ _ => pts_nil) (fun _ _ _ _ _ => (pe_op op_sub (pe_callG ((ok__law_pick T).mono (by decide)) hgd hr (by rfl) T.g__law_pick T.F__law_pick.kp (b__law_pick_T T) (pa_cons (pv 0) (pa_cons (pe_op (kAdd (K := K)) (pe_op (kMul (K := K)) pe_int (pv 3)) pe_int) pa_nil))) (pv 3)))) pa_nil)))
  (pss_cons (ps_while PassesOwn.never (pt_cmpR (kIn (K := K) hr) (pv 6) (pv 4) (by rfl))
  (pss_one (ps_set (i := 6) sc__law_lot.nd rfl (Or.inl rfl) (pe_op (kAdd (K := K)) (pe_slice (kSl (K := K)) (pv 6) po_none (po_some (pe_un un_neg pe_int))) (pe_tup (pa_cons (pe_op (kAdd (K := K)) (pe_ix (kIx (K := K)) (pv 6) (pe_un un_neg pe_int) (fun _ _ => rfl)) pe_int) pa_nil))))))
  (pss_one (ps_expr (pe_bm PySem.F.plainAttrs_list PySem.F.slot_list_append PySem.F.type_list_append mt_append (pv 4) (pa_cons (pv 6) pa_nil)))))))
  (pss_one (ps_ret (pe_callTy (kTup (K := K)) (by rfl) T.m_tuple bt_tuple (pa_cons (pe_callB (kSrt (K := K) hr) (by rfl) T.m_sorted bt_sorted (pa_cons (pv 4) pa_nil)) pa_nil)))))), ?_⟩)
  exact body_x (n := 3) (m := 4) (Γr := [.own, .fro, .fro, .fro]) (Γl := []) (Γ' := []) (N := ["source", "d", "n", "most", "found", "lap", "point", "j"]) (fun src cl => (sem_seq (sem_asgOwn (sem_lst sem_anil) (by decide))
  (sem_seq (sem_for (semI_rng1 (sem_vcons ((sem_var (i := 2) rfl)).v sem_vnil)) (sem_gname (i := 5) rfl)
  (sem_seq (sem_asg (sem_cb ca_tup (sem_vcons ((sem_lc (semIc_rng1 (sem_vcons ((sem_var (i := 1) rfl)).v sem_vnil)) (sem_gname (i := 7) rfl) sem_yes (sem_op oe_sub ((sem_callX (i := 0) rfl (sem_acons (sem_op oe_add ((sem_op oe_mulX (sem_int).v ((sem_var (i := 3) rfl)).v)).v (sem_int).v) sem_anil))).v ((sem_var (i := 3) rfl)).v) (allFro rfl) (by decide))).e.v sem_vnil)) (by decide))
  (sem_seq (sem_while (sem_test ((sem_op oe_in ((sem_var (i := 6) rfl)).v (sem_own (i := 4) rfl))).v)
  (sem_asg (sem_op oe_add ((sem_sl ((sem_var (i := 6) rfl)).v sem_oNo (sem_oPart ((sem_un oe_neg (sem_int).v)).v))).v ((sem_tup (sem_acons (sem_op oe_add ((sem_op oe_ix ((sem_var (i := 6) rfl)).v ((sem_un oe_neg (sem_int).v)).v)).v (sem_int).v) sem_anil))).v) (by decide)))
  (sem_app (i := 4) rfl (sem_var (i := 6) rfl)))))
  (sem_ret (sem_cb ca_tup (sem_vcons ((sem_cbL ca_srt (sem_vcons (sem_own (i := 4) rfl) sem_vnil))).e.v sem_vnil)))))) rfl rfl h
theorem b__law_turns_T (T : Tx K mg) : Binds K T.fd__law_turns ["rows"] [] := T.F__law_turns.binds fun _ _ _ _ _ _ us hl => match us, hl with | [_], _ => rfl
set_option maxHeartbeats 4000000 in
theorem okr__law_turns (T : Tx K mg) : ∀ j : Nat, FnG Pr w K mg base (1 + j) T.a__law_turns T.fd__law_turns ["rows"] (spP 1 (R__law_turns j))
  | 0 => by
    refine fn_g (k := 0) T.F__law_turns sc__law_turns (fun vs H Q E h => h.1) (fun cdv A outer s H vs Q E hgd hr h => ?_)
    obtain ⟨_, ds, U, Pp, C⟩ := h
    exact False.elim C.run
  | j + 1 => by
    have hG__law_turns := okr__law_turns T j
    refine fn_g (k := 1 + j) T.F__law_turns sc__law_turns (fun vs H Q E h => h.1) (fun cdv A outer s H vs Q E hgd hr h => ⟨_, (pss_cons (ps_if (pt_cmpR (kEq (K := K) hr) (pe_callB (kLen (K := K)) (by rfl) T.m_len bt_len (pa_cons (pv 0) pa_nil)) pe_int (nomark _)) (pss_one (ps_ret (pe_ix (kIx (K := K)) (pe_ix (kIx (K := K)) (pv 0) pe_int (fun _ _ => rfl)) pe_int (fun _ _ => rfl)))) pss_nil)
  (pss_cons (ps_set (i := 1) sc__law_turns.nd rfl (Or.inl rfl) pe_int)
  (pss_cons (ps_for PassesOwn.never rfl (piEnum (K := K) (by rfl) T.m_enumerate (pa_cons (pe_ix (kIx (K := K)) (pv 0) pe_int (fun _ _ => rfl)) pa_nil)) (pgTup (K := K) (n := 2) rfl (pgs_cons (pg_name (i := 2) sc__law_turns.nd rfl (Or.inr rfl)) (pgs_cons (pg_name (i := 3) sc__law_turns.nd rfl (Or.inl rfl)) pgs_nil)))
  (pss_cons (ps_set (i := 4) sc__law_turns.nd rfl (Or.inl rfl) (pe_ifExp (pt_cmpR (kNe (K := K) hr) (pv 3) pe_int (nomark _)) (pe_callG hG__law_turns hgd hr (by rfl) T.g__law_turns T.F__law_turns.kp (b__law_turns_T T) (pa_cons (pe_lc (own := [("row", 5)]) rfl sc__law_turns.nd  (piSeq (K := K) (pe_slice (kSl (K := K)) (pv 0) (po_some pe_int) po_none)) (blkOk_by (by kernel_rfl)) (fun _ _ _ _ _ => (pg_name (i := 5) sc__law_turns.nd rfl (Or.inl rfl))) (fun _ _ _ _ _ => pts_nil) (fun _ _ _ _ _ => (pe_op (kAdd (K := K)) (pe_slice (kSl (K := K)) (pv 5) po_none (po_some (pv 2))) (pe_slice (kSl (K := K)) (pv 5) (po_some (pe_op (kAdd (K := K)) (pv 2) pe_int)) po_none)))) pa_nil)) pe_int))
  (pss_one (ps_set (i := 1) sc__law_turns.nd rfl (Or.inl rfl) (pe_op (kAdd (K := K)) (pv 1) (pe_ifExp (pt_cmpR (kEq (K := K) hr) (pe_op op_modN (pe_callTy call_int1 (by rfl) T.m_int bt_int (pa_cons (pv 2) pa_nil)) pe_int) pe_int (nomark _)) (pe_op (kMul (K := K)) (pv 3) (pv 4)) (pe_op op_sub pe_int (pe_op (kMul (K := K)) (pv 3) (pv 4)))))))))
  (pss_one (ps_ret (pv 1)))))), ?_⟩)
    exact body_p (n := 1) (m := 5) (Γr := [.fro, .fro, .fro, .fro, .fro]) (Γl := []) (Γ' := []) (N := ["rows", "total", "j", "x", "part", "row"]) (sem_seq (sem_if (sem_test ((sem_op oe_eq ((sem_cb ca_len (sem_vcons ((sem_var (i := 0) rfl)).v sem_vnil))).v (sem_int).v)).v) (sem_ret (sem_op oe_ix ((sem_op oe_ix ((sem_var (i := 0) rfl)).v (sem_int).v)).v (sem_int).v)) sem_nx)
  (sem_seq (sem_asg sem_int (by decide))
  (sem_seq (sem_for (semI_enum (sem_acons (sem_op oe_ix ((sem_var (i := 0) rfl)).v (sem_int).v) sem_anil)) (sem_gtup (sem_gscons (sem_gname (i := 2) rfl) (sem_gscons (sem_gname (i := 3) rfl) sem_gsnil)))
  (sem_seq (sem_asg (sem_eIf (sem_test ((sem_op oe_ne ((sem_var (i := 3) rfl)).v (sem_int).v)).v) (sem_call (sem_acons ((sem_lc (semIc_seq ((sem_sl ((sem_var (i := 0) rfl)).v (sem_oPart (sem_int).v) sem_oNo)).v) (sem_gname (i := 5) rfl) sem_yes (sem_op oe_add ((sem_sl ((sem_var (i := 5) rfl)).v sem_oNo (sem_oPart ((sem_var (i := 2) rfl)).v))).v ((sem_sl ((sem_var (i := 5) rfl)).v (sem_oPart ((sem_op oe_add ((sem_var (i := 2) rfl)).v (sem_int).v)).v) sem_oNo)).v) (allFro rfl) (by decide))).e sem_anil)) sem_int) (by decide))
  (sem_asg (sem_op oe_add ((sem_var (i := 1) rfl)).v ((sem_eIf (sem_test ((sem_op oe_eq ((sem_op oe_mod ((sem_cb ca_int (sem_vcons ((sem_var (i := 2) rfl)).v sem_vnil))).v (sem_int).v)).v (sem_int).v)).v) (sem_op oe_mulX ((sem_var (i := 3) rfl)).v ((sem_var (i := 4) rfl)).v) (sem_op oe_sub (sem_int).v ((sem_op oe_mulX ((sem_var (i := 3) rfl)).v ((sem_var (i := 4) rfl)).v)).v))).v) (by decide))))
  (sem_ret (sem_var (i := 1) rfl))))) rfl rfl h
theorem ok__law_turns (T : Tx K mg) : FnG Pr w K mg base (1 + 5) T.a__law_turns T.fd__law_turns ["rows"] (spP 1 F__law_turns) := okr__law_turns T 5
theorem b__law_some_T (T : Tx K mg) : Binds K T.fd__law_some ["n", "k"] [] := T.F__law_some.binds fun _ _ _ _ _ _ us hl => match us, hl with | [_, _], _ => rfl
set_option maxHeartbeats 4000000 in
theorem ok__law_some (T : Tx K mg) : FnG Pr w K mg base 1 T.a__law_some T.fd__law_some ["n", "k"] (spP 2 F__law_some) := by
  refine fn_g (k := 0) T.F__law_some sc__law_some (fun vs H Q E h => h.1) (fun cdv A outer s H vs Q E hgd hr h => ⟨_, (pss_cons (ps_set (i := 2) sc__law_some.nd rfl (Or.inl rfl) (pe_lst (pa_cons (pe_tup pa_nil) pa_nil)))
  (pss_cons (ps_for PassesOwn.never rfl (pi_range1 (by rfl) T.m_range (pa_cons (pv 0) pa_nil)) (pg_name (i := 3) sc__law_some.nd rfl (Or.inr rfl))
  (pss_one (ps_set (i := 2) sc__law_some.nd rfl (Or.inl rfl) (pe_op (kAdd (K := K)) (pv 2) (pe_lc (own := [("some", 4)]) rfl sc__law_some.nd  (piSeq (K := K) (pv 2)) (blkOk_by (by kernel_rfl)) (fun _ _ _ _ _ => (pg_name (i := 4) sc__law_some.nd rfl (Or.inl rfl))) (fun _ _ _ _ _ => (pts_one (pt_cmpR op_lt (pe_callB (kLen (K := K)) (by rfl) T.m_len bt_len (pa_cons (pv 4) pa_nil)) (pv 1) (nomark _)))) (fun _ _ _ _ _ => (pe_op (kAdd (K := K)) (pv 4) (pe_tup (pa_cons (pv 3) pa_nil)))))))))
  (pss_one (ps_ret (pe_callB (kSrt (K := K) hr) (by rfl) T.m_sorted bt_sorted (pa_cons (pe_lc (own := [("some", 4)]) rfl sc__law_some.nd  (piSeq (K := K) (pv 2)) (blkOk_by (by kernel_rfl)) (fun _ _ _ _ _ => (pg_name (i := 4) sc__law_some.nd rfl (Or.inl rfl))) (fun _ _ _ _ _ => (pts_one (pt_cmpR (kEq (K := K) hr) (pe_callB (kLen (K := K)) (by rfl) T.m_len bt_len (pa_cons (pv 4) pa_nil)) (pv 1) (nomark _)))) (fun _ _ _ _ _ => (pv 4))) pa_nil)))))), ?_⟩)
  exact body_p (n := 2) (m := 3) (Γr := [.fro, .fro, .fro]) (Γl := []) (Γ' := []) (N := ["n", "k", "found", "i", "some"]) (sem_seq (sem_asg ((sem_lst (sem_acons (sem_tup sem_anil) sem_anil))).e (by decide))
  (sem_seq (sem_for (semI_rng1 (sem_vcons ((sem_var (i := 0) rfl)).v sem_vnil)) (sem_gname (i := 3) rfl)
  (sem_asg (sem_op oe_add ((sem_var (i := 2) rfl)).v ((sem_lc (semIc_seq ((sem_var (i := 2) rfl)).v) (sem_gname (i := 4) rfl) (sem_test ((sem_op oe_lt ((sem_cb ca_len (sem_vcons ((sem_var (i := 4) rfl)).v sem_vnil))).v ((sem_var (i := 1) rfl)).v)).v) (sem_op oe_add ((sem_var (i := 4) rfl)).v ((sem_tup (sem_acons (sem_var (i := 3) rfl) sem_anil))).v) (allFro rfl) (by decide))).e.v) (by decide)))
  (sem_ret ((sem_cbL ca_srt (sem_vcons ((sem_lc (semIc_seq ((sem_var (i := 2) rfl)).v) (sem_gname (i := 4) rfl) (sem_test ((sem_op oe_eq ((sem_cb ca_len (sem_vcons ((sem_var (i := 4) rfl)).v sem_vnil))).v ((sem_var (i := 1) rfl)).v)).v) (sem_var (i := 4) rfl) (allFro rfl) (by decide))).e.v sem_vnil))).e))) rfl rfl h
theorem b__law_common_T (T : Tx K mg) : Binds K T.fd__law_common ["numbers"] [] := T.F__law_common.binds fun _ _ _ _ _ _ us hl => match us, hl with | [_], _ => rfl
set_option maxHeartbeats 4000000 in
theorem ok__law_common (T : Tx K mg) : FnG Pr w K mg base 1 T.a__law_common T.fd__law_common ["numbers"] (spP 1 F__law_common) := by
  refine fn_g (k := 0) T.F__law_common sc__law_common (fun vs H Q E h => h.1) (fun cdv A outer s H vs Q E hgd hr h => ⟨_, (pss_cons (ps_set (i := 1) sc__law_common.nd rfl (Or.inl rfl) pe_int)
  (pss_cons (ps_for PassesOwn.never rfl (piSeq (K := K) (pv 0)) (pg_name (i := 2) sc__law_common.nd rfl (Or.inl rfl))
  (pss_cons (ps_set (i := 3) sc__law_common.nd rfl (Or.inl rfl) (pe_callB (call_max2 rfl) (by rfl) T.m_max bt_max (pa_cons (pv 2) (pa_cons (pe_op op_sub pe_int (pv 2)) pa_nil))))
  (pss_one (ps_while PassesOwn.never (pt_cmpR op_gt (pv 3) pe_int (nomark _))
  (pss_one (ps_par (i := 1) (j := 3) rfl sc__law_common.nd rfl rfl (by decide) rfl rfl (pa_cons (pv 3) (pa_cons (pe_op op_modN (pe_callTy call_int1 (by rfl) T.m_int bt_int (pa_cons (pv 1) pa_nil)) (pv 3)) pa_nil)) (by rfl)))))))
  (pss_one (ps_ret (pv 1))))), ?_⟩)
  exact body_p (n := 1) (m := 3) (Γr := [.fro, .fro, .fro]) (Γl := []) (Γ' := []) (N := ["numbers", "a", "x", "b"]) (sem_seq (sem_asg sem_int (by decide))
  (sem_seq (sem_for (semI_seq (sem_var (i := 0) rfl)) (sem_gname (i := 2) rfl)
  (sem_seq (sem_asg (sem_cb ca_max2 (sem_vcons ((sem_var (i := 2) rfl)).v (sem_vcons ((sem_op oe_sub (sem_int).v ((sem_var (i := 2) rfl)).v)).v sem_vnil))) (by decide))
  (sem_while (sem_test ((sem_op oe_gt ((sem_var (i := 3) rfl)).v (sem_int).v)).v)
  (sem_par (sem_acons (sem_var (i := 3) rfl) (sem_acons (sem_op oe_mod ((sem_cb ca_int (sem_vcons ((sem_var (i := 1) rfl)).v sem_vnil))).v ((sem_var (i := 3) rfl)).v) sem_anil)) rfl rfl))))
  (sem_ret (sem_var (i := 1) rfl)))) rfl rfl h
theorem b__law_balance_T (T : Tx K mg) : Binds K T.fd__law_balance ["lot"] [] := T.F__law_balance.binds fun _ _ _ _ _ _ us hl => match us, hl with | [_], _ => rfl
set_option maxHeartbeats 4000000 in
theorem ok__law_balance (T : Tx K mg) : FnG Pr w K mg base 7 T.a__law_balance T.fd__law_balance ["lot"] (spP 1 F__law_balance) := by
  refine fn_g (k := 6) T.F__law_balance sc__law_balance (fun vs H Q E h => h.1) (fun cdv A outer s H vs Q E hgd hr h => ⟨_, (pss_cons (ps_setLc (i := 1) (own := [("point", 6)]) rfl sc__law_balance.nd rfl rfl (sw_true rfl rfl rfl (by decide +kernel)) (piSeq (K := K) (pv 0)) (blkOk_by (by kernel_rfl)) (fun _ _ _ _ _ => (pg_name (i := 6) sc__law_balance.nd rfl (Or.inl rfl))) (fun _ _ _ _ _ => pts_nil) (fun _ _ _ _ _ => (pe_op (kAdd (K := K)) (pe_lst (pa_cons pe_int pa_nil)) (pe_callTy (kLst (K := K)) (by rfl) T.m_list bt_list (pa_cons (pv 6) pa_nil)))))
  (pss_cons (ps_set (i := 2) sc__law_balance.nd rfl (Or.inl rfl) (pe_lst pa_nil))
  (pss_cons (ps_for PassesOwn.never rfl (pi_range1 (by rfl) T.m_range (pa_cons (pe_callB (kLen (K := K)) (by rfl) T.m_len bt_len (pa_cons (pv 1) pa_nil)) pa_nil)) (pg_name (i := 3) sc__law_balance.nd rfl (Or.inl rfl))
  (pss_one (ps_expr (pe_bm PySem.F.plainAttrs_list PySem.F.slot_list_append PySem.F.type_list_append mt_append (pv 2) (pa_cons (pe_op (kMul (K := K)) (pe_op op_sub pe_int (pe_op (kMul (K := K)) pe_int (pe_op op_modN (pe_callTy call_int1 (by rfl) T.m_int bt_int (pa_cons (pv 3) pa_nil)) pe_int))) (pe_callG ((ok__law_turns T).mono (by decide)) hgd hr (by rfl) T.g__law_turns T.F__law_turns.kp (b__law_turns_T T) (pa_cons (pe_op (kAdd (K := K)) (pe_slice (kSl (K := K)) (pv 1) po_none (po_some (pv 3))) (pe_slice (kSl (K := K)) (pv 1) (po_some (pe_op (kAdd (K := K)) (pv 3) pe_int)) po_none)) pa_nil))) pa_nil)))))
  (pss_cons (ps_set (i := 4) sc__law_balance.nd rfl (Or.inr rfl) (pe_callG ((ok__law_common T).mono (by decide)) hgd hr (by rfl) T.g__law_common T.F__law_common.kp (b__law_common_T T) (pa_cons (pv 2) pa_nil)))
  (pss_cons (ps_if (pt_cmpR (kEq (K := K) hr) (pv 4) pe_int (nomark _)) (pss_one (ps_ret (pe_callTy (kTup (K := K)) (by rfl) T.m_tuple bt_tuple (pa_cons (pv 2) pa_nil)))) pss_nil)
  (pss_cons (ps_set (i := 5) sc__law_balance.nd rfl (Or.inr rfl) (pe_ix (kIx (K := K)) (pe_lc (own := [("x", 7)]) rfl sc__law_balance.nd  (piSeq (K := K) (pv 2)) (blkOk_by (by kernel_rfl)) (fun _ _ _ _ _ => (pg_name (i := 7) sc__law_balance.nd rfl (Or.inl rfl))) (fun _ _ _ _ _ => (pts_one (pt_cmpR (kNe (K := K) hr) (pv 7) pe_int (nomark _)))) (fun _ _ _ _ _ => (pv 7))) pe_int (fun _ _ => rfl)))
  (pss_one (ps_ret (pe_callTy (kTup (K := K)) (by rfl) T.m_tuple bt_tuple (pa_cons (pe_lc (own := [("x", 7)]) rfl sc__law_balance.nd  (piSeq (K := K) (pv 2)) (blkOk_by (by kernel_rfl)) (fun _ _ _ _ _ => (pg_name (i := 7) sc__law_balance.nd rfl (Or.inl rfl))) (fun _ _ _ _ _ => pts_nil) (fun _ _ _ _ _ => (pe_ifExp (pt_cmpR op_gt (pv 5) pe_int (nomark _)) (pe_op op_fdivF (pv 7) (pv 4)) (pe_op op_sub pe_int (pe_op op_fdivF (pv 7) (pv 4)))))) pa_nil)))))))))), ?_⟩)
  exact body_p (n := 1) (m := 7) (Γr := [.fro, .fro, .fro, .fro, .fro, .fro, .fro]) (Γl := []) (Γ' := []) (N := ["lot", "rows", "told", "i", "common", "first", "point", "x"]) (sem_seq (sem_asg ((sem_lc (semIc_seq ((sem_var (i := 0) rfl)).v) (sem_gname (i := 6) rfl) sem_yes (sem_op oe_add ((sem_lst (sem_acons sem_int sem_anil))).e.v ((sem_cbL ca_lst (sem_vcons ((sem_var (i := 6) rfl)).v sem_vnil))).e.v) (allFro rfl) (by decide))).e (by decide))
  (sem_seq (sem_asgOwn (sem_lst sem_anil) (by decide))
  (sem_seq (sem_for (semI_rng1 (sem_vcons ((sem_cb ca_len (sem_vcons ((sem_var (i := 1) rfl)).v sem_vnil))).v sem_vnil)) (sem_gname (i := 3) rfl)
  (sem_app (i := 2) rfl (sem_op oe_mulX ((sem_op oe_sub (sem_int).v ((sem_op oe_mulX (sem_int).v ((sem_op oe_mod ((sem_cb ca_int (sem_vcons ((sem_var (i := 3) rfl)).v sem_vnil))).v (sem_int).v)).v)).v)).v ((sem_call (sem_acons (sem_op oe_add ((sem_sl ((sem_var (i := 1) rfl)).v sem_oNo (sem_oPart ((sem_var (i := 3) rfl)).v))).v ((sem_sl ((sem_var (i := 1) rfl)).v (sem_oPart ((sem_op oe_add ((sem_var (i := 3) rfl)).v (sem_int).v)).v) sem_oNo)).v) sem_anil))).v)))
  (sem_frz (i := 2) rfl (sem_seq (sem_asg (sem_call (sem_acons (sem_var (i := 2) rfl) sem_anil)) (by decide))
  (sem_seq (sem_if (sem_test ((sem_op oe_eq ((sem_var (i := 4) rfl)).v (sem_int).v)).v) (sem_ret (sem_cb ca_tup (sem_vcons ((sem_var (i := 2) rfl)).v sem_vnil))) sem_nx)
  (sem_seq (sem_asg (sem_op oe_ix ((sem_lc (semIc_seq ((sem_var (i := 2) rfl)).v) (sem_gname (i := 7) rfl) (sem_test ((sem_op oe_ne ((sem_var (i := 7) rfl)).v (sem_int).v)).v) (sem_var (i := 7) rfl) (allFro rfl) (by decide))).e.v (sem_int).v) (by decide))
  (sem_ret (sem_cb ca_tup (sem_vcons ((sem_lc (semIc_seq ((sem_var (i := 2) rfl)).v) (sem_gname (i := 7) rfl) sem_yes (sem_eIf (sem_test ((sem_op oe_gt ((sem_var (i := 5) rfl)).v (sem_int).v)).v) (sem_op oe_fdiv ((sem_var (i := 7) rfl)).v ((sem_var (i := 4) rfl)).v) (sem_op oe_sub (sem_int).v ((sem_op oe_fdiv ((sem_var (i := 7) rfl)).v ((sem_var (i := 4) rfl)).v)).v)) (allFro rfl) (by decide))).e.v sem_vnil)))))))))) rfl rfl h
theorem b__law_flat_T (T : Tx K mg) : Binds K T.fd__law_flat ["lot"] [] := T.F__law_flat.binds fun _ _ _ _ _ _ us hl => match us, hl with | [_], _ => rfl
set_option maxHeartbeats 4000000 in
theorem ok__law_flat (T : Tx K mg) : FnG Pr w K mg base 7 T.a__law_flat T.fd__law_flat ["lot"] (spP 1 F__law_flat) := by
  refine fn_g (k := 6) T.F__law_flat sc__law_flat (fun vs H Q E h => h.1) (fun cdv A outer s H vs Q E hgd hr h => ⟨_, (pss_cons (ps_set (i := 1) sc__law_flat.nd rfl (Or.inr rfl) (pe_lc (own := [("point", 5)]) rfl sc__law_flat.nd  (piSeq (K := K) (pv 0)) (blkOk_by (by kernel_rfl)) (fun _ _ _ _ _ => (pg_name (i := 5) sc__law_flat.nd rfl (Or.inl rfl))) (fun _ _ _ _ _ => pts_nil) (fun _ _ _ _ _ => (pe_op (kAdd (K := K)) (pe_lst (pa_cons pe_int pa_nil)) (pe_callTy (kLst (K := K)) (by rfl) T.m_list bt_list (pa_cons (pv 5) pa_nil))))))
  (pss_cons (ps_for PassesOwn.never rfl (pi_range3 (by rfl) T.m_range (pa_cons (pe_callB (call_min2 rfl) (by rfl) T.m_min bt_min (pa_cons (pe_callB (kLen (K := K)) (by rfl) T.m_len bt_len (pa_cons (pv 1) pa_nil)) (pa_cons (pe_callB (kLen (K := K)) (by rfl) T.m_len bt_len (pa_cons (pe_ix (kIx (K := K)) (pv 1) pe_int (fun _ _ => rfl)) pa_nil)) pa_nil))) (pa_cons pe_int (pa_cons (pe_un un_neg pe_int) pa_nil)))) (pg_name (i := 2) sc__law_flat.nd rfl (Or.inl rfl))
  (pss_one (ps_for PassesOwn.never rfl (piSeq (K := K) (pe_callG ((ok__law_some T).mono (by decide)) hgd hr (by rfl) T.g__law_some T.F__law_some.kp (b__law_some_T T) (pa_cons (pe_callB (kLen (K := K)) (by rfl) T.m_len bt_len (pa_cons (pv 1) pa_nil)) (pa_cons (pv 2) pa_nil)))) (pg_name (i := 3) sc__law_flat.nd rfl (Or.inl rfl))
  (pss_one (ps_for PassesOwn.never rfl (piSeq (K := K) (pe_callG ((ok__law_some T).mono (by decide)) hgd hr (by rfl) T.g__law_some T.F__law_some.kp (b__law_some_T T) (pa_cons (pe_callB (kLen (K := K)) (by rfl) T.m_len bt_len (pa_cons (pe_ix (kIx (K := K)) (pv 1) pe_int (fun _ _ => rfl)) pa_nil)) (pa_cons (pv 2) pa_nil)))) (pg_name (i := 4) sc__law_flat.nd rfl (Or.inr rfl))
  (pss_one (ps_if (pt_cmpR (kNe (K := K) hr) (pe_callG ((ok__law_turns T).mono (by decide)) hgd hr (by rfl) T.g__law_turns T.F__law_turns.kp (b__law_turns_T T) (pa_cons (pe_lc (own := [("i", 6)]) rfl sc__law_flat.nd  (piSeq (K := K) (pv 3)) (blkOk_by (by kernel_rfl)) (fun _ _ _ _ _ => (pg_name (i := 6) sc__law_flat.nd rfl (Or.inr rfl))) (fun _ _ _ _ _ => pts_nil) (fun _ _ _ _ _ => (pe_lc (own := [("j", 7)]) rfl sc__law_flat.nd  (piSeq (K := K) (pv 4)) (blkOk_by (by kernel_rfl)) (fun _ _ _ _ _ => (pg_name (i := 7) sc__law_flat.nd rfl (Or.inl rfl))) (fun _ _ _ _ _ => pts_nil) (fun _ _ _ _ _ => (pe_ix (kIx (K := K)) (pe_ix (kIx (K := K)) (pv 1) (pv 6) (fun _ _ => rfl)) (pv 7) (fun _ _ => rfl)))))) pa_nil)) pe_int (nomark _)) (pss_one (ps_ret (pe_op op_sub (pv 2) pe_int))) pss_nil)))))))
  (pss_one (ps_ret pe_int)))), ?_⟩)
  exact body_p (n := 1) (m := 7) (Γr := [.fro, .fro, .fro, .fro, .fro, .fro, .fro]) (Γl := []) (Γ' := []) (N := ["lot", "rows", "k", "some", "places", "point", "i", "j"]) (sem_seq (sem_asg ((sem_lc (semIc_seq ((sem_var (i := 0) rfl)).v) (sem_gname (i := 5) rfl) sem_yes (sem_op oe_add ((sem_lst (sem_acons sem_int sem_anil))).e.v ((sem_cbL ca_lst (sem_vcons ((sem_var (i := 5) rfl)).v sem_vnil))).e.v) (allFro rfl) (by decide))).e (by decide))
  (sem_seq (sem_for (semI_down (sem_vcons ((sem_cb ca_min2 (sem_vcons ((sem_cb ca_len (sem_vcons ((sem_var (i := 1) rfl)).v sem_vnil))).v (sem_vcons ((sem_cb ca_len (sem_vcons ((sem_op oe_ix ((sem_var (i := 1) rfl)).v (sem_int).v)).v sem_vnil))).v sem_vnil)))).v (sem_vcons (sem_int).v (sem_vcons ((sem_un oe_neg (sem_int).v)).v sem_vnil)))) (sem_gname (i := 2) rfl)
  (sem_for (semI_seq (sem_call (sem_acons (sem_cb ca_len (sem_vcons ((sem_var (i := 1) rfl)).v sem_vnil)) (sem_acons (sem_var (i := 2) rfl) sem_anil)))) (sem_gname (i := 3) rfl)
  (sem_for (semI_seq (sem_call (sem_acons (sem_cb ca_len (sem_vcons ((sem_op oe_ix ((sem_var (i := 1) rfl)).v (sem_int).v)).v sem_vnil)) (sem_acons (sem_var (i := 2) rfl) sem_anil)))) (sem_gname (i := 4) rfl)
  (sem_if (sem_test ((sem_op oe_ne ((sem_call (sem_acons ((sem_lc (semIc_seq ((sem_var (i := 3) rfl)).v) (sem_gname (i := 6) rfl) sem_yes ((sem_lc (semIc_seq ((sem_var (i := 4) rfl)).v) (sem_gname (i := 7) rfl) sem_yes (sem_op oe_ix ((sem_op oe_ix ((sem_var (i := 1) rfl)).v ((sem_var (i := 6) rfl)).v)).v ((sem_var (i := 7) rfl)).v) (allFro rfl) (by decide))).e (allFro rfl) (by decide))).e sem_anil))).v (sem_int).v)).v) (sem_ret (sem_op oe_sub ((sem_var (i := 2) rfl)).v (sem_int).v)) sem_nx))))
  (sem_ret sem_int))) rfl rfl h
theorem b_law_T (T : Tx K mg) : Binds K T.fd_law ["script"] [] := T.F_law.binds fun _ _ _ _ _ _ us hl => match us, hl with | [_], _ => rfl
set_option maxHeartbeats 4000000 in
theorem ok_law (T : Tx K mg) : FnG Pr w K mg base 8 T.a_law T.fd_law ["script"] (spLaw K) := by
  refine fn_g (k := 7) T.F_law sc_law (fun vs H Q E ⟨a, ns, e, _⟩ => by rw [e]; rfl) (fun cdv A outer s H vs Q E hgd hr h => ⟨_, (pss_cons (ps_set (i := 1) sc_law.nd rfl (Or.inr rfl) (pe_callG ((ok__law_open_cells T).mono (by decide)) hgd hr (by rfl) T.g__law_open_cells T.F__law_open_cells.kp (b__law_open_cells_T T) (pa_cons (pv 0) pa_nil)))
  (pss_cons (ps_for PassesOwn.never rfl (pi_range1 (by rfl) T.m_range (pa_cons pe_int pa_nil)) (pg_name (i := 2) sc_law.nd rfl (Or.inl rfl))
  (pss_cons (ps_set (i := 3) sc_law.nd rfl (Or.inr rfl) (pe_op (kAdd (K := K)) pe_int (pe_callG ((ok__law_pick T).mono (by decide)) hgd hr (by rfl) T.g__law_pick T.F__law_pick.kp (b__law_pick_T T) (pa_cons (pv 1) (pa_cons pe_int pa_nil)))))
  (pss_cons (ps_set (i := 4) sc_law.nd rfl (Or.inl rfl) (pe_callTy (kTup (K := K)) (by rfl) T.m_tuple bt_tuple (pa_cons (pe_lc (own := [("i", 11)]) rfl sc_law.nd  (pi_range1 (by rfl) T.m_range (pa_cons (pv 3) pa_nil)) (blkOk_by (by kernel_rfl)) (fun _ _ _ _ _ => (pg_name (i := 11) sc_law.nd rfl (Or.inl rfl))) (fun _ _ _ _ _ => pts_nil) (fun _ _ _ _ _ => (pe_callTy (kTup (K := K)) (by rfl) T.m_tuple bt_tuple (pa_cons (pe_lc (own := [("j", 13)]) rfl sc_law.nd  (pi_range1 (by rfl) T.m_range (pa_cons (pv 3) pa_nil)) (blkOk_by (by kernel_rfl)) (fun _ _ _ _ _ => (pg_name (i := 13) sc_law.nd rfl (Or.inl rfl))) (fun _ _ _ _ _ => pts_nil) (fun _ _ _ _ _ => (pe_op op_sub (pe_callG ((ok__law_pick T).mono (by decide)) hgd hr (by rfl) T.g__law_pick T.F__law_pick.kp (b__law_pick_T T) (pa_cons (pv 1) (pa_cons pe_int pa_nil))) pe_int))) pa_nil)))) pa_nil)))
  (pss_cons (ps_if (pt_cmpR (kEqX (K := K) hr) (pe_callG ((ok__law_pick T).mono (by decide)) hgd hr (by rfl) T.g__law_pick T.F__law_pick.kp (b__law_pick_T T) (pa_cons (pv 1) (pa_cons pe_int pa_nil))) pe_int (nomark _)) (pss_one (ps_set (i := 4) sc_law.nd rfl (Or.inl rfl) (pe_op (kAdd (K := K)) (pe_slice (kSl (K := K)) (pv 4) po_none (po_some (pe_un un_neg pe_int))) (pe_tup (pa_cons (pe_ix (kIx (K := K)) (pv 4) pe_int (fun _ _ => rfl)) pa_nil))))) pss_nil)
  (pss_cons (ps_if (pt_cmpR (kNeX (K := K) hr) (pe_callB (kReprX (K := K) hgd hr) (by rfl) T.m_repr bt_repr (pa_cons (pe_callG ((ok_table_determinant T).mono (by decide)) hgd hr (by rfl) T.g_table_determinant T.F_table_determinant.kp (b_table_determinant_T T) (pa_cons (pv 4) pa_nil)) pa_nil)) (pe_callB (kReprX (K := K) hgd hr) (by rfl) T.m_repr bt_repr (pa_cons (pe_callG ((ok__law_turns T).mono (by decide)) hgd hr (by rfl) T.g__law_turns T.F__law_turns.kp (b__law_turns_T T) (pa_cons (pe_lc (own := [("row", 14)]) rfl sc_law.nd  (piSeq (K := K) (pv 4)) (blkOk_by (by kernel_rfl)) (fun _ _ _ _ _ => (pg_name (i := 14) sc_law.nd rfl (Or.inl rfl))) (fun _ _ _ _ _ => pts_nil) (fun _ _ _ _ _ => (pe_callTy (kLst (K := K)) (by rfl) T.m_list bt_list (pa_cons (pv 14) pa_nil)))) pa_nil)) pa_nil)) (nomark _)) (pss_one (ps_ret pe_bl)) pss_nil)
  (pss_cons (ps_set (i := 5) sc_law.nd rfl (Or.inl rfl) (pe_op (kAdd (K := K)) pe_int (pe_callG ((ok__law_pick T).mono (by decide)) hgd hr (by rfl) T.g__law_pick T.F__law_pick.kp (b__law_pick_T T) (pa_cons (pv 1) (pa_cons pe_int pa_nil)))))
  (pss_cons (ps_set (i := 6) sc_law.nd rfl (Or.inl rfl) (pe_callG ((ok__law_lot T).mono (by decide)) hgd hr (by rfl) T.g__law_lot T.F__law_lot.kp (b__law_lot_T T) (pa_cons (pv 1) (pa_cons (pv 5) (pa_cons (pe_op (kAdd (K := K)) pe_int (pe_callG ((ok__law_pick T).mono (by decide)) hgd hr (by rfl) T.g__law_pick T.F__law_pick.kp (b__law_pick_T T) (pa_cons (pv 1) (pa_cons pe_int pa_nil)))) (pa_cons (pe_callG ((ok__law_of T).mono (by decide)) hgd hr (by rfl) T.g__law_of T.F__law_of.kp (b__law_of_T T) (pa_cons (pv 1) (pa_cons (pe_lst (pa_cons pe_int (pa_cons pe_int pa_nil))) pa_nil))) pa_nil))))))
  (pss_cons (ps_if ((pw_and (pt_cmpR (kEqX (K := K) hr) (pe_callG ((ok__law_pick T).mono (by decide)) hgd hr (by rfl) T.g__law_pick T.F__law_pick.kp (b__law_pick_T T) (pa_cons (pv 1) (pa_cons pe_int pa_nil))) pe_int (nomark _)) (pw_and1 (pt_cmpR op_gt (pv 5) pe_int (nomark _))))).pt (pss_one (ps_set (i := 6) sc_law.nd rfl (Or.inl rfl) (pe_callTy (kTup (K := K)) (by rfl) T.m_tuple bt_tuple (pa_cons (pe_callB (kSrtD rfl hr) (by rfl) T.m_sorted bt_sorted (pa_cons (pe_callTy (kDictT (K := K) rfl hr) (by rfl) T.m_dict bt_dict (pa_cons (pe_lc (own := [("point", 15)]) rfl sc_law.nd  (piSeq (K := K) (pv 6)) (blkOk_by (by kernel_rfl)) (fun _ _ _ _ _ => (pg_name (i := 15) sc_law.nd rfl (Or.inl rfl))) (fun _ _ _ _ _ => pts_nil) (fun _ _ _ _ _ => (pe_tup (pa_cons (pe_op (kAdd (K := K)) (pe_slice (kSl (K := K)) (pv 15) po_none (po_some (pe_un un_neg pe_int))) (pe_tup (pa_cons (pe_callB (kSumX (K := K) rfl) (by rfl) T.m_sum bt_sum (pa_cons (pe_slice (kSl (K := K)) (pv 15) po_none (po_some (pe_un un_neg pe_int))) pa_nil)) pa_nil))) (pa_cons pe_int pa_nil))))) pa_nil)) pa_nil)) pa_nil)))) pss_nil)
  (pss_cons (ps_par (i := 7) (j := 8) rfl sc_law.nd rfl rfl (by decide) rfl rfl (pa_cons (pe_callB (kReprX (K := K) hgd hr) (by rfl) T.m_repr bt_repr (pa_cons (pv 6) pa_nil)) (pa_cons (pe_callG ((ok__law_flat T).mono (by decide)) hgd hr (by rfl) T.g__law_flat T.F__law_flat.kp (b__law_flat_T T) (pa_cons (pv 6) pa_nil)) pa_nil)) (by rfl))
  (pss_cons (ps_if (pt_cmpR (kNeX (K := K) hr) (pe_callB (kReprX (K := K) hgd hr) (by rfl) T.m_repr bt_repr (pa_cons (pe_lst (pa_cons (pe_callG ((ok_flat_size T).mono (by decide)) hgd hr (by rfl) T.g_flat_size T.F_flat_size.kp (b_flat_size_T T) (pa_cons (pv 6) pa_nil)) (pa_cons (pe_callG ((ok_is_on_plane T).mono (by decide)) hgd hr (by rfl) T.g_is_on_plane T.F_is_on_plane.kp (b_is_on_plane_T T) (pa_cons (pv 6) pa_nil)) pa_nil))) pa_nil)) (pe_callB (kReprX (K := K) hgd hr) (by rfl) T.m_repr bt_repr (pa_cons (pe_lst (pa_cons (pv 8) (pa_cons (pe_cmpR op_lt (pv 8) (pv 5) (nomark _)) pa_nil))) pa_nil)) (nomark _)) (pss_one (ps_ret pe_bl)) pss_nil)
  (pss_cons (ps_set (i := 9) sc_law.nd rfl (Or.inr rfl) (pe_callG ((ok__law_lot T).mono (by decide)) hgd hr (by rfl) T.g__law_lot T.F__law_lot.kp (b__law_lot_T T) (pa_cons (pv 1) (pa_cons (pv 5) (pa_cons (pe_op (kAdd (K := K)) (pv 5) pe_int) (pa_cons (pe_callG ((ok__law_of T).mono (by decide)) hgd hr (by rfl) T.g__law_of T.F__law_of.kp (b__law_of_T T) (pa_cons (pv 1) (pa_cons (pe_lst (pa_cons pe_int (pa_cons pe_int pa_nil))) pa_nil))) pa_nil))))))
  (pss_cons (ps_set (i := 10) sc_law.nd rfl (Or.inr rfl) (pe_callG ((ok_balance_of T).mono (by decide)) hgd hr (by rfl) T.g_balance_of T.F_balance_of.kp (b_balance_of_T T) (pa_cons (pv 9) pa_nil)))
  (pss_cons (ps_if ((pw_or (pt_cmpR (kNeX (K := K) hr) (pe_callB (kReprX (K := K) hgd hr) (by rfl) T.m_repr bt_repr (pa_cons (pv 10) pa_nil)) (pe_callB (kReprX (K := K) hgd hr) (by rfl) T.m_repr bt_repr (pa_cons (pe_callG ((ok__law_balance T).mono (by decide)) hgd hr (by rfl) T.g__law_balance T.F__law_balance.kp (b__law_balance_T T) (pa_cons (pv 9) pa_nil)) pa_nil)) (nomark _)) (pw_or1 (pt_cmpR (kNeX (K := K) hr) (pe_callB (kSumX (K := K) rfl) (by rfl) T.m_sum bt_sum (pa_cons (pv 10) pa_nil)) pe_int (nomark _))))).pt (pss_one (ps_ret pe_bl)) pss_nil)
  (pss_cons (ps_if (pt_cmpR (kNeX (K := K) hr) (pe_lc (own := [("j", 13)]) rfl sc_law.nd  (pi_range1 (by rfl) T.m_range (pa_cons (pv 5) pa_nil)) (blkOk_by (by kernel_rfl)) (fun _ _ _ _ _ => (pg_name (i := 13) sc_law.nd rfl (Or.inr rfl))) (fun _ _ _ _ _ => (pts_one (pt_cmpR (kNeX (K := K) hr) (pe_callB (kSumX (K := K) rfl) (by rfl) T.m_sum bt_sum (pa_cons (pe_lc (own := [("x", 12), ("point", 15)]) rfl sc_law.nd  (piZip (K := K) (by rfl) T.m_zip (pa_cons (pv 10) (pa_cons (pv 9) pa_nil))) (blkOk_by (by kernel_rfl)) (fun _ _ _ _ _ => (pgTup (K := K) (n := 2) rfl (pgs_cons (pg_name (i := 12) sc_law.nd rfl (Or.inl rfl)) (pgs_cons (pg_name (i := 15) sc_law.nd rfl (Or.inl rfl)) pgs_nil)))) (fun _ _ _ _ _ => pts_nil) (fun _ _ _ _ _ => (pe_op (kMul (K := K)) (pv 12) (pe_ix (kIx (K := K)) (pv 15) (pv 13) (fun _ _ => rfl))))) pa_nil)) pe_int (nomark _)))) (fun _ _ _ _ _ => (pv 13))) (pe_lst pa_nil) (nomark _)) (pss_one (ps_ret pe_bl)) pss_nil)
  (pss_cons (ps_for PassesOwn.never rfl (piEnum (K := K) (by rfl) T.m_enumerate (pa_cons (pv 10) pa_nil)) (pgTup (K := K) (n := 2) rfl (pgs_cons (pg_name (i := 11) sc_law.nd rfl (Or.inl rfl)) (pgs_cons (pg_name (i := 12) sc_law.nd rfl (Or.inl rfl)) pgs_nil)))
  (pss_one (ps_if (pt_cmpR (kNeX (K := K) hr) (pe_cmpR (kEqX (K := K) hr) (pv 12) pe_int (nomark _)) (pe_callG ((ok_is_on_plane T).mono (by decide)) hgd hr (by rfl) T.g_is_on_plane T.F_is_on_plane.kp (b_is_on_plane_T T) (pa_cons (pe_op (kAdd (K := K)) (pe_slice (kSl (K := K)) (pv 9) po_none (po_some (pv 11))) (pe_slice (kSl (K := K)) (pv 9) (po_some (pe_op (kAdd (K := K)) (pv 11) pe_int)) po_none)) pa_nil)) (nomark _)) (pss_one (ps_ret pe_bl)) pss_nil)))
  (pss_one (ps_if (pt_cmpR (kNeX (K := K) hr) (pe_callB (kReprX (K := K) hgd hr) (by rfl) T.m_repr bt_repr (pa_cons (pv 6) pa_nil)) (pv 7) (nomark _)) (pss_one (ps_ret pe_bl)) pss_nil)))))))))))))))))
  (pss_one (ps_ret (pe_cmpR (kEqX (K := K) hr) (pe_callG ((ok_balance_of T).mono (by decide)) hgd hr (by rfl) T.g_balance_of T.F_balance_of.kp (b_balance_of_T T) (pa_cons (pe_tup (pa_cons (pe_tup (pa_cons pe_int pa_nil)) (pa_cons (pe_tup (pa_cons pe_int pa_nil)) (pa_cons (pe_tup (pa_cons pe_int pa_nil)) pa_nil)))) pa_nil)) (pe_tup (pa_cons pe_int (pa_cons (pe_un un_neg pe_int) (pa_cons pe_int pa_nil)))) (nomark _)))))), ?_⟩)
  exact law_rest (K := K) (N := ["script", "source", "lap", "k", "rows", "d", "lot", "kept", "size", "some", "told", "i", "x", "j", "row", "point"]) (Γr := [.fro, .fro, .fro, .fro, .fro, .fro, .fro, .fro, .fro, .fro, .fro, .fro, .fro, .fro]) (Γ' := []) (to := tNil) (fun src cl => (sem_seq (sem_for (semI_rng1 (sem_vcons (sem_int).v sem_vnil)) (sem_gname (i := 2) rfl)
  (sem_seq (sem_asg (sem_op oe_add (sem_int).v ((sem_callX (i := 1) rfl (sem_acons sem_int sem_anil))).v) (by decide))
  (sem_seq (sem_asg (sem_cb ca_tup (sem_vcons ((sem_lc (semIc_rng1 (sem_vcons ((sem_var (i := 3) rfl)).v sem_vnil)) (sem_gname (i := 11) rfl) sem_yes (sem_cb ca_tup (sem_vcons ((sem_lc (semIc_rng1 (sem_vcons ((sem_var (i := 3) rfl)).v sem_vnil)) (sem_gname (i := 13) rfl) sem_yes (sem_op oe_sub ((sem_callX (i := 1) rfl (sem_acons sem_int sem_anil))).v (sem_int).v) (allFro rfl) (by decide))).e.v sem_vnil)) (allFro rfl) (by decide))).e.v sem_vnil)) (by decide))
  (sem_seq (sem_if (sem_test ((sem_op oe_eqX ((sem_callX (i := 1) rfl (sem_acons sem_int sem_anil))).v (sem_int).v)).v) (sem_asg (sem_op oe_add ((sem_sl ((sem_var (i := 4) rfl)).v sem_oNo (sem_oPart ((sem_un oe_neg (sem_int).v)).v))).v ((sem_tup (sem_acons (sem_op oe_ix ((sem_var (i := 4) rfl)).v (sem_int).v) sem_anil))).v) (by decide)) sem_nx)
  (sem_seq (sem_if (sem_test ((sem_op oe_neX ((sem_cb ca_reprX (sem_vcons ((sem_call (sem_acons (sem_var (i := 4) rfl) sem_anil))).v sem_vnil))).v ((sem_cb ca_reprX (sem_vcons ((sem_call (sem_acons ((sem_lc (semIc_seq ((sem_var (i := 4) rfl)).v) (sem_gname (i := 14) rfl) sem_yes ((sem_cbL ca_lst (sem_vcons ((sem_var (i := 14) rfl)).v sem_vnil))).e (allFro rfl) (by decide))).e sem_anil))).v sem_vnil))).v)).v) (sem_ret sem_bl) sem_nx)
  (sem_seq (sem_asg (sem_op oe_add (sem_int).v ((sem_callX (i := 1) rfl (sem_acons sem_int sem_anil))).v) (by decide))
  (sem_seq (sem_asg (sem_callX (i := 1) rfl (sem_acons (sem_var (i := 5) rfl) (sem_acons (sem_op oe_add (sem_int).v ((sem_callX (i := 1) rfl (sem_acons sem_int sem_anil))).v) (sem_acons (sem_callX (i := 1) rfl (sem_acons ((sem_lst (sem_acons sem_int (sem_acons sem_int sem_anil)))).e sem_anil)) sem_anil)))) (by decide))
  (sem_seq (sem_if (sem_and (sem_test ((sem_op oe_eqX ((sem_callX (i := 1) rfl (sem_acons sem_int sem_anil))).v (sem_int).v)).v) (sem_test ((sem_op oe_gt ((sem_var (i := 5) rfl)).v (sem_int).v)).v)) (sem_asg (sem_cb ca_tup (sem_vcons ((sem_srtP (K := K) ((sem_lc (semIc_seq ((sem_var (i := 6) rfl)).v) (sem_gname (i := 15) rfl) sem_yes (sem_tup (sem_acons (sem_op oe_add ((sem_sl ((sem_var (i := 15) rfl)).v sem_oNo (sem_oPart ((sem_un oe_neg (sem_int).v)).v))).v ((sem_tup (sem_acons (sem_cb ca_sumX (sem_vcons ((sem_sl ((sem_var (i := 15) rfl)).v sem_oNo (sem_oPart ((sem_un oe_neg (sem_int).v)).v))).v sem_vnil)) sem_anil))).v) (sem_acons sem_int sem_anil))) (allFro rfl) (by decide))).e)).e.v sem_vnil)) (by decide)) sem_nx)
  (sem_seq (sem_par (sem_acons (sem_cb ca_reprX (sem_vcons ((sem_var (i := 6) rfl)).v sem_vnil)) (sem_acons (sem_call (sem_acons (sem_var (i := 6) rfl) sem_anil)) sem_anil)) rfl rfl)
  (sem_seq (sem_if (sem_test ((sem_op oe_neX ((sem_cb ca_reprX (sem_vcons ((sem_lst (sem_acons (sem_call (sem_acons (sem_var (i := 6) rfl) sem_anil)) (sem_acons (sem_call (sem_acons (sem_var (i := 6) rfl) sem_anil)) sem_anil)))).e.v sem_vnil))).v ((sem_cb ca_reprX (sem_vcons ((sem_lst (sem_acons (sem_var (i := 8) rfl) (sem_acons (sem_op oe_lt ((sem_var (i := 8) rfl)).v ((sem_var (i := 5) rfl)).v) sem_anil)))).e.v sem_vnil))).v)).v) (sem_ret sem_bl) sem_nx)
  (sem_seq (sem_asg (sem_callX (i := 1) rfl (sem_acons (sem_var (i := 5) rfl) (sem_acons (sem_op oe_add ((sem_var (i := 5) rfl)).v (sem_int).v) (sem_acons (sem_callX (i := 1) rfl (sem_acons ((sem_lst (sem_acons sem_int (sem_acons sem_int sem_anil)))).e sem_anil)) sem_anil)))) (by decide))
  (sem_seq (sem_asg (sem_call (sem_acons (sem_var (i := 9) rfl) sem_anil)) (by decide))
  (sem_seq (sem_if (sem_or (sem_test ((sem_op oe_neX ((sem_cb ca_reprX (sem_vcons ((sem_var (i := 10) rfl)).v sem_vnil))).v ((sem_cb ca_reprX (sem_vcons ((sem_call (sem_acons (sem_var (i := 9) rfl) sem_anil))).v sem_vnil))).v)).v) (sem_test ((sem_op oe_neX ((sem_cb ca_sumX (sem_vcons ((sem_var (i := 10) rfl)).v sem_vnil))).v (sem_int).v)).v)) (sem_ret sem_bl) sem_nx)
  (sem_seq (sem_if (sem_test ((sem_op oe_neX ((sem_lc (semIc_rng1 (sem_vcons ((sem_var (i := 5) rfl)).v sem_vnil)) (sem_gname (i := 13) rfl) (sem_test ((sem_op oe_neX ((sem_cb ca_sumX (sem_vcons ((sem_lc (semIc_zip (sem_vcons ((sem_var (i := 10) rfl)).v (sem_vcons ((sem_var (i := 9) rfl)).v sem_vnil))) (sem_gtup (sem_gscons (sem_gname (i := 12) rfl) (sem_gscons (sem_gname (i := 15) rfl) sem_gsnil))) sem_yes (sem_op oe_mulX ((sem_var (i := 12) rfl)).v ((sem_op oe_ix ((sem_var (i := 15) rfl)).v ((sem_var (i := 13) rfl)).v)).v) (allFro rfl) (by decide))).e.v sem_vnil))).v (sem_int).v)).v) (sem_var (i := 13) rfl) (allFro rfl) (by decide))).e.v ((sem_lst sem_anil)).e.v)).v) (sem_ret sem_bl) sem_nx)
  (sem_seq (sem_for (semI_enum (sem_acons (sem_var (i := 10) rfl) sem_anil)) (sem_gtup (sem_gscons (sem_gname (i := 11) rfl) (sem_gscons (sem_gname (i := 12) rfl) sem_gsnil)))
  (sem_if (sem_test ((sem_op oe_neX ((sem_op oe_eqX ((sem_var (i := 12) rfl)).v (sem_int).v)).v ((sem_call (sem_acons (sem_op oe_add ((sem_sl ((sem_var (i := 9) rfl)).v sem_oNo (sem_oPart ((sem_var (i := 11) rfl)).v))).v ((sem_sl ((sem_var (i := 9) rfl)).v (sem_oPart ((sem_op oe_add ((sem_var (i := 11) rfl)).v (sem_int).v)).v) sem_oNo)).v) sem_anil))).v)).v) (sem_ret sem_bl) sem_nx))
  (sem_if (sem_test ((sem_op oe_neX ((sem_cb ca_reprX (sem_vcons ((sem_var (i := 6) rfl)).v sem_vnil))).v ((sem_var (i := 7) rfl)).v)).v) (sem_ret sem_bl) sem_nx))))))))))))))))
  (sem_ret (sem_op oe_eqX ((sem_call (sem_acons (sem_tup (sem_acons (sem_tup (sem_acons sem_int sem_anil)) (sem_acons (sem_tup (sem_acons sem_int sem_anil)) (sem_acons (sem_tup (sem_acons sem_int sem_anil)) sem_anil)))) sem_anil))).v ((sem_tup (sem_acons sem_int (sem_acons (sem_un oe_neg (sem_int).v) (sem_acons sem_int sem_anil))))).v)))) rfl law_true h
end
end L74
namespace L74
open PySem PySem.Spec PyProof.Rows L2 Py StX
theorem all_mk {l : PySem.W.OpenLaw} {w : World} {K : PySem.W.Frag} {h : Heap} {mg : Str → Option Value} {fa : Addr} (X : K.In h) (G : h.Ns mainGlobals mg) (hfa : mg "law" = some (.ref fa))
    {f0 : Addr} {od0 an0 : Option Addr} {sl0 : Array (Option Value)} {oc0 kV0 dc0 pm0 cd0 ct0 : Value}
    {f1 : Addr} {od1 an1 : Option Addr} {sl1 : Array (Option Value)} {oc1 kV1 dc1 pm1 cd1 ct1 : Value}
    {f2 : Addr} {od2 an2 : Option Addr} {sl2 : Array (Option Value)} {oc2 kV2 dc2 pm2 cd2 ct2 : Value}
    {f3 : Addr} {od3 an3 : Option Addr} {sl3 : Array (Option Value)} {oc3 kV3 dc3 pm3 cd3 ct3 : Value}
    {f4 : Addr} {od4 an4 : Option Addr} {sl4 : Array (Option Value)} {oc4 kV4 dc4 pm4 cd4 ct4 : Value}
    {f5 : Addr} {od5 an5 : Option Addr} {sl5 : Array (Option Value)} {oc5 kV5 dc5 pm5 cd5 ct5 : Value}
    {f6 : Addr} {od6 an6 : Option Addr} {sl6 : Array (Option Value)} {oc6 kV6 dc6 pm6 cd6 ct6 : Value}
    {f7 : Addr} {od7 an7 : Option Addr} {sl7 : Array (Option Value)} {oc7 kV7 dc7 pm7 cd7 ct7 : Value}
    {f8 : Addr} {od8 an8 : Option Addr} {sl8 : Array (Option Value)} {oc8 kV8 dc8 pm8 cd8 ct8 : Value}
    {f9 : Addr} {od9 an9 : Option Addr} {sl9 : Array (Option Value)} {oc9 kV9 dc9 pm9 cd9 ct9 : Value}
    {f10 : Addr} {od10 an10 : Option Addr} {sl10 : Array (Option Value)} {oc10 kV10 dc10 pm10 cd10 ct10 : Value}
    {f11 : Addr} {od11 an11 : Option Addr} {sl11 : Array (Option Value)} {oc11 kV11 dc11 pm11 cd11 ct11 : Value}
    {f12 : Addr} {od12 an12 : Option Addr} {sl12 : Array (Option Value)} {oc12 kV12 dc12 pm12 cd12 ct12 : Value}
    {f13 : Addr} {od13 an13 : Option Addr} {sl13 : Array (Option Value)} {oc13 kV13 dc13 pm13 cd13 ct13 : Value}
    {f14 : Addr} {od14 an14 : Option Addr} {sl14 : Array (Option Value)} {oc14 kV14 dc14 pm14 cd14 ct14 : Value}
    {f15 : Addr} {od15 an15 : Option Addr} {sl15 : Array (Option Value)} {oc15 kV15 dc15 pm15 cd15 ct15 : Value}
    {f16 : Addr} {od16 an16 : Option Addr} {sl16 : Array (Option Value)} {oc16 kV16 dc16 pm16 cd16 ct16 : Value}
    {f17 : Addr} {od17 an17 : Option Addr} {sl17 : Array (Option Value)} {oc17 kV17 dc17 pm17 cd17 ct17 : Value}
    (a0 : PySem.W.nsIn K mainGlobals "divisor_of_all" = some (some (.ref f0))) (l0 : K.lookup f0 = some ⟨oc0, od0, .func (PySem.W.fnOf "divisor_of_all" "divisor_of_all" (defArgs s_divisor_of_all) (defBody s_divisor_of_all) (defScope s_divisor_of_all) .none kV0 dc0 pm0 an0 cd0 ct0), sl0⟩) (c0 : PySem.W.codeIn K cd0 "divisor_of_all" = true) (k0 : PySem.W.keepIn K (.ref f0) = true)
    (a1 : PySem.W.nsIn K mainGlobals "lines_reduced" = some (some (.ref f1))) (l1 : K.lookup f1 = some ⟨oc1, od1, .func (PySem.W.fnOf "lines_reduced" "lines_reduced" (defArgs s_lines_reduced) (defBody s_lines_reduced) (defScope s_lines_reduced) .none kV1 dc1 pm1 an1 cd1 ct1), sl1⟩) (c1 : PySem.W.codeIn K cd1 "lines_reduced" = true) (k1 : PySem.W.keepIn K (.ref f1) = true)
    (a2 : PySem.W.nsIn K mainGlobals "with_one" = some (some (.ref f2))) (l2 : K.lookup f2 = some ⟨oc2, od2, .func (PySem.W.fnOf "with_one" "with_one" (defArgs s_with_one) (defBody s_with_one) (defScope s_with_one) .none kV2 dc2 pm2 an2 cd2 ct2), sl2⟩) (c2 : PySem.W.codeIn K cd2 "with_one" = true) (k2 : PySem.W.keepIn K (.ref f2) = true)
    (a3 : PySem.W.nsIn K mainGlobals "table_determinant" = some (some (.ref f3))) (l3 : K.lookup f3 = some ⟨oc3, od3, .func (PySem.W.fnOf "table_determinant" "table_determinant" (defArgs s_table_determinant) (defBody s_table_determinant) (defScope s_table_determinant) .none kV3 dc3 pm3 an3 cd3 ct3), sl3⟩) (c3 : PySem.W.codeIn K cd3 "table_determinant" = true) (k3 : PySem.W.keepIn K (.ref f3) = true)
    (a4 : PySem.W.nsIn K mainGlobals "flat_size" = some (some (.ref f4))) (l4 : K.lookup f4 = some ⟨oc4, od4, .func (PySem.W.fnOf "flat_size" "flat_size" (defArgs s_flat_size) (defBody s_flat_size) (defScope s_flat_size) .none kV4 dc4 pm4 an4 cd4 ct4), sl4⟩) (c4 : PySem.W.codeIn K cd4 "flat_size" = true) (k4 : PySem.W.keepIn K (.ref f4) = true)
    (a5 : PySem.W.nsIn K mainGlobals "is_on_plane" = some (some (.ref f5))) (l5 : K.lookup f5 = some ⟨oc5, od5, .func (PySem.W.fnOf "is_on_plane" "is_on_plane" (defArgs s_is_on_plane) (defBody s_is_on_plane) (defScope s_is_on_plane) .none kV5 dc5 pm5 an5 cd5 ct5), sl5⟩) (c5 : PySem.W.codeIn K cd5 "is_on_plane" = true) (k5 : PySem.W.keepIn K (.ref f5) = true)
    (a6 : PySem.W.nsIn K mainGlobals "without_divisor" = some (some (.ref f6))) (l6 : K.lookup f6 = some ⟨oc6, od6, .func (PySem.W.fnOf "without_divisor" "without_divisor" (defArgs s_without_divisor) (defBody s_without_divisor) (defScope s_without_divisor) .none kV6 dc6 pm6 an6 cd6 ct6), sl6⟩) (c6 : PySem.W.codeIn K cd6 "without_divisor" = true) (k6 : PySem.W.keepIn K (.ref f6) = true)
    (a7 : PySem.W.nsIn K mainGlobals "balance_of" = some (some (.ref f7))) (l7 : K.lookup f7 = some ⟨oc7, od7, .func (PySem.W.fnOf "balance_of" "balance_of" (defArgs s_balance_of) (defBody s_balance_of) (defScope s_balance_of) .none kV7 dc7 pm7 an7 cd7 ct7), sl7⟩) (c7 : PySem.W.codeIn K cd7 "balance_of" = true) (k7 : PySem.W.keepIn K (.ref f7) = true)
    (a8 : PySem.W.nsIn K mainGlobals "_law_open_cells" = some (some (.ref f8))) (l8 : K.lookup f8 = some ⟨oc8, od8, .func (PySem.W.fnOf "_law_open_cells" "_law_open_cells" (defArgs s__law_open_cells) (defBody s__law_open_cells) (defScope s__law_open_cells) .none kV8 dc8 pm8 an8 cd8 ct8), sl8⟩) (c8 : PySem.W.codeIn K cd8 "_law_open_cells" = true) (k8 : PySem.W.keepIn K (.ref f8) = true)
    (a9 : PySem.W.nsIn K mainGlobals "_law_pick" = some (some (.ref f9))) (l9 : K.lookup f9 = some ⟨oc9, od9, .func (PySem.W.fnOf "_law_pick" "_law_pick" (defArgs s__law_pick) (defBody s__law_pick) (defScope s__law_pick) .none kV9 dc9 pm9 an9 cd9 ct9), sl9⟩) (c9 : PySem.W.codeIn K cd9 "_law_pick" = true) (k9 : PySem.W.keepIn K (.ref f9) = true)
    (a10 : PySem.W.nsIn K mainGlobals "_law_of" = some (some (.ref f10))) (l10 : K.lookup f10 = some ⟨oc10, od10, .func (PySem.W.fnOf "_law_of" "_law_of" (defArgs s__law_of) (defBody s__law_of) (defScope s__law_of) .none kV10 dc10 pm10 an10 cd10 ct10), sl10⟩) (c10 : PySem.W.codeIn K cd10 "_law_of" = true) (k10 : PySem.W.keepIn K (.ref f10) = true)
    (a11 : PySem.W.nsIn K mainGlobals "_law_lot" = some (some (.ref f11))) (l11 : K.lookup f11 = some ⟨oc11, od11, .func (PySem.W.fnOf "_law_lot" "_law_lot" (defArgs s__law_lot) (defBody s__law_lot) (defScope s__law_lot) .none kV11 dc11 pm11 an11 cd11 ct11), sl11⟩) (c11 : PySem.W.codeIn K cd11 "_law_lot" = true) (k11 : PySem.W.keepIn K (.ref f11) = true)
    (a12 : PySem.W.nsIn K mainGlobals "_law_turns" = some (some (.ref f12))) (l12 : K.lookup f12 = some ⟨oc12, od12, .func (PySem.W.fnOf "_law_turns" "_law_turns" (defArgs s__law_turns) (defBody s__law_turns) (defScope s__law_turns) .none kV12 dc12 pm12 an12 cd12 ct12), sl12⟩) (c12 : PySem.W.codeIn K cd12 "_law_turns" = true) (k12 : PySem.W.keepIn K (.ref f12) = true)
    (a13 : PySem.W.nsIn K mainGlobals "_law_some" = some (some (.ref f13))) (l13 : K.lookup f13 = some ⟨oc13, od13, .func (PySem.W.fnOf "_law_some" "_law_some" (defArgs s__law_some) (defBody s__law_some) (defScope s__law_some) .none kV13 dc13 pm13 an13 cd13 ct13), sl13⟩) (c13 : PySem.W.codeIn K cd13 "_law_some" = true) (k13 : PySem.W.keepIn K (.ref f13) = true)
    (a14 : PySem.W.nsIn K mainGlobals "_law_common" = some (some (.ref f14))) (l14 : K.lookup f14 = some ⟨oc14, od14, .func (PySem.W.fnOf "_law_common" "_law_common" (defArgs s__law_common) (defBody s__law_common) (defScope s__law_common) .none kV14 dc14 pm14 an14 cd14 ct14), sl14⟩) (c14 : PySem.W.codeIn K cd14 "_law_common" = true) (k14 : PySem.W.keepIn K (.ref f14) = true)
    (a15 : PySem.W.nsIn K mainGlobals "_law_balance" = some (some (.ref f15))) (l15 : K.lookup f15 = some ⟨oc15, od15, .func (PySem.W.fnOf "_law_balance" "_law_balance" (defArgs s__law_balance) (defBody s__law_balance) (defScope s__law_balance) .none kV15 dc15 pm15 an15 cd15 ct15), sl15⟩) (c15 : PySem.W.codeIn K cd15 "_law_balance" = true) (k15 : PySem.W.keepIn K (.ref f15) = true)
    (a16 : PySem.W.nsIn K mainGlobals "_law_flat" = some (some (.ref f16))) (l16 : K.lookup f16 = some ⟨oc16, od16, .func (PySem.W.fnOf "_law_flat" "_law_flat" (defArgs s__law_flat) (defBody s__law_flat) (defScope s__law_flat) .none kV16 dc16 pm16 an16 cd16 ct16), sl16⟩) (c16 : PySem.W.codeIn K cd16 "_law_flat" = true) (k16 : PySem.W.keepIn K (.ref f16) = true)
    (a17 : PySem.W.nsIn K mainGlobals "law" = some (some (.ref f17))) (l17 : K.lookup f17 = some ⟨oc17, od17, .func (PySem.W.fnOf "law" "law" (defArgs s_law) (defBody s_law) (defScope s_law) .none kV17 dc17 pm17 an17 cd17 ct17), sl17⟩) (c17 : PySem.W.codeIn K cd17 "law" = true) (k17 : PySem.W.keepIn K (.ref f17) = true)
    (z_abs : PySem.W.nsIn K mainGlobals "abs" = some none)
    (z_dict : PySem.W.nsIn K mainGlobals "dict" = some none)
    (z_enumerate : PySem.W.nsIn K mainGlobals "enumerate" = some none)
    (z_int : PySem.W.nsIn K mainGlobals "int" = some none)
    (z_len : PySem.W.nsIn K mainGlobals "len" = some none)
    (z_list : PySem.W.nsIn K mainGlobals "list" = some none)
    (z_max : PySem.W.nsIn K mainGlobals "max" = some none)
    (z_min : PySem.W.nsIn K mainGlobals "min" = some none)
    (z_range : PySem.W.nsIn K mainGlobals "range" = some none)
    (z_repr : PySem.W.nsIn K mainGlobals "repr" = some none)
    (z_sorted : PySem.W.nsIn K mainGlobals "sorted" = some none)
    (z_sum : PySem.W.nsIn K mainGlobals "sum" = some none)
    (z_tuple : PySem.W.nsIn K mainGlobals "tuple" = some none)
    (z_zip : PySem.W.nsIn K mainGlobals "zip" = some none)
    (z_gcd : PySem.W.nsIn K mainGlobals "gcd" = some (some (.builtin "math.gcd")))
    : ∃ fd : FuncData, (∀ (z : Shared) (u : Value), BindsTo z fd ⟨[u], []⟩ [("script", u)]) ∧ ∀ base : Heap, K.In base → base.Ns mainGlobals mg → FnG l.prog w K mg base 8 fa fd ["script"] (spLaw K) := by
  have e := hfa.symm.trans (PySem.W.mg_of X G a17)
  cases e
  let T : Tx K mg := {
    m_abs := PySem.W.mg_none_of X G z_abs
    m_dict := PySem.W.mg_none_of X G z_dict
    m_enumerate := PySem.W.mg_none_of X G z_enumerate
    m_int := PySem.W.mg_none_of X G z_int
    m_len := PySem.W.mg_none_of X G z_len
    m_list := PySem.W.mg_none_of X G z_list
    m_max := PySem.W.mg_none_of X G z_max
    m_min := PySem.W.mg_none_of X G z_min
    m_range := PySem.W.mg_none_of X G z_range
    m_repr := PySem.W.mg_none_of X G z_repr
    m_sorted := PySem.W.mg_none_of X G z_sorted
    m_sum := PySem.W.mg_none_of X G z_sum
    m_tuple := PySem.W.mg_none_of X G z_tuple
    m_zip := PySem.W.mg_none_of X G z_zip
    m_gcd := PySem.W.mg_of X G z_gcd
    a_divisor_of_all := f0, fd_divisor_of_all := _, F_divisor_of_all := fun_mk (st := s_divisor_of_all) l0 c0 k0, g_divisor_of_all := PySem.W.mg_of X G a0
    a_lines_reduced := f1, fd_lines_reduced := _, F_lines_reduced := fun_mk (st := s_lines_reduced) l1 c1 k1, g_lines_reduced := PySem.W.mg_of X G a1
    a_with_one := f2, fd_with_one := _, F_with_one := fun_mk (st := s_with_one) l2 c2 k2, g_with_one := PySem.W.mg_of X G a2
    a_table_determinant := f3, fd_table_determinant := _, F_table_determinant := fun_mk (st := s_table_determinant) l3 c3 k3, g_table_determinant := PySem.W.mg_of X G a3
    a_flat_size := f4, fd_flat_size := _, F_flat_size := fun_mk (st := s_flat_size) l4 c4 k4, g_flat_size := PySem.W.mg_of X G a4
    a_is_on_plane := f5, fd_is_on_plane := _, F_is_on_plane := fun_mk (st := s_is_on_plane) l5 c5 k5, g_is_on_plane := PySem.W.mg_of X G a5
    a_without_divisor := f6, fd_without_divisor := _, F_without_divisor := fun_mk (st := s_without_divisor) l6 c6 k6, g_without_divisor := PySem.W.mg_of X G a6
    a_balance_of := f7, fd_balance_of := _, F_balance_of := fun_mk (st := s_balance_of) l7 c7 k7, g_balance_of := PySem.W.mg_of X G a7
    a__law_open_cells := f8, fd__law_open_cells := _, F__law_open_cells := fun_mk (st := s__law_open_cells) l8 c8 k8, g__law_open_cells := PySem.W.mg_of X G a8
    a__law_pick := f9, fd__law_pick := _, F__law_pick := fun_mk (st := s__law_pick) l9 c9 k9, g__law_pick := PySem.W.mg_of X G a9
    a__law_of := f10, fd__law_of := _, F__law_of := fun_mk (st := s__law_of) l10 c10 k10, g__law_of := PySem.W.mg_of X G a10
    a__law_lot := f11, fd__law_lot := _, F__law_lot := fun_mk (st := s__law_lot) l11 c11 k11, g__law_lot := PySem.W.mg_of X G a11
    a__law_turns := f12, fd__law_turns := _, F__law_turns := fun_mk (st := s__law_turns) l12 c12 k12, g__law_turns := PySem.W.mg_of X G a12
    a__law_some := f13, fd__law_some := _, F__law_some := fun_mk (st := s__law_some) l13 c13 k13, g__law_some := PySem.W.mg_of X G a13
    a__law_common := f14, fd__law_common := _, F__law_common := fun_mk (st := s__law_common) l14 c14 k14, g__law_common := PySem.W.mg_of X G a14
    a__law_balance := f15, fd__law_balance := _, F__law_balance := fun_mk (st := s__law_balance) l15 c15 k15, g__law_balance := PySem.W.mg_of X G a15
    a__law_flat := f16, fd__law_flat := _, F__law_flat := fun_mk (st := s__law_flat) l16 c16 k16, g__law_flat := PySem.W.mg_of X G a16
    a_law := fa, fd_law := _, F_law := fun_mk (st := s_law) l17 c17 k17, g_law := PySem.W.mg_of X G a17
    }
  exact ⟨T.fd_law, fun z u => .of_eq rfl, fun base _ _ => ok_law T⟩
end L74
open PySem PySem.W PyProof.Rows
set_option maxHeartbeats 0 in
theorem PySem.Challenge.cw_cornersmet_k74_whole_flats_and_balances_holds : PySem.Challenge.rw_cornersmet_k74_whole_flats_and_balances.Holds := by
  w_on; o_law; k_head; (case hw => w_witness2)
  k_fill
  refine Py.walkG (l := PySem.Challenge.rw_cornersmet_k74_whole_flats_and_balances) (n := 63) (k := 8) (x := "script") rfl (by decide) rfl ⟨rfl, by decide, by decide⟩ (fun w h Y => PySem.W.kIn_of Y) ?F
  case F =>
    intro w mg fa h KX G hmg
    refine' L74.all_mk KX G hmg ?a0 ?l0 ?c0 ?k0 ?a1 ?l1 ?c1 ?k1 ?a2 ?l2 ?c2 ?k2 ?a3 ?l3 ?c3 ?k3 ?a4 ?l4 ?c4 ?k4 ?a5 ?l5 ?c5 ?k5 ?a6 ?l6 ?c6 ?k6 ?a7 ?l7 ?c7 ?k7 ?a8 ?l8 ?c8 ?k8 ?a9 ?l9 ?c9 ?k9 ?a10 ?l10 ?c10 ?k10 ?a11 ?l11 ?c11 ?k11 ?a12 ?l12 ?c12 ?k12 ?a13 ?l13 ?c13 ?k13 ?a14 ?l14 ?c14 ?k14 ?a15 ?l15 ?c15 ?k15 ?a16 ?l16 ?c16 ?k16 ?a17 ?l17 ?c17 ?k17 ?z_abs ?z_dict ?z_enumerate ?z_int ?z_len ?z_list ?z_max ?z_min ?z_range ?z_repr ?z_sorted ?z_sum ?z_tuple ?z_zip ?z_gcd
    (case a0 => k_is); (case l0 => k_is); (case c0 => k_is); (case k0 => k_is)
    (case a1 => k_is); (case l1 => k_is); (case c1 => k_is); (case k1 => k_is)
    (case a2 => k_is); (case l2 => k_is); (case c2 => k_is); (case k2 => k_is)
    (case a3 => k_is); (case l3 => k_is); (case c3 => k_is); (case k3 => k_is)
    (case a4 => k_is); (case l4 => k_is); (case c4 => k_is); (case k4 => k_is)
    (case a5 => k_is); (case l5 => k_is); (case c5 => k_is); (case k5 => k_is)
    (case a6 => k_is); (case l6 => k_is); (case c6 => k_is); (case k6 => k_is)
    (case a7 => k_is); (case l7 => k_is); (case c7 => k_is); (case k7 => k_is)
    (case a8 => k_is); (case l8 => k_is); (case c8 => k_is); (case k8 => k_is)
    (case a9 => k_is); (case l9 => k_is); (case c9 => k_is); (case k9 => k_is)
    (case a10 => k_is); (case l10 => k_is); (case c10 => k_is); (case k10 => k_is)
    (case a11 => k_is); (case l11 => k_is); (case c11 => k_is); (case k11 => k_is)
    (case a12 => k_is); (case l12 => k_is); (case c12 => k_is); (case k12 => k_is)
    (case a13 => k_is); (case l13 => k_is); (case c13 => k_is); (case k13 => k_is)
    (case a14 => k_is); (case l14 => k_is); (case c14 => k_is); (case k14 => k_is)
    (case a15 => k_is); (case l15 => k_is); (case c15 => k_is); (case k15 => k_is)
    (case a16 => k_is); (case l16 => k_is); (case c16 => k_is); (case k16 => k_is)
    (case a17 => k_is); (case l17 => k_is); (case c17 => k_is); (case k17 => k_is)
    (case z_abs => k_is); (case z_dict => k_is); (case z_enumerate => k_is); (case z_int => k_is)
    (case z_len => k_is); (case z_list => k_is); (case z_max => k_is); (case z_min => k_is)
    (case z_range => k_is); (case z_repr => k_is); (case z_sorted => k_is); (case z_sum => k_is)
    (case z_tuple => k_is); (case z_zip => k_is); (case z_gcd => k_is)
namespace L74
end L74
