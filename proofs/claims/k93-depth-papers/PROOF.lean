import PyProof.Rows.All
import Wide.All
import OpenK.AllK
import Wide.FinOn
import HandS.ForMost
import HandS.Star
import HandS.TupAny
import HandS.Deep
import HandS.Wide
import HandS.Style
import HandS.IsInst
import HandS.Walk
import KE.GoesEnum
import HandS.Conv
import HandS.TupMul
import HandS.Gcd
import KE.SortData
import KE.DataMinMax
import PyProof.ReprRoads
import HandS.Evl
import KE.KDictZip
import PyProof.ReprLen
import HandS.Dict
import HandS.Small
import HandS.TupLen
import HandS.More
import PyProof.NeKinds
import KE.KEqDict
import PyProof.EqAt
import KE.KRevSl
import KE.KTupSum
import PyProof.Rows.ReprOcc
import PySem.Challenge.RW_cornersmet_k93_depth_papers_and_lines_ju
set_option Elab.async false
set_option linter.all false
set_option maxRecDepth 100000
/-! PyA: data, what denotes them, the state relation, the judgements. -/
namespace Py
open PySem L2

abbrev D := PyData
abbrev Env := List (Option D)
abbrev AS := Addr → Prop

/-! ### the wish monad -/
def M (α : Type) : Type := (α → Prop) → Prop
def ret {α : Type} (a : α) : M α := fun Q => Q a
def bnd {α β : Type} (m : M α) (k : α → M β) : M β := fun Q => m fun a => k a Q
def stuck {α : Type} : M α := fun _ => False
theorem bnd_ret {α β : Type} (a : α) (k : α → M β) : bnd (ret a) k = k a := rfl
theorem bnd_stuck {α β : Type} (k : α → M β) : bnd stuck k = stuck := rfl
theorem bnd_assoc {α β γ : Type} (m : M α) (k : α → M β) (l : β → M γ) : bnd (bnd m k) l = bnd m fun a => bnd (k a) l := rfl
theorem ret_app {α : Type} (a : α) (Q : α → Prop) : ret a Q = Q a := rfl
theorem bnd_app {α β : Type} (m : M α) (k : α → M β) (Q : β → Prop) : bnd m k Q = m fun a => k a Q := rfl

/-! ### what denotes a datum: lists, dicts that nobody changes (not in U), tuples -/
mutual
inductive Den (H : Hp) (U : AS) : V → D → Prop
  | non : Den H U .non .none
  | bl (b : Bool) : Den H U (.bl b) (.bool b)
  | int (i : Int) : Den H U (.int i) (.int i)
  | str (x : Str) : Den H U (.str x) (.str x)
  | lst {a : Addr} {xs : List V} {ds : List D} : H a = some (.lst xs) → ¬ U a → DenL H U xs ds → Den H U (.ref a) (.list ds)
  | tup {a : Addr} {xs : List V} {ds : List D} : H a = some (.tup xs) → ¬ U a → DenL H U xs ds → Den H U (.ref a) (.tuple ds)
  | dct {a : Addr} : H a = some (.dK []) → ¬ U a → Den H U (.ref a) (.dict [])
inductive DenL (H : Hp) (U : AS) : List V → List D → Prop
  | nil : DenL H U [] []
  | cons {v : V} {vs : List V} {d : D} {ds : List D} : Den H U v d → DenL H U vs ds → DenL H U (v :: vs) (d :: ds)
end
theorem Den.mono {H H' : Hp} {U U' : AS} (e : ∀ a o, H a = some o → ¬ U a → H' a = some o) (u : ∀ a o, H a = some o → U' a → U a) : ∀ {d : D} {v : V}, Den H U v d → Den H' U' v d := by
  intro d v h
  refine Den.rec (motive_1 := fun v d _ => Den H' U' v d) (motive_2 := fun vs ds _ => DenL H' U' vs ds) ?_ ?_ ?_ ?_ ?_ ?_ ?_ ?_ ?_ h
  · exact .non
  · exact .bl
  · exact .int
  · exact .str
  · intro a xs ds ha hu _ ih; exact .lst (e _ _ ha hu) (fun q => hu (u _ _ ha q)) ih
  · intro a xs ds ha hu _ ih; exact .tup (e _ _ ha hu) (fun q => hu (u _ _ ha q)) ih
  · intro a ha hu; exact .dct (e _ _ ha hu) (fun q => hu (u _ _ ha q))
  · exact .nil
  · intro v vs d ds _ _ h1 h2; exact .cons h1 h2
theorem DenL.mono {H H' : Hp} {U U' : AS} (e : ∀ a o, H a = some o → ¬ U a → H' a = some o) (u : ∀ a o, H a = some o → U' a → U a) : ∀ {ds : List D} {vs : List V}, DenL H U vs ds → DenL H' U' vs ds
  | _, _, .nil => .nil
  | _, _, .cons h t => .cons (h.mono e u) (DenL.mono e u t)
theorem DenL.length {H : Hp} {U : AS} : ∀ {vs : List V} {ds : List D}, DenL H U vs ds → vs.length = ds.length
  | _, _, .nil => rfl
  | _, _, .cons _ t => congrArg (· + 1) t.length
theorem DenL.get {H : Hp} {U : AS} : ∀ {vs : List V} {ds : List D} {i : Nat} {d : D}, DenL H U vs ds → ds[i]? = some d → ∃ v, vs[i]? = some v ∧ Den H U v d
  | _, _, _, _, .nil, h => by simp at h
  | _, _, 0, _, .cons h _, e => by simp at e; subst e; exact ⟨_, rfl, h⟩
  | _, _, i + 1, _, .cons _ t, e => by
    obtain ⟨v, h1, h2⟩ := DenL.get (i := i) t (by simpa using e)
    exact ⟨v, by simpa using h1, h2⟩
theorem DenL.append {H : Hp} {U : AS} : ∀ {vs ws : List V} {ds es : List D}, DenL H U vs ds → DenL H U ws es → DenL H U (vs ++ ws) (ds ++ es)
  | _, _, _, _, .nil, h => h
  | _, _, _, _, .cons h t, q => .cons h (t.append q)
theorem DenL.take {H : Hp} {U : AS} : ∀ {vs : List V} {ds : List D} (n : Nat), DenL H U vs ds → DenL H U (vs.take n) (ds.take n)
  | _, _, 0, _ => .nil
  | _, _, _ + 1, .nil => .nil
  | _, _, n + 1, .cons h t => .cons h (t.take n)
theorem DenL.drop {H : Hp} {U : AS} : ∀ {vs : List V} {ds : List D} (n : Nat), DenL H U vs ds → DenL H U (vs.drop n) (ds.drop n)
  | _, _, 0, h => h
  | _, _, _ + 1, .nil => .nil
  | _, _, n + 1, .cons _ t => t.drop n
theorem DenL.set {H : Hp} {U : AS} {v : V} {d : D} (h : Den H U v d) : ∀ {vs : List V} {ds : List D} (i : Nat), DenL H U vs ds → DenL H U (vs.set i v) (ds.set i d)
  | _, _, _, .nil => .nil
  | _, _, 0, .cons _ t => .cons h t
  | _, _, i + 1, .cons q t => .cons q (DenL.set h i t)
theorem DenL.reverse {H : Hp} {U : AS} {vs : List V} {ds : List D} (h : DenL H U vs ds) : DenL H U vs.reverse ds.reverse := by
  induction ds generalizing vs with
  | nil => cases h; exact .nil
  | cons d ds ih =>
    cases h with
    | cons h1 h2 => rw [List.reverse_cons, List.reverse_cons]; exact (ih h2).append (.cons h1 .nil)

/-! ### a def's frame: what the callers may change (U0), what this code may change (A: the drawing source), what is kept of that (J), the heap at the entry -/
structure Sx where
  A : AS
  J : Hp → Prop
  src : Addr
structure Fx where
  s : Sx
  U0 : AS
  H0 : Hp
abbrev Fx.A (c : Fx) : AS := c.s.A
abbrev Fx.J (c : Fx) : Hp → Prop := c.s.J
abbrev Fx.src (c : Fx) : Addr := c.s.src

structure Fx.Ok (c : Fx) : Prop where
  sub : ∀ a, c.A a → c.U0 a
  st : ∀ H H', c.J H → (∀ a o, c.A a → H a = some o → H' a = some o) → c.J H'

/-- how a name's slot stands: any datum; a list of this def's own that it changes; one of lists; such a list while a loop walks it; the source -/
inductive Md where
  | fro | own | own2 | dic | lent (p : Addr) (vs : List V) | src

inductive Rows (H : Hp) (U : AS) : List Addr → List (List D) → Prop
  | nil : Rows H U [] []
  | cons {q : Addr} {qs : List Addr} {vs : List V} {ds : List D} {dss : List (List D)} : H q = some (.lst vs) → DenL H U vs ds → Rows H U qs dss → Rows H U (q :: qs) (ds :: dss)

abbrev Key2 := List L2.Key
/-- slot: mode, datum, value, own addresses -/
inductive SlotR (c : Fx) (H : Hp) (U : AS) : Md → Option D → Option V → List Addr → Prop
  | no {m : Md} {o : Option V} : SlotR c H U m none o []
  | fro {d : D} {v : V} : Den H U v d → SlotR c H U .fro (some d) (some v) []
  | own {p : Addr} {vs : List V} {ds : List D} : H p = some (.lst vs) → DenL H U vs ds → SlotR c H U .own (some (.list ds)) (some (.ref p)) [p]
  | lent {p : Addr} {vs : List V} {ds : List D} : H p = some (.lst vs) → DenL H U vs ds → SlotR c H U (.lent p vs) (some (.list ds)) (some (.ref p)) [p]
  | own2 {p : Addr} {qs : List Addr} {dss : List (List D)} : H p = some (.lst (qs.map V.ref)) → Rows H U qs dss → SlotR c H U .own2 (some (.list (dss.map .list))) (some (.ref p)) (p :: qs)
  | dic {p : Addr} {kvs : List (Key2 × V)} {ks : List (List Int)} : H p = some (.dT kvs) → kvs.map (·.1) = ks.map (fun k => k.map Sum.inl) → SlotR c H U .dic (some (.list (ks.map fun k => .tuple (k.map .int)))) (some (.ref p)) [p]
  | src {d : D} : SlotR c H U .src (some d) (some (.ref c.src)) []

inductive Slots (c : Fx) (H : Hp) (U : AS) : List Md → Env → St → List Addr → Prop
  | nil : Slots c H U [] [] [] []
  | cons {m : Md} {d : Option D} {o : Option V} {ps qs : List Addr} {Γ : List Md} {ρ : Env} {σ : St} : SlotR c H U m d o ps → Slots c H U Γ ρ σ qs → Slots c H U (m :: Γ) (d :: ρ) (o :: σ) (ps ++ qs)

def Fx.U (c : Fx) (ps : List Addr) : AS := fun a => c.U0 a ∨ a ∈ ps
/-- what stands in a mutable place is no tuple -/
def Loose (H : Hp) (U : AS) : Prop := ∀ a, U a → ∃ o, H a = some o ∧ ∀ xs, o ≠ .tup xs

/-- lists and tuples are no longer than may be -/
def Sz (H : Hp) : Prop := ∀ a xs, (H a = some (.lst xs) ∨ H a = some (.tup xs)) → xs.length ≤ sizeLine

structure R (c : Fx) (Γ : List Md) (ρ : Env) (ps : List Addr) (σ : St) (H : Hp) : Prop where
  ok : c.Ok
  keep : ∀ a o, c.H0 a = some o → ¬ c.A a → H a = some o
  there : ∀ a o, c.H0 a = some o → ∃ o', H a = some o'
  inv : c.J H
  al : Loose H c.U0
  sz : Sz H
  sl : Slots c H (c.U ps) Γ ρ σ ps
  nd : ps.Nodup
  own : ∀ p ∈ ps, c.H0 p = none ∧ ¬ c.U0 p

/-- a step of reckoning: only the source may change -/
structure Stp (c : Fx) (H H' : Hp) : Prop where
  keep : ∀ a o, H a = some o → ¬ c.A a → H' a = some o
  there : ∀ a o, H a = some o → ∃ o', H' a = some o'
  inv : c.J H → c.J H'
  al : Loose H c.U0 → Loose H' c.U0
  sz : Sz H → Sz H'
theorem Stp.refl (c : Fx) (H : Hp) : Stp c H H := ⟨fun _ _ h _ => h, fun _ o h => ⟨o, h⟩, fun h => h, fun h => h, fun h => h⟩
theorem Stp.trans {c : Fx} {H H1 H2 : Hp} (a : Stp c H H1) (b : Stp c H1 H2) : Stp c H H2 :=
  ⟨fun x o h n => b.keep x o (a.keep x o h n) n, fun x o h => let ⟨o', h'⟩ := a.there x o h; b.there x o' h', fun h => b.inv (a.inv h), fun h => b.al (a.al h), fun h => b.sz (a.sz h)⟩
theorem Stp.fresh {c : Fx} {H H' : Hp} {p : Addr} (e : Stp c H H') (h : H' p = none) : H p = none := by
  cases q : H p with
  | none => rfl
  | some o => obtain ⟨o', h'⟩ := e.there p o q; rw [h] at h'; cases h'
/-- all that stood stands -/
theorem Stp.same {c : Fx} (ok : c.Ok) {H H' : Hp} (e : ∀ a o, H a = some o → H' a = some o) (z : Sz H → Sz H') : Stp c H H' :=
  ⟨fun a o h _ => e a o h, fun a o h => ⟨o, e a o h⟩, fun h => ok.st H H' h fun a o _ q => e a o q, fun h a u => let ⟨o, h1, h2⟩ := h a u; ⟨o, e a o h1, h2⟩, z⟩
theorem Sz.upd {H : Hp} {p : Addr} {o : HO} (h : Sz H) (ho : ∀ xs, (o = .lst xs ∨ o = .tup xs) → xs.length ≤ sizeLine) : Sz (upd H p o) := fun a xs q => by
  by_cases e : a = p
  · subst e
    rw [upd_same] at q
    rcases q with q | q
    · exact ho xs (.inl (Option.some.inj q))
    · exact ho xs (.inr (Option.some.inj q))
  · rw [upd_ne e] at q; exact h a xs q
theorem upd_keep {H : Hp} {p : Addr} {o : HO} (h : H p = none) : ∀ a u, H a = some u → upd H p o a = some u := fun a u e => by
  rw [upd_ne (ne_of_none e h)]; exact e
theorem Stp.new {c : Fx} (ok : c.Ok) {H : Hp} {p : Addr} {o : HO} (h : H p = none) (ho : ∀ xs, (o = .lst xs ∨ o = .tup xs) → xs.length ≤ sizeLine) : Stp c H (upd H p o) :=
  Stp.same ok (upd_keep h) fun z => z.upd ho
theorem Stp.lst {c : Fx} (ok : c.Ok) {H : Hp} {p : Addr} {xs : List V} (h : H p = none) (ho : xs.length ≤ sizeLine) : Stp c H (upd H p (.lst xs)) :=
  Stp.new ok h fun ys q => by rcases q with q | q <;> cases q; exact ho
theorem Stp.tup {c : Fx} (ok : c.Ok) {H : Hp} {p : Addr} {xs : List V} (h : H p = none) (ho : xs.length ≤ sizeLine) : Stp c H (upd H p (.tup xs)) :=
  Stp.new ok h fun ys q => by rcases q with q | q <;> cases q; exact ho

theorem Rows.monoOn {H H' : Hp} {U U' : AS} (e : ∀ a o, H a = some o → ¬ U a → H' a = some o) (u : ∀ a o, H a = some o → U' a → U a) :
    ∀ {qs : List Addr} {dss : List (List D)}, (∀ a ∈ qs, ∀ o, H a = some o → H' a = some o) → Rows H U qs dss → Rows H' U' qs dss
  | _, _, _, .nil => .nil
  | _, _, q, .cons h d t => .cons (q _ (List.mem_cons_self ..) _ h) (d.mono e u) (Rows.monoOn e u (fun a ha => q a (List.mem_cons_of_mem _ ha)) t)

/-- the slots over another heap, own lists kept -/
theorem SlotR.mono {c : Fx} {H H' : Hp} {U U' : AS} {m : Md} {d : Option D} {o : Option V} {ps : List Addr} (q : ∀ a ∈ ps, ∀ o, H a = some o → H' a = some o) (e : ∀ a o, H a = some o → ¬ U a → H' a = some o)
    (u : ∀ a o, H a = some o → U' a → U a) (h : SlotR c H U m d o ps) : SlotR c H' U' m d o ps := by
  cases h with
  | no => exact .no
  | fro h => exact .fro (h.mono e u)
  | own h1 h2 => exact .own (q _ (by simp) _ h1) (h2.mono e u)
  | lent h1 h2 => exact .lent (q _ (by simp) _ h1) (h2.mono e u)
  | own2 h1 h2 => exact .own2 (q _ (by simp) _ h1) (h2.monoOn e u fun a ha => q a (List.mem_cons_of_mem _ ha))
  | dic h1 h2 => exact .dic (q _ (by simp) _ h1) h2
  | src => exact .src
theorem Slots.mono {c : Fx} {H H' : Hp} {U U' : AS} {Γ : List Md} {ρ : Env} {σ : St} {ps : List Addr} (q : ∀ a ∈ ps, ∀ o, H a = some o → H' a = some o) (e : ∀ a o, H a = some o → ¬ U a → H' a = some o)
    (u : ∀ a o, H a = some o → U' a → U a) (h : Slots c H U Γ ρ σ ps) : Slots c H' U' Γ ρ σ ps := by
  induction h with
  | nil => exact .nil
  | cons h1 _ ih => exact .cons (h1.mono (fun a ha => q a (List.mem_append_left _ ha)) e u) (ih fun a ha => q a (List.mem_append_right _ ha))

section
variable {c : Fx} {Γ : List Md} {ρ : Env} {ps : List Addr} {σ : St} {H H' : Hp} {v : V} {d : D} {vs : List V} {ds : List D}
theorem R.nA (r : R c Γ ρ ps σ H) {a : Addr} (h : ¬ c.U ps a) : ¬ c.A a := fun q => h (.inl (r.ok.sub a q))
theorem R.ownA (r : R c Γ ρ ps σ H) {p : Addr} (h : p ∈ ps) : ¬ c.A p := fun q => (r.own p h).2 (r.ok.sub p q)
theorem Den.stp (ok : c.Ok) (e : Stp c H H') (h : Den H (c.U ps) v d) : Den H' (c.U ps) v d :=
  h.mono (fun a o q n => e.keep a o q fun z => n (.inl (ok.sub a z))) fun _ _ _ q => q
theorem DenL.stp (ok : c.Ok) (e : Stp c H H') (h : DenL H (c.U ps) vs ds) : DenL H' (c.U ps) vs ds :=
  h.mono (fun a o q n => e.keep a o q fun z => n (.inl (ok.sub a z))) fun _ _ _ q => q
theorem Den.stpA (e : Stp c H H') (h : Den H c.A v d) : Den H' c.A v d := h.mono (fun a o q n => e.keep a o q n) fun _ _ _ q => q
theorem DenL.stpA (e : Stp c H H') (h : DenL H c.A vs ds) : DenL H' c.A vs ds := h.mono (fun a o q n => e.keep a o q n) fun _ _ _ q => q
theorem Den.borrow (ok : c.Ok) (h : Den H (c.U ps) v d) : Den H c.A v d := h.mono (fun _ _ q _ => q) fun a _ _ q => .inl (ok.sub a q)
theorem DenL.borrow (ok : c.Ok) (h : DenL H (c.U ps) vs ds) : DenL H c.A vs ds := h.mono (fun _ _ q _ => q) fun a _ _ q => .inl (ok.sub a q)
theorem R.stp (r : R c Γ ρ ps σ H) (e : Stp c H H') : R c Γ ρ ps σ H' where
  ok := r.ok
  keep := fun a o h n => e.keep a o (r.keep a o h n) n
  there := fun a o h => let ⟨o', h'⟩ := r.there a o h; e.there a o' h'
  inv := e.inv r.inv
  al := e.al r.al
  sz := e.sz r.sz
  sl := r.sl.mono (fun a ha o q => e.keep a o q (r.ownA ha)) (fun a o q n => e.keep a o q (r.nA n)) fun _ _ _ q => q
  nd := r.nd
  own := r.own
theorem Rows.loose {U : AS} {qs : List Addr} {dss : List (List D)} (h : Rows H U qs dss) : ∀ p ∈ qs, ∃ xs, H p = some (.lst xs) := by
  induction h with
  | nil => intro p hp; cases hp
  | cons h1 _ _ ih =>
    intro p hp
    rcases List.mem_cons.mp hp with rfl | hp
    · exact ⟨_, h1⟩
    · exact ih p hp
theorem SlotR.loose {U : AS} {m : Md} {x : Option D} {o : Option V} {qs : List Addr} (h : SlotR c H U m x o qs) : ∀ p ∈ qs, ∃ o, H p = some o ∧ ∀ xs, o ≠ .tup xs := by
  intro p hp
  cases h with
  | no => cases hp
  | fro _ => cases hp
  | own h1 _ => rw [List.mem_singleton.mp hp]; exact ⟨_, h1, fun _ z => by cases z⟩
  | lent h1 _ => rw [List.mem_singleton.mp hp]; exact ⟨_, h1, fun _ z => by cases z⟩
  | own2 h1 h2 =>
    rcases List.mem_cons.mp hp with rfl | hp
    · exact ⟨_, h1, fun _ z => by cases z⟩
    · obtain ⟨xs, e⟩ := h2.loose p hp
      exact ⟨_, e, fun _ z => by cases z⟩
  | dic h1 _ => rw [List.mem_singleton.mp hp]; exact ⟨_, h1, fun _ z => by cases z⟩
  | src => cases hp
theorem Slots.loose {U : AS} (h : Slots c H U Γ ρ σ ps) : ∀ p ∈ ps, ∃ o, H p = some o ∧ ∀ xs, o ≠ .tup xs := by
  induction h with
  | nil => intro p hp; cases hp
  | cons h1 _ ih =>
    intro p hp
    rcases List.mem_append.mp hp with hp | hp
    · exact h1.loose p hp
    · exact ih p hp
theorem R.loose (r : R c Γ ρ ps σ H) : Loose H (c.U ps) := fun a u => by
  rcases u with u | u
  · exact r.al a u
  · exact r.sl.loose a u
theorem R.new (r : R c Γ ρ ps σ H) {p : Addr} (h : H p = none) : ¬ c.U ps p := fun u => by
  obtain ⟨o, h', _⟩ := r.loose p u
  rw [h] at h'; cases h'
theorem Slots.len {U : AS} (h : Slots c H U Γ ρ σ ps) : Γ.length = ρ.length ∧ ρ.length = σ.length := by
  induction h with
  | nil => exact ⟨rfl, rfl⟩
  | cons _ _ ih => exact ⟨congrArg (· + 1) ih.1, congrArg (· + 1) ih.2⟩
theorem Slots.get {U : AS} (h : Slots c H U Γ ρ σ ps) : ∀ {i : Nat} {m : Md} {d : Option D}, Γ[i]? = some m → ρ[i]? = some d →
    ∃ o qs, σ[i]? = some o ∧ SlotR c H U m d o qs ∧ ∀ p ∈ qs, p ∈ ps := by
  induction h with
  | nil => intro i m d h; simp at h
  | cons h1 _ ih =>
    intro i m d hm hd
    cases i with
    | zero =>
      simp at hm hd; subst hm; subst hd
      exact ⟨_, _, rfl, h1, fun p hp => List.mem_append_left _ hp⟩
    | succ i =>
      obtain ⟨o, qs, e1, e2, e3⟩ := ih (i := i) (by simpa using hm) (by simpa using hd)
      exact ⟨o, qs, by simpa using e1, e2, fun p hp => List.mem_append_right _ (e3 p hp)⟩
end

/-- what may be looked at: a datum, or a list of this def's own whose items are data -/
inductive View (c : Fx) (ps : List Addr) (H : Hp) : V → D → Prop
  | den {v : V} {d : D} : Den H (c.U ps) v d → View c ps H v d
  | own {p : Addr} {vs : List V} {ds : List D} : H p = some (.lst vs) → p ∈ ps → DenL H (c.U ps) vs ds → View c ps H (.ref p) (.list ds)
theorem View.stp {c : Fx} {ps : List Addr} {H H' : Hp} {v : V} {d : D} (ok : c.Ok) (hp : ∀ p ∈ ps, ¬ c.A p) (e : Stp c H H') (h : View c ps H v d) : View c ps H' v d := by
  cases h with
  | den h => exact .den (h.stp ok e)
  | own h1 h2 h3 => exact .own (e.keep _ _ h1 (hp _ h2)) h2 (h3.stp ok e)
theorem View.borrow {c : Fx} {ps : List Addr} {H : Hp} {v : V} {d : D} (ok : c.Ok) (hp : ∀ p ∈ ps, ¬ c.A p) (h : View c ps H v d) : Den H c.A v d := by
  cases h with
  | den h => exact h.borrow ok
  | own h1 h2 h3 => exact .lst h1 (hp _ h2) (h3.borrow ok)

/-! ### the judgements over readings -/
section
variable (s : Sx) (Γ : List Md)
/-- an expression's value: a datum | looked at | a new list -/
def SemE (t : TE) (f : Env → M D) : Prop := ∀ c ρ ps σ H Q P, c.s = s → R c Γ ρ ps σ H → f ρ P → (∀ d v H', P d → Stp c H H' → Den H' (c.U ps) v d → Q v H') → t σ H Q
def SemV (t : TE) (f : Env → M D) : Prop := ∀ c ρ ps σ H Q P, c.s = s → R c Γ ρ ps σ H → f ρ P → (∀ d v H', P d → Stp c H H' → View c ps H' v d → Q v H') → t σ H Q
def SemL (t : TE) (f : Env → M (List D)) : Prop := ∀ c ρ ps σ H Q P, c.s = s → R c Γ ρ ps σ H → f ρ P →
  (∀ ds p vs H', P ds → Stp c H H' → H p = none → H' p = some (.lst vs) → DenL H' (fun a => c.U ps a ∨ a = p) vs ds → Q (.ref p) H') → t σ H Q
def SemT (t : TT) (g : Env → M Bool) : Prop := ∀ c ρ ps σ H Q P, c.s = s → R c Γ ρ ps σ H → g ρ P → (∀ b H', P b → Stp c H H' → Q b H') → t σ H Q
/-- arguments -/
def SemA (t : TA) (f : Env → M (List D)) : Prop := ∀ c ρ ps σ H Q P, c.s = s → R c Γ ρ ps σ H → f ρ P → (∀ ds vs H', P ds → Stp c H H' → DenL H' (c.U ps) vs ds → Q vs H') → t σ H Q
end
inductive Views (c : Fx) (ps : List Addr) (H : Hp) : List V → List D → Prop
  | nil : Views c ps H [] []
  | cons {v : V} {vs : List V} {d : D} {ds : List D} : View c ps H v d → Views c ps H vs ds → Views c ps H (v :: vs) (d :: ds)
theorem Views.stp {c : Fx} {ps : List Addr} {H H' : Hp} (ok : c.Ok) (hp : ∀ p ∈ ps, ¬ c.A p) (e : Stp c H H') : ∀ {vs : List V} {ds : List D}, Views c ps H vs ds → Views c ps H' vs ds
  | _, _, .nil => .nil
  | _, _, .cons h t => .cons (h.stp ok hp e) (Views.stp ok hp e t)
def SemAV (s : Sx) (Γ : List Md) (t : TA) (f : Env → M (List D)) : Prop := ∀ c ρ ps σ H Q P, c.s = s → R c Γ ρ ps σ H → f ρ P → (∀ ds vs H', P ds → Stp c H H' → Views c ps H' vs ds → Q vs H') → t σ H Q

theorem SemE.v {s : Sx} {Γ : List Md} {t : TE} {f : Env → M D} (h : SemE s Γ t f) : SemV s Γ t f := fun c ρ ps σ H Q P e r q k =>
  h c ρ ps σ H Q P e r q fun d v H' p e dn => k d v H' p e (.den dn)
def mkL (f : Env → M (List D)) : Env → M D := fun ρ => bnd (f ρ) fun ds => ret (.list ds)
theorem SemL.e {s : Sx} {Γ : List Md} {t : TE} {f : Env → M (List D)} (h : SemL s Γ t f) : SemE s Γ t (mkL f) := fun c ρ ps σ H Q P ec r q k =>
  h c ρ ps σ H Q (fun ds => P (.list ds)) ec r q fun ds p vs H' p' e hn hp dn =>
    k (.list ds) (.ref p) H' p' e (.lst hp (fun u => by
      have := r.new hn; exact this u) (dn.mono (fun _ _ q _ => q) fun _ _ _ u => .inl u))
end Py
/-! PyB: expressions without calls and loops. -/
namespace Py
open PySem L2

/-! ### facts at hand in a state -/
structure Gd (c : Fx) (ps : List Addr) (H : Hp) : Prop where
  ok : c.Ok
  lo : Loose H (c.U ps)
  sz : Sz H
  nA : ∀ p ∈ ps, ¬ c.A p
  inv : c.J H
theorem R.gd {c : Fx} {Γ : List Md} {ρ : Env} {ps : List Addr} {σ : St} {H : Hp} (r : R c Γ ρ ps σ H) : Gd c ps H := ⟨r.ok, r.loose, r.sz, fun p h => r.ownA h, r.inv⟩
theorem Gd.new {c : Fx} {ps : List Addr} {H : Hp} (g : Gd c ps H) {p : Addr} (h : H p = none) : ¬ c.U ps p := fun u => by
  obtain ⟨o, h', _⟩ := g.lo p u
  rw [h] at h'; cases h'
section
variable {c : Fx} {ps : List Addr} {H : Hp} {v w : V} {d : D}
theorem View.int {i : Int} (h : View c ps H v (.int i)) : v = .int i := by cases h with | den h => cases h; rfl
theorem View.bl {b : Bool} (h : View c ps H v (.bool b)) : v = .bl b := by cases h with | den h => cases h; rfl
theorem View.str {b : Str} (h : View c ps H v (.str b)) : v = .str b := by cases h with | den h => cases h; rfl
theorem View.non (h : View c ps H v .none) : v = .non := by cases h with | den h => cases h; rfl
theorem View.non_iff (h : View c ps H v d) : v = .non ↔ d = .none := by
  constructor
  · intro e; subst e
    cases h with | den h => cases h; rfl
  · intro e; subst e; exact h.non
theorem View.lst {ds : List D} (h : View c ps H v (.list ds)) : ∃ a vs, v = .ref a ∧ H a = some (.lst vs) ∧ DenL H (c.U ps) vs ds := by
  cases h with
  | den h => cases h with | lst h1 h2 h3 => exact ⟨_, _, rfl, h1, h3⟩
  | own h1 h2 h3 => exact ⟨_, _, rfl, h1, h3⟩
theorem View.tup {ds : List D} (h : View c ps H v (.tuple ds)) : ∃ a vs, v = .ref a ∧ H a = some (.tup vs) ∧ DenL H (c.U ps) vs ds ∧ ¬ c.U ps a := by
  cases h with | den h => cases h with | tup h1 h2 h3 => exact ⟨_, _, rfl, h1, h3, h2⟩
end

/-! ### names, constants -/
section
variable {s : Sx} {Γ : List Md}
def eVar (i : Nat) : Env → M D := fun ρ => match ρ[i]? with | some (some d) => ret d | _ => stuck
theorem eVar_get {i : Nat} {ρ : Env} {P : D → Prop} (h : eVar i ρ P) : ∃ d, ρ[i]? = some (some d) ∧ P d := by
  unfold eVar at h
  generalize ρ[i]? = z at h ⊢
  rcases z with _ | _ | d
  · cases h
  · cases h
  · exact ⟨d, rfl, h⟩
theorem sem_var {i : Nat} (hm : Γ[i]? = some .fro) : SemE s Γ (tVar i) (eVar i) := by
  intro c ρ ps σ H Q P _ r q k
  obtain ⟨d, e, p⟩ := eVar_get q
  obtain ⟨o, qs, e1, e2, _⟩ := r.sl.get hm e
  cases e2 with
  | fro h => exact ⟨_, e1, k d _ H p (Stp.refl c H) h⟩
theorem sem_own {i : Nat} (hm : Γ[i]? = some .own) : SemV s Γ (tVar i) (eVar i) := by
  intro c ρ ps σ H Q P _ r q k
  obtain ⟨d, e, p⟩ := eVar_get q
  obtain ⟨o, qs, e1, e2, e3⟩ := r.sl.get hm e
  cases e2 with
  | own h1 h2 => exact ⟨_, e1, k _ _ H p (Stp.refl c H) (.own h1 (e3 _ (by simp)) h2)⟩
theorem sem_lent {i : Nat} {p : Addr} {vs : List V} (hm : Γ[i]? = some (.lent p vs)) : SemV s Γ (tVar i) (eVar i) := by
  intro c ρ ps σ H Q P _ r q k
  obtain ⟨d, e, p⟩ := eVar_get q
  obtain ⟨o, qs, e1, e2, e3⟩ := r.sl.get hm e
  cases e2 with
  | lent h1 h2 => exact ⟨_, e1, k _ _ H p (Stp.refl c H) (.own h1 (e3 _ (by simp)) h2)⟩
def eC (d : D) : Env → M D := fun _ => ret d
theorem sem_int {i : Int} : SemE s Γ (tC (.int i)) (eC (.int i)) := fun c ρ ps σ H Q P _ r q k => k _ _ H q (Stp.refl c H) (.int i)
theorem sem_bl {i : Bool} : SemE s Γ (tC (.bl i)) (eC (.bool i)) := fun c ρ ps σ H Q P _ r q k => k _ _ H q (Stp.refl c H) (.bl i)
theorem sem_str {i : Str} : SemE s Γ (tC (.str i)) (eC (.str i)) := fun c ρ ps σ H Q P _ r q k => k _ _ H q (Stp.refl c H) (.str i)
theorem sem_non : SemE s Γ (tC .non) (eC .none) := fun c ρ ps σ H Q P _ r q k => k _ _ H q (Stp.refl c H) .non

/-! ### operators by values -/
/-- r reckons g; what it gives is a datum -/
def OpE (s : Sx) (r : R2) (g : D → D → M D) : Prop := ∀ c ps H x y u v Q P, c.s = s → Gd c ps H → View c ps H u x → View c ps H v y → g x y P → (∀ d w H', P d → Stp c H H' → Den H' (c.U ps) w d → Q w H') → r u v H Q
def UnE (s : Sx) (r : V → Hp → VK → Prop) (g : D → M D) : Prop := ∀ c ps H x u Q P, c.s = s → Gd c ps H → View c ps H u x → g x P → (∀ d w H', P d → Stp c H H' → Den H' (c.U ps) w d → Q w H') → r u H Q
def bin (g : D → D → M D) (a b : Env → M D) : Env → M D := fun ρ => bnd (a ρ) fun x => bnd (b ρ) fun y => g x y
def una (g : D → M D) (a : Env → M D) : Env → M D := fun ρ => bnd (a ρ) g
theorem sem_op {r : R2} {g : D → D → M D} {ta tb : TE} {a b : Env → M D} (o : OpE s r g) (ha : SemV s Γ ta a) (hb : SemV s Γ tb b) : SemE s Γ (tOp r ta tb) (bin g a b) := by
  intro c ρ ps σ H Q P hc r0 q k
  refine ha c ρ ps σ H _ _ hc r0 q fun x u H1 q1 e1 d1 => ?_
  refine hb c ρ ps σ H1 _ _ hc (r0.stp e1) q1 fun y v H2 q2 e2 d2 => ?_
  have r2 := (r0.stp e1).stp e2
  exact o c ps H2 x y u v Q P hc r2.gd (d1.stp r0.ok r2.gd.nA e2) d2 q2 fun d w H3 p e3 dn => k d w H3 p ((e1.trans e2).trans e3) dn
theorem sem_un {r : V → Hp → VK → Prop} {g : D → M D} {ta : TE} {a : Env → M D} (o : UnE s r g) (ha : SemV s Γ ta a) : SemE s Γ (tUn r ta) (una g a) := by
  intro c ρ ps σ H Q P hc r0 q k
  refine ha c ρ ps σ H _ _ hc r0 q fun x u H1 q1 e1 d1 => ?_
  exact o c ps H1 x u Q P hc (r0.stp e1).gd d1 q1 fun d w H3 p e3 dn => k d w H3 p (e1.trans e3) dn

/-- two ints -/
def gI (f : Int → Int → D) : D → D → M D
  | .int i, .int j => ret (f i j)
  | _, _ => stuck
/-- two ints, on a condition -/
def gIc (p : Int → Int → Bool) (f : Int → Int → D) : D → D → M D
  | .int i, .int j => if p i j = true then ret (f i j) else stuck
  | _, _ => stuck
theorem op_i0 {f : Int → Int → V} {g : Int → Int → D} (h : ∀ i j H U, Den H U (f i j) (g i j)) : OpE s (rI0 f) (gI g) := by
  intro c ps H x y u v Q P hc G hx hy q k
  unfold gI at q
  split at q
  · exact ⟨_, _, hx.int, hy.int, k _ _ H q (Stp.refl c H) (h _ _ _ _)⟩
  · cases q
theorem op_ic {C : Int → Int → Prop} {p : Int → Int → Bool} {f : Int → Int → V} {g : Int → Int → D} (hp : ∀ i j, p i j = true → C i j) (h : ∀ i j H U, Den H U (f i j) (g i j)) : OpE s (rI C f) (gIc p g) := by
  intro c ps H x y u v Q P hc G hx hy q k
  unfold gIc at q
  split at q
  · split at q
    · exact ⟨_, _, hx.int, hy.int, hp _ _ (by assumption), k _ _ H q (Stp.refl c H) (h _ _ _ _)⟩
    · cases q
  · cases q
abbrev gSub : D → D → M D := gI fun i j => .int (i - j)
abbrev gLt : D → D → M D := gI fun i j => .bool (decide (i < j))
abbrev gLe : D → D → M D := gI fun i j => .bool (decide (i ≤ j))
abbrev gGt : D → D → M D := gI fun i j => .bool (decide (j < i))
abbrev gGe : D → D → M D := gI fun i j => .bool (decide (j ≤ i))
def mulOk (i j : Int) : Bool := decide (i.natAbs.log2 + j.natAbs.log2 < 1000000)
def divOk (_ j : Int) : Bool := decide (j ≠ 0 ∧ j.natAbs.log2 < 9000)
def modOk (_ j : Int) : Bool := decide (j ≠ 0)
abbrev gFdiv : D → D → M D := gIc divOk fun i j => .int (i.fdiv j)
abbrev gMod : D → D → M D := gIc modOk fun i j => .int (i.fmod j)
def CDivF (_ j : Int) : Prop := j ≠ 0 ∧ j.natAbs.log2 < 9000
theorem divOk_c {i j : Int} (h : divOk i j = true) : CDivF i j := by
  unfold divOk at h
  have h' := of_decide_eq_true h
  exact h'
theorem mulOk_c {i j : Int} (h : mulOk i j = true) : CMulW i j := by
  unfold mulOk at h
  have h' := of_decide_eq_true h
  exact h'
theorem modOk_c {i j : Int} (h : modOk i j = true) : j ≠ 0 := by
  unfold modOk at h
  exact of_decide_eq_true h
theorem op_fdivF {X : Cx} : OpR X (binaryOp .FloorDiv) (rI CDivF fun i j => .int (i.fdiv j)) := opI fun _ _ _ _ _ _ _ hc q => PyProof.Rows.floordiv_int hc.1 q (.inl (PyProof.noPylong_of_log2 hc.2))
abbrev rSubI : R2 := rI0 fun i j => .int (i - j)
abbrev rFdivI : R2 := rI CDivF fun i j => .int (i.fdiv j)
abbrev rModI : R2 := rI (fun _ j => j ≠ 0) fun i j => .int (i.fmod j)
theorem oe_sub : OpE s rSubI gSub := op_i0 fun _ _ _ _ => .int _
theorem oe_fdiv : OpE s rFdivI gFdiv := op_ic (fun i j h => divOk_c h) fun _ _ _ _ => .int _
theorem oe_mod : OpE s rModI gMod := op_ic (fun i j h => modOk_c h) fun _ _ _ _ => .int _
theorem oe_lt : OpE s (rI0 fun i j => .bl (decide (i < j))) gLt := op_i0 fun _ _ _ _ => .bl _
theorem oe_le : OpE s (rI0 fun i j => .bl (decide (i ≤ j))) gLe := op_i0 fun _ _ _ _ => .bl _
theorem oe_gt : OpE s (rI0 fun i j => .bl (decide (j < i))) gGt := op_i0 fun _ _ _ _ => .bl _
theorem oe_ge : OpE s (rI0 fun i j => .bl (decide (j ≤ i))) gGe := op_i0 fun _ _ _ _ => .bl _
def gNeg : D → M D
  | .int i => ret (.int (-i))
  | _ => stuck
theorem oe_neg : UnE s (rU fun i => .int (-i)) gNeg := by
  intro c ps H x u Q P hc G hx q k
  unfold gNeg at q
  split at q
  · exact ⟨_, hx.int, k _ _ H q (Stp.refl c H) (.int _)⟩
  · cases q

/-! ### + of ints, tuples, lists -/
def rAddA (K : PySem.W.Frag) : R2 := fun x y H Q => (rI0 (fun i j => .int (i + j)) x y H Q ∨ rCatA K x y H Q) ∨ rCat x y H Q
theorem op_addA {X : Cx} : OpR X (binaryOp .Add) (rAddA X.K) := (L2.op_add.or op_catA).or op_cat
def lenOk (n : Nat) : Bool := decide (n ≤ 100000)
theorem lenOk_sz {n : Nat} (h : lenOk n = true) : n ≤ sizeLine := Nat.le_trans (of_decide_eq_true h) (by decide)
def gAdd : D → D → M D
  | .int i, .int j => ret (.int (i + j))
  | .tuple a, .tuple b => if lenOk (a.length + b.length) = true then ret (.tuple (a ++ b)) else stuck
  | .list a, .list b => if lenOk (a.length + b.length) = true then ret (.list (a ++ b)) else stuck
  | _, _ => stuck
theorem DenL.nil_iff {H : Hp} {U : AS} {vs : List V} {ds : List D} (h : DenL H U vs ds) : vs = [] ↔ ds = [] := by
  cases h with
  | nil => exact ⟨fun _ => rfl, fun _ => rfl⟩
  | cons _ _ => exact Iff.intro (fun e => nomatch e) (fun e => nomatch e)
theorem oe_add {K : PySem.W.Frag} : OpE s (rAddA K) gAdd := by
  intro c ps H x y u v Q P hc G hx hy q k
  unfold gAdd at q
  split at q
  · exact .inl (.inl ⟨_, _, hx.int, hy.int, k _ _ H q (Stp.refl c H) (.int _)⟩)
  · split at q
    · rename_i a b hl
      obtain ⟨p1, vs, rfl, h1, dn1, n1⟩ := hx.tup
      obtain ⟨p2, ws, rfl, h2, dn2, n2⟩ := hy.tup
      have hz : vs.length + ws.length ≤ sizeLine := by rw [dn1.length, dn2.length]; exact lenOk_sz hl
      refine .inl (.inr ⟨p1, p2, vs, ws, rfl, rfl, SqT.of h1, SqT.of h2, hz, fun e => ?_, fun _ e => ?_, fun _ _ p hp => ?_⟩)
      · have e' := dn1.nil_iff.mp e
        subst e'
        exact k _ _ H q (Stp.refl c H) (.tup h2 n2 dn2)
      · have e' := dn2.nil_iff.mp e
        subst e'
        rw [List.append_nil] at q
        exact k _ _ H q (Stp.refl c H) (.tup h1 n1 dn1)
      · have e := Stp.tup G.ok (xs := vs ++ ws) hp (by rw [List.length_append]; exact hz)
        exact k _ _ _ q e (.tup upd_same (G.new hp) ((dn1.stp G.ok e).append (dn2.stp G.ok e)))
    · cases q
  · split at q
    · rename_i a b hl
      obtain ⟨p1, vs, rfl, h1, dn1⟩ := hx.lst
      obtain ⟨p2, ws, rfl, h2, dn2⟩ := hy.lst
      have hz : vs.length + ws.length ≤ sizeLine := by rw [dn1.length, dn2.length]; exact lenOk_sz hl
      refine .inr ⟨p1, p2, vs, ws, rfl, rfl, h1, h2, hz, fun p hp => ?_⟩
      have e := Stp.lst G.ok (xs := vs ++ ws) hp (by rw [List.length_append]; exact hz)
      exact k _ _ _ q e (.lst upd_same (G.new hp) ((dn1.stp G.ok e).append (dn2.stp G.ok e)))
    · cases q
  · cases q

/-! ### * of ints; a list or a tuple times an int -/
def rMulA (K : PySem.W.Frag) : R2 := fun x y H Q => rI CMulW (fun i j => .int (i * j)) x y H Q ∨ rRep x y H Q
theorem op_mulA {X : Cx} : OpR X (binaryOp .Mult) (rMulA X.K) := op_mulW.or op_rep
def repD : Nat → List D → List D
  | 0, _ => []
  | n + 1, ds => ds ++ repD n ds
theorem DenL.rep {H : Hp} {U : AS} {vs : List V} {ds : List D} (h : DenL H U vs ds) : ∀ n : Nat, DenL H U (List.replicate n vs).flatten (repD n ds)
  | 0 => .nil
  | n + 1 => by rw [List.replicate_succ, List.flatten_cons]; exact h.append (h.rep n)
def gMul : D → D → M D
  | .int i, .int j => if mulOk i j = true then ret (.int (i * j)) else stuck
  | .list a, .int n => if decide (0 ≤ n ∧ n ≤ 1000 ∧ a.length ≤ 100) = true then ret (.list (repD n.toNat a)) else stuck
  | _, _ => stuck
theorem oe_mul {K : PySem.W.Frag} : OpE s (rMulA K) gMul := by
  intro c ps H x y u v Q P hc G hx hy q k
  unfold gMul at q
  split at q
  · split at q
    · exact .inl ⟨_, _, hx.int, hy.int, mulOk_c (by assumption), k _ _ H q (Stp.refl c H) (.int _)⟩
    · cases q
  · split at q
    · rename_i a n hl
      have hb := of_decide_eq_true hl
      obtain ⟨p1, vs, rfl, h1, dn1⟩ := hx.lst
      have hv : vs.length ≤ 100 := by rw [dn1.length]; exact hb.2.2
      have h3 : vs.length * n.toNat ≤ 100 * 1000 := Nat.mul_le_mul hv (by omega)
      have hz : vs.length * n.toNat ≤ sizeLine := Nat.le_trans h3 (by decide)
      refine .inr ⟨p1, n, vs, rfl, hy.int, h1, by omega, by omega, hz, fun p hp => ?_⟩
      have e := Stp.lst G.ok (xs := (List.replicate n.toNat vs).flatten) hp (by rw [List.length_flatten, List.map_replicate, List.sum_replicate_nat, Nat.mul_comm]; exact hz)
      exact k _ _ _ q e (.lst upd_same (G.new hp) ((dn1.stp G.ok e).rep _))
    · cases q
  · cases q

/-! ### == and != of data -/
theorem Den.dp {K : PySem.W.Frag} {H : Hp} {U : AS} : ∀ {d : D} {v : V}, Den H U v d → d.canLay0 = true → Dp K H v d := by
  intro d v h
  refine Den.rec (motive_1 := fun v d _ => d.canLay0 = true → Dp K H v d) (motive_2 := fun vs ds _ => PyData.canLayAll0 ds = true → DpAll K H vs ds) ?_ ?_ ?_ ?_ ?_ ?_ ?_ ?_ ?_ h
  · intro _; exact .non
  · intro b _; exact .bl b
  · intro b _; exact .int b
  · intro b _; exact .str b
  · intro a xs ds ha hu _ ih z; exact .lst (SqL.of ha) (ih (by simpa [PyData.canLay0] using z))
  · intro a xs ds ha hu _ ih z; exact .tup (SqT.of ha) (ih (by simpa [PyData.canLay0] using z))
  · intro a ha hu z; simp [PyData.canLay0] at z
  · intro _; exact .nil
  · intro v vs d ds _ _ h1 h2 z
    have z' : d.canLay0 = true ∧ PyData.canLayAll0 ds = true := by simpa [PyData.canLayAll0] using z
    exact .cons (h1 z'.1) (h2 z'.2)
theorem DenL.dp {K : PySem.W.Frag} {H : Hp} {U : AS} : ∀ {ds : List D} {vs : List V}, DenL H U vs ds → PyData.canLayAll0 ds = true → DpAll K H vs ds
  | _, _, .nil, _ => .nil
  | d :: ds, _, .cons h t, z => by
    have z' : d.canLay0 = true ∧ PyData.canLayAll0 ds = true := by simpa [PyData.canLayAll0] using z
    exact .cons (h.dp z'.1) (t.dp z'.2)
theorem View.dp {K : PySem.W.Frag} {c : Fx} {ps : List Addr} {H : Hp} {v : V} {d : D} (h : View c ps H v d) (z : d.canLay0 = true) : Dp K H v d := by
  cases h with
  | den h => exact h.dp z
  | own h1 _ h3 => exact .lst (SqL.of h1) (h3.dp (by simpa [PyData.canLay0] using z))
def shp (d : D) : Bool := SeqAt.shaped d
theorem shp_lay {d : D} (h : shp d = true) : d.canLay0 = true := SeqAt.canLay_of_shaped h
def gEq : D → D → M D := fun x y => if (shp x && shp y) = true then ret (.bool (PyData.eqv x y)) else stuck
def gNe : D → D → M D := fun x y => if (shp x && shp y) = true then ret (.bool (!PyData.eqv x y)) else stuck
theorem oe_eq {K : PySem.W.Frag} : OpE s (rEqD K) gEq := by
  intro c ps H x y u v Q P hc G hx hy q k
  unfold gEq at q
  split at q
  · rename_i z
    have z' : shp x = true ∧ shp y = true := by simpa using z
    exact ⟨x, y, hx.dp (shp_lay z'.1), hy.dp (shp_lay z'.2), z'.1, z'.2, k _ _ H q (Stp.refl c H) (.bl _)⟩
  · cases q
theorem oe_ne {K : PySem.W.Frag} : OpE s (rNeD K) gNe := by
  intro c ps H x y u v Q P hc G hx hy q k
  unfold gNe at q
  split at q
  · rename_i z
    have z' : shp x = true ∧ shp y = true := by simpa using z
    exact ⟨x, y, hx.dp (shp_lay z'.1), hy.dp (shp_lay z'.2), z'.1, z'.2, k _ _ H q (Stp.refl c H) (.bl _)⟩
  · cases q

/-! ### is None, is True -/
def isNonD : D → Bool
  | .none => true
  | _ => false
def gIsN : D → D → M D := fun x _ => ret (.bool (isNonD x))
def gNotN : D → D → M D := fun x _ => ret (.bool (!isNonD x))
theorem is_non {c : Fx} {ps : List Addr} {H : Hp} {v : V} {d : D} (h : View c ps H v d) : decide (v = .non) = isNonD d := by
  by_cases e : v = .non
  · rw [decide_eq_true e, h.non_iff.mp e]; rfl
  · rw [decide_eq_false e]
    have ne := fun q => e (h.non_iff.mpr q)
    cases d <;> first | rfl | exact absurd rfl ne
abbrev rIsNon : R2 := fun x y H Q => y = .non ∧ Q (.bl (decide (x = .non))) H
abbrev rNotNon : R2 := fun x y H Q => y = .non ∧ Q (.bl (!decide (x = .non))) H
theorem sem_isN {ta : TE} {a : Env → M D} (ha : SemV s Γ ta a) : SemE s Γ (tOp rIsNon ta (tC .non)) (bin gIsN a (eC .none)) := by
  intro c ρ ps σ H Q P hc r0 q k
  refine ha c ρ ps σ H _ _ hc r0 q fun x u H1 q1 e1 d1 => ?_
  refine ⟨rfl, k _ _ H1 q1 e1 ?_⟩
  rw [is_non d1]; exact .bl _
theorem sem_notN {ta : TE} {a : Env → M D} (ha : SemV s Γ ta a) : SemE s Γ (tOp rNotNon ta (tC .non)) (bin gNotN a (eC .none)) := by
  intro c ρ ps σ H Q P hc r0 q k
  refine ha c ρ ps σ H _ _ hc r0 q fun x u H1 q1 e1 d1 => ?_
  refine ⟨rfl, k _ _ H1 q1 e1 ?_⟩
  rw [is_non d1]; exact .bl _
def gB (f : Bool → Bool → Bool) : D → D → M D
  | .bool i, .bool j => ret (.bool (f i j))
  | _, _ => stuck
theorem oe_isB : OpE s rIsB (gB fun a b => decide (a = b)) := by
  intro c ps H x y u v Q P hc G hx hy q k
  unfold gB at q
  split at q
  · exact ⟨_, _, hx.bl, hy.bl, k _ _ H q (Stp.refl c H) (.bl _)⟩
  · cases q
theorem oe_notB : OpE s rNotB (gB fun a b => !decide (a = b)) := by
  intro c ps H x y u v Q P hc G hx hy q k
  unfold gB at q
  split at q
  · exact ⟨_, _, hx.bl, hy.bl, k _ _ H q (Stp.refl c H) (.bl _)⟩
  · cases q

/-! ### tests -/
def tst (e : Env → M D) : Env → M Bool := fun ρ => bnd (e ρ) fun d => match d with | .bool b => ret b | _ => stuck
theorem sem_test {t : TE} {e : Env → M D} (h : SemV s Γ t e) : SemT s Γ (tTest t) (tst e) := by
  intro c ρ ps σ H Q P hc r0 q k
  refine h c ρ ps σ H _ _ hc r0 q fun x u H1 q1 e1 d1 => ?_
  dsimp only at q1
  split at q1
  · exact ⟨_, d1.bl, k _ H1 q1 e1⟩
  · cases q1
theorem sem_tB {t : TE} {e : Env → M D} (h : SemV s Γ t e) : SemT s Γ (tB t) (tst e) := by
  intro c ρ ps σ H Q P hc r0 q k
  refine h c ρ ps σ H _ _ hc r0 q fun x u H1 q1 e1 d1 => ?_
  dsimp only at q1
  split at q1
  · exact ⟨_, d1.bl, k _ H1 q1 e1⟩
  · cases q1
/-- the truth of a bool, an int, a sequence, None -/
def truD : D → M Bool
  | .bool b => ret b
  | .int i => ret (i != 0)
  | .list ds => ret (!ds.isEmpty)
  | .tuple ds => ret (!ds.isEmpty)
  | .none => ret false
  | _ => stuck
def tru (e : Env → M D) : Env → M Bool := fun ρ => bnd (e ρ) truD
theorem DenL.empty {H : Hp} {U : AS} {vs : List V} {ds : List D} (h : DenL H U vs ds) : vs.isEmpty = ds.isEmpty := by cases h <;> rfl
theorem sem_tru {K : PySem.W.Frag} {t : TE} {e : Env → M D} (h : SemV s Γ t e) : SemT s Γ (fun σ H Q => t σ H fun x H' => ∃ k, TruV K x H' k ∧ Q k H') (tru e) := by
  intro c ρ ps σ H Q P hc r0 q k
  refine h c ρ ps σ H _ _ hc r0 q fun x u H1 q1 e1 d1 => ?_
  unfold truD at q1
  split at q1
  · rw [d1.bl]; exact ⟨_, rfl, k _ H1 q1 e1⟩
  · rw [d1.int]; exact ⟨_, rfl, k _ H1 q1 e1⟩
  · obtain ⟨a, vs, rfl, h1, dn⟩ := d1.lst
    refine ⟨_, .inl ⟨vs, SqL.of h1, rfl⟩, k _ H1 ?_ e1⟩
    rw [dn.empty]; exact q1
  · obtain ⟨a, vs, rfl, h1, dn, _⟩ := d1.tup
    refine ⟨_, .inr (.inl ⟨vs, SqT.of h1, rfl⟩), k _ H1 ?_ e1⟩
    rw [dn.empty]; exact q1
  · rw [d1.non]; exact ⟨_, rfl, k _ H1 q1 e1⟩
  · cases q1
def bAnd (a b : Env → M Bool) : Env → M Bool := fun ρ => bnd (a ρ) fun x => if x = true then b ρ else ret false
def bOr (a b : Env → M Bool) : Env → M Bool := fun ρ => bnd (a ρ) fun x => if x = true then ret true else b ρ
def bNot (a : Env → M Bool) : Env → M Bool := fun ρ => bnd (a ρ) fun x => ret (!x)
theorem sem_and {t u : TT} {a b : Env → M Bool} (ha : SemT s Γ t a) (hb : SemT s Γ u b) : SemT s Γ (tAnd t u) (bAnd a b) := by
  intro c ρ ps σ H Q P hc r0 q k
  refine ha c ρ ps σ H _ _ hc r0 q fun x H1 q1 e1 => ?_
  dsimp only at q1
  cases x with
  | true =>
    refine iteT ?_
    rw [if_pos rfl] at q1
    exact hb c ρ ps σ H1 _ _ hc (r0.stp e1) q1 fun y H2 q2 e2 => k y H2 q2 (e1.trans e2)
  | false =>
    refine iteF ?_
    rw [if_neg Bool.false_ne_true] at q1
    exact k _ H1 q1 e1
theorem sem_or {t u : TT} {a b : Env → M Bool} (ha : SemT s Γ t a) (hb : SemT s Γ u b) : SemT s Γ (tOr t u) (bOr a b) := by
  intro c ρ ps σ H Q P hc r0 q k
  refine ha c ρ ps σ H _ _ hc r0 q fun x H1 q1 e1 => ?_
  dsimp only at q1
  cases x with
  | true =>
    refine iteT ?_
    rw [if_pos rfl] at q1
    exact k _ H1 q1 e1
  | false =>
    refine iteF ?_
    rw [if_neg Bool.false_ne_true] at q1
    exact hb c ρ ps σ H1 _ _ hc (r0.stp e1) q1 fun y H2 q2 e2 => k y H2 q2 (e1.trans e2)
theorem sem_not {t : TT} {a : Env → M Bool} (ha : SemT s Γ t a) : SemT s Γ (tNot t) (bNot a) := by
  intro c ρ ps σ H Q P hc r0 q k
  exact ha c ρ ps σ H _ _ hc r0 q fun x H1 q1 e1 => k _ H1 q1 e1
/-- and, or, not as values: bools -/
def vB (a : Env → M Bool) : Env → M D := fun ρ => bnd (a ρ) fun b => ret (.bool b)
def eAnd (a b : Env → M D) : Env → M D := fun ρ => bnd (tst a ρ) fun x => if x = true then b ρ else ret (.bool false)
def eOr (a b : Env → M D) : Env → M D := fun ρ => bnd (tst a ρ) fun x => if x = true then ret (.bool true) else b ρ
def eNot (a : Env → M D) : Env → M D := fun ρ => bnd (tst a ρ) fun x => ret (.bool (!x))
theorem sem_eAnd {t u : TE} {a b : Env → M D} (ha : SemV s Γ t a) (hb : SemE s Γ u b) : SemE s Γ (tAndV t u) (eAnd a b) := by
  intro c ρ ps σ H Q P hc r0 q k
  refine ha c ρ ps σ H _ _ hc r0 q fun x v H1 q1 e1 d1 => ?_
  dsimp only at q1
  split at q1
  · refine ⟨_, d1.bl, ?_⟩
    rename_i bb
    replace q1 : (if bb = true then b ρ else ret (.bool false)) P := q1
    cases bb with
    | true =>
      rw [if_pos rfl] at q1
      refine iteT ?_
      exact hb c ρ ps σ H1 _ _ hc (r0.stp e1) q1 fun d w H2 q2 e2 dn => k d w H2 q2 (e1.trans e2) dn
    | false =>
      rw [if_neg Bool.false_ne_true] at q1
      exact iteF (k _ _ H1 q1 e1 (.bl _))
  · cases q1
theorem sem_eOr {t u : TE} {a b : Env → M D} (ha : SemV s Γ t a) (hb : SemE s Γ u b) : SemE s Γ (tOrV t u) (eOr a b) := by
  intro c ρ ps σ H Q P hc r0 q k
  refine ha c ρ ps σ H _ _ hc r0 q fun x v H1 q1 e1 d1 => ?_
  dsimp only at q1
  split at q1
  · refine ⟨_, d1.bl, ?_⟩
    rename_i bb
    replace q1 : (if bb = true then ret (.bool true) else b ρ) P := q1
    cases bb with
    | true =>
      rw [if_pos rfl] at q1
      exact iteT (k _ _ H1 q1 e1 (.bl _))
    | false =>
      rw [if_neg Bool.false_ne_true] at q1
      refine iteF ?_
      exact hb c ρ ps σ H1 _ _ hc (r0.stp e1) q1 fun d w H2 q2 e2 dn => k d w H2 q2 (e1.trans e2) dn
  · cases q1
theorem sem_eNot {t : TE} {a : Env → M D} (ha : SemV s Γ t a) : SemE s Γ (tNotV t) (eNot a) := by
  intro c ρ ps σ H Q P hc r0 q k
  refine ha c ρ ps σ H _ _ hc r0 q fun x v H1 q1 e1 d1 => ?_
  dsimp only at q1
  split at q1
  · exact ⟨_, d1.bl, k _ _ H1 q1 e1 (.bl _)⟩
  · cases q1
def eIf (g : Env → M Bool) (a b : Env → M D) : Env → M D := fun ρ => bnd (g ρ) fun x => if x = true then a ρ else b ρ
theorem sem_eIf {t : TT} {u w : TE} {g : Env → M Bool} {a b : Env → M D} (hg : SemT s Γ t g) (ha : SemE s Γ u a) (hb : SemE s Γ w b) : SemE s Γ (tIf t u w) (eIf g a b) := by
  intro c ρ ps σ H Q P hc r0 q k
  refine hg c ρ ps σ H _ _ hc r0 q fun x H1 q1 e1 => ?_
  dsimp only at q1
  cases x with
  | true =>
    rw [if_pos rfl] at q1
    refine iteT ?_
    exact ha c ρ ps σ H1 _ _ hc (r0.stp e1) q1 fun d w H2 q2 e2 dn => k d w H2 q2 (e1.trans e2) dn
  | false =>
    rw [if_neg Bool.false_ne_true] at q1
    refine iteF ?_
    exact hb c ρ ps σ H1 _ _ hc (r0.stp e1) q1 fun d w H2 q2 e2 dn => k d w H2 q2 (e1.trans e2) dn
/-- a < b < c of ints (b asked once) -/
def eChain (g g' : D → D → M D) (a b e : Env → M D) : Env → M D := fun ρ => bnd (a ρ) fun x => bnd (b ρ) fun y => bnd (g x y) fun z => match z with
  | .bool k => if k = true then bnd (e ρ) fun w => g' y w else ret (.bool false)
  | _ => stuck
theorem sem_chain {r r' : R2} {g g' : D → D → M D} {ta tb te : TE} {a b e : Env → M D} (o : OpE s r g) (o' : OpE s r' g') (ha : SemV s Γ ta a) (hb : SemV s Γ tb b) (he : SemV s Γ te e) : SemE s Γ (tChain r r' ta tb te) (eChain g g' a b e) := by
  intro c ρ ps σ H Q P hc r0 q k
  refine ha c ρ ps σ H _ _ hc r0 q fun x u H1 q1 e1 d1 => ?_
  refine hb c ρ ps σ H1 _ _ hc (r0.stp e1) q1 fun y v H2 q2 e2 d2 => ?_
  have r2 := (r0.stp e1).stp e2
  refine o c ps H2 x y u v _ _ hc r2.gd (d1.stp r0.ok r2.gd.nA e2) d2 q2 fun z w H3 q3 e3 d3 => ?_
  dsimp only at q3
  split at q3
  · rename_i kk
    cases d3
    refine ⟨kk, rfl, ?_⟩
    cases kk with
    | true =>
      rw [if_pos rfl] at q3
      refine iteT ?_
      have r3 := r2.stp e3
      refine he c ρ ps σ H3 _ _ hc r3 q3 fun z' w' H4 q4 e4 d4 => ?_
      have r4 := r3.stp e4
      exact o' c ps H4 y z' v w' _ _ hc r4.gd ((d2.stp r0.ok r2.gd.nA e3).stp r0.ok r2.gd.nA e4) d4 q4 fun d w H5 p e5 dn => k d w H5 p ((((e1.trans e2).trans e3).trans e4).trans e5) dn
    | false =>
      rw [if_neg Bool.false_ne_true] at q3
      exact iteF (k _ _ H3 q3 ((e1.trans e2).trans e3) (.bl _))
  · cases q3
end
end Py
/-! PyC: places, slices, displays, targets, what is walked, comprehensions. -/
namespace Py
open PySem L2 StX
section
variable {s : Sx} {Γ : List Md}

/-! ### places -/
def gIx : D → D → M D
  | .list ds, .int i => match atI ds i with | some d => ret d | none => stuck
  | .tuple ds, .int i => match atI ds i with | some d => ret d | none => stuck
  | _, _ => stuck
theorem DenL.atI {H : Hp} {U : AS} {vs : List V} {ds : List D} {i : Int} {d : D} (h : DenL H U vs ds) (e : atI ds i = some d) : ∃ v, L2.atI vs i = some v ∧ Den H U v d := by
  unfold L2.atI at e ⊢
  rw [h.length]
  cases z : ixN ds.length i with
  | none => rw [z] at e; cases e
  | some j => rw [z] at e; exact h.get e
theorem oe_ix {K : PySem.W.Frag} : OpE s (rIx K) gIx := by
  intro c ps H x y u v Q P hc G hx hy q k
  unfold gIx at q
  split at q
  · rename_i ds i
    obtain ⟨a, vs, rfl, h1, dn⟩ := hx.lst
    cases z : L2.atI ds i with
    | none => rw [z] at q; cases q
    | some d =>
      rw [z] at q
      obtain ⟨w, e1, e2⟩ := dn.atI z
      exact .inl ⟨a, vs, i, w, rfl, hy.int, SqL.of h1, e1, k _ _ H q (Stp.refl c H) e2⟩
  · rename_i ds i
    obtain ⟨a, vs, rfl, h1, dn, _⟩ := hx.tup
    cases z : L2.atI ds i with
    | none => rw [z] at q; cases q
    | some d =>
      rw [z] at q
      obtain ⟨w, e1, e2⟩ := dn.atI z
      exact .inr (.inl ⟨a, vs, i, w, rfl, hy.int, SqT.of h1, e1, k _ _ H q (Stp.refl c H) e2⟩)
  · cases q

/-! ### slices -/
def SemO (s : Sx) (Γ : List Md) (t : TO) (f : Env → M (Option Int)) : Prop := ∀ c ρ ps σ H Q P, c.s = s → R c Γ ρ ps σ H → f ρ P → (∀ o H', P o → Stp c H H' → Q o H') → t σ H Q
def oNo : Env → M (Option Int) := fun _ => ret none
def oPart (e : Env → M D) : Env → M (Option Int) := fun ρ => bnd (e ρ) fun d => match d with | .int i => ret (some i) | _ => stuck
theorem sem_oNo : SemO s Γ tNoPart oNo := fun c ρ ps σ H Q P _ r q k => k _ H q (Stp.refl c H)
theorem sem_oPart {t : TE} {e : Env → M D} (h : SemV s Γ t e) : SemO s Γ (tPart t) (oPart e) := by
  intro c ρ ps σ H Q P hc r0 q k
  refine h c ρ ps σ H _ _ hc r0 q fun x u H1 q1 e1 d1 => ?_
  dsimp only at q1
  split at q1
  · exact ⟨_, d1.int, k _ H1 q1 e1⟩
  · cases q1
def cutD (ds : List D) (lo hi : Option Int) : List D := (ds.drop (HT.sIx ds.length 0 lo)).take (HT.sIx ds.length ds.length hi - HT.sIx ds.length 0 lo)
theorem DenL.cut {H : Hp} {U : AS} {vs : List V} {ds : List D} (h : DenL H U vs ds) (lo hi : Option Int) : DenL H U (cutV vs lo hi) (cutD ds lo hi) := by
  unfold cutV cutD
  rw [h.length]
  exact (h.drop _).take _
def gSl (d : D) (lo hi : Option Int) : M D := match d with
  | .list ds => ret (.list (cutD ds lo hi))
  | .tuple ds => ret (.tuple (cutD ds lo hi))
  | _ => stuck
def rSlLT (K : PySem.W.Frag) : V → Option Int → Option Int → Hp → VK → Prop := fun x lo hi H Q => rSlL K x lo hi H Q ∨ rSlA K x lo hi H Q
theorem sl_any {X : Cx} : SlR X (rSlLT X.K) := sl_list.or sl_tupA
def eSl (e : Env → M D) (lo hi : Env → M (Option Int)) : Env → M D := fun ρ => bnd (e ρ) fun d => bnd (lo ρ) fun l => bnd (hi ρ) fun h => gSl d l h
theorem sem_sl {K : PySem.W.Frag} {te : TE} {tl th : TO} {e : Env → M D} {lo hi : Env → M (Option Int)} (he : SemV s Γ te e) (hl : SemO s Γ tl lo) (hh : SemO s Γ th hi) : SemE s Γ (tSl (rSlLT K) te tl th) (eSl e lo hi) := by
  intro c ρ ps σ H Q P hc r0 q k
  refine he c ρ ps σ H _ _ hc r0 q fun x u H1 q1 e1 d1 => ?_
  refine hl c ρ ps σ H1 _ _ hc (r0.stp e1) q1 fun l H2 q2 e2 => ?_
  refine hh c ρ ps σ H2 _ _ hc ((r0.stp e1).stp e2) q2 fun h H3 q3 e3 => ?_
  have r3 := ((r0.stp e1).stp e2).stp e3
  have e4 := e1.trans (e2.trans e3)
  have d3 := d1.stp r0.ok r3.gd.nA (e2.trans e3)
  dsimp only at q3
  unfold gSl at q3
  split at q3
  · obtain ⟨a, vs, rfl, h1, dn⟩ := d3.lst
    refine .inl ⟨a, vs, rfl, SqL.of h1, fun p hp => ?_⟩
    have e := Stp.lst r0.ok (xs := cutV vs l h) hp (Nat.le_trans (cutV_length _ _ _) (r3.sz a vs (.inl h1)))
    exact k _ _ _ q3 (e4.trans e) (.lst upd_same (r3.gd.new hp) ((dn.stp r0.ok e).cut l h))
  · obtain ⟨a, vs, rfl, h1, dn, nu⟩ := d3.tup
    refine .inr ⟨a, vs, rfl, SqT.of h1, fun w => ?_, fun _ p hp => ?_⟩
    · refine k _ _ H3 q3 e4 (.tup h1 nu ?_)
      have hcut : cutV vs l h = vs := by
        unfold cutV
        rw [w.1, w.2, List.drop_zero, Nat.sub_zero, List.take_length]
      have := dn.cut l h
      rwa [hcut] at this
    · have e := Stp.tup r0.ok (xs := cutV vs l h) hp (Nat.le_trans (cutV_length _ _ _) (r3.sz a vs (.inr h1)))
      exact k _ _ _ q3 (e4.trans e) (.tup upd_same (r3.gd.new hp) ((dn.stp r0.ok e).cut l h))
  · cases q3

/-! ### argument lists, displays -/
def aNil : Env → M (List D) := fun _ => ret []
def aCons (a : Env → M D) (r : Env → M (List D)) : Env → M (List D) := fun ρ => bnd (a ρ) fun d => bnd (r ρ) fun ds => ret (d :: ds)
def seqD : D → M (List D)
  | .list ds => ret ds
  | .tuple ds => ret ds
  | _ => stuck
def aStar (a : Env → M D) (r : Env → M (List D)) : Env → M (List D) := fun ρ => bnd (a ρ) fun d => bnd (seqD d) fun xs => bnd (r ρ) fun ds => ret (xs ++ ds)
theorem sem_anil : SemA s Γ tNil aNil := fun c ρ ps σ H Q P _ r q k => k _ _ H q (Stp.refl c H) .nil
theorem sem_acons {t : TE} {u : TA} {a : Env → M D} {r : Env → M (List D)} (ha : SemE s Γ t a) (hr : SemA s Γ u r) : SemA s Γ (tCons t u) (aCons a r) := by
  intro c ρ ps σ H Q P hc r0 q k
  refine ha c ρ ps σ H _ _ hc r0 q fun x u H1 q1 e1 d1 => ?_
  refine hr c ρ ps σ H1 _ _ hc (r0.stp e1) q1 fun ds vs H2 q2 e2 d2 => ?_
  exact k _ _ H2 q2 (e1.trans e2) (.cons (d1.stp r0.ok e2) d2)
theorem seqD_get {d : D} {P : List D → Prop} (h : seqD d P) : ∃ ds, (d = .list ds ∨ d = .tuple ds) ∧ P ds := by
  unfold seqD at h
  split at h
  · exact ⟨_, .inl rfl, h⟩
  · exact ⟨_, .inr rfl, h⟩
  · cases h
theorem View.seq {c : Fx} {ps : List Addr} {H : Hp} {v : V} {d : D} {ds : List D} (h : View c ps H v d) (e : d = .list ds ∨ d = .tuple ds) : ∃ a vs, v = .ref a ∧ ((d = .list ds ∧ H a = some (.lst vs)) ∨ (d = .tuple ds ∧ H a = some (.tup vs))) ∧ DenL H (c.U ps) vs ds := by
  rcases e with rfl | rfl
  · obtain ⟨a, vs, e, h1, h2⟩ := h.lst; exact ⟨a, vs, e, .inl ⟨rfl, h1⟩, h2⟩
  · obtain ⟨a, vs, e, h1, h2, _⟩ := h.tup; exact ⟨a, vs, e, .inr ⟨rfl, h1⟩, h2⟩
theorem sem_astar {K : PySem.W.Frag} {t : TE} {u : TA} {a : Env → M D} {r : Env → M (List D)} (ha : SemV s Γ t a) (hr : SemA s Γ u r) : SemA s Γ (tStar K t u) (aStar a r) := by
  intro c ρ ps σ H Q P hc r0 q k
  refine ha c ρ ps σ H _ _ hc r0 q fun x u H1 q1 e1 d1 => ?_
  obtain ⟨ds, ed, q1⟩ := seqD_get q1
  obtain ⟨p, vs, rfl, h1, dn⟩ := d1.seq ed
  refine ⟨p, vs, rfl, ?_, ?_⟩
  · rcases h1 with ⟨_, h1⟩ | ⟨_, h1⟩
    · exact .inr (SqL.of h1)
    · exact .inl (SqT.of h1)
  · refine hr c ρ ps σ H1 _ _ hc (r0.stp e1) q1 fun es ws H2 q2 e2 d2 => ?_
    exact k _ _ H2 q2 (e1.trans e2) ((dn.stp r0.ok e2).append d2)
def eTup (f : Env → M (List D)) : Env → M D := fun ρ => bnd (f ρ) fun ds => if lenOk ds.length = true then ret (.tuple ds) else stuck
theorem sem_tup {t : TA} {f : Env → M (List D)} (h : SemA s Γ t f) : SemE s Γ (tTup t) (eTup f) := by
  intro c ρ ps σ H Q P hc r0 q k
  refine h c ρ ps σ H _ _ hc r0 q fun ds vs H1 q1 e1 d1 => ?_
  dsimp only at q1
  split at q1
  · rename_i hl
    have hz : vs.length ≤ sizeLine := by rw [d1.length]; exact lenOk_sz hl
    refine ⟨hz, fun p hp => ?_⟩
    have e := Stp.tup r0.ok (xs := vs) hp hz
    exact k _ _ _ q1 (e1.trans e) (.tup upd_same ((r0.stp e1).new hp) (d1.stp r0.ok e))
  · cases q1
def lDisp (f : Env → M (List D)) : Env → M (List D) := fun ρ => bnd (f ρ) fun ds => if lenOk ds.length = true then ret ds else stuck
theorem DenL.plus {H : Hp} {U : AS} {p : Addr} {vs : List V} {ds : List D} {o : HO} (hp : H p = none) (h : DenL H U vs ds) : DenL (upd H p o) (fun a => U a ∨ a = p) vs ds :=
  h.mono (fun a u e _ => upd_keep hp a u e) fun a u e z => z.elim id fun z => by rw [z, hp] at e; cases e
theorem sem_lst {t : TA} {f : Env → M (List D)} (h : SemA s Γ t f) : SemL s Γ (tLst t) (lDisp f) := by
  intro c ρ ps σ H Q P hc r0 q k
  refine h c ρ ps σ H _ _ hc r0 q fun ds vs H1 q1 e1 d1 => ?_
  dsimp only at q1
  split at q1
  · rename_i hl
    have hz : vs.length ≤ sizeLine := by rw [d1.length]; exact lenOk_sz hl
    refine ⟨hz, fun p hp => ?_⟩
    have e := Stp.lst r0.ok (xs := vs) hp hz
    exact k _ p vs _ q1 (e1.trans e) (e1.fresh hp) upd_same (d1.plus hp)
  · cases q1
/-- views, for what only looks at its arguments -/
theorem sem_vnil : SemAV s Γ tNil aNil := fun c ρ ps σ H Q P _ r q k => k _ _ H q (Stp.refl c H) .nil
theorem sem_vcons {t : TE} {u : TA} {a : Env → M D} {r : Env → M (List D)} (ha : SemV s Γ t a) (hr : SemAV s Γ u r) : SemAV s Γ (tCons t u) (aCons a r) := by
  intro c ρ ps σ H Q P hc r0 q k
  refine ha c ρ ps σ H _ _ hc r0 q fun x u H1 q1 e1 d1 => ?_
  refine hr c ρ ps σ H1 _ _ hc (r0.stp e1) q1 fun ds vs H2 q2 e2 d2 => ?_
  exact k _ _ H2 q2 (e1.trans e2) (.cons (d1.stp r0.ok (r0.stp e1).gd.nA e2) d2)

/-! ### targets -/
/-- t stores a datum at places of ts -/
def SemG (s : Sx) (Γ : List Md) (t : TG) (ts : List Nat) (g : D → Env → M Env) : Prop := ∀ c ρ ps σ H d v (Q : St → Hp → Prop) (P : Env → Prop), c.s = s → R c Γ ρ ps σ H → Den H (c.U ps) v d → g d ρ P →
  (∀ ρ' σ', P ρ' → R c Γ ρ' ps σ' H → σ'.length = σ.length → (∀ i, i ∉ ts → σ'[i]? = σ[i]?) → Q σ' H) → t v σ H Q
def SemGs (s : Sx) (Γ : List Md) (t : TGs) (ts : List Nat) (g : List D → Env → M Env) : Prop := ∀ c ρ ps σ H ds vs (Q : St → Hp → Prop) (P : Env → Prop), c.s = s → R c Γ ρ ps σ H → DenL H (c.U ps) vs ds → g ds ρ P →
  (∀ ρ' σ', P ρ' → R c Γ ρ' ps σ' H → σ'.length = σ.length → (∀ i, i ∉ ts → σ'[i]? = σ[i]?) → Q σ' H) → t vs σ H Q
theorem SlotR.froEmpty {c : Fx} {H : Hp} {U : AS} {d : Option D} {o : Option V} {ps : List Addr} (h : SlotR c H U .fro d o ps) : ps = [] := by cases h <;> rfl
theorem Slots.setFro {c : Fx} {H : Hp} {U : AS} {ρ : Env} {σ : St} {ps : List Addr} {v : V} {d : D} (dn : Den H U v d) (h : Slots c H U Γ ρ σ ps) : ∀ {i : Nat}, Γ[i]? = some .fro → Slots c H U Γ (ρ.set i (some d)) (σ.set i (some v)) ps := by
  induction h with
  | nil => intro i hm; simp at hm
  | cons h1 h2 ih =>
    intro i hm
    cases i with
    | zero =>
      simp at hm; subst hm
      have e := h1.froEmpty
      subst e
      exact .cons (.fro dn) h2
    | succ i => exact .cons h1 (ih (by simpa using hm))
theorem Slots.setNo {c : Fx} {H : Hp} {U : AS} {ρ : Env} {σ : St} {ps : List Addr} (h : Slots c H U Γ ρ σ ps) : ∀ {i : Nat} {o : Option V}, Γ[i]? = some .fro → Slots c H U Γ (ρ.set i none) (σ.set i o) ps := by
  induction h with
  | nil => intro i o hm; simp at hm
  | cons h1 h2 ih =>
    intro i o hm
    cases i with
    | zero =>
      simp at hm; subst hm
      have e := h1.froEmpty
      subst e
      exact .cons .no h2
    | succ i => exact .cons h1 (ih (by simpa using hm))
theorem R.setFro {c : Fx} {ρ : Env} {ps : List Addr} {σ : St} {H : Hp} {v : V} {d : D} (r : R c Γ ρ ps σ H) (dn : Den H (c.U ps) v d) {i : Nat} (hm : Γ[i]? = some .fro) : R c Γ (ρ.set i (some d)) ps (σ.set i (some v)) H :=
  { r with sl := r.sl.setFro dn hm }
theorem R.setNo {c : Fx} {ρ : Env} {ps : List Addr} {σ : St} {H : Hp} (r : R c Γ ρ ps σ H) {i : Nat} {o : Option V} (hm : Γ[i]? = some .fro) : R c Γ (ρ.set i none) ps (σ.set i o) H :=
  { r with sl := r.sl.setNo hm }
def tgN (i : Nat) : D → Env → M Env := fun d ρ => ret (ρ.set i (some d))
theorem sem_gname {i : Nat} (hm : Γ[i]? = some .fro) : SemG s Γ (gName i) [i] (tgN i) := by
  intro c ρ ps σ H d v Q P hc r dn q k
  exact k _ _ q (r.setFro dn hm) (by simp) fun j hj => by
    rw [List.getElem?_set_ne (fun e => hj (by simp [e]))]
def tgsNil : List D → Env → M Env := fun ds ρ => match ds with | [] => ret ρ | _ => stuck
def tgsCons (g : D → Env → M Env) (r : List D → Env → M Env) : List D → Env → M Env := fun ds ρ => match ds with | d :: ds => bnd (g d ρ) fun ρ' => r ds ρ' | [] => stuck
theorem sem_gsnil : SemGs s Γ gNil [] tgsNil := by
  intro c ρ ps σ H ds vs Q P hc r dn q k
  unfold tgsNil at q
  split at q
  · cases dn; exact ⟨rfl, k _ _ q r rfl fun _ _ => rfl⟩
  · cases q
theorem sem_gscons {t : TG} {u : TGs} {ts us : List Nat} {g : D → Env → M Env} {g' : List D → Env → M Env} (h : SemG s Γ t ts g) (h' : SemGs s Γ u us g') : SemGs s Γ (gCons t u) (ts ++ us) (tgsCons g g') := by
  intro c ρ ps σ H ds vs Q P hc r dn q k
  unfold tgsCons at q
  split at q
  · cases dn with
    | cons d1 d2 =>
      refine ⟨_, _, rfl, ?_⟩
      refine h c ρ ps σ H _ _ _ _ hc r d1 q fun ρ' σ' q1 r1 l1 n1 => ?_
      refine h' c ρ' ps σ' H _ _ _ _ hc r1 d2 q1 fun ρ2 σ2 q2 r2 l2 n2 => ?_
      exact k ρ2 σ2 q2 r2 (l2.trans l1) fun i hi => (n2 i fun z => hi (List.mem_append_right _ z)).trans (n1 i fun z => hi (List.mem_append_left _ z))
  · cases q
def tgTup (n : Nat) (g : List D → Env → M Env) : D → Env → M Env := fun d ρ => match d with | .tuple ds => if ds.length = n then g ds ρ else stuck | _ => stuck
theorem sem_gtup {K : PySem.W.Frag} {n : Nat} {t : TGs} {ts : List Nat} {g : List D → Env → M Env} (h : SemGs s Γ t ts g) : SemG s Γ (gTup K n t) ts (tgTup n g) := by
  intro c ρ ps σ H d v Q P hc r dn q k
  unfold tgTup at q
  split at q
  · split at q
    · rename_i e
      cases dn with
      | tup h1 h2 h3 =>
        refine ⟨_, _, rfl, SqT.of h1, h3.length.trans e, ?_⟩
        exact h c ρ ps σ H _ _ _ _ hc r h3 q k
    · cases q
  · cases q

/-! ### what is walked -/
/-- nothing else changes than what S tells -/
def Later (S : AS) (H H' : Hp) : Prop := ∀ a o, H a = some o → ¬ S a → H' a = some o
theorem Later.refl (S : AS) (H : Hp) : Later S H H := fun _ _ h _ => h
theorem Later.trans {S : AS} {H H1 H2 : Hp} (a : Later S H H1) (b : Later S H1 H2) : Later S H H2 := fun x o h n => b x o (a x o h n) n
theorem Later.mono {S S' : AS} {H H' : Hp} (h : ∀ a o, H a = some o → S a → S' a) (e : Later S H H') : Later S' H H' := fun x o q n => e x o q fun z => n (h x o q z)
/-- the walk J gives the data ds, whatever happens meanwhile outside S; U: what is mutable -/
structure Items (J : It) (S U : AS) (H : Hp) (ds : List D) : Prop where
  len : ds.length ≤ sizeLine
  go : ∀ i H', Later S H H' → i < ds.length → J.go i H'
  stop : ∀ H', Later S H H' → J.stop ds.length H'
  yld : ∀ i d H' x H'', Later S H H' → Later U H H' → ds[i]? = some d → J.yld i H' x H'' → (∀ a o, H' a = some o → H'' a = some o) ∧ (Sz H' → Sz H'') ∧ ∀ U' : AS, (∀ a o, H a = some o → U' a → U a) → (∀ a, H' a = none → ¬ U' a) → Den H'' U' x d
/-- wi walks; lk: which own lists it leans on (none, or a lent one) -/
def SemI (s : Sx) (Γ : List Md) (wi : TI) (f : Env → M (List D)) : Prop := ∀ c ρ ps σ H (R' : It → Hp → Prop) P, c.s = s → R c Γ ρ ps σ H → f ρ P → (∀ ds J H1, P ds → Stp c H H1 → Items J (c.U ps) (c.U ps) H1 ds → R' J H1) → wi σ H R'
/-- in a comprehension: own lists stand still -/
def SemIc (s : Sx) (Γ : List Md) (wi : TI) (f : Env → M (List D)) : Prop := ∀ c ρ ps σ H (R' : It → Hp → Prop) P, c.s = s → R c Γ ρ ps σ H → f ρ P → (∀ ds J H1, P ds → Stp c H H1 → Items J c.A (c.U ps) H1 ds → R' J H1) → wi σ H R'
end
end Py
/-! PyI: what is walked: sequences (list or tuple), ranges, zip and enumerate over either. -/
namespace Py
open PySem L2 StX PySem.Spec PyProof.Rows

/-! ### a list or a tuple -/
def SqB (K : PySem.W.Frag) (b : Bool) (H : Hp) (a : Addr) (xs : List V) : Prop := if b = true then SqL K H a xs else SqT K H a xs
def RawB (b : Bool) (h : Heap) (a : Addr) (its : Array Value) : Prop := if b = true then h.IsList a its else h.IsTuple a its
def ItB (b : Bool) (h : Heap) (i a : Addr) (k : Nat) : Prop := if b = true then h.IsListIter i a k else h.IsTupleIter i a k
def objB (b : Bool) (a : Addr) : Obj := if b = true then { cls := .type "list_iterator", data := .fields #[.ref a, .int 0 0] } else { cls := .type "tuple_iterator", data := .fields #[.ref a, .int 0 0] }
theorem SqB.raw {X : Cx} {pins : List (Addr × Obj)} {σ : L2.St} {H : Hp} {s : Shared} (I : Inv X pins σ H s) {b : Bool} {a : Addr} {xs : List V} (h : SqB X.K b H a xs) : ∃ its : List Value, Vals xs its ∧ RawB b s.heap a its.toArray ∧ a < s.heap.objs.size := by
  cases b with
  | true =>
    obtain ⟨its, r, p, _⟩ := I.list (show SqL X.K H a xs from h)
    exact ⟨its, r, p.isList, p.lt⟩
  | false =>
    obtain ⟨its, r, p, _⟩ := I.tuple (show SqT X.K H a xs from h)
    exact ⟨its, r, p, p.lt⟩
theorem SqB.inj {X : Cx} {pins : List (Addr × Obj)} {σ : L2.St} {H : Hp} {s : Shared} (I : Inv X pins σ H s) {b : Bool} {a : Addr} {xs ys : List V} (h : SqB X.K b H a xs) (h' : SqB X.K b H a ys) : xs = ys := by
  cases b with
  | true => exact I.list_inj (show SqL X.K H a xs from h) h'
  | false => exact I.tuple_inj (show SqT X.K H a xs from h) h'
theorem ItB.at {b : Bool} {h h' : Heap} {i a : Addr} {k : Nat} (q : ItB b h i a k) (e : ∀ o, h.get? i = some o → h'.get? i = some o) : ItB b h' i a k := by
  cases b with
  | true => exact Heap.IsListIter.at (show h.IsListIter i a k from q) fun o z => e o z
  | false => exact Heap.IsTupleIter.at (show h.IsTupleIter i a k from q) fun o z => e o z
theorem ItB.obj {b : Bool} {h : Heap} {i a : Addr} {k : Nat} (q : ItB b h i a k) : ∃ o, h.get? i = some o ∧ ∀ v, o.data ≠ .cell v := by
  cases b with
  | true =>
    obtain ⟨o, e, _, d⟩ := (show h.IsListIter i a k from q)
    exact ⟨o, e, fun v z => by rw [d] at z; cases z⟩
  | false =>
    obtain ⟨o, e, _, d⟩ := (show h.IsTupleIter i a k from q)
    exact ⟨o, e, fun v z => by rw [d] at z; cases z⟩
theorem draws_b {prog : Program} {w : World} {A : Around} (hh : A.handled = none) (b : Bool) (it a : Addr) (hne : a ≠ it) (its : Array Value) :
    Draws prog w A it [it, a] its.size (fun i v => its[i]? = some v) (fun i h => ItB b h it a i ∧ RawB b h a its) := by
  cases b with
  | true => exact Draws.list hh it a hne its
  | false => exact Draws.tuple hh it a hne its
theorem begins_b (b : Bool) (a : Addr) (its : Array Value) : Begins (.ref a) (objB b a) fun h => RawB b h a its := by
  cases b with
  | true => exact begins_list a its
  | false => exact begins_tuple a its
theorem ItB.start {b : Bool} {h : Heap} {i a : Addr} (e : h.get? i = some (objB b a)) : ItB b h i a 0 := by
  cases b with
  | true => exact ⟨_, e, rfl, rfl⟩
  | false => exact ⟨_, e, rfl, rfl⟩

section
variable {X : Cx} {tg : Expr}
def iSeq (K : PySem.W.Frag) (tl : TE) : TI := fun σ H R => tl σ H fun x H1 => (∃ a, x = .ref a ∧ (∃ xs, SqL K H1 a xs) ∧ R (Itl K a) H1) ∨ (∃ a, x = .ref a ∧ (∃ xs, SqT K H1 a xs) ∧ R (Itt K a) H1)
theorem pi_seq {l : Expr} {tl : TE} (hl : PE X l tl) : PI X tg l (iSeq X.K tl) := by
  refine ⟨fun pn st sg Hh Rr In hw => ?_⟩
  refine thn (hl.run pn st sg Hh _ In hw) fun v s1 ⟨x, H1, I1, r1, q1⟩ => ?_
  rcases q1 with ⟨a, e, ⟨xs, hq⟩, q⟩ | ⟨a, e, ⟨xs, hq⟩, q⟩
  · subst e
    cases r1
    obtain ⟨its, rv, p, hz⟩ := I1.list hq
    refine wpAny_pyIter_list p.isList ?_
    refine ⟨s1.heap.objs.size, [s1.heap.objs.size], _, _, H1, rfl, I1.kept (t' := s1.toks) fun b o e => Heap.get?_push_of_some _ e, turn_list a _, ⟨_, Heap.get?_push_size _ rfl, rfl, rfl⟩, fun b hb => ?_, q⟩
    rw [List.mem_singleton.mp hb]
    exact I1.fpOk (Nat.le_refl _) (I1.hok.fresh (Nat.le_refl _))
  · subst e
    cases r1
    obtain ⟨its, rv, p, hz⟩ := I1.tuple hq
    refine wpAny_pyIter_tuple (show s1.heap.IsTuple a its.toArray from p) ?_
    refine ⟨s1.heap.objs.size, [s1.heap.objs.size], _, _, H1, rfl, I1.kept (t' := s1.toks) fun b o e => Heap.get?_push_of_some _ e, turn_tuple a _, ⟨_, Heap.get?_push_size _ rfl, rfl, rfl⟩, fun b hb => ?_, q⟩
    rw [List.mem_singleton.mp hb]
    exact I1.fpOk (Nat.le_refl _) (I1.hok.fresh (Nat.le_refl _))

/-! ### a walk by new tuples (WalksT), told over the layer -/
/-- the state St is bare (the iterator's own records); the sequences it reads stand in H at each turn -/
structure Bare (P : Program) (w : World) (K : PySem.W.Frag) (I : Addr) (fp wr : List Addr) (n : Nat) (go : Nat → Hp → Prop) (val : Nat → Hp → List V → Prop) (stop : Nat → Hp → Prop) (tn : Nat → Heap → Prop) : Prop where
  sub : ∀ b ∈ wr, b ∈ fp
  mem : I ∈ fp
  obj : ∀ i h, tn i h → ∀ b ∈ fp, ∃ o, h.get? b = some o ∧ ∀ v, o.data ≠ .cell v
  keep : ∀ i h h', tn i h → (∀ b ∈ fp, ∀ o, h.get? b = some o → h'.get? b = some o) → tn i h'
  item : ∀ (X : Cx), X.prog = P → X.w = w → X.K = K → X.A.handled = none → ∀ (elts : List Expr) (k : Nat) (pos : Pos) (i : Nat) (pins : List (Addr × Obj)) (s : Shared) (σ : L2.St) (H : Hp) (E : Value → Shared → Prop) (Q : Value → Shared → Prop), Inv X pins σ H s → (∀ b ∈ fp, H b = none) → tn i s.heap → go i H →
    (∀ T vals us h' tk, val i H vals → Vals vals us → us.length ≤ 8 → s.heap.objs.size ≤ T → h'.IsTuple T us.toArray → tn (i + 1) h' → (∀ b o, b ∉ wr → s.heap.get? b = some o → h'.get? b = some o) → Q (.ref T) { s with heap := h', toks := tk }) →
    wpAny (model P w) X.A (pyNext (.ref I)) (fun r s1 => ∃ u, r = some u ∧ wpAny (model P w) X.A (letOwnedTupleGo (.Tuple elts k pos) (.ref I) u) (fun _ s2 => Q u s2) E s1) E s
  done : ∀ (X : Cx), X.prog = P → X.w = w → X.K = K → X.A.handled = none → ∀ (i : Nat) (pins : List (Addr × Obj)) (s : Shared) (σ : L2.St) (H : Hp) (E : Value → Shared → Prop) (Q : Shared → Prop), Inv X pins σ H s → (∀ b ∈ fp, H b = none) → tn i s.heap → stop i H →
    (∀ h' tk, (∀ b o, b ∉ wr → s.heap.get? b = some o → h'.get? b = some o) → Q { s with heap := h', toks := tk }) → wpAny (model P w) X.A (pyNext (.ref I)) (fun r s1 => r = none ∧ Q s1) E s
  self : ∀ (A : Around) (i : Nat) (s : Shared) (Q : Value → Shared → Prop) (E : Value → Shared → Prop), tn i s.heap → Q (.ref I) s → wpAny (model P w) A (pyIter (.ref I)) Q E s
/-- each turn gives a new tuple of what val tells -/
def Itw (go : Nat → Hp → Prop) (val : Nat → Hp → List V → Prop) (stop : Nat → Hp → Prop) : It :=
  ⟨go, fun i H v H' => ∃ T vals, v = .ref T ∧ H T = none ∧ H' = upd H T (.tup vals) ∧ val i H vals ∧ vals.length ≤ 8, stop⟩
theorem turn_bare {P : Program} {w : World} {K : PySem.W.Frag} {I : Addr} {fp wr : List Addr} {n : Nat} {go : Nat → Hp → Prop} {val : Nat → Hp → List V → Prop} {stop : Nat → Hp → Prop} {tn : Nat → Heap → Prop} {elts : List Expr} {k : Nat} {pos : Pos}
    (B : Bare P w K I fp wr n go val stop tn) : Turn P w K (.Tuple elts k pos) (Itw go val stop) fp I tn where
  mem := B.mem
  obj := B.obj
  keep := B.keep
  item := by
    intro X hP hw hK hc i pins s σ H E Iv hf st hg
    have hh := Iv.ok.hd hc
    subst hP hw hK
    refine wpAny_mono (B.item X rfl rfl rfl hh elts k pos i pins s σ H E (fun u s2 => ∃ x H', Inv X pins σ H' s2 ∧ RelV x u ∧ (Itw go val stop).yld i H x H' ∧ tn (i + 1) s2.heap ∧ ∀ b ∈ fp, H' b = none) Iv (fun b hb => (hf b hb).1) st hg
      fun T vals us h' tk hv rv hl hT hi st' hk => ?_) (fun r s1 q => q) fun _ _ q => q
    have hn : H T = none := Iv.hok.fresh hT
    have hz : vals.length ≤ sizeLine := by
      rw [rv.length]
      exact Nat.le_trans hl (by decide)
    have new : ObjOk X.prog X.w (upd H T (.tup vals)) h' T (.tup vals) := ⟨hz, us, rv, hi⟩
    have I1 : Inv X pins σ (upd H T (.tup vals)) { s with heap := h', toks := tk } :=
      Iv.turnedNew (ch := fp) (fun b o hb q => hk b o (fun z => hb (B.sub b z)) q) hf hT new
    refine ⟨.ref T, _, I1, rfl, ⟨T, vals, rfl, hn, rfl, hv, by rw [rv.length]; exact hl⟩, st', fun b hb => ?_⟩
    obtain ⟨o, ho, _⟩ := B.obj i _ st b hb
    have hlt : b < s.heap.objs.size := Heap.lt_size ho
    rw [upd_ne (Nat.ne_of_lt (Nat.lt_of_lt_of_le hlt hT))]
    exact (hf b hb).1
  done := by
    intro X hP hw hK hc i pins s σ H E Iv hf st hg
    have hh := Iv.ok.hd hc
    subst hP hw hK
    exact B.done X rfl rfl rfl hh i pins s σ H E (fun s1 => Inv X pins σ H s1) Iv (fun b hb => (hf b hb).1) st hg fun h' tk hk =>
      Iv.turnedL (ch := fp) (fun b o hb q => hk b o (fun z => hb (B.sub b z)) q) hf
  self := B.self

/-! ### zip of two sequences -/
def goZ (K : PySem.W.Frag) (b1 b2 : Bool) (a b : Addr) : Nat → Hp → Prop := fun i H => ∃ xs ys x y, SqB K b1 H a xs ∧ SqB K b2 H b ys ∧ xs[i]? = some x ∧ ys[i]? = some y
def valZ (K : PySem.W.Frag) (b1 b2 : Bool) (a b : Addr) : Nat → Hp → List V → Prop := fun i H vs => ∃ x y, vs = [x, y] ∧ (∀ xs, SqB K b1 H a xs → xs[i]? = some x) ∧ ∀ ys, SqB K b2 H b ys → ys[i]? = some y
def stopZ (K : PySem.W.Frag) (b1 b2 : Bool) (a b : Addr) : Nat → Hp → Prop := fun i H => ∃ xs ys, SqB K b1 H a xs ∧ SqB K b2 H b ys ∧ i = min xs.length ys.length
def tnZ (b1 b2 : Bool) (z TI TO i1 i2 a b : Addr) : Nat → Heap → Prop := fun i h => IsZip h z TI TO .none ∧ IsTupOf2 h TI (.ref i1) (.ref i2) ∧ (∃ a1 a2, IsTupOf2 h TO a1 a2) ∧ ItB b1 h i1 a i ∧ ItB b2 h i2 b i
theorem bare_zip {P : Program} {w : World} {K : PySem.W.Frag} {b1 b2 : Bool} {z TI TO i1 i2 a b : Addr} (S : ZipSep2 z TI TO i1 i2 [i1, a] [i2, b]) (ha : a ≠ i1) (hb : b ≠ i2) :
    Bare P w K z [z, TI, TO, i1, i2] [z, TO, i1, i2] 0 (goZ K b1 b2 a b) (valZ K b1 b2 a b) (stopZ K b1 b2 a b) (tnZ b1 b2 z TI TO i1 i2 a b) where
  sub := fun c hc => by simp at hc ⊢; rcases hc with rfl | rfl | rfl | rfl <;> simp
  mem := by simp
  obj := fun i h st c hc => by
    obtain ⟨hz, hTI, ⟨x, y, hTO⟩, h1, h2⟩ := st
    have e' : c = z ∨ c = TI ∨ c = TO ∨ c = i1 ∨ c = i2 := by simpa using hc
    rcases e' with q | q | q | q | q
    · rw [q]; exact ⟨_, hz, fun v q => nomatch q⟩
    · rw [q]; exact ⟨_, hTI, fun v q => nomatch q⟩
    · rw [q]; exact ⟨_, hTO, fun v q => nomatch q⟩
    · rw [q]; exact h1.obj
    · rw [q]; exact h2.obj
  keep := fun i h h' st k => by
    obtain ⟨hz, hTI, ⟨x, y, hTO⟩, h1, h2⟩ := st
    exact ⟨k z (by simp) _ hz, k TI (by simp) _ hTI, ⟨x, y, k TO (by simp) _ hTO⟩, h1.at fun o q => k i1 (by simp) o q, h2.at fun o q => k i2 (by simp) o q⟩
  item := by
    intro X hP hw hK hh elts k pos i pins s σ H E Q Iv hf st hg hQ
    subst hP hw hK
    obtain ⟨hz, hTI, hTO, h1, h2⟩ := st
    obtain ⟨xs, ys, x, y, hqx, hqy, hx, hy⟩ := hg
    obtain ⟨its, rv, p, la⟩ := hqx.raw Iv
    obtain ⟨its2, rv2, p2, lb⟩ := hqy.raw Iv
    have WT := WalksT.zipD2 (prog := X.prog) (w := X.w) (A := X.A) S (draws_b (A := X.A.in1) hh b1 i1 a ha its.toArray) (draws_b (A := X.A.in1) hh b2 i2 b hb its2.toArray)
    have hi1 : i < xs.length := (List.getElem?_eq_some_iff.mp hx).1
    have hi2 : i < ys.length := (List.getElem?_eq_some_iff.mp hy).1
    have l1 := rv.length
    have l2 := rv2.length
    refine WT.item i s _ E (by simp only [List.size_toArray]; omega) ⟨hz, hTI, hTO, ⟨h1, p⟩, ⟨h2, p2⟩⟩ fun T vals h' tk hv hT hi hm hk => ?_
    refine ⟨_, rfl, WT.go elts k pos i T _ _ E hm fun h'' st' hk2 => ?_⟩
    obtain ⟨x1, x2, e1, e2, rfl⟩ := hv
    obtain ⟨u1, hu1, r1⟩ := rv.get hx
    obtain ⟨u2, hu2, r2⟩ := rv2.get hy
    have e1' : u1 = x1 := Option.some.inj (hu1.symm.trans (by simpa using e1))
    have e2' : u2 = x2 := Option.some.inj (hu2.symm.trans (by simpa using e2))
    subst e1' e2'
    obtain ⟨sz, sTI, sTO, ⟨s1, _⟩, ⟨s2, _⟩⟩ := st'
    refine hQ T [x, y] [u1, u2] h'' tk ⟨x, y, rfl, fun l hl => by rw [hl.inj Iv hqx]; exact hx, fun l hl => by rw [hl.inj Iv hqy]; exact hy⟩ (.cons r1 (.cons r2 .nil)) (by simp) hT
      (hi.at fun o q => hk2 T o (WT.apart i T _ hm) q) ⟨sz, sTI, sTO, s1, s2⟩ fun c o hc q => hk2 c o hc (hk c o hc q)
  done := by
    intro X hP hw hK hh i pins s σ H E Q Iv hf st hg hQ
    subst hP hw hK
    obtain ⟨hz, hTI, hTO, h1, h2⟩ := st
    obtain ⟨xs, ys, hqx, hqy, hi⟩ := hg
    obtain ⟨its, rv, p, la⟩ := hqx.raw Iv
    obtain ⟨its2, rv2, p2, lb⟩ := hqy.raw Iv
    have WT := WalksT.zipD2 (prog := X.prog) (w := X.w) (A := X.A) S (draws_b (A := X.A.in1) hh b1 i1 a ha its.toArray) (draws_b (A := X.A.in1) hh b2 i2 b hb its2.toArray)
    have l1 := rv.length
    have l2 := rv2.length
    have hi' : min its.toArray.size its2.toArray.size = i := by simp only [List.size_toArray]; omega
    exact WT.done s _ E (by rw [hi']; exact ⟨hz, hTI, hTO, ⟨h1, p⟩, ⟨h2, p2⟩⟩) fun h' tk hk => ⟨rfl, hQ h' tk hk⟩
  self := fun A i s Q E st h => wpAny_pyIter_zip st.1 h
def iZipB (K : PySem.W.Frag) (ta : TA) : TI := fun σ H R => ta σ H fun vs H1 => ∃ a b b1 b2 xs ys, vs = [.ref a, .ref b] ∧ SqB K b1 H1 a xs ∧ SqB K b2 H1 b ys ∧ R (Itw (goZ K b1 b2 a b) (valZ K b1 b2 a b) (stopZ K b1 b2 a b)) H1
theorem pi_zipB {X : Cx} {e e2 : Expr} {ta : TA} {p pos tpos : Pos} {elts : List Expr} {kk : Nat} (hg : Gl X "zip") (hm : X.mg "zip" = none) (ha : PA X [e, e2] ta)
    (hs : starEach [e, e2] X.env = (false, eval e X.env) :: starEach [e2] X.env := by rfl) (hpl : (backTo pos (starEach [e2] X.env)).any (·.1) = false := by rfl) :
    PI X (.Tuple elts kk tpos) (.Call (.Name "zip" p) [e, e2] [] pos) (iZipB X.K ta) := by
  refine ⟨fun pn st sg Hh Rr In hw => ?_⟩
  refine Call_ (ld_blt In hg hm PyProof.Rows.boot_zip (PyProof.Rows.callWith_type1 (thn (ha.run pos pn st sg Hh _ In hw) fun us s1 ⟨vs, H1, I1, r1, q1⟩ => ?_) hs hpl))
  obtain ⟨a, b, b1, b2, xs, ys, ex, hqx, hqy, q⟩ := q1
  subst ex
  cases r1 with
  | cons r rr =>
    cases rr with
    | cons r' rr =>
      cases rr
      cases r
      cases r'
      obtain ⟨its, rv, p1, la⟩ := hqx.raw I1
      obtain ⟨its2, rv2, p2, lb⟩ := hqy.raw I1
      refine zip_begins2 (begins_b b1 a its.toArray) (begins_b b2 b its2.toArray) p1 p2 fun h' hz hTI hTO h1 h2 hsz hk => wpAny_pyIter_zip hz ?_
      have I2 : Inv X pn sg H1 { s1 with heap := h' } := I1.kept (t' := s1.toks) hk
      have S := zip_sep2 (N := s1.heap.objs.size) (fp1 := [a]) (fp2 := [b]) (by simpa using la) (by simpa using lb)
      refine ⟨s1.heap.objs.size + 4, [s1.heap.objs.size + 4, s1.heap.objs.size + 2, s1.heap.objs.size + 3, s1.heap.objs.size, s1.heap.objs.size + 1], _, _, H1, rfl, I2,
        turn_bare (bare_zip S (Nat.ne_of_lt la) (Nat.ne_of_lt (Nat.lt_succ_of_lt lb))), ⟨hz, hTI, ⟨_, _, hTO⟩, ItB.start h1, ItB.start h2⟩, fun c hcm => ?_, q⟩
      have e' : c = s1.heap.objs.size + 4 ∨ c = s1.heap.objs.size + 2 ∨ c = s1.heap.objs.size + 3 ∨ c = s1.heap.objs.size ∨ c = s1.heap.objs.size + 1 := by simpa using hcm
      have hle : s1.heap.objs.size ≤ c := by
        rcases e' with z | z | z | z | z
        · rw [z]; exact Nat.le_add_right _ _
        · rw [z]; exact Nat.le_add_right _ _
        · rw [z]; exact Nat.le_add_right _ _
        · rw [z]; exact Nat.le_refl _
        · rw [z]; exact Nat.le_add_right _ _
      exact I1.fpOk hle (I1.hok.fresh hle)

/-! ### enumerate of a sequence -/
theorem meets_enum1 {v : Value} {o : Obj} {Hb : Heap → Prop} (B : Begins v o Hb) :
    Meets (Builtin.«enumerate.__new__» ⟨[.type "enumerate", v], []⟩) (fun _ R s => Hb s.heap ∧
      R (.ok (.ret (.ref (s.heap.push o).objs.size))) { s with heap := (s.heap.push o).push { cls := .type "enumerate", data := .fields #[.none, .bool false, .ref s.heap.objs.size, rawInt 0, .none, .none] } }) :=
  .of_wp fun prog w A R s h => by
    obtain ⟨hp, g, d, tk, os⟩ := s; obtain ⟨hl, h⟩ := h
    have hsub := sub_enumerate
    have q1 : ∀ {A' : Around} {E : Value → Shared → Prop} {Q : Value → Shared → Prop}, Q (.ref hp.objs.size) ⟨(hp.push o), g, d, tk, os⟩ → wpAny (model prog w) A' (pyIter v) Q E ⟨hp, g, d, tk, os⟩ :=
      fun q => B.iter prog w _ _ ⟨hp, g, d, tk, os⟩ _ hl q
    wp_walk
    refine wpAny_stack_any fun st => wpAny_pure ?_
    split
    · rename_i c _ _ _ _ _
      cases (c == Value.type "enumerate")
      · wp_walk using q1
        exact ⟨_, rfl, h⟩
      · wp_walk using q1
        exact ⟨_, rfl, h⟩
    · wp_walk using q1
      exact ⟨_, rfl, h⟩
theorem enum_one {prog : Program} {w : World} {A : Around} {E : Value → Shared → Prop} {s : Shared} {v : Value} {o : Obj} {Hb : Heap → Prop} {Q : Value → Shared → Prop} (B : Begins v o Hb) (h1 : Hb s.heap)
    (h : ∀ h', IsEnum h' (s.heap.objs.size + 1) s.heap.objs.size 0 .none → h'.get? s.heap.objs.size = some o → h'.objs.size = s.heap.objs.size + 2 →
      (∀ b u, s.heap.get? b = some u → h'.get? b = some u) → Q (.ref (s.heap.objs.size + 1)) { s with heap := h' }) :
    wpAny (model prog w) A (call (.type "enumerate") [v]) Q E s := by
  refine callType_new F.called_enumerate (by decide) (F.typeCall_enumerate_1 _) (F.newCall_enumerate_1 _) (fun obj => F.args_object_init_2 obj _) F.entry_enumerate_new (meets_enum1 B) ⟨h1, ?_⟩
  have hz : (s.heap.push o).objs.size = s.heap.objs.size + 1 := Heap.size_push ..
  show _ ∧ _
  rw [hz]
  have he : IsEnum ((s.heap.push o).push { cls := .type "enumerate", data := .fields #[.none, .bool false, .ref s.heap.objs.size, rawInt 0, .none, .none] }) (s.heap.objs.size + 1) s.heap.objs.size 0 .none := by
    have hq := Heap.get?_push_size (s.heap.push o) (o := { cls := .type "enumerate", data := .fields #[.none, .bool false, .ref s.heap.objs.size, rawInt 0, .none, .none] }) rfl
    rw [hz] at hq; exact hq
  refine ⟨⟨_, he, rfl⟩, h _ he (Heap.get?_push_of_some _ (Heap.get?_push_size _ B.free)) (by rw [Heap.size_push, hz]) fun b u x => Heap.get?_push_of_some _ (Heap.get?_push_of_some _ x)⟩
def goE (K : PySem.W.Frag) (b : Bool) (a : Addr) : Nat → Hp → Prop := fun i H => ∃ xs x, SqB K b H a xs ∧ xs[i]? = some x
def valE (K : PySem.W.Frag) (b : Bool) (a : Addr) : Nat → Hp → List V → Prop := fun i H vs => ∃ x, vs = [.int (i : Nat), x] ∧ ∀ xs, SqB K b H a xs → xs[i]? = some x
def stopE (K : PySem.W.Frag) (b : Bool) (a : Addr) : Nat → Hp → Prop := fun i H => ∃ xs, SqB K b H a xs ∧ i = xs.length
def tnE (b : Bool) (e it a : Addr) : Nat → Heap → Prop := fun i h => (∃ old, IsEnum h e it (0 + ((i : Nat) : Int)) old) ∧ ItB b h it a i
theorem bare_enum {P : Program} {w : World} {K : PySem.W.Frag} {b : Bool} {e it a : Addr} (hei : e ≠ it) (hea : e ≠ a) (ha : a ≠ it) :
    Bare P w K e [e, it] [e, it] 0 (goE K b a) (valE K b a) (stopE K b a) (tnE b e it a) where
  sub := fun c hc => hc
  mem := by simp
  obj := fun i h st c hc => by
    obtain ⟨⟨old, he⟩, h1⟩ := st
    have e' : c = e ∨ c = it := by simpa using hc
    rcases e' with q | q
    · rw [q]; exact ⟨_, he, fun v q => nomatch q⟩
    · rw [q]; exact h1.obj
  keep := fun i h h' st k => by
    obtain ⟨⟨old, he⟩, h1⟩ := st
    exact ⟨⟨old, k e (by simp) _ he⟩, h1.at fun o q => k it (by simp) o q⟩
  item := by
    intro X hP hw hK hh elts k pos i pins s σ H E Q Iv hf st hg hQ
    subst hP hw hK
    obtain ⟨he, h1⟩ := st
    obtain ⟨xs, x, hqx, hx⟩ := hg
    obtain ⟨its, rv, p, la⟩ := hqx.raw Iv
    have WT := WalksT.enumFrom (prog := X.prog) (w := X.w) (A := X.A) 0 (draws_b (A := X.A.in1) hh b it a ha its.toArray) e hei (by simp [hei, hea]) (by simp)
    have hi1 : i < xs.length := (List.getElem?_eq_some_iff.mp hx).1
    have l1 := rv.length
    refine WT.item i s _ E (by simp only [List.size_toArray]; omega) ⟨he, h1, p⟩ fun T vals h' tk hv hT hi hm hk => ?_
    refine ⟨_, rfl, WT.go elts k pos i T _ _ E hm fun h'' st' hk2 => ?_⟩
    obtain ⟨t, x1, e1, rfl⟩ := hv
    obtain ⟨u1, hu1, r1⟩ := rv.get hx
    have e1' : u1 = x1 := Option.some.inj (hu1.symm.trans (by simpa using e1))
    subst e1'
    obtain ⟨se, s1, _⟩ := st'
    refine hQ T [.int (i : Nat), x] [.int (0 + (i : Int)) t, u1] h'' tk ⟨x, rfl, fun l hl => by rw [hl.inj Iv hqx]; exact hx⟩ (.cons ⟨t, by rw [Int.zero_add]⟩ (.cons r1 .nil)) (by simp) hT
      (hi.at fun o q => hk2 T o (WT.apart i T _ hm) q) ⟨se, s1⟩ fun c o hc q => hk2 c o hc (hk c o hc q)
  done := by
    intro X hP hw hK hh i pins s σ H E Q Iv hf st hg hQ
    subst hP hw hK
    obtain ⟨he, h1⟩ := st
    obtain ⟨xs, hqx, hi⟩ := hg
    obtain ⟨its, rv, p, la⟩ := hqx.raw Iv
    have WT := WalksT.enumFrom (prog := X.prog) (w := X.w) (A := X.A) 0 (draws_b (A := X.A.in1) hh b it a ha its.toArray) e hei (by simp [hei, hea]) (by simp)
    have l1 := rv.length
    have hi' : its.toArray.size = i := by simp only [List.size_toArray]; omega
    exact WT.done s _ E (by rw [hi']; exact ⟨he, h1, p⟩) fun h' tk hk => ⟨rfl, hQ h' tk hk⟩
  self := fun A i s Q E st h => let ⟨⟨_, he⟩, _⟩ := st; wpAny_pyIter_enum he h
def iEnumB (K : PySem.W.Frag) (ta : TA) : TI := fun σ H R => ta σ H fun vs H1 => ∃ a b xs, vs = [.ref a] ∧ SqB K b H1 a xs ∧ R (Itw (goE K b a) (valE K b a) (stopE K b a)) H1
theorem pi_enumB {X : Cx} {e : Expr} {ta : TA} {p pos tpos : Pos} {elts : List Expr} {kk : Nat} (hg : Gl X "enumerate") (hm : X.mg "enumerate" = none) (ha : PA X [e] ta) (hs : starEach [e] X.env = [(false, eval e X.env)] := by rfl) :
    PI X (.Tuple elts kk tpos) (.Call (.Name "enumerate" p) [e] [] pos) (iEnumB X.K ta) := by
  refine ⟨fun pn st sg Hh Rr In hw => ?_⟩
  refine Call_ (ld_blt In hg hm boot_enumerate (PyProof.Rows.callWith_type1 (thn (ha.run pos pn st sg Hh _ In hw) fun us s1 ⟨vs, H1, I1, r1, q1⟩ => ?_) hs rfl))
  obtain ⟨a, b, xs, ex, hqx, q⟩ := q1
  subst ex
  cases r1 with
  | cons r rr =>
    cases rr
    cases r
    obtain ⟨its, rv, p1, la⟩ := hqx.raw I1
    refine enum_one (begins_b b a its.toArray) p1 fun h' he hit hsz hk => wpAny_pyIter_enum he ?_
    have I2 : Inv X pn sg H1 { s1 with heap := h' } := I1.kept (t' := s1.toks) hk
    refine ⟨s1.heap.objs.size + 1, [s1.heap.objs.size + 1, s1.heap.objs.size], _, _, H1, rfl, I2, turn_bare (bare_enum (Nat.succ_ne_self _) (Nat.ne_of_gt (Nat.lt_succ_of_lt la)) (Nat.ne_of_lt la)), ⟨⟨.none, he⟩, ItB.start hit⟩, fun c hc => ?_, q⟩
    have e' : c = s1.heap.objs.size + 1 ∨ c = s1.heap.objs.size := by simpa using hc
    have hle : s1.heap.objs.size ≤ c := by
      rcases e' with z | z
      · rw [z]; exact Nat.le_add_right _ _
      · rw [z]; exact Nat.le_refl _
    exact I1.fpOk hle (I1.hok.fresh hle)
end
end Py
/-! PyJ: the data that a walk gives; comprehensions. -/
namespace Py
open PySem L2 StX

section
variable {s : Sx} {Γ : List Md} {K : PySem.W.Frag}
theorem View.seqA {c : Fx} {ps : List Addr} {H : Hp} {v : V} {d : D} {ds : List D} (ok : c.Ok) (nA : ∀ p ∈ ps, ¬ c.A p) (h : View c ps H v d) (e : d = .list ds ∨ d = .tuple ds) :
    ∃ a vs b, v = .ref a ∧ SqB K b H a vs ∧ DenL H (c.U ps) vs ds ∧ ¬ c.A a ∧ (H a = some (.lst vs) ∧ b = true ∨ H a = some (.tup vs) ∧ b = false) := by
  have nU : ∀ {a}, ¬ c.U ps a → ¬ c.A a := fun h z => h (.inl (ok.sub _ z))
  rcases e with rfl | rfl
  · cases h with
    | den h => cases h with | lst h1 h2 h3 => exact ⟨_, _, true, rfl, SqL.of h1, h3, nU h2, .inl ⟨h1, rfl⟩⟩
    | own h1 h2 h3 => exact ⟨_, _, true, rfl, SqL.of h1, h3, nA _ h2, .inl ⟨h1, rfl⟩⟩
  · cases h with
    | den h => cases h with | tup h1 h2 h3 => exact ⟨_, _, false, rfl, SqT.of h1, h3, nU h2, .inr ⟨h1, rfl⟩⟩
theorem Den.seqU {H : Hp} {U : AS} {v : V} {d : D} {ds : List D} (h : Den H U v d) (e : d = .list ds ∨ d = .tuple ds) :
    ∃ a vs b, v = .ref a ∧ SqB K b H a vs ∧ DenL H U vs ds ∧ ¬ U a ∧ (H a = some (.lst vs) ∧ b = true ∨ H a = some (.tup vs) ∧ b = false) := by
  rcases e with rfl | rfl
  · cases h with | lst h1 h2 h3 => exact ⟨_, _, true, rfl, SqL.of h1, h3, h2, .inl ⟨h1, rfl⟩⟩
  · cases h with | tup h1 h2 h3 => exact ⟨_, _, false, rfl, SqT.of h1, h3, h2, .inr ⟨h1, rfl⟩⟩
theorem sz_seq {H : Hp} {a : Addr} {vs : List V} {b : Bool} (z : Sz H) (h : H a = some (.lst vs) ∧ b = true ∨ H a = some (.tup vs) ∧ b = false) : vs.length ≤ sizeLine := by
  rcases h with ⟨h, _⟩ | ⟨h, _⟩
  · exact z a vs (.inl h)
  · exact z a vs (.inr h)
/-- such a sequence still stands -/
theorem seq_later {H H' : Hp} {S : AS} {a : Addr} {vs : List V} {b : Bool} (h : H a = some (.lst vs) ∧ b = true ∨ H a = some (.tup vs) ∧ b = false) (n : ¬ S a) (l : Later S H H') : SqB K b H' a vs := by
  rcases h with ⟨h, rfl⟩ | ⟨h, rfl⟩
  · exact SqL.of (l a _ h n)
  · exact SqT.of (l a _ h n)
theorem items_list {H : Hp} {S U : AS} {a : Addr} {vs : List V} {ds : List D} (h : H a = some (.lst vs)) (n : ¬ S a) (dn : DenL H U vs ds) (z : Sz H) : Items (Itl K a) S U H ds where
  len := by rw [← dn.length]; exact z a vs (.inl h)
  go := fun i H' l hi => ⟨vs, vs[i]'(by rw [dn.length]; exact hi), SqL.of (l a _ h n), by simp [dn.length, hi]⟩
  stop := fun H' l => ⟨vs, SqL.of (l a _ h n), by rw [dn.length]; exact Nat.le_refl _⟩
  yld := fun i d H' x H'' l lu hd y => by
    obtain ⟨rfl, y⟩ := y
    obtain ⟨v, e1, e2⟩ := dn.get hd
    have e := y vs (SqL.of (l a _ h n))
    rw [e1] at e; cases e
    exact ⟨fun _ _ q => q, fun q => q, fun U' hu _ => e2.mono (fun b o q nn => lu b o q nn) hu⟩
theorem items_tup {H : Hp} {S U : AS} {a : Addr} {vs : List V} {ds : List D} (h : H a = some (.tup vs)) (n : ¬ S a) (dn : DenL H U vs ds) (z : Sz H) : Items (Itt K a) S U H ds where
  len := by rw [← dn.length]; exact z a vs (.inr h)
  go := fun i H' l hi => ⟨vs, vs[i]'(by rw [dn.length]; exact hi), SqT.of (l a _ h n), by simp [dn.length, hi]⟩
  stop := fun H' l => ⟨vs, SqT.of (l a _ h n), by rw [dn.length]; exact Nat.le_refl _⟩
  yld := fun i d H' x H'' l lu hd y => by
    obtain ⟨rfl, y⟩ := y
    obtain ⟨v, e1, e2⟩ := dn.get hd
    have e := y vs (SqT.of (l a _ h n))
    rw [e1] at e; cases e
    exact ⟨fun _ _ q => q, fun q => q, fun U' hu _ => e2.mono (fun b o q nn => lu b o q nn) hu⟩
def itSeq (e : Env → M D) : Env → M (List D) := fun ρ => bnd (e ρ) seqD
theorem semI_seq {t : TE} {e : Env → M D} (h : SemE s Γ t e) : SemI s Γ (iSeq K t) (itSeq e) := by
  intro c ρ ps σ H R' P hc r0 q k
  refine h c ρ ps σ H _ _ hc r0 q fun d v H1 q1 e1 d1 => ?_
  obtain ⟨ds, ed, q1⟩ := seqD_get q1
  obtain ⟨a, vs, b, rfl, _, dn, nu, hh⟩ := d1.seqU (K := K) ed
  have r1 := r0.stp e1
  rcases hh with ⟨h1, _⟩ | ⟨h1, _⟩
  · exact .inl ⟨a, rfl, ⟨vs, SqL.of h1⟩, k ds _ H1 q1 e1 (items_list h1 nu dn r1.sz)⟩
  · exact .inr ⟨a, rfl, ⟨vs, SqT.of h1⟩, k ds _ H1 q1 e1 (items_tup h1 nu dn r1.sz)⟩
theorem semIc_seq {t : TE} {e : Env → M D} (h : SemV s Γ t e) : SemIc s Γ (iSeq K t) (itSeq e) := by
  intro c ρ ps σ H R' P hc r0 q k
  refine h c ρ ps σ H _ _ hc r0 q fun d v H1 q1 e1 d1 => ?_
  obtain ⟨ds, ed, q1⟩ := seqD_get q1
  have r1 := r0.stp e1
  obtain ⟨a, vs, b, rfl, _, dn, nu, hh⟩ := d1.seqA (K := K) r0.ok r1.gd.nA ed
  rcases hh with ⟨h1, _⟩ | ⟨h1, _⟩
  · exact .inl ⟨a, rfl, ⟨vs, SqL.of h1⟩, k ds _ H1 q1 e1 (items_list h1 nu dn r1.sz)⟩
  · exact .inr ⟨a, rfl, ⟨vs, SqT.of h1⟩, k ds _ H1 q1 e1 (items_tup h1 nu dn r1.sz)⟩

/-! ### range -/
def rangeD (lo : Int) (n : Nat) : List D := (List.range n).map fun i => .int (lo + (i : Nat))
theorem items_range {H : Hp} {S U : AS} {lo : Int} {n : Nat} (hz : n ≤ sizeLine) : Items (Itr lo n) S U H (rangeD lo n) where
  len := by unfold rangeD; simpa using hz
  go := fun i H' l hi => by
    show i < n
    unfold rangeD at hi
    simpa using hi
  stop := fun H' l => by show n ≤ _; unfold rangeD; simp
  yld := fun i d H' x H'' l lu hd y => by
    obtain ⟨rfl, rfl⟩ := y
    unfold rangeD at hd
    rw [List.getElem?_map, Option.map_eq_some_iff] at hd
    obtain ⟨j, hj, rfl⟩ := hd
    have e : j = i := by
      rw [List.getElem?_range] at hj
      · exact (Option.some.inj hj).symm
      · exact Nat.lt_of_not_le fun z => by rw [List.getElem?_eq_none (by simpa using z)] at hj; cases hj
    subst e
    exact ⟨fun _ _ q => q, fun q => q, fun _ _ _ => .int _⟩
def rngOk (n : Int) : Bool := decide (-100000 ≤ n ∧ n ≤ 100000)
theorem rngOk_b {n : Int} (h : rngOk n = true) : -100000 ≤ n ∧ n ≤ 100000 := by
  unfold rngOk at h
  exact of_decide_eq_true h
def itRng1 (f : Env → M (List D)) : Env → M (List D) := fun ρ => bnd (f ρ) fun ds => match ds with
  | [.int n] => if rngOk n = true then ret (rangeD 0 n.toNat) else stuck
  | _ => stuck
def itRng2 (f : Env → M (List D)) : Env → M (List D) := fun ρ => bnd (f ρ) fun ds => match ds with
  | [.int m, .int n] => if (rngOk m && rngOk n) = true then ret (rangeD m (n - m).toNat) else stuck
  | _ => stuck
theorem Views.one {c : Fx} {ps : List Addr} {H : Hp} {vs : List V} {d : D} (h : Views c ps H vs [d]) : ∃ v, vs = [v] ∧ View c ps H v d := by
  cases h with
  | cons h t => cases t; exact ⟨_, rfl, h⟩
theorem Views.two {c : Fx} {ps : List Addr} {H : Hp} {vs : List V} {d e : D} (h : Views c ps H vs [d, e]) : ∃ v w, vs = [v, w] ∧ View c ps H v d ∧ View c ps H w e := by
  cases h with
  | cons h t =>
    obtain ⟨w, rfl, h2⟩ := t.one
    exact ⟨_, _, rfl, h, h2⟩
theorem sz_1e5 {n : Nat} (h : n ≤ 200000) : n ≤ sizeLine := Nat.le_trans h (by decide)
theorem rng1_any {t : TA} {f : Env → M (List D)} (h : SemAV s Γ t f) {c : Fx} {ρ : Env} {ps : List Addr} {σ : St} {H : Hp} {R' : It → Hp → Prop} {P : List D → Prop} (hc : c.s = s) (r0 : R c Γ ρ ps σ H) (q : itRng1 f ρ P) {S : AS}
    (k : ∀ ds J H1, P ds → Stp c H H1 → Items J S (c.U ps) H1 ds → R' J H1) : iRng1 t σ H R' := by
  refine h c ρ ps σ H _ _ hc r0 q fun ds vs H1 q1 e1 d1 => ?_
  dsimp only at q1
  split at q1
  · rename_i n
    split at q1
    · rename_i hr
      have b := rngOk_b hr
      obtain ⟨v, rfl, dv⟩ := d1.one
      exact ⟨n, by rw [dv.int], by omega, by omega, k _ _ H1 q1 e1 (items_range (sz_1e5 (by omega)))⟩
    · cases q1
  · cases q1
theorem semI_rng1 {t : TA} {f : Env → M (List D)} (h : SemAV s Γ t f) : SemI s Γ (iRng1 t) (itRng1 f) := fun c ρ ps σ H R' P hc r0 q k => rng1_any h hc r0 q k
theorem semIc_rng1 {t : TA} {f : Env → M (List D)} (h : SemAV s Γ t f) : SemIc s Γ (iRng1 t) (itRng1 f) := fun c ρ ps σ H R' P hc r0 q k => rng1_any h hc r0 q k
theorem rng2_any {t : TA} {f : Env → M (List D)} (h : SemAV s Γ t f) {c : Fx} {ρ : Env} {ps : List Addr} {σ : St} {H : Hp} {R' : It → Hp → Prop} {P : List D → Prop} (hc : c.s = s) (r0 : R c Γ ρ ps σ H) (q : itRng2 f ρ P) {S : AS}
    (k : ∀ ds J H1, P ds → Stp c H H1 → Items J S (c.U ps) H1 ds → R' J H1) : iRng2 t σ H R' := by
  refine h c ρ ps σ H _ _ hc r0 q fun ds vs H1 q1 e1 d1 => ?_
  dsimp only at q1
  split at q1
  · rename_i m n
    split at q1
    · rename_i hr
      have hr' : rngOk m = true ∧ rngOk n = true := by simpa using hr
      have b1 := rngOk_b hr'.1
      have b2 := rngOk_b hr'.2
      obtain ⟨v, w, rfl, dv, dw⟩ := d1.two
      exact ⟨m, n, by rw [dv.int, dw.int], ⟨by omega, by omega, by omega, by omega⟩, k _ _ H1 q1 e1 (items_range (sz_1e5 (by omega)))⟩
    · cases q1
  · cases q1
theorem semI_rng2 {t : TA} {f : Env → M (List D)} (h : SemAV s Γ t f) : SemI s Γ (iRng2 t) (itRng2 f) := fun c ρ ps σ H R' P hc r0 q k => rng2_any h hc r0 q k
theorem semIc_rng2 {t : TA} {f : Env → M (List D)} (h : SemAV s Γ t f) : SemIc s Γ (iRng2 t) (itRng2 f) := fun c ρ ps σ H R' P hc r0 q k => rng2_any h hc r0 q k

/-! ### zip, enumerate -/
def zipD : List D → List D → List D
  | d :: ds, e :: es => .tuple [d, e] :: zipD ds es
  | _, _ => []
theorem zipD_len : ∀ (ds es : List D), (zipD ds es).length = min ds.length es.length
  | [], _ => by simp [zipD]
  | _ :: _, [] => by simp [zipD]
  | d :: ds, e :: es => by simp [zipD, zipD_len ds es]
theorem zipD_get : ∀ {ds es : List D} {i : Nat} {x : D}, (zipD ds es)[i]? = some x → ∃ d e, ds[i]? = some d ∧ es[i]? = some e ∧ x = .tuple [d, e]
  | [], _, _, _, h => by simp [zipD] at h
  | _ :: _, [], _, _, h => by simp [zipD] at h
  | d :: ds, e :: es, 0, x, h => by simp [zipD] at h; exact ⟨d, e, rfl, rfl, h.symm⟩
  | d :: ds, e :: es, i + 1, x, h => by
    obtain ⟨a, b, h1, h2, h3⟩ := zipD_get (ds := ds) (es := es) (i := i) (by simpa [zipD] using h)
    exact ⟨a, b, by simpa using h1, by simpa using h2, h3⟩
def enumD : Nat → List D → List D
  | _, [] => []
  | k, d :: ds => .tuple [.int (k : Nat), d] :: enumD (k + 1) ds
theorem enumD_len : ∀ (k : Nat) (ds : List D), (enumD k ds).length = ds.length
  | _, [] => rfl
  | k, d :: ds => by simp [enumD, enumD_len (k + 1) ds]
theorem enumD_get : ∀ {k : Nat} {ds : List D} {i : Nat} {x : D}, (enumD k ds)[i]? = some x → ∃ d, ds[i]? = some d ∧ x = .tuple [.int ((k + i : Nat) : Int), d]
  | _, [], _, _, h => by simp [enumD] at h
  | k, d :: ds, 0, x, h => by simp [enumD] at h; exact ⟨d, rfl, h.symm⟩
  | k, d :: ds, i + 1, x, h => by
    obtain ⟨a, h1, h2⟩ := enumD_get (k := k + 1) (ds := ds) (i := i) (by simpa [enumD] using h)
    refine ⟨a, by simpa using h1, ?_⟩
    rw [h2, show k + 1 + i = k + (i + 1) by omega]
theorem items_zip {H : Hp} {S U : AS} {a b : Addr} {b1 b2 : Bool} {vs ws : List V} {ds es : List D} (h1 : H a = some (.lst vs) ∧ b1 = true ∨ H a = some (.tup vs) ∧ b1 = false) (h2 : H b = some (.lst ws) ∧ b2 = true ∨ H b = some (.tup ws) ∧ b2 = false)
    (n1 : ¬ S a) (n2 : ¬ S b) (d1 : DenL H U vs ds) (d2 : DenL H U ws es) (z : Sz H) : Items (Itw (goZ K b1 b2 a b) (valZ K b1 b2 a b) (stopZ K b1 b2 a b)) S U H (zipD ds es) where
  len := by rw [zipD_len, ← d1.length]; exact Nat.le_trans (Nat.min_le_left _ _) (sz_seq z h1)
  go := fun i H' l hi => by
    rw [zipD_len] at hi
    have i1 : i < vs.length := by rw [d1.length]; omega
    have i2 : i < ws.length := by rw [d2.length]; omega
    exact ⟨vs, ws, vs[i], ws[i], seq_later h1 n1 l, seq_later h2 n2 l, by simp [i1], by simp [i2]⟩
  stop := fun H' l => ⟨vs, ws, seq_later h1 n1 l, seq_later h2 n2 l, by rw [zipD_len, d1.length, d2.length]⟩
  yld := fun i x H' v H'' l lu hd y => by
    obtain ⟨T, vals, rfl, hn, rfl, ⟨x1, y1, rfl, f1, f2⟩, hl⟩ := y
    obtain ⟨d, e, g1, g2, rfl⟩ := zipD_get hd
    obtain ⟨u1, a1, a2⟩ := d1.get g1
    obtain ⟨u2, c1, c2⟩ := d2.get g2
    have p1 := f1 vs (seq_later h1 n1 l)
    have p2 := f2 ws (seq_later h2 n2 l)
    rw [a1] at p1; cases p1
    rw [c1] at p2; cases p2
    have up : ∀ aa o, H aa = some o → ¬ U aa → (upd H' T (.tup [x1, y1])) aa = some o := fun aa o q nn => upd_keep hn aa o (lu aa o q nn)
    refine ⟨upd_keep hn, fun zz => zz.upd fun xs q => ?_, fun U' hu nu => .tup upd_same (nu T hn) (.cons (a2.mono up hu) (.cons (c2.mono up hu) .nil))⟩
    rcases q with q | q <;> cases q
    show 2 ≤ sizeLine
    decide
theorem items_enum {H : Hp} {S U : AS} {a : Addr} {b : Bool} {vs : List V} {ds : List D} (h1 : H a = some (.lst vs) ∧ b = true ∨ H a = some (.tup vs) ∧ b = false)
    (n1 : ¬ S a) (d1 : DenL H U vs ds) (z : Sz H) : Items (Itw (goE K b a) (valE K b a) (stopE K b a)) S U H (enumD 0 ds) where
  len := by rw [enumD_len, ← d1.length]; exact sz_seq z h1
  go := fun i H' l hi => by
    rw [enumD_len] at hi
    have i1 : i < vs.length := by rw [d1.length]; omega
    exact ⟨vs, vs[i], seq_later h1 n1 l, by simp [i1]⟩
  stop := fun H' l => ⟨vs, seq_later h1 n1 l, by rw [enumD_len, d1.length]⟩
  yld := fun i x H' v H'' l lu hd y => by
    obtain ⟨T, vals, rfl, hn, rfl, ⟨x1, rfl, f1⟩, hl⟩ := y
    obtain ⟨d, g1, rfl⟩ := enumD_get hd
    obtain ⟨u1, a1, a2⟩ := d1.get g1
    have p1 := f1 vs (seq_later h1 n1 l)
    rw [a1] at p1; cases p1
    have up : ∀ aa o, H aa = some o → ¬ U aa → (upd H' T (.tup [.int (i : Nat), x1])) aa = some o := fun aa o q nn => upd_keep hn aa o (lu aa o q nn)
    refine ⟨upd_keep hn, fun zz => zz.upd fun xs q => ?_, fun U' hu nu => .tup upd_same (nu T hn) (.cons (by rw [Nat.zero_add]; exact .int _) (.cons (a2.mono up hu) .nil))⟩
    rcases q with q | q <;> cases q
    show 2 ≤ sizeLine
    decide
def itZip (f : Env → M (List D)) : Env → M (List D) := fun ρ => bnd (f ρ) fun l => match l with
  | [x, y] => bnd (seqD x) fun ds => bnd (seqD y) fun es => ret (zipD ds es)
  | _ => stuck
def itEnum (f : Env → M (List D)) : Env → M (List D) := fun ρ => bnd (f ρ) fun l => match l with
  | [x] => bnd (seqD x) fun ds => ret (enumD 0 ds)
  | _ => stuck
theorem semI_zip {t : TA} {f : Env → M (List D)} (h : SemA s Γ t f) : SemI s Γ (iZipB K t) (itZip f) := by
  intro c ρ ps σ H R' P hc r0 q k
  refine h c ρ ps σ H _ _ hc r0 q fun ds vs H1 q1 e1 d1 => ?_
  dsimp only at q1
  split at q1
  · rename_i x y
    obtain ⟨l1, z1, q1⟩ := seqD_get q1
    obtain ⟨l2, z2, q1⟩ := seqD_get q1
    cases d1 with
    | cons dx dr =>
      cases dr with
      | cons dy dr =>
        cases dr
        obtain ⟨a, us, b1, rfl, hs1, dn1, nu1, hh1⟩ := dx.seqU (K := K) z1
        obtain ⟨b, ws, b2, rfl, hs2, dn2, nu2, hh2⟩ := dy.seqU (K := K) z2
        exact ⟨a, b, b1, b2, us, ws, rfl, hs1, hs2, k _ _ H1 q1 e1 (items_zip hh1 hh2 nu1 nu2 dn1 dn2 (r0.stp e1).sz)⟩
  · cases q1
theorem semIc_zip {t : TA} {f : Env → M (List D)} (h : SemAV s Γ t f) : SemIc s Γ (iZipB K t) (itZip f) := by
  intro c ρ ps σ H R' P hc r0 q k
  refine h c ρ ps σ H _ _ hc r0 q fun ds vs H1 q1 e1 d1 => ?_
  dsimp only at q1
  split at q1
  · rename_i x y
    obtain ⟨l1, z1, q1⟩ := seqD_get q1
    obtain ⟨l2, z2, q1⟩ := seqD_get q1
    obtain ⟨v, w, rfl, dx, dy⟩ := d1.two
    have g := (r0.stp e1).gd
    obtain ⟨a, us, b1, rfl, hs1, dn1, nu1, hh1⟩ := dx.seqA (K := K) g.ok g.nA z1
    obtain ⟨b, ws, b2, rfl, hs2, dn2, nu2, hh2⟩ := dy.seqA (K := K) g.ok g.nA z2
    exact ⟨a, b, b1, b2, us, ws, rfl, hs1, hs2, k _ _ H1 q1 e1 (items_zip hh1 hh2 nu1 nu2 dn1 dn2 g.sz)⟩
  · cases q1
theorem semI_enum {t : TA} {f : Env → M (List D)} (h : SemA s Γ t f) : SemI s Γ (iEnumB K t) (itEnum f) := by
  intro c ρ ps σ H R' P hc r0 q k
  refine h c ρ ps σ H _ _ hc r0 q fun ds vs H1 q1 e1 d1 => ?_
  dsimp only at q1
  split at q1
  · rename_i x
    obtain ⟨l1, z1, q1⟩ := seqD_get q1
    cases d1 with
    | cons dx dr =>
      cases dr
      obtain ⟨a, us, b1, rfl, hs1, dn1, nu1, hh1⟩ := dx.seqU (K := K) z1
      exact ⟨a, b1, us, rfl, hs1, k _ _ H1 q1 e1 (items_enum hh1 nu1 dn1 (r0.stp e1).sz)⟩
  · cases q1
theorem semIc_enum {t : TA} {f : Env → M (List D)} (h : SemAV s Γ t f) : SemIc s Γ (iEnumB K t) (itEnum f) := by
  intro c ρ ps σ H R' P hc r0 q k
  refine h c ρ ps σ H _ _ hc r0 q fun ds vs H1 q1 e1 d1 => ?_
  dsimp only at q1
  split at q1
  · rename_i x
    obtain ⟨l1, z1, q1⟩ := seqD_get q1
    obtain ⟨v, rfl, dx⟩ := d1.one
    have g := (r0.stp e1).gd
    obtain ⟨a, us, b1, rfl, hs1, dn1, nu1, hh1⟩ := dx.seqA (K := K) g.ok g.nA z1
    exact ⟨a, b1, us, rfl, hs1, k _ _ H1 q1 e1 (items_enum hh1 nu1 dn1 g.sz)⟩
  · cases q1
end
end Py
/-! PyK: comprehensions. -/
namespace Py
open PySem L2 StX

section
variable {s : Sx} {Γ : List Md}
def wipeD (ρ : Env) : List Nat → Env
  | [] => ρ
  | v :: vs => (wipeD ρ vs).set v none
theorem R.wiped {c : Fx} {ρ : Env} {ps : List Addr} {σ : St} {H : Hp} (r : R c Γ ρ ps σ H) : ∀ {vs : List Nat}, (∀ i ∈ vs, Γ[i]? = some .fro) → R c Γ (wipeD ρ vs) ps (wipe σ vs) H
  | [], _ => r
  | v :: vs, h => (r.wiped fun i hi => h i (List.mem_cons_of_mem _ hi)).setNo (h v (List.mem_cons_self ..))
theorem wipe_get {σ : St} {i : Nat} : ∀ {vs : List Nat}, i ∈ vs → i < σ.length → (wipe σ vs)[i]? = some none
  | [], h, _ => absurd h (by simp)
  | v :: vs, h, hl => by
    unfold wipe
    by_cases e : v = i
    · subst e
      rw [List.getElem?_set_self (by rw [wipe_length]; exact hl)]
    · rw [List.getElem?_set_ne e]
      exact wipe_get ((List.mem_cons.mp h).resolve_left fun z => e z.symm) hl
theorem wipe_again {σ σ' : St} {vs ts : List Nat} (hl : σ'.length = (wipe σ vs).length) (hs : ∀ i, i ∉ ts → σ'[i]? = (wipe σ vs)[i]?) (ht : ∀ i ∈ ts, i ∈ vs) : wipe σ' vs = wipe σ vs := by
  apply List.ext_getElem?
  intro i
  have l1 := wipe_length σ vs
  by_cases hi : i ∈ vs
  · by_cases hz : i < σ.length
    · rw [wipe_get hi (by rw [hl, l1]; exact hz), wipe_get hi hz]
    · rw [List.getElem?_eq_none (by rw [wipe_length, hl, l1]; omega), List.getElem?_eq_none (by rw [l1]; omega)]
  · rw [wipe_out hi]
    exact hs i fun z => hi (ht i z)

theorem upd_off {H : Hp} {S : AS} {a p : Addr} {o : HO} (hp : S p) (n : ¬ S a) : upd H p o a = H a := upd_ne fun z => n (by rw [z]; exact hp)
theorem upd_offm {H : Hp} {S : AS} {a p : Addr} {o : HO} (hp : ¬ S p) (n : S a) : upd H p o a = H a := upd_ne fun z => hp (by rw [← z]; exact n)
/-- one more place that changes: the list that a comprehension makes -/
def Fx.plus (c : Fx) (p : Addr) : Fx := { c with U0 := fun a => c.U0 a ∨ a = p }
theorem SlotR.ofSrc {c c' : Fx} (e : c'.s = c.s) {H : Hp} {U : AS} {m : Md} {d : Option D} {o : Option V} {ps : List Addr} (h : SlotR c H U m d o ps) : SlotR c' H U m d o ps := by
  cases h with
  | no => exact .no
  | fro h => exact .fro h
  | own h1 h2 => exact .own h1 h2
  | lent h1 h2 => exact .lent h1 h2
  | own2 h1 h2 => exact .own2 h1 h2
  | dic h1 h2 => exact .dic h1 h2
  | src =>
    have q : c'.src = c.src := by show c'.s.src = c.s.src; rw [e]
    rw [← q]; exact .src
theorem Slots.ofSrc {c c' : Fx} (e : c'.s = c.s) {H : Hp} {U : AS} {ρ : Env} {σ : St} {ps : List Addr} (h : Slots c H U Γ ρ σ ps) : Slots c' H U Γ ρ σ ps := by
  induction h with
  | nil => exact .nil
  | cons h1 _ ih => exact .cons (h1.ofSrc e) ih
theorem R.fresh0 {c : Fx} {ρ : Env} {ps : List Addr} {σ : St} {H : Hp} (r : R c Γ ρ ps σ H) {p : Addr} (h : H p = none) : c.H0 p = none := by
  cases q : c.H0 p with
  | none => rfl
  | some o => obtain ⟨o', h'⟩ := r.there p o q; rw [h] at h'; cases h'
theorem R.nU0 {c : Fx} {ρ : Env} {ps : List Addr} {σ : St} {H : Hp} (r : R c Γ ρ ps σ H) {p : Addr} (h : H p = none) : ¬ c.U0 p := fun u => by
  obtain ⟨o, h', _⟩ := r.al p u
  rw [h] at h'; cases h'
theorem R.plus {c : Fx} {ρ : Env} {ps : List Addr} {σ : St} {H : Hp} (r : R c Γ ρ ps σ H) {p : Addr} (h : H p = none) : R (c.plus p) Γ ρ ps σ (upd H p (.lst [])) where
  ok := ⟨fun a q => .inl (r.ok.sub a q), r.ok.st⟩
  keep := fun a o q n => upd_keep h a o (r.keep a o q n)
  there := fun a o q => let ⟨o', q'⟩ := r.there a o q; ⟨o', upd_keep h a o' q'⟩
  inv := r.ok.st H _ r.inv fun a o _ q => upd_keep h a o q
  al := fun a u => by
    rcases u with u | rfl
    · obtain ⟨o, q, n⟩ := r.al a u
      exact ⟨o, upd_keep h a o q, n⟩
    · exact ⟨_, upd_same, fun xs z => by cases z⟩
  sz := r.sz.upd fun xs q => by rcases q with q | q <;> cases q; exact Nat.zero_le _
  sl := (Slots.ofSrc (c := c) (c' := c.plus p) rfl r.sl).mono (fun a _ o q => upd_keep h a o q) (fun a o q _ => upd_keep h a o q) fun a o q u => by
    rcases u with (u | rfl) | u
    · exact .inl u
    · rw [h] at q; cases q
    · exact .inr u
  nd := r.nd
  own := fun a ha => ⟨(r.own a ha).1, fun u => by
    rcases u with u | rfl
    · exact (r.own a ha).2 u
    · obtain ⟨xs, q, _⟩ := r.sl.loose a ha
      rw [h] at q; cases q⟩
/-- a list of the callers' changes (here: the comprehension's own) -/
theorem R.updU0 {c : Fx} {ρ : Env} {ps : List Addr} {σ : St} {H : Hp} (r : R c Γ ρ ps σ H) {p : Addr} {xs ys : List V} (hu : c.U0 p) (hA : ¬ c.A p) (h0 : c.H0 p = none) (h : H p = some (.lst xs)) (hz : ys.length ≤ sizeLine) : R c Γ ρ ps σ (upd H p (.lst ys)) where
  ok := r.ok
  keep := fun a o q n => by rw [upd_ne (ne_of_none q h0)]; exact r.keep a o q n
  there := fun a o q => by
    rw [upd_ne (ne_of_none q h0)]; exact r.there a o q
  inv := r.ok.st H _ r.inv fun a o u q => by rw [upd_offm (S := c.A) hA u]; exact q
  al := fun a u => by
    by_cases e : a = p
    · subst e; exact ⟨_, upd_same, fun xs z => by cases z⟩
    · rw [upd_ne e]; exact r.al a u
  sz := r.sz.upd fun zs q => by rcases q with q | q <;> cases q; exact hz
  sl := r.sl.mono (fun a ha o q => by rw [upd_off (S := c.U0) hu (r.own a ha).2]; exact q) (fun a o q n => by rw [upd_off (S := c.U ps) (.inl hu) n]; exact q) fun _ _ _ q => q
  nd := r.nd
  own := r.own

def lcW (tg : D → Env → M Env) (cond : Env → M Bool) (elt : Env → M D) (ρ : Env) : List D → M (List D)
  | [] => ret []
  | d :: ds => bnd (tg d ρ) fun ρ' => bnd (cond ρ') fun b => if b = true then bnd (elt ρ') fun y => bnd (lcW tg cond elt ρ ds) fun ys => ret (y :: ys) else lcW tg cond elt ρ ds
def eLc (its : Env → M (List D)) (tg : D → Env → M Env) (cond : Env → M Bool) (elt : Env → M D) (vs : List Nat) : Env → M (List D) := fun ρ => bnd (its ρ) fun ds => lcW tg cond elt (wipeD ρ vs) ds
def cYes : Env → M Bool := fun _ => ret true
theorem sem_yes : SemT s Γ tYes cYes := fun c ρ ps σ H Q P _ r q k => k true H q (Stp.refl c H)

/-- what holds between two turns of a comprehension -/
structure LcI (c : Fx) (Γ : List Md) (ρw : Env) (ps : List Addr) (σw : St) (H1 : Hp) (p : Addr) (n i : Nat) (H : Hp) (ys : List D) : Prop where
  keep : ∀ a o, H1 a = some o → ¬ c.A a → H a = some o
  there : ∀ a o, H1 a = some o → ∃ o', H a = some o'
  r : R (c.plus p) Γ ρw ps σw H
  acc : ∃ vs, H p = some (.lst vs) ∧ DenL H ((c.plus p).U ps) vs ys ∧ vs.length ≤ i
theorem sem_lc {wi : TI} {g : TG} {tt : TT} {te : TE} {vs ts : List Nat} {its : Env → M (List D)} {tg : D → Env → M Env} {cond : Env → M Bool} {elt : Env → M D}
    (hi : SemIc s Γ wi its) (hg : SemG s Γ g ts tg) (ht : SemT s Γ tt cond) (he : SemE s Γ te elt) (hv : ∀ i ∈ vs, Γ[i]? = some .fro) (hts : ∀ i ∈ ts, i ∈ vs) : SemL s Γ (tLc wi g tt te vs) (eLc its tg cond elt vs) := by
  intro c ρ ps σ H Q P hc r0 q k
  refine hi c ρ ps σ H _ _ hc r0 q fun ds J H1 q1 e1 it => ?_
  intro p hp
  have r1 := r0.stp e1
  have n0 := r1.fresh0 hp
  have nA : ¬ c.A p := fun z => r1.nU0 hp (r1.ok.sub p z)
  have rp := (r1.wiped hv).plus hp
  refine ⟨fun i m H' => m = ds.length - i ∧ i ≤ ds.length ∧ ∃ ys, LcI c Γ (wipeD ρ vs) ps (wipe σ vs) H1 p ds.length i H' ys ∧ lcW tg cond elt (wipeD ρ vs) (ds.drop i) (fun zs => P (ys ++ zs)),
    ⟨ds.length, by simp, Nat.zero_le _, [], ⟨fun a o h _ => upd_keep hp a o h, fun a o h => ⟨o, upd_keep hp a o h⟩, rp, ⟨[], upd_same, .nil, Nat.le_refl _⟩⟩, q1⟩, ?_⟩
  rintro i m H' ⟨rfl, hle, ys, I, w⟩
  have lA : Later c.A H1 H' := I.keep
  have lU : Later (c.U ps) H1 H' := fun a o h n => I.keep a o h fun z => n (.inl (r1.ok.sub a z))
  by_cases hlt : i < ds.length
  · refine .inr ⟨it.go i H' lA hlt, fun H'' => (ds.length - (i + 1) = ds.length - (i + 1) ∧ i + 1 ≤ ds.length ∧ ∃ zs, LcI c Γ (wipeD ρ vs) ps (wipe σ vs) H1 p ds.length (i + 1) H'' zs ∧ lcW tg cond elt (wipeD ρ vs) (ds.drop (i + 1)) (fun ws => P (zs ++ ws))),
      fun H'' h => ⟨ds.length - (i + 1), by omega, h⟩, fun x H'' y => ?_⟩
    have hd : ds[i]? = some ds[i] := by simp [hlt]
    obtain ⟨same, sz, den⟩ := it.yld i ds[i] H' x H'' lA lU hd y
    have stp2 : Stp (c.plus p) H' H'' := Stp.same I.r.ok same sz
    have r2 := I.r.stp stp2
    have dx : Den H'' ((c.plus p).U ps) x ds[i] := den _ (fun a o h u => by
      rcases u with (u | rfl) | u
      · exact .inl u
      · rw [hp] at h; cases h
      · exact .inr u) fun a h => I.r.new h
    rw [List.drop_eq_getElem_cons hlt] at w
    have hc' : (c.plus p).s = s := hc
    refine hg (c.plus p) (wipeD ρ vs) ps (wipe σ vs) H'' _ _ _ _ hc' r2 dx w fun ρ' σ' w2 r3 l3 s3 => ?_
    refine ⟨wipe_again l3 s3 hts, ?_⟩
    refine ht (c.plus p) ρ' ps σ' H'' _ _ hc' r3 w2 fun b H3 w3 e3 => ?_
    have r4 := r3.stp e3
    have kp3 : ∀ a o, H1 a = some o → ¬ c.A a → H3 a = some o := fun a o h n => e3.keep a o (same a o (I.keep a o h n)) n
    have th3 : ∀ a o, H1 a = some o → ∃ o', H3 a = some o' := fun a o h => let ⟨o1, h1⟩ := I.there a o h; e3.there a o1 (same a o1 h1)
    obtain ⟨acc, ha, dacc, hlen⟩ := I.acc
    have da3 : H3 p = some (.lst acc) ∧ DenL H3 ((c.plus p).U ps) acc ys := ⟨e3.keep _ _ (same _ _ ha) nA, (dacc.stp I.r.ok stp2).stp r3.ok e3⟩
    dsimp only at w3
    cases b with
    | true =>
      rw [if_pos rfl] at w3
      rw [if_pos rfl]
      refine he (c.plus p) ρ' ps σ' H3 _ _ hc' r4 w3 fun yd v H4 w4 e4 dv => ?_
      have ha4 : H4 p = some (.lst acc) := e4.keep _ _ da3.1 nA
      have d4 : DenL H4 ((c.plus p).U ps) acc ys := da3.2.stp r4.ok e4
      have lz : acc.length < sizeLine := Nat.lt_of_lt_of_le (Nat.lt_of_le_of_lt hlen hlt) it.len
      have hz : (acc ++ [v]).length ≤ sizeLine := by rw [List.length_append]; exact lz
      have rw4 : R (c.plus p) Γ (wipeD ρ vs) ps (wipe σ vs) H4 := (r2.stp e3).stp e4
      have up : ∀ a o, H4 a = some o → ¬ (c.plus p).U ps a → (upd H4 p (.lst (acc ++ [v]))) a = some o := fun a o h n => by
        rw [upd_off (S := (c.plus p).U ps) (.inl (.inr rfl)) n]; exact h
      refine ⟨acc, ha4, lz, rfl, hlt, ys ++ [yd], ⟨fun a o h n => ?_, fun a o h => ?_, rw4.updU0 (.inr rfl) nA n0 ha4 hz, ⟨acc ++ [v], upd_same, ?_, ?_⟩⟩, ?_⟩
      · rw [upd_ne (ne_of_none h hp)]; exact e4.keep a o (kp3 a o h n) n
      · rw [upd_ne (ne_of_none h hp)]
        obtain ⟨o1, h1⟩ := th3 a o h
        exact e4.there a o1 h1
      · exact (d4.mono up fun _ _ _ z => z).append (.cons (dv.mono up fun _ _ _ z => z) .nil)
      · rw [List.length_append]; exact Nat.succ_le_succ hlen
      · have w5 : lcW tg cond elt (wipeD ρ vs) (ds.drop (i + 1)) (fun zs => P (ys ++ (yd :: zs))) := w4
        have ee : (fun zs => P (ys ++ [yd] ++ zs)) = fun zs => P (ys ++ (yd :: zs)) := by
          funext zs
          rw [List.append_assoc]
          rfl
        rw [ee]
        exact w5
    | false =>
      rw [if_neg Bool.false_ne_true] at w3
      rw [if_neg Bool.false_ne_true]
      have rw3 : R (c.plus p) Γ (wipeD ρ vs) ps (wipe σ vs) H3 := r2.stp e3
      exact ⟨rfl, hlt, ys, ⟨kp3, th3, rw3, ⟨acc, da3.1, da3.2, Nat.le_succ_of_le hlen⟩⟩, w3⟩
  · have e : i = ds.length := by omega
    subst e
    rw [List.drop_length] at w
    have w' : P (ys ++ []) := w
    rw [List.append_nil] at w'
    obtain ⟨acc, ha, dacc, hlen⟩ := I.acc
    refine .inl ⟨it.stop H' lA, k ys p acc H' w' (e1.trans ⟨I.keep, I.there, fun _ => I.r.inv, fun _ a u => I.r.al a (.inl u), fun _ => I.r.sz⟩) (e1.fresh hp) ha (dacc.mono (fun a o h _ => h) fun a o h u => ?_)⟩
    rcases u with (u | u) | rfl
    · exact .inl (.inl u)
    · exact .inr u
    · exact .inl (.inr rfl)
end
end Py
/-! PyS: statements. -/
namespace Py
open PySem L2 StX

inductive Out where
  | nx (ρ : Env) | rt (d : D) | bk (ρ : Env) | ct (ρ : Env)

/-- what stands behind the code -/
structure Fin (c : Fx) (H : Hp) : Prop where
  keep : ∀ a o, c.H0 a = some o → ¬ c.A a → H a = some o
  there : ∀ a o, c.H0 a = some o → ∃ o', H a = some o'
  inv : c.J H
  al : Loose H c.U0
  sz : Sz H
section
variable {s : Sx} {Γ Γ' Γl : List Md}
theorem R.fin {c : Fx} {ρ : Env} {ps : List Addr} {σ : St} {H : Hp} (r : R c Γ ρ ps σ H) : Fin c H := ⟨r.keep, r.there, r.inv, r.al, r.sz⟩
structure Ek (c : Fx) (Γl Γ' : List Md) (P : Out → Prop) (E : Ends) : Prop where
  nx : ∀ ρ ps σ H, P (.nx ρ) → R c Γ' ρ ps σ H → E.nx σ H
  rt : ∀ d v H, P (.rt d) → Fin c H → Den H c.U0 v d → E.rt v H
  bk : ∀ ρ ps σ H, P (.bk ρ) → R c Γl ρ ps σ H → E.bk σ H
  ct : ∀ ρ ps σ H, P (.ct ρ) → R c Γl ρ ps σ H → E.ct σ H
def SemS (s : Sx) (Γl Γ Γ' : List Md) (t : TS) (f : Env → M Out) : Prop := ∀ c ρ ps σ H E P, c.s = s → R c Γ ρ ps σ H → f ρ P → Ek c Γl Γ' P E → t E σ H

/-! ### slots stored -/
theorem Slots.put {c : Fx} {H : Hp} {U : AS} {ρ : Env} {σ : St} {ps : List Addr} {m : Md} {d : Option D} {o : Option V} {qs : List Addr} (n : SlotR c H U m d o qs) (h : Slots c H U Γ ρ σ ps) (nd : ps.Nodup) (nq : qs.Nodup) (dj : ∀ a ∈ qs, a ∉ ps) :
    ∀ {i : Nat}, i < Γ.length → ∃ ps', Slots c H U (Γ.set i m) (ρ.set i d) (σ.set i o) ps' ∧ ps'.Nodup ∧ (∀ a ∈ ps', a ∈ ps ∨ a ∈ qs) := by
  induction h with
  | nil => intro i hi; exact absurd hi (by simp)
  | @cons m1 d1 o1 p1 q1 Γ1 ρ1 σ1 h1 h2 ih =>
    intro i hi
    have nd' := List.nodup_append.mp nd
    cases i with
    | zero =>
      refine ⟨qs ++ q1, .cons n h2, List.nodup_append.mpr ⟨nq, nd'.2.1, fun a ha b hb e => dj a ha (List.mem_append_right _ (e ▸ hb))⟩, fun a ha => ?_⟩
      rcases List.mem_append.mp ha with ha | ha
      · exact .inr ha
      · exact .inl (List.mem_append_right _ ha)
    | succ i =>
      obtain ⟨ps', s', n', m'⟩ := ih nd'.2.1 (fun a ha z => dj a ha (List.mem_append_right _ z)) (i := i) (by simpa using hi)
      refine ⟨p1 ++ ps', .cons h1 s', List.nodup_append.mpr ⟨nd'.1, n', fun a ha b hb e => ?_⟩, fun a ha => ?_⟩
      · subst e
        rcases m' a hb with z | z
        · exact nd'.2.2 a ha a z rfl
        · exact dj a z (List.mem_append_left _ ha)
      · rcases List.mem_append.mp ha with ha | ha
        · exact .inl (List.mem_append_left _ ha)
        · rcases m' a ha with z | z
          · exact .inl (List.mem_append_right _ z)
          · exact .inr z
/-- fewer own places -/
theorem R.ofSlots {c : Fx} {ρ ρ' : Env} {ps ps' qs : List Addr} {σ σ' : St} {H : Hp} {Γ' : List Md} (r : R c Γ ρ ps σ H) (sl : Slots c H (fun a => c.U ps a ∨ a ∈ qs) Γ' ρ' σ' ps') (nd : ps'.Nodup) (sub : ∀ a ∈ ps', a ∈ ps ∨ a ∈ qs) (nq : ∀ a ∈ qs, c.H0 a = none ∧ ¬ c.U0 a) :
    R c Γ' ρ' ps' σ' H :=
  { ok := r.ok, keep := r.keep, there := r.there, inv := r.inv, al := r.al, sz := r.sz, nd := nd
    sl := sl.mono (fun _ _ _ q => q) (fun _ _ q _ => q) fun a o q u => by
      rcases u with u | u
      · exact .inl (.inl u)
      · rcases sub a u with z | z
        · exact .inl (.inr z)
        · exact .inr z
    own := fun a ha => (sub a ha).elim (r.own a) (nq a) }
/-- a slot gets a datum: any mode behind -/
theorem R.put {c : Fx} {ρ : Env} {ps : List Addr} {σ : St} {H : Hp} (r : R c Γ ρ ps σ H) {i : Nat} {v : V} {d : D} (hi : i < Γ.length) (dn : Den H (c.U ps) v d) : ∃ ps', R c (Γ.set i .fro) (ρ.set i (some d)) ps' (σ.set i (some v)) H := by
  obtain ⟨ps', h1, h2, h3⟩ := r.sl.put (SlotR.fro dn) r.nd List.nodup_nil (fun a ha => absurd ha (by simp)) hi
  exact ⟨ps', r.ofSlots (qs := []) (h1.mono (fun _ _ _ q => q) (fun _ _ q _ => q) fun a o q u => u.elim id fun z => absurd z (by simp)) h2 h3 fun a ha => absurd ha (by simp)⟩
theorem R.forget {c : Fx} {ρ : Env} {ps : List Addr} {σ : St} {H : Hp} (r : R c Γ ρ ps σ H) {i : Nat} {m : Md} {o : Option V} (hi : i < Γ.length) : ∃ ps', R c (Γ.set i m) (ρ.set i none) ps' (σ.set i o) H := by
  obtain ⟨ps', h1, h2, h3⟩ := r.sl.put (SlotR.no (m := m) (o := o)) r.nd List.nodup_nil (fun a ha => absurd ha (by simp)) hi
  exact ⟨ps', r.ofSlots (qs := []) (h1.mono (fun _ _ _ q => q) (fun _ _ q _ => q) fun a o q u => u.elim id fun z => absurd z (by simp)) h2 h3 fun a ha => absurd ha (by simp)⟩
/-- a slot gets a new list as its own -/
theorem R.putOwn {c : Fx} {ρ : Env} {ps : List Addr} {σ : St} {H H' : Hp} (r : R c Γ ρ ps σ H) (e : Stp c H H') {i : Nat} {p : Addr} {vs : List V} {ds : List D} (hi : i < Γ.length) (hn : H p = none) (hp : H' p = some (.lst vs))
    (dn : DenL H' (fun a => c.U ps a ∨ a = p) vs ds) : ∃ ps', R c (Γ.set i .own) (ρ.set i (some (.list ds))) ps' (σ.set i (some (.ref p))) H' := by
  have r' := r.stp e
  have nU := r.new hn
  have sl' : Slots c H' (fun a => c.U ps a ∨ a ∈ [p]) Γ ρ σ ps := r.sl.mono (fun a ha o q => e.keep a o q (r.ownA ha)) (fun a o q n => e.keep a o q (r.nA n)) fun a o q u => u.elim id fun z => by
    rw [List.mem_singleton.mp z, hn] at q; cases q
  have dn' : DenL H' (fun a => c.U ps a ∨ a ∈ [p]) vs ds := dn.mono (fun _ _ q _ => q) fun a o q u => u.imp id fun z => List.mem_singleton.mp z
  obtain ⟨ps', h1, h2, h3⟩ := sl'.put (SlotR.own hp dn') r.nd (by simp) (fun a ha z => nU (.inr (by rw [List.mem_singleton.mp ha] at z; exact z))) hi
  exact ⟨ps', r'.ofSlots (qs := [p]) h1 h2 h3 fun a ha => by
    rw [List.mem_singleton.mp ha]
    exact ⟨r.fresh0 hn, r.nU0 hn⟩⟩

/-! ### blocks -/
def oThen (o : Out) (k : Env → M Out) : M Out := match o with
  | .nx ρ => k ρ
  | o => ret o
def sSeq (f g : Env → M Out) : Env → M Out := fun ρ => bnd (f ρ) fun o => oThen o g
def sNx : Env → M Out := fun ρ => ret (.nx ρ)
theorem sem_nx : SemS s Γl Γ Γ tNext sNx := fun c ρ ps σ H E P hc r q k => k.nx ρ ps σ H q r
theorem sem_seq {t u : TS} {f g : Env → M Out} {Γ1 : List Md} (h : SemS s Γl Γ Γ1 t f) (h' : SemS s Γl Γ1 Γ' u g) : SemS s Γl Γ Γ' (tSeq t u) (sSeq f g) := by
  intro c ρ ps σ H E P hc r q k
  refine h c ρ ps σ H _ _ hc r q ⟨fun ρ' ps' σ' H' p r' => ?_, fun d v H' p fi dn => k.rt d v H' p fi dn, fun ρ' ps' σ' H' p r' => k.bk ρ' ps' σ' H' p r', fun ρ' ps' σ' H' p r' => k.ct ρ' ps' σ' H' p r'⟩
  exact h' c ρ' ps' σ' H' _ _ hc r' p k
def sAsg (i : Nat) (e : Env → M D) : Env → M Out := fun ρ => bnd (e ρ) fun d => ret (.nx (ρ.set i (some d)))
theorem sem_asg {i : Nat} {t : TE} {e : Env → M D} (h : SemE s Γ t e) (hi : i < Γ.length) : SemS s Γl Γ (Γ.set i .fro) (tAsg t (gName i)) (sAsg i e) := by
  intro c ρ ps σ H E P hc r q k
  refine h c ρ ps σ H _ _ hc r q fun d v H1 q1 e1 dn => ?_
  obtain ⟨ps', r'⟩ := (r.stp e1).put hi dn
  exact k.nx _ ps' _ H1 q1 r'
def sOwn (i : Nat) (e : Env → M (List D)) : Env → M Out := fun ρ => bnd (e ρ) fun ds => ret (.nx (ρ.set i (some (.list ds))))
theorem sem_asgOwn {i : Nat} {t : TE} {e : Env → M (List D)} (h : SemL s Γ t e) (hi : i < Γ.length) : SemS s Γl Γ (Γ.set i .own) (tAsg t (gName i)) (sOwn i e) := by
  intro c ρ ps σ H E P hc r q k
  refine h c ρ ps σ H _ _ hc r q fun ds p vs H1 q1 e1 hn hp dn => ?_
  obtain ⟨ps', r'⟩ := r.putOwn e1 hi hn hp dn
  exact k.nx _ ps' _ H1 q1 r'
/-- a target of names: all data -/
def sTgt (e : Env → M D) (g : D → Env → M Env) : Env → M Out := fun ρ => bnd (e ρ) fun d => bnd (g d ρ) fun ρ' => ret (.nx ρ')
theorem sem_tgt {t : TE} {g : TG} {ts : List Nat} {e : Env → M D} {tg : D → Env → M Env} (h : SemE s Γ t e) (hg : SemG s Γ g ts tg) : SemS s Γl Γ Γ (tAsg t g) (sTgt e tg) := by
  intro c ρ ps σ H E P hc r q k
  refine h c ρ ps σ H _ _ hc r q fun d v H1 q1 e1 dn => ?_
  exact hg c ρ ps σ H1 d v _ _ hc (r.stp e1) dn q1 fun ρ' σ' p r' _ _ => k.nx ρ' ps σ' H1 p r'
/-- a, b = x, y (two names) -/
def sPar (i j : Nat) (f : Env → M (List D)) : Env → M Out := fun ρ => bnd (f ρ) fun l => match l with
  | [x, y] => ret (.nx ((ρ.set i (some x)).set j (some y)))
  | _ => stuck
theorem sem_par {i j : Nat} {t : TA} {f : Env → M (List D)} (h : SemA s Γ t f) (hi : Γ[i]? = some .fro) (hj : Γ[j]? = some .fro) : SemS s Γl Γ Γ (tPar i j t) (sPar i j f) := by
  intro c ρ ps σ H E P hc r q k
  refine h c ρ ps σ H _ _ hc r q fun ds vs H1 q1 e1 dn => ?_
  dsimp only at q1
  split at q1
  · cases dn with
    | cons d1 dr =>
      cases dr with
      | cons d2 dr =>
        cases dr
        exact ⟨_, _, rfl, k.nx _ ps _ H1 q1 (((r.stp e1).setFro d1 hi).setFro d2 hj)⟩
  · cases q1
def sPar3 (i j l : Nat) (f : Env → M (List D)) : Env → M Out := fun ρ => bnd (f ρ) fun w => match w with
  | [x, y, z] => ret (.nx (((ρ.set i (some x)).set j (some y)).set l (some z)))
  | _ => stuck
theorem sem_par3 {i j l : Nat} {t : TA} {f : Env → M (List D)} (h : SemA s Γ t f) (hi : Γ[i]? = some .fro) (hj : Γ[j]? = some .fro) (hl : Γ[l]? = some .fro) : SemS s Γl Γ Γ (tPar3 i j l t) (sPar3 i j l f) := by
  intro c ρ ps σ H E P hc r q k
  refine h c ρ ps σ H _ _ hc r q fun ds vs H1 q1 e1 dn => ?_
  dsimp only at q1
  split at q1
  · cases dn with
    | cons d1 dr =>
      cases dr with
      | cons d2 dr =>
        cases dr with
        | cons d3 dr =>
          cases dr
          exact ⟨_, _, _, rfl, k.nx _ ps _ H1 q1 ((((r.stp e1).setFro d1 hi).setFro d2 hj).setFro d3 hl)⟩
  · cases q1
def sRet (e : Env → M D) : Env → M Out := fun ρ => bnd (e ρ) fun d => ret (.rt d)
theorem sem_ret {t : TE} {e : Env → M D} (h : SemE s Γ t e) : SemS s Γl Γ Γ' (tRet t) (sRet e) := by
  intro c ρ ps σ H E P hc r q k
  refine h c ρ ps σ H _ _ hc r q fun d v H1 q1 e1 dn => ?_
  exact k.rt d v H1 q1 (r.stp e1).fin (dn.mono (fun _ _ z _ => z) fun a o z u => .inl u)
def sRetN : Env → M Out := fun _ => ret (.rt .none)
theorem sem_retN : SemS s Γl Γ Γ' tRetN sRetN := fun c ρ ps σ H E P hc r q k => k.rt _ _ H q r.fin .non
def sIf (g : Env → M Bool) (f f' : Env → M Out) : Env → M Out := fun ρ => bnd (g ρ) fun b => if b = true then f ρ else f' ρ
theorem sem_if {t : TT} {u w : TS} {g : Env → M Bool} {f f' : Env → M Out} (hg : SemT s Γ t g) (h : SemS s Γl Γ Γ' u f) (h' : SemS s Γl Γ Γ' w f') : SemS s Γl Γ Γ' (tIfS t u w) (sIf g f f') := by
  intro c ρ ps σ H E P hc r q k
  refine hg c ρ ps σ H _ _ hc r q fun b H1 q1 e1 => ?_
  dsimp only at q1
  cases b with
  | true =>
    rw [if_pos rfl] at q1
    exact iteT (h c ρ ps σ H1 _ _ hc (r.stp e1) q1 k)
  | false =>
    rw [if_neg Bool.false_ne_true] at q1
    exact iteF (h' c ρ ps σ H1 _ _ hc (r.stp e1) q1 k)
def sNever : Env → M Out := fun _ => stuck
theorem sem_never : SemS s Γl Γ Γ' tNever sNever := fun c ρ ps σ H E P hc r q k => False.elim q
def sBk : Env → M Out := fun ρ => ret (.bk ρ)
def sCt : Env → M Out := fun ρ => ret (.ct ρ)
theorem sem_bk : SemS s Γ Γ Γ' tBreak sBk := fun c ρ ps σ H E P hc r q k => k.bk ρ ps σ H q r
theorem sem_ct : SemS s Γ Γ Γ' tCont sCt := fun c ρ ps σ H E P hc r q k => k.ct ρ ps σ H q r

/-! ### own lists -/
theorem Slots.upd1 {c : Fx} {H H' : Hp} {U : AS} {ρ : Env} {σ : St} {ps : List Addr} {p : Addr} {vs : List V} {ds : List D} (h : Slots c H U Γ ρ σ ps) (nd : ps.Nodup) (same : ∀ a o, a ≠ p → H a = some o → H' a = some o) (hU : U p) (hp : H' p = some (.lst vs)) (dn : DenL H' U vs ds) :
    ∀ {i : Nat} {es : List D}, Γ[i]? = some .own → ρ[i]? = some (some (.list es)) → σ[i]? = some (some (.ref p)) → Slots c H' U Γ (ρ.set i (some (.list ds))) σ ps := by
  have e : ∀ a o, H a = some o → ¬ U a → H' a = some o := fun a o q n => same a o (fun z => n (by rw [z]; exact hU)) q
  induction h with
  | nil => intro i es h; simp at h
  | @cons m1 d1 o1 p1 q1 Γ1 ρ1 σ1 h1 h2 ih =>
    intro i es hm hd ho
    have nd' := List.nodup_append.mp nd
    cases i with
    | zero =>
      simp at hm hd ho
      subst hm hd ho
      cases h1 with
      | own a1 a2 =>
        refine .cons (.own hp dn) (h2.mono (fun a ha o q => same a o (fun z => ?_) q) e fun _ _ _ q => q)
        rw [z] at ha
        exact nd'.2.2 p (by simp) p ha rfl
    | succ i =>
      have hm' : Γ1[i]? = some .own := by simpa using hm
      have hd' : ρ1[i]? = some (some (.list es)) := by simpa using hd
      have ho' : σ1[i]? = some (some (.ref p)) := by simpa using ho
      obtain ⟨o, qs, e1, e2, e3⟩ := h2.get hm' hd'
      rw [ho'] at e1
      cases e1
      cases e2 with
      | own a1 a2 =>
        have hpq : p ∈ q1 := e3 p (by simp)
        refine .cons (h1.mono (fun a ha o q => same a o (fun z => ?_) q) e fun _ _ _ q => q) (ih nd'.2.1 hm' hd' ho')
        rw [z] at ha
        exact nd'.2.2 p ha p hpq rfl
/-- the own list in slot i becomes another one -/
theorem R.updOwn {c : Fx} {ρ : Env} {ps : List Addr} {σ : St} {H : Hp} (r : R c Γ ρ ps σ H) {i : Nat} {p : Addr} {xs vs : List V} {es ds : List D} (hm : Γ[i]? = some .own) (hd : ρ[i]? = some (some (.list es))) (ho : σ[i]? = some (some (.ref p)))
    (hp : p ∈ ps) (h : H p = some (.lst xs)) (hz : vs.length ≤ sizeLine) (dn : DenL H (c.U ps) vs ds) : R c Γ (ρ.set i (some (.list ds))) ps σ (upd H p (.lst vs)) where
  ok := r.ok
  keep := fun a o q n => by rw [upd_ne (ne_of_none q (r.own p hp).1)]; exact r.keep a o q n
  there := fun a o q => by rw [upd_ne (ne_of_none q (r.own p hp).1)]; exact r.there a o q
  inv := r.ok.st H _ r.inv fun a o u q => by rw [upd_offm (S := c.A) (r.ownA hp) u]; exact q
  al := fun a u => by rw [upd_offm (S := c.U0) (r.own p hp).2 u]; exact r.al a u
  sz := r.sz.upd fun zs q => by rcases q with q | q <;> cases q; exact hz
  sl := r.sl.upd1 r.nd (fun a o n q => by rw [upd_ne n]; exact q) (.inr hp) upd_same (dn.mono (fun a o q n => by rw [upd_off (S := c.U ps) (.inr hp) n]; exact q) fun _ _ _ q => q) hm hd ho
  nd := r.nd
  own := r.own
theorem R.ownAt {c : Fx} {ρ : Env} {ps : List Addr} {σ : St} {H : Hp} (r : R c Γ ρ ps σ H) {i : Nat} {d : D} (hm : Γ[i]? = some .own) (hd : ρ[i]? = some (some d)) : ∃ p xs ds, σ[i]? = some (some (.ref p)) ∧ d = .list ds ∧ p ∈ ps ∧ H p = some (.lst xs) ∧ DenL H (c.U ps) xs ds := by
  obtain ⟨o, qs, e1, e2, e3⟩ := r.sl.get hm hd
  cases e2 with
  | own a1 a2 => exact ⟨_, _, _, e1, rfl, e3 _ (by simp), a1, a2⟩
/-- i.append(e) -/
def sApp (i : Nat) (e : Env → M D) : Env → M Out := fun ρ => bnd (eVar i ρ) fun l => bnd (e ρ) fun d => match l with
  | .list ds => if lenOk (ds.length + 1) = true then ret (.nx (ρ.set i (some (.list (ds ++ [d]))))) else stuck
  | _ => stuck
theorem sem_app {K : PySem.W.Frag} {i : Nat} {t : TE} {e : Env → M D} (hm : Γ[i]? = some .own) (h : SemE s Γ t e) : SemS s Γl Γ Γ (tDrop (tBM K "list" rAppend (tVar i) (tCons t tNil))) (sApp i e) := by
  intro c ρ ps σ H E P hc r q k
  obtain ⟨l, hl, q⟩ := eVar_get q
  obtain ⟨p, xs, ds, ho, rfl, hp, h1, dn⟩ := r.ownAt hm hl
  refine ⟨_, ho, Or.inl ⟨rfl, _, SqL.of h1⟩, ?_⟩
  refine h c ρ ps σ H _ _ hc r q fun d v H1 q1 e1 d1 => ?_
  have q1 : (if lenOk (ds.length + 1) = true then ret (.nx (ρ.set i (some (.list (ds ++ [d]))))) else stuck) P := q1
  · split at q1
    · rename_i hz
      have hz' := lenOk_sz hz
      have r1 := r.stp e1
      have h1' : H1 p = some (.lst xs) := e1.keep _ _ h1 (r.ownA hp)
      have lz : xs.length < sizeLine := by rw [dn.length]; exact hz'
      refine ⟨p, xs, v, rfl, rfl, h1', lz, k.nx _ ps σ _ q1 (r1.updOwn hm hl ho hp h1' (by rw [List.length_append]; exact lz) ((dn.stp r.ok e1).append (.cons d1 .nil)))⟩
    · exact False.elim q1
/-- i[j] = e -/
def sSetI (i : Nat) (j e : Env → M D) : Env → M Out := fun ρ => bnd (e ρ) fun d => bnd (eVar i ρ) fun l => bnd (j ρ) fun x => match l, x with
  | .list ds, .int n => match ixN ds.length n with | some m => ret (.nx (ρ.set i (some (.list (ds.set m d))))) | none => stuck
  | _, _ => stuck
theorem sem_setI {i : Nat} {t u : TE} {e j : Env → M D} (hm : Γ[i]? = some .own) (h : SemE s Γ t e) (hj : SemV s Γ u j) : SemS s Γl Γ Γ (tAsg t (L2.gSub (tVar i) u rSetL)) (sSetI i j e) := by
  intro c ρ ps σ H E P hc r q k
  refine h c ρ ps σ H _ _ hc r q fun d v H1 q1 e1 d1 => ?_
  have r1 := r.stp e1
  obtain ⟨l, hl, q1⟩ := eVar_get q1
  obtain ⟨p, xs, ds, ho, rfl, hp, h1, dn⟩ := r1.ownAt hm hl
  refine ⟨_, ho, ?_⟩
  refine hj c ρ ps σ H1 _ _ hc r1 q1 fun x w H2 q2 e2 d2 => ?_
  have r2 := r1.stp e2
  cases x with
  | int n =>
    have q2 : (match ixN ds.length n with | some m => ret (Out.nx (ρ.set i (some (.list (ds.set m d))))) | none => (stuck : M Out)) P := q2
    cases z : ixN ds.length n with
    | none => rw [z] at q2; exact False.elim q2
    | some m =>
      rw [z] at q2
      have h2' : H2 p = some (.lst xs) := e2.keep _ _ h1 (r.ownA hp)
      have dn2 := dn.stp r.ok e2
      refine ⟨p, xs, n, m, rfl, d2.int, h2', by rw [dn.length]; exact z, k.nx _ ps σ _ q2 (r2.updOwn hm hl ho hp h2' (by rw [List.length_set]; exact r2.sz p xs (.inl h2')) (DenL.set (d1.stp r.ok e2) m dn2))⟩
  | _ => exact False.elim q2
/-- j = i, i own and not asked again: handed on as a datum -/
def sMove (j i : Nat) : Env → M Out := fun ρ => bnd (eVar i ρ) fun d => ret (.nx ((ρ.set i none).set j (some d)))
theorem R.frozen {c : Fx} {ρ : Env} {ps : List Addr} {σ : St} {H : Hp} (r : R c Γ ρ ps σ H) {i : Nat} {d : D} {p : Addr} (hm : Γ[i]? = some .own) (hd : ρ[i]? = some (some d)) (ho : σ[i]? = some (some (.ref p))) :
    ∃ ps', R c Γ (ρ.set i none) ps' σ H ∧ Den H (c.U ps') (.ref p) d ∧ ∀ a ∈ ps', a ∈ ps := by
  have key : ∀ {Γ : List Md} {ρ : Env} {σ : St} {ps : List Addr} {U : AS}, Slots c H U Γ ρ σ ps → ps.Nodup → ∀ {i : Nat}, Γ[i]? = some .own → ρ[i]? = some (some d) → σ[i]? = some (some (.ref p)) →
      ∃ ps', Slots c H U Γ (ρ.set i none) σ ps' ∧ ps'.Nodup ∧ (∀ a ∈ ps', a ∈ ps) ∧ p ∉ ps' ∧ ∃ vs ds, d = .list ds ∧ H p = some (.lst vs) ∧ DenL H U vs ds := by
    intro Γ ρ σ ps U h
    induction h with
    | nil => intro _ i hm; simp at hm
    | @cons m1 d1 o1 p1 q1 Γ1 ρ1 σ1 h1 h2 ih =>
      intro nd i hm hd ho
      have nd' := List.nodup_append.mp nd
      cases i with
      | zero =>
        simp at hm hd ho
        subst hm hd ho
        cases h1 with
        | own a1 a2 =>
          refine ⟨[] ++ q1, .cons .no h2, nd'.2.1, fun a ha => List.mem_append_right _ ha, fun z => nd'.2.2 p (by simp) p z rfl, _, _, rfl, a1, a2⟩
      | succ i =>
        obtain ⟨ps', s1, s2, s3, s4, s5⟩ := ih nd'.2.1 (i := i) (by simpa using hm) (by simpa using hd) (by simpa using ho)
        have hp : p ∈ q1 := by
          obtain ⟨o, qs, e1, e2, e3⟩ := h2.get (i := i) (by simpa using hm) (by simpa using hd)
          have ho' : σ1[i]? = some (some (.ref p)) := by simpa using ho
          rw [ho'] at e1; cases e1
          cases e2 with
          | own a1 a2 => exact e3 p (by simp)
        refine ⟨p1 ++ ps', .cons h1 s1, List.nodup_append.mpr ⟨nd'.1, s2, fun a ha b hb e => nd'.2.2 a ha b (s3 b hb) e⟩, fun a ha => ?_, fun z => ?_, s5⟩
        · rcases List.mem_append.mp ha with ha | ha
          · exact List.mem_append_left _ ha
          · exact List.mem_append_right _ (s3 a ha)
        · rcases List.mem_append.mp z with z | z
          · exact nd'.2.2 p z p hp rfl
          · exact s4 z
  obtain ⟨ps', h1, h2, h3, h4, vs, ds, rfl, h5, h6⟩ := key r.sl r.nd hm hd ho
  have mon : ∀ a o, H a = some o → c.U ps' a → c.U ps a := fun a o _ u => u.imp id (h3 a)
  have hp : p ∈ ps := by
    obtain ⟨q, xs, es, e1, e2, e3, _⟩ := r.ownAt hm hd
    rw [ho] at e1; cases e1
    exact e3
  refine ⟨ps', r.ofSlots (qs := []) (h1.mono (fun _ _ _ q => q) (fun _ _ q _ => q) fun a o q u => u.elim id fun z => absurd z (by simp)) h2 (fun a ha => .inl (h3 a ha)) fun a ha => absurd ha (by simp),
    .lst h5 (fun u => u.elim (r.own p hp).2 h4) (h6.mono (fun _ _ q _ => q) mon), h3⟩
theorem sem_move {i j : Nat} (hm : Γ[i]? = some .own) (hj : Γ[j]? = some .fro) : SemS s Γl Γ Γ (tAsg (tVar i) (gName j)) (sMove j i) := by
  intro c ρ ps σ H E P hc r q k
  obtain ⟨l, hl, q⟩ := eVar_get q
  obtain ⟨p, xs, ds, ho, e0, hp, h1, dn⟩ := r.ownAt hm hl
  obtain ⟨ps', r', d', _⟩ := r.frozen hm hl ho
  exact ⟨_, ho, k.nx _ ps' _ H q (r'.setFro d' hj)⟩
/-- return of an own list -/
def sRetOwn (i : Nat) : Env → M Out := fun ρ => bnd (eVar i ρ) fun d => ret (.rt d)
theorem sem_retOwn {i : Nat} (hm : Γ[i]? = some .own) : SemS s Γl Γ Γ' (tRet (tVar i)) (sRetOwn i) := by
  intro c ρ ps σ H E P hc r q k
  obtain ⟨l, hl, q⟩ := eVar_get q
  obtain ⟨p, xs, ds, ho, e0, hp, h1, dn⟩ := r.ownAt hm hl
  obtain ⟨ps', r', d', _⟩ := r.frozen hm hl ho
  exact ⟨_, ho, k.rt _ _ H q r.fin (d'.mono (fun _ _ z _ => z) fun a o z u => .inl u)⟩
/-- from here on the own list in slot i is a datum: a step without a text of its own -/
def sFrz (f : Env → M Out) : Env → M Out := f
theorem R.toFro {c : Fx} {ρ : Env} {ps : List Addr} {σ : St} {H : Hp} (r : R c Γ ρ ps σ H) {i : Nat} (hm : Γ[i]? = some .own) : ∃ ps', R c (Γ.set i .fro) ρ ps' σ H := by
  have hi : i < Γ.length := (List.getElem?_eq_some_iff.mp hm).1
  have hl := r.sl.len
  cases hd : ρ[i]? with
  | none => rw [List.getElem?_eq_none_iff] at hd; omega
  | some od =>
    cases od with
    | none =>
      have hs : i < σ.length := by omega
      obtain ⟨ps', r'⟩ := r.forget (i := i) (m := .fro) (o := σ[i]) hi
      have e1 : ρ.set i none = ρ := by
        apply List.ext_getElem?
        intro j
        by_cases e : i = j
        · subst e; rw [List.getElem?_set_self (by omega), hd]
        · rw [List.getElem?_set_ne e]
      rw [e1, List.set_getElem_self] at r'
      exact ⟨ps', r'⟩
    | some d =>
      obtain ⟨p, xs, ds, ho, e0, hp, h1, dn⟩ := r.ownAt hm hd
      obtain ⟨ps', r', d', sub⟩ := r.frozen hm hd ho
      obtain ⟨ps2, r2⟩ := r'.put hi d'
      have e1 : (ρ.set i none).set i (some d) = ρ := by
        rw [List.set_set]
        apply List.ext_getElem?
        intro j
        by_cases e : i = j
        · subst e; rw [List.getElem?_set_self (by omega), hd]
        · rw [List.getElem?_set_ne e]
      have e2 : σ.set i (some (.ref p)) = σ := by
        apply List.ext_getElem?
        intro j
        by_cases e : i = j
        · subst e; rw [List.getElem?_set_self (by omega), ho]
        · rw [List.getElem?_set_ne e]
      rw [e1, e2] at r2
      exact ⟨ps2, r2⟩
theorem sem_frz {i : Nat} {t : TS} {f : Env → M Out} (hm : Γ[i]? = some .own) (h : SemS s Γl (Γ.set i .fro) Γ' t f) : SemS s Γl Γ Γ' t (sFrz f) := by
  intro c ρ ps σ H E P hc r q k
  obtain ⟨ps', r'⟩ := r.toFro hm
  exact h c ρ ps' σ H E P hc r' q k
/-- .. at an end: the slot is forgotten, its mode free -/
theorem sem_end {i : Nat} {m : Md} {t : TS} {f : Env → M Out} (hi : i < Γ.length) (h : SemS s Γl (Γ.set i m) Γ' t f) (hf : ∀ ρ, f ρ = f (ρ.set i none)) : SemS s Γl Γ Γ' t f := by
  intro c ρ ps σ H E P hc r q k
  rw [hf] at q
  have hs : i < σ.length := by have := r.sl.len; omega
  obtain ⟨ps', r'⟩ := r.forget (i := i) (m := m) (o := σ[i]) hi
  rw [List.set_getElem_self] at r'
  exact h c _ ps' σ H E P hc r' q k
end
end Py
/-! PyL: loops. -/
namespace Py
open PySem L2 StX
section
variable {s : Sx} {Γ Γ' Γl : List Md}
/-- the same def, seen from a later place: what stands there is kept too -/
def Fx.at (c : Fx) (ps : List Addr) (H : Hp) : Fx := { c with H0 := fun a => if a ∈ ps then none else H a }
theorem Fx.at_none {c : Fx} {ps : List Addr} {H : Hp} {a : Addr} (h : (c.at ps H).H0 a = none) : a ∈ ps ∨ H a = none := by
  have h' : (if a ∈ ps then none else H a) = none := h
  by_cases q : a ∈ ps
  · exact .inl q
  · rw [if_neg q] at h'; exact .inr h'
theorem Fx.at_some {c : Fx} {ps : List Addr} {H : Hp} {a : Addr} {o : HO} (n : a ∉ ps) (h : H a = some o) : (c.at ps H).H0 a = some o := by
  show (if a ∈ ps then none else H a) = some o
  rw [if_neg n]; exact h
theorem R.enter {c : Fx} {ρ : Env} {ps : List Addr} {σ : St} {H : Hp} (r : R c Γ ρ ps σ H) : R (c.at ps H) Γ ρ ps σ H where
  ok := ⟨r.ok.sub, r.ok.st⟩
  keep := fun a o h _ => by
    have h' : (if a ∈ ps then none else H a) = some o := h
    by_cases q : a ∈ ps
    · rw [if_pos q] at h'; cases h'
    · rw [if_neg q] at h'; exact h'
  there := fun a o h => by
    have h' : (if a ∈ ps then none else H a) = some o := h
    by_cases q : a ∈ ps
    · rw [if_pos q] at h'; cases h'
    · rw [if_neg q] at h'; exact ⟨o, h'⟩
  inv := r.inv
  al := r.al
  sz := r.sz
  sl := Slots.ofSrc (c := c) (c' := c.at ps H) rfl r.sl
  nd := r.nd
  own := fun p hp => ⟨if_pos hp, (r.own p hp).2⟩
theorem R.leave {c : Fx} {ρ ρ0 : Env} {ps ps0 : List Addr} {σ σ0 : St} {H H1 : Hp} {Γ0 : List Md} (r0 : R c Γ0 ρ0 ps0 σ0 H1) (r : R (c.at ps0 H1) Γ ρ ps σ H) : R c Γ ρ ps σ H where
  ok := r0.ok
  keep := fun a o h n => r.keep a o (Fx.at_some (fun z => by rw [(r0.own a z).1] at h; cases h) (r0.keep a o h n)) n
  there := fun a o h => let ⟨o1, h1⟩ := r0.there a o h; r.there a o1 (Fx.at_some (fun z => by rw [(r0.own a z).1] at h; cases h) h1)
  inv := r.inv
  al := r.al
  sz := r.sz
  sl := Slots.ofSrc (c := c.at ps0 H1) (c' := c) rfl r.sl
  nd := r.nd
  own := fun p hp => ⟨(Fx.at_none (r.own p hp).1).elim (fun z => (r0.own p z).1) fun z => r0.fresh0 z, (r.own p hp).2⟩
theorem Fin.leave {c : Fx} {ρ0 : Env} {ps0 : List Addr} {σ0 : St} {H H1 : Hp} {Γ0 : List Md} (r0 : R c Γ0 ρ0 ps0 σ0 H1) (r : Fin (c.at ps0 H1) H) : Fin c H :=
  ⟨fun a o h n => r.keep a o (Fx.at_some (fun z => by rw [(r0.own a z).1] at h; cases h) (r0.keep a o h n)) n,
   fun a o h => let ⟨o1, h1⟩ := r0.there a o h; r.there a o1 (Fx.at_some (fun z => by rw [(r0.own a z).1] at h; cases h) h1), r.inv, r.al, r.sz⟩

def oLoop (o : Out) (k : Env → M Out) : M Out := match o with
  | .nx ρ => k ρ
  | .ct ρ => k ρ
  | .bk ρ => ret (.nx ρ)
  | .rt d => ret (.rt d)
def forW (tg : D → Env → M Env) (body : Env → M Out) : List D → Env → M Out
  | [], ρ => ret (.nx ρ)
  | d :: ds, ρ => bnd (tg d ρ) fun ρ' => bnd (body ρ') fun o => oLoop o (forW tg body ds)
def sFor (its : Env → M (List D)) (tg : D → Env → M Env) (body : Env → M Out) : Env → M Out := fun ρ => bnd (its ρ) fun ds => forW tg body ds ρ
theorem sem_for {wi : TI} {g : TG} {tb : TS} {ts : List Nat} {its : Env → M (List D)} {tg : D → Env → M Env} {body : Env → M Out} (hi : SemI s Γ wi its) (hg : SemG s Γ g ts tg) (hb : SemS s Γ Γ Γ tb body) :
    SemS s Γl Γ Γ (tFor wi g tb) (sFor its tg body) := by
  intro c ρ ps σ H E P hc r q k
  refine hi c ρ ps σ H _ _ hc r q fun ds J H1 q1 e1 it => ?_
  have r1 := r.stp e1
  refine ⟨fun i m σ' H' => m = ds.length - i ∧ i ≤ ds.length ∧ ∃ ρ' ps', R (c.at ps H1) Γ ρ' ps' σ' H' ∧ forW tg body (ds.drop i) ρ' P, ⟨ds.length, by simp, Nat.zero_le _, ρ, ps, r1.enter, q1⟩, ?_⟩
  rintro i m σ' H' ⟨rfl, hle, ρ', ps', r', w⟩
  have lU : Later (c.U ps) H1 H' := fun a o h n => r'.keep a o (Fx.at_some (fun z => n (.inr z)) h) fun z => n (.inl (r1.ok.sub a z))
  by_cases hlt : i < ds.length
  · refine .inr ⟨it.go i H' lU hlt, fun σ2 H2 => ds.length - (i + 1) = ds.length - (i + 1) ∧ i + 1 ≤ ds.length ∧ ∃ ρ2 ps2, R (c.at ps H1) Γ ρ2 ps2 σ2 H2 ∧ forW tg body (ds.drop (i + 1)) ρ2 P, fun σ2 H2 h => ⟨ds.length - (i + 1), by omega, h⟩, fun x H'' y => ?_⟩
    have hd : ds[i]? = some ds[i] := by simp [hlt]
    obtain ⟨same, sz, den⟩ := it.yld i ds[i] H' x H'' lU lU hd y
    have r2 := r'.stp (Stp.same r'.ok same sz)
    have dx : Den H'' ((c.at ps H1).U ps') x ds[i] := den _ (fun a o h u => by
      rcases u with u | u
      · exact .inl u
      · rcases Fx.at_none (r'.own a u).1 with z | z
        · exact .inr z
        · rw [h] at z; cases z) fun a h => r'.new h
    rw [List.drop_eq_getElem_cons hlt] at w
    have hc' : (c.at ps H1).s = s := hc
    refine hg (c.at ps H1) ρ' ps' σ' H'' _ _ _ _ hc' r2 dx w fun ρ2 σ2 w2 r3 _ _ => ?_
    refine hb (c.at ps H1) ρ2 ps' σ2 H'' _ _ hc' r3 w2 ⟨fun ρ3 ps3 σ3 H3 p r4 => ?_, fun d v H3 p fi dn => ?_, fun ρ3 ps3 σ3 H3 p r4 => ?_, fun ρ3 ps3 σ3 H3 p r4 => ?_⟩
    · exact ⟨rfl, hlt, ρ3, ps3, r4, p⟩
    · exact k.rt d v H3 p (fi.leave r1) dn
    · exact k.nx ρ3 ps3 σ3 H3 p (r1.leave r4)
    · exact ⟨rfl, hlt, ρ3, ps3, r4, p⟩
  · have e : i = ds.length := by omega
    subst e
    rw [List.drop_length] at w
    exact .inl ⟨it.stop H' lU, k.nx ρ' ps' σ' H' w (r1.leave r')⟩
def whW (g : Env → M Bool) (body : Env → M Out) : Nat → Env → M Out
  | 0, _ => stuck
  | n + 1, ρ => bnd (g ρ) fun b => if b = true then bnd (body ρ) fun o => oLoop o (whW g body n) else ret (.nx ρ)
def sWhile (fuel : Env → Nat) (g : Env → M Bool) (body : Env → M Out) : Env → M Out := fun ρ => whW g body (fuel ρ) ρ
theorem sem_while {t : TT} {tb : TS} {fuel : Env → Nat} {g : Env → M Bool} {body : Env → M Out} (hg : SemT s Γ t g) (hb : SemS s Γ Γ Γ tb body) : SemS s Γl Γ Γ (tWhile t tb) (sWhile fuel g body) := by
  intro c ρ ps σ H E P hc r q k
  refine ⟨fun m σ' H' => ∃ ρ' ps', R c Γ ρ' ps' σ' H' ∧ whW g body m ρ' P, ⟨fuel ρ, ρ, ps, r, q⟩, ?_⟩
  rintro m σ' H' ⟨ρ', ps', r', w⟩
  cases m with
  | zero => exact False.elim w
  | succ m =>
    refine hg c ρ' ps' σ' H' _ _ hc r' w fun b H1 q1 e1 => ?_
    dsimp only at q1
    cases b with
    | true =>
      rw [if_pos rfl] at q1
      rw [if_pos rfl]
      refine ⟨fun σ2 H2 => ∃ ρ2 ps2, R c Γ ρ2 ps2 σ2 H2 ∧ whW g body m ρ2 P, fun σ2 H2 h => ⟨m, Nat.lt_succ_self m, h⟩, ?_⟩
      exact hb c ρ' ps' σ' H1 _ _ hc (r'.stp e1) q1 ⟨fun ρ3 ps3 σ3 H3 p r4 => ⟨ρ3, ps3, r4, p⟩, fun d v H3 p fi dn => k.rt d v H3 p fi dn, fun ρ3 ps3 σ3 H3 p r4 => k.nx ρ3 ps3 σ3 H3 p r4, fun ρ3 ps3 σ3 H3 p r4 => ⟨ρ3, ps3, r4, p⟩⟩
    | false =>
      rw [if_neg Bool.false_ne_true] at q1
      rw [if_neg Bool.false_ne_true]
      exact k.nx ρ' ps' σ' H1 q1 (r'.stp e1)
end
end Py
/-! PyF: defs and their calls (no repr under way: guards). -/
namespace Py
open PySem PySem.Spec PyProof.Rows L2 StX

section
variable {P : Program} {w : World} {K : PySem.W.Frag} {mg : Str → Option Value} {base : Heap}
structure FnG (P : Program) (w : World) (K : PySem.W.Frag) (mg : Str → Option Value) (base : Heap) (k : Nat) (f : Addr) (fd : FuncData) (ps : List Str) (sp : Sp) : Prop where
  len : ∀ vs H Q E, sp vs H Q E → vs.length = ps.length
  run : ∀ (A : Around) (outer : List PySem.Env) (s : Shared) (H : Hp) (args : Args) (us : List Value) (vs : List V) (Q : VK) (E : XK), A.guards = some [] → Room k A → Env0 P w K mg base A outer s H → BindsTo s fd args (ps.zip us) → Vals vs us → sp vs H Q E →
    codeAny (model P w) A (.call (.ref f) args) (CR CX0 outer P w H s Q E) s
theorem FnG.mono {j k : Nat} {f : Addr} {fd : FuncData} {ps : List Str} {sp : Sp} (F : FnG P w K mg base j f fd ps sp) (h : j ≤ k) : FnG P w K mg base k f fd ps sp :=
  ⟨F.len, fun A outer s H args us vs Q E hg hr => F.run A outer s H args us vs Q E hg (hr.mono h)⟩
theorem guards_deeper (A : Around) (env : PySem.Env) : (A.deeper env).guards = A.guards := rfl
theorem fn_g {k : Nat} {x qual : Str} {st : Stmt} {f : Addr} {fd : FuncData} {N ps : List Str} {sp : Sp} (F : Fun K x qual st f fd) (S : FnScope N ps (defScope st)) (len : ∀ vs H Q E, sp vs H Q E → vs.length = ps.length)
    (hbody : ∀ (cdv : Value) (A : Around) (outer : List PySem.Env) (s : Shared) (H : Hp) (vs : List V) (Q : VK) (E : XK), A.guards = some [] → Room k (A.deeper (envOfC qual (defScope st) s.heap.objs.size f cdv)) → sp vs H Q E →
      ∃ t, PSs (cxOf CX0 P w K mg base N qual (defScope st) f cdv A outer s H E).nox (defBody st) t ∧ t { nx := fun _ H' => Q .non H', rt := Q } (start N vs) H) : FnG P w K mg base (k + 1) f fd ps sp := by
  obtain ⟨oc, od, kV, doc, pm, an, cdv, ct, osl, rfl, lk, hcd⟩ := F.ex
  refine ⟨len, fun A outer s H args us vs Q E hgd hr e0 hb r hsp => ?_⟩
  have hl := len _ _ _ _ hsp
  have inK : K.In s.heap := e0.mod.kin.keeps fun b o e => (e0.bs b o e).1
  have noL : s.heap.NoLimit := e0.mod.nolimit.keeps fun b o e => (e0.bs b o e).1
  have kinds : ∀ y ∈ ps.zip us, (defScope st).names.lookup y.1 = some .local ∨ ((defScope st).names.lookup y.1 = some .cell ∧ ((cellsFrom (s.heap.objs.size + 1) (defScope st).names []).lookup y.1).isSome = true) := by
    rintro ⟨n, v⟩ hy
    rcases S.par n (List.of_mem_zip hy).1 with z | z
    · exact .inl z
    · exact .inr ⟨z, PySem.W.cellsFrom_some _ _ _ (.inl z)⟩
  refine codeAny_call_function hr.depth (inK _ _ lk) rfl S.co S.gen rfl (PySem.W.codeRec_of inK hcd) (hb _ _ _ _ ?_)
  refine wpAny_newFunctionEnv_cells S.kind kinds fun env he s1 xx => ?_
  subst he
  refine ⟨noL.keeps xx.toInCall.keep, codeAny_func ?_⟩
  obtain ⟨t, ht, hq⟩ := hbody cdv A outer s H vs Q E hgd (hr.deeper _) hsp
  have In := inv_start (CX := CX0) (E := E) S hr.hd e0 hl r xx
  refine wpAny_mono (ht.nox.run [] s1 (start N vs) H _ In hq) (fun fl s' hs => ?_) fun e s' hs => hs
  cases fl with
  | ret u =>
    obtain ⟨v, σ', H', J, rv, q⟩ := hs
    exact ⟨v, H', J.os, J.bare, J.base, J.hok, rv, q⟩
  | next =>
    obtain ⟨σ', H', J, q⟩ := hs
    exact ⟨V.non, H', J.os, J.bare, J.base, J.hok, rfl, q⟩
  | brk =>
    obtain ⟨_, _, _, q⟩ := hs
    exact False.elim q
  | cont =>
    obtain ⟨_, _, _, q⟩ := hs
    exact False.elim q
end

section
variable {X : Cx} {k : Nat} {f : Addr} {fd : FuncData} {ps : List Str} {sp : Sp} {x : Str} {p pos : Pos} {e : Expr} {es : List Expr} {t : TA}
theorem run_g {pins : List (Addr × Obj)} {σ : L2.St} {H : Hp} {s : Shared} {Q : VK} {us : List Value} {vs : List V} (F : FnG X.prog X.w X.K X.mg X.base k f fd ps sp) (hgd : X.A.guards = some []) (hr : Room k X.A) (hb : Binds X.K fd ps [])
    (In : Inv X pins σ H s) (r : Vals vs us) (h : sp vs H Q E0) : wpAny (model X.prog X.w) X.A (call (.ref f) us) (EP X pins σ Q) X.xe s := by
  have hl : (us ++ []).length = ps.length := by rw [List.append_nil, ← r.length]; exact F.len _ _ _ _ h
  have hb' := hb s us In.kIn hl
  rw [List.append_nil] at hb'
  refine wpAny_call (codeAny_mono (F.run X.A X.stack s H ⟨us, []⟩ us vs Q E0 hgd hr In.env0 hb' r h) fun rr s' hq => ?_)
  cases rr with
  | error e => exact False.elim hq
  | ok fl =>
    cases fl with
    | ret u => exact In.after hq
    | next => exact False.elim hq
    | brk => exact False.elim hq
    | cont => exact False.elim hq
def tCallG (sp : Sp) (t : TA) : TE := fun σ H Q => t σ H fun vs H1 => sp vs H1 Q E0
theorem pe_callG (F : FnG X.prog X.w X.K X.mg X.base k f fd ps sp) (hgd : X.A.guards = some []) (hr : Room k X.A) (hg : Gl X x) (hm : X.mg x = some (.ref f)) (hk : PySem.W.keepIn X.K (.ref f) = true) (hb : Binds X.K fd ps [])
    (ha : PA X (e :: es) t) (hdb : (x == ("__debug__" : Str)) = false := by decide) (he : starEach (e :: es) X.env = (false, eval e X.env) :: starEach es X.env := by rfl) (hpl : (backTo pos (starEach es X.env)).any (·.1) = false := by rfl) :
    PE X (.Call (.Name x p) (e :: es) [] pos) (tCallG sp t) := by
  refine ⟨fun pn st sg Hh Qq In hw => ?_⟩
  refine wpAny_Call_Name_kw (ld_glob In hg hm ?_ hdb)
  refine PySem.W.callWith_K (h₀ := X.base) In.ok.mod.kin hk (thn (ha.run pos pn st sg Hh _ In hw) fun us s1 ⟨vs, H1, I1, r, q⟩ => ⟨I1.kIn, ?_⟩) he hpl
  exact run_g F hgd hr hb I1 r q
end

/-! ### promises by functions of data -/
def pureS : Sx := ⟨fun _ => False, fun _ => True, 0⟩
structure SxOk (s : Sx) : Prop where
  st : ∀ H H', s.J H → (∀ a o, s.A a → H a = some o → H' a = some o) → s.J H'
theorem pureOk : SxOk pureS := ⟨fun _ _ _ _ => trivial⟩
def outD : Out → M D
  | .rt d => ret d
  | .nx _ => ret .none
  | _ => stuck
/-- the function of data that a body is: N places, the parameters first -/
def fnD (m : Nat) (f : Env → M Out) : List D → M D := fun ds => bnd (f (ds.map some ++ List.replicate m none)) outD
/-- what a call wants: the arguments' data, what may change (U) -/
structure Call (s : Sx) (F : List D → M D) (vs : List V) (H : Hp) (Q : VK) (ds : List D) (U : AS) (P : D → Prop) : Prop where
  den : DenL H U vs ds
  sub : ∀ a, s.A a → U a
  al : Loose H U
  sz : Sz H
  inv : s.J H
  run : F ds P
  out : ∀ d v H', P d → Stp ⟨s, U, H⟩ H H' → Den H' U v d → Q v H'
def spP (n : Nat) (F : List D → M D) : Sp := fun vs H Q _ => vs.length = n ∧ ∃ ds U P, Call pureS F vs H Q ds U P
/-- the first argument is the source -/
def spS (s : Sx) (n : Nat) (F : List D → M D) : Sp := fun vs H Q _ => vs.length = n + 1 ∧ ∃ ws, vs = .ref s.src :: ws ∧ ∃ ds U P, Call s F ws H Q ds U P
theorem slots_start {c : Fx} {H : Hp} {U : AS} {Γr : List Md} : ∀ {vs : List V} {ds : List D}, DenL H U vs ds → Slots c H U (List.replicate ds.length .fro ++ Γr) (ds.map some ++ List.replicate Γr.length none) (vs.map some ++ List.replicate Γr.length none) []
  | _, _, .nil => by
    show Slots c H U Γr (List.replicate Γr.length none) (List.replicate Γr.length none) []
    induction Γr with
    | nil => exact .nil
    | cons m Γr ih =>
      have := Slots.cons (SlotR.no (c := c) (H := H) (U := U) (m := m) (o := none)) ih
      exact this
  | _, _, .cons h t => by
    have := Slots.cons (SlotR.fro (c := c) h) (slots_start (c := c) (Γr := Γr) t)
    exact this
theorem U_nil {c : Fx} : ∀ a, c.U [] a → c.U0 a := fun a u => u.elim id fun z => absurd z (by simp)
/-- the body of a def without the source -/
theorem body_p {n m : Nat} {N : List Str} {Γr Γ' Γl : List Md} {t : TS} {f : Env → M Out} {vs : List V} {H : Hp} {Q : VK} {E : XK} (h : SemS pureS Γl (List.replicate n .fro ++ Γr) Γ' t f) (hN : N.length = n + m) (hm : Γr.length = m)
    (hs : spP n (fnD m f) vs H Q E) : t { nx := fun _ H' => Q .non H', rt := Q } (start N vs) H := by
  obtain ⟨hl, ds, U, P, C⟩ := hs
  have dl : ds.length = n := by rw [← C.den.length]; exact hl
  have ok : Fx.Ok ⟨pureS, U, H⟩ := ⟨C.sub, pureOk.st⟩
  have r0 : R ⟨pureS, U, H⟩ (List.replicate n .fro ++ Γr) (ds.map some ++ List.replicate m none) [] (start N vs) H := by
    refine ⟨ok, fun a o q _ => q, fun a o q => ⟨o, q⟩, C.inv, C.al, C.sz, ?_, List.nodup_nil, fun p hp => absurd hp (by simp)⟩
    have e1 : L2.start N vs = vs.map some ++ List.replicate Γr.length none := by
      unfold L2.start
      rw [hN, hl, hm, Nat.add_sub_cancel_left]
    rw [e1, ← dl, ← hm]
    exact slots_start (C.den.mono (fun _ _ q _ => q) fun a _ _ u => U_nil a u)
  refine h ⟨pureS, U, H⟩ _ [] _ H _ _ rfl r0 C.run ⟨fun ρ ps σ H' p r => ?_, fun d v H' p fi dn => ?_, fun ρ ps σ H' p r => False.elim p, fun ρ ps σ H' p r => False.elim p⟩
  · exact C.out .none .non H' p ⟨fun a o q n => r.keep a o q n, r.there, fun _ => r.inv, fun _ => r.al, fun _ => r.sz⟩ .non
  · exact C.out d v H' p ⟨fun a o q n => fi.keep a o q n, fi.there, fun _ => fi.inv, fun _ => fi.al, fun _ => fi.sz⟩ dn
/-- with the source in the first place -/
def fnS (m : Nat) (f : Env → M Out) : List D → M D := fun ds => bnd (f (some .none :: (ds.map some ++ List.replicate m none))) outD
theorem body_s {s : Sx} (so : SxOk s) {n m : Nat} {N : List Str} {Γr Γ' Γl : List Md} {t : TS} {f : Env → M Out} {vs : List V} {H : Hp} {Q : VK} {E : XK} (h : SemS s Γl (.src :: (List.replicate n .fro ++ Γr)) Γ' t f) (hN : N.length = n + 1 + m) (hm : Γr.length = m)
    (hs : spS s n (fnS m f) vs H Q E) : t { nx := fun _ H' => Q .non H', rt := Q } (start N vs) H := by
  obtain ⟨hl, ws, rfl, ds, U, P, C⟩ := hs
  have hl' : ws.length = n := by simpa using hl
  have dl : ds.length = n := by rw [← C.den.length]; exact hl'
  have ok : Fx.Ok ⟨s, U, H⟩ := ⟨C.sub, so.st⟩
  have r0 : R ⟨s, U, H⟩ (.src :: (List.replicate n .fro ++ Γr)) (some .none :: (ds.map some ++ List.replicate m none)) [] (start N (.ref s.src :: ws)) H := by
    refine ⟨ok, fun a o q _ => q, fun a o q => ⟨o, q⟩, C.inv, C.al, C.sz, ?_, List.nodup_nil, fun p hp => absurd hp (by simp)⟩
    have e1 : L2.start N (.ref s.src :: ws) = some (.ref s.src) :: (ws.map some ++ List.replicate Γr.length none) := by
      unfold L2.start
      rw [hN, hl, hm, Nat.add_sub_cancel_left]
      rfl
    rw [e1, ← dl, ← hm]
    have q := slots_start (c := ⟨s, U, H⟩) (Γr := Γr) (C.den.mono (fun _ _ q _ => q) fun a _ _ u => U_nil (c := ⟨s, U, H⟩) a u)
    exact Slots.cons (SlotR.src (c := ⟨s, U, H⟩) (d := .none)) q
  refine h ⟨s, U, H⟩ _ [] _ H _ _ rfl r0 C.run ⟨fun ρ ps σ H' p r => ?_, fun d v H' p fi dn => ?_, fun ρ ps σ H' p r => False.elim p, fun ρ ps σ H' p r => False.elim p⟩
  · exact C.out .none .non H' p ⟨fun a o q n => r.keep a o q n, r.there, fun _ => r.inv, fun _ => r.al, fun _ => r.sz⟩ .non
  · exact C.out d v H' p ⟨fun a o q n => fi.keep a o q n, fi.there, fun _ => fi.inv, fun _ => fi.al, fun _ => fi.sz⟩ dn

section
variable {s : Sx} {Γ : List Md}
def eCall (n : Nat) (F : List D → M D) (f : Env → M (List D)) : Env → M D := fun ρ => bnd (f ρ) fun ds => if ds.length = n then F ds else stuck
theorem sem_call {n : Nat} {F : List D → M D} {t : TA} {f : Env → M (List D)} (h : SemA s Γ t f) : SemE s Γ (tCallG (spP n F) t) (eCall n F f) := by
  intro c ρ ps σ H Q P hc r q k
  refine h c ρ ps σ H _ _ hc r q fun ds vs H1 q1 e1 dn => ?_
  have r1 := r.stp e1
  dsimp only at q1
  split at q1
  · rename_i hl
    refine ⟨dn.length.trans hl, ds, c.U ps, P, dn, fun a z => False.elim z, r1.loose, r1.sz, trivial, q1, fun d v H2 p e2 d2 => ?_⟩
    have same : ∀ a o, H1 a = some o → H2 a = some o := fun a o q => e2.keep a o q fun z => False.elim z
    exact k d v H2 p (e1.trans (Stp.same r.ok same e2.sz)) d2
  · exact False.elim q1
/-- a call that draws from the source -/
def eCallS (i n : Nat) (F : List D → M D) (f : Env → M (List D)) : Env → M D := fun ρ => bnd (eVar i ρ) fun _ => eCall n F f ρ
theorem sem_callS {i n : Nat} {F : List D → M D} {t : TA} {f : Env → M (List D)} (hi : Γ[i]? = some .src) (h : SemA s Γ t f) : SemE s Γ (tCallG (spS s n F) (tCons (tVar i) t)) (eCallS i n F f) := by
  intro c ρ ps σ H Q P hc r q k
  subst hc
  obtain ⟨d0, hd, q⟩ := eVar_get q
  obtain ⟨o, qs, ho, hs, _⟩ := r.sl.get hi hd
  cases hs with
  | src =>
    refine ⟨_, ho, ?_⟩
    refine h c ρ ps σ H _ _ rfl r q fun ds vs H1 q1 e1 dn => ?_
    have r1 := r.stp e1
    dsimp only at q1
    split at q1
    · rename_i hl
      refine ⟨congrArg (· + 1) (dn.length.trans hl), vs, rfl, ds, c.U ps, P, dn, fun a z => .inl (r.ok.sub a z), r1.loose, r1.sz, r1.inv, q1, fun d v H2 p e2 d2 => ?_⟩
      exact k d v H2 p (e1.trans ⟨e2.keep, e2.there, e2.inv, fun _ a u => e2.al r1.loose a (.inl u), e2.sz⟩) d2
    · exact False.elim q1
end
end Py
section
set_option maxHeartbeats 1000000
/-! PyG: builtin functions: their readings over any data. -/
namespace Py
open PySem L2 StX PyProof.Rows
open PySem.W (AlikeAll minD maxD min_list_data min_tuple_data max_list_data max_tuple_data dataLe dataKind SortsAt AllAlike Sortable EachIs)

section
variable {X : Cx}
/-! ### in, not in -/
def rInX (neg : Bool) (K : PySem.W.Frag) : R2 := fun x y H Q => ∃ d ds, Dp K H x d ∧ (Dp K H y (.list ds) ∨ Dp K H y (.tuple ds)) ∧ shp d = true ∧ PyData.canLayAll0 ds = true ∧ Q (.bl (xor neg (ds.any fun z => PyData.eqv z d))) H
theorem room_shp {A : Around} {d : D} {n : Nat} (h : shp d = true) (hu : A.units + 65 < cLine) : A.units + 1 + min n d.depth < cLine := by
  have h' : (d.canLay0 && decide (d.depth ≤ 64)) = true := h
  rw [Bool.and_eq_true] at h'
  have := of_decide_eq_true h'.2
  omega
theorem op_inX (hu : X.A.units + 65 < cLine) : OpR X (compareOp .In) (rInX false X.K) := by
  intro pins s σ H x y v u Q I rx ry h
  obtain ⟨d, ds, hd, he, sd, se, q⟩ := h
  obtain ⟨as, r1⟩ := Dp.reads I d x v hd rx
  rcases he with he | he
  · obtain ⟨bs, r2⟩ := Dp.reads I (.list ds) y u he ry
    exact SeqAt.in_list_reads r2 r1 se (shp_lay sd) (room_shp sd hu) ⟨.bl _, H, I, rfl, by simpa using q⟩
  · obtain ⟨bs, r2⟩ := Dp.reads I (.tuple ds) y u he ry
    exact SeqAt.in_tuple_reads r2 r1 se (shp_lay sd) (room_shp sd hu) ⟨.bl _, H, I, rfl, by simpa using q⟩
theorem op_notInX (hu : X.A.units + 65 < cLine) : OpR X (compareOp .NotIn) (rInX true X.K) := by
  intro pins s σ H x y v u Q I rx ry h
  obtain ⟨d, ds, hd, he, sd, se, q⟩ := h
  obtain ⟨as, r1⟩ := Dp.reads I d x v hd rx
  rcases he with he | he
  · obtain ⟨bs, r2⟩ := Dp.reads I (.list ds) y u he ry
    exact SeqAt.notIn_list_reads r2 r1 se (shp_lay sd) (room_shp sd hu) ⟨.bl _, H, I, rfl, by simpa using q⟩
  · obtain ⟨bs, r2⟩ := Dp.reads I (.tuple ds) y u he ry
    exact SeqAt.notIn_tuple_reads r2 r1 se (shp_lay sd) (room_shp sd hu) ⟨.bl _, H, I, rfl, by simpa using q⟩

/-! ### < of alike data -/
def cmpOk (x y : D) : Bool := W.alike x y && shp x && !isNonD x
def rLtD (K : PySem.W.Frag) : R2 := fun x y H Q => ∃ d e, Dp K H x d ∧ Dp K H y e ∧ cmpOk d e = true ∧ Q (.bl (W.dataLt d e)) H
theorem ne_non {d : D} (h : isNonD d = false) : d ≠ .none := fun e => by rw [e] at h; cases h
theorem cmpOk_of {x y : D} (h : cmpOk x y = true) : W.alike x y = true ∧ x.depth ≤ 64 ∧ x ≠ .none := by
  unfold cmpOk at h
  rw [Bool.and_eq_true, Bool.and_eq_true] at h
  have h' : (x.canLay0 && decide (x.depth ≤ 64)) = true := h.1.2
  rw [Bool.and_eq_true] at h'
  exact ⟨h.1.1, of_decide_eq_true h'.2, ne_non (by simpa using h.2)⟩
theorem op_ltD (hu : X.A.units + 65 < cLine) : OpR X (compareOp .Lt) (rLtD X.K) := by
  intro pins s σ H x y v u Q I rx ry h
  obtain ⟨d, e, hd, he, ok, q⟩ := h
  obtain ⟨as, r1⟩ := Dp.reads I d x v hd rx
  obtain ⟨bs, r2⟩ := Dp.reads I e y u he ry
  obtain ⟨k1, k2, k3⟩ := cmpOk_of ok
  exact W.rcLt_alike d e _ s v u as bs r1 r2 k1 k3 (by omega) _ _ _ _ ⟨.bl _, H, I, rfl, q⟩

/-! ### min, max of a list or a tuple of alike data -/
theorem Dp.at' {K : PySem.W.Frag} {H : Hp} : ∀ {vs : List V} {ds : List D}, DpAll K H vs ds → ∀ {i : Nat} {v : V}, vs[i]? = some v → ∃ d, ds[i]? = some d ∧ Dp K H v d
  | _, _, .nil, i, v, e => by simp at e
  | _, _, .cons h t, 0, v, e => by simp at e; subst e; exact ⟨_, rfl, h⟩
  | _, _, .cons h t, i + 1, v, e => by
    obtain ⟨d, e1, e2⟩ := Dp.at' t (i := i) (by simpa using e)
    exact ⟨d, by simpa using e1, e2⟩
theorem vals_at' : ∀ {vs : List V} {us : List Value}, Vals vs us → ∀ {i : Nat} {u : Value}, us[i]? = some u → ∃ v, vs[i]? = some v ∧ RelV v u
  | _, _, .nil, i, u, e => by simp at e
  | _, _, .cons r t, 0, u, e => by simp at e; subst e; exact ⟨_, rfl, r⟩
  | _, _, .cons r t, i + 1, u, e => by
    obtain ⟨v, e1, e2⟩ := vals_at' t (i := i) (by simpa using e)
    exact ⟨v, by simpa using e1, e2⟩
def alls (ds : List D) : Bool := ds.all fun x => shp x && !isNonD x && ds.all fun y => W.alike x y
theorem alls_of {ds : List D} (h : alls ds = true) : AlikeAll ds ∧ PyData.depthAll ds ≤ 64 ∧ PyData.canLayAll0 ds = true ∧ (∀ d ∈ ds, d.depth ≤ 64) := by
  unfold alls at h
  have h1 : ∀ x ∈ ds, shp x = true ∧ isNonD x = false ∧ ∀ y ∈ ds, W.alike x y = true := fun x hx => by
    have h2 := List.all_eq_true.mp h x hx
    rw [Bool.and_eq_true, Bool.and_eq_true] at h2
    exact ⟨h2.1.1, by simpa using h2.1.2, fun y hy => List.all_eq_true.mp h2.2 y hy⟩
  have dp : ∀ d ∈ ds, d.depth ≤ 64 := fun d hd => by
    have h' : (d.canLay0 && decide (d.depth ≤ 64)) = true := (h1 d hd).1
    rw [Bool.and_eq_true] at h'
    exact of_decide_eq_true h'.2
  refine ⟨⟨fun x hx y hy => (h1 x hx).2.2 y hy, fun x hx => ne_non (h1 x hx).2.1⟩, ?_, ?_, dp⟩
  · clear h h1
    induction ds with
    | nil => exact Nat.zero_le _
    | cons d ds ih =>
      exact Nat.max_le.mpr ⟨dp d (by simp), ih fun x hx => dp x (by simp [hx])⟩
  · have h3 : ∀ d ∈ ds, d.canLay0 = true := fun d hd => shp_lay (h1 d hd).1
    clear h h1 dp
    induction ds with
    | nil => rfl
    | cons d ds ih =>
      show (d.canLay0 && PyData.canLayAll0 ds) = true
      rw [h3 d (by simp), ih fun x hx => h3 x (by simp [hx])]; rfl
/-- the items of a list or a tuple -/
def SqAny (K : PySem.W.Frag) (H : Hp) (a : Addr) (vs : List V) : Prop := SqL K H a vs ∨ SqT K H a vs
def rBest (f : D → List D → D) (K : PySem.W.Frag) : List V → Hp → VK → Prop := fun xs H Q => ∃ a vs d ds, xs = [.ref a] ∧ SqAny K H a vs ∧ DpAll K H vs (d :: ds) ∧ alls (d :: ds) = true ∧ ∀ (i : Nat) v, vs[i]? = some v → (d :: ds)[i]? = some (f d ds) → Q v H
theorem best_fin {pins : List (Addr × Obj)} {s : Shared} {σ : L2.St} {H : Hp} {Q : VK} {vs : List V} {its : List Value} {d : D} {ds : List D} {f : D → List D → D} (I : Inv X pins σ H s) (rv : Vals vs its) (hd : DpAll X.K H vs (d :: ds)) (ok : alls (d :: ds) = true) (hf : f d ds ∈ d :: ds)
    (q : ∀ (i : Nat) v, vs[i]? = some v → (d :: ds)[i]? = some (f d ds) → Q v H) {i : Nat} {v : Value} {h' : Heap} {tk : Nat} {bs : List Addr} (hv : its.toArray[i]? = some v) (r : Reads h' v (f d ds) bs) (hk : ∀ b o, s.heap.get? b = some o → h'.get? b = some o) :
    EP X pins σ Q v { s with heap := h', toks := tk } := by
  obtain ⟨w, e1, e2⟩ := vals_at' rv (i := i) (u := v) (by simpa using hv)
  obtain ⟨g, e3, e4⟩ := Dp.at' hd e1
  obtain ⟨cs, r'⟩ := Dp.reads I g w v e4 e2
  obtain ⟨ha, _, _, _⟩ := alls_of ok
  have hg : g ∈ d :: ds := List.mem_of_getElem? e3
  have e : g = f d ds := W.alike_unique g (f d ds) v cs bs (ha.1 g hg _ hf) (Reads.keeps hk r') r
  subst e
  exact ⟨w, H, I.kept hk, e2, q i w e1 e3⟩
theorem fold_mem (g : D → D → D) (hg : ∀ a y, g a y = a ∨ g a y = y) : ∀ (xs : List D) (x : D), xs.foldl g x ∈ x :: xs
  | [], x => by simp
  | y :: ys, x => by
    rw [List.foldl_cons]
    rcases List.mem_cons.mp (fold_mem g hg ys (g x y)) with h | h
    · rw [h]
      rcases hg x y with e | e <;> rw [e] <;> simp
    · simp [h]
theorem minD_mem (x : D) (xs : List D) : minD x xs ∈ x :: xs := fold_mem _ (fun a y => by
  by_cases h : W.dataLt y a = true
  · exact .inr (if_pos h)
  · exact .inl (if_neg h)) xs x
theorem maxD_mem (x : D) (xs : List D) : maxD x xs ∈ x :: xs := fold_mem _ (fun a y => by
  by_cases h : W.dataLt a y = true
  · exact .inr (if_pos h)
  · exact .inl (if_neg h)) xs x
theorem cr_minD (hc : X.calm = true) (hu : X.A.units + 66 < cLine) : CallR X (.builtin "min") (rBest minD X.K) := by
  intro pins s σ H xs us Q I r h
  obtain ⟨a, vs, d, ds, rfl, hs, hd, ok, q⟩ := h
  obtain ⟨ha, hdp, _, _⟩ := alls_of ok
  rw [Vals.ref1 r]
  rcases hs with hs | hs
  · obtain ⟨its, rv, hl, _⟩ := I.list hs
    obtain ⟨as, hr⟩ := Dp.readsAll I _ _ _ hd rv
    exact min_list_data (I.ok.hd hc) hl.isList (by simpa using hr) ha (by omega) fun i v h' tk bs hv hr' hk => best_fin I rv hd ok (minD_mem d ds) q hv hr' hk
  · obtain ⟨its, rv, hl, _⟩ := I.tuple hs
    obtain ⟨as, hr⟩ := Dp.readsAll I _ _ _ hd rv
    exact min_tuple_data (I.ok.hd hc) hl (by simpa using hr) ha (by omega) fun i v h' tk bs hv hr' hk => best_fin I rv hd ok (minD_mem d ds) q hv hr' hk
theorem cr_maxD (hc : X.calm = true) (hu : X.A.units + 66 < cLine) : CallR X (.builtin "max") (rBest maxD X.K) := by
  intro pins s σ H xs us Q I r h
  obtain ⟨a, vs, d, ds, rfl, hs, hd, ok, q⟩ := h
  obtain ⟨ha, hdp, _, _⟩ := alls_of ok
  rw [Vals.ref1 r]
  rcases hs with hs | hs
  · obtain ⟨its, rv, hl, _⟩ := I.list hs
    obtain ⟨as, hr⟩ := Dp.readsAll I _ _ _ hd rv
    exact max_list_data (I.ok.hd hc) hl.isList (by simpa using hr) ha (by omega) fun i v h' tk bs hv hr' hk => best_fin I rv hd ok (maxD_mem d ds) q hv hr' hk
  · obtain ⟨its, rv, hl, _⟩ := I.tuple hs
    obtain ⟨as, hr⟩ := Dp.readsAll I _ _ _ hd rv
    exact max_tuple_data (I.ok.hd hc) hl (by simpa using hr) ha (by omega) fun i v h' tk bs hv hr' hk => best_fin I rv hd ok (maxD_mem d ds) q hv hr' hk

/-! ### repr -/
def rpOk (d : D) : Bool := d.showable && !d.hasDict && d.canLay0 && decide (d.depth ≤ 64) && decide (d.shown.length ≤ sizeLine)
def rRepr (K : PySem.W.Frag) : List V → Hp → VK → Prop := fun xs H Q => ∃ x d, xs = [x] ∧ Dp K H x d ∧ rpOk d = true ∧ Q (.str d.shown) H
theorem cr_repr (hg : X.A.guards = some []) (hu : X.A.units + 66 < cLine) : CallR X (.builtin "repr") (rRepr X.K) := by
  intro pins s σ H xs us Q I r h
  obtain ⟨x, d, rfl, hd, ok, q⟩ := h
  unfold rpOk at ok
  simp only [Bool.and_eq_true, decide_eq_true_eq] at ok
  obtain ⟨⟨⟨⟨o1, o2⟩, o3⟩, o4⟩, o5⟩ := ok
  obtain ⟨u, rfl, rx⟩ := vals1 r
  have fin : ∀ tk t, EP X pins σ Q (.str d.shown t) { s with toks := tk } := fun tk t => ⟨.str d.shown, H, I.tok tk, ⟨t, rfl⟩, q⟩
  have obj : ∀ a, u = .ref a → wpAny (model X.prog X.w) X.A (call (.builtin "repr") [u]) (EP X pins σ Q) X.xe s := fun a e => by
    obtain ⟨as, rd⟩ := Dp.reads I d x u hd rx
    rw [e] at rd ⊢
    exact repr_of_reads' rd o1 (fun z => by rw [z] at o2; cases o2) hg (by omega) (fun _ _ q => q) (fun h' t tk hk => ⟨.str d.shown, H, I.kept hk, ⟨t, rfl⟩, q⟩) o5
  cases hd with
  | non =>
    cases rx
    exact P.repr_of_none (fin _ _)
  | bl b =>
    cases rx
    exact P.repr_of_bool (by
      have := fin (s.toks + 1) s.toks
      cases b <;> exact this)
  | int i =>
    obtain ⟨t, rfl⟩ := rx
    exact P.repr_of_int (of_decide_eq_true o1) (fin _ _)
  | str w =>
    obtain ⟨t, rfl⟩ := rx
    exact P.repr_of_str (fin _ _) o5
  | lst hs ha => cases rx; exact obj _ rfl
  | tup hs ha => cases rx; exact obj _ rfl
end
end Py
end
section
set_option maxHeartbeats 1000000
/-! PyH: sorted of data (a first empty tuple among them too), tuple * int. -/
namespace Py
open PySem L2 StX PyProof.Rows PySem.Calls
open PySem.W (AlikeAll dataLe dataKind SortsAt AllAlike Sortable EachIs kas_first_eq kas_mapM looks_reads sortingHeap copyHeap sorted_vals sortVals_data each_keys dataKind_some dataKind_inv rcLt_alike eqAt_alikeAll rcLt_alikeAll firstLt_toks Looks)

section
variable {prog : Program} {w : World} {M : Model} {A : Around} {E : Value → Shared → Prop} {s : Shared}
/-- the first items of tuples, or none -/
theorem firsts_any : ∀ (vs : List Value) (xss : List (List Value)) {Q : List (Option Value) → Shared → Prop}, EachIs (fun v xs => ∃ a o n, v = Value.ref a ∧ s.heap.get? a = some o ∧ o.cls = .type "tuple" ∧ o.data = .seq (List.toArray xs) n) vs xss → Q (xss.map fun xs => xs[0]?) s →
    wpAny M A (vs.mapM firstOfTuple') Q E s
  | [], _, _, t, h => by cases t; rw [List.mapM_nil]; exact wpAny_pure h
  | v :: vs, _, Q, t, h => by
    cases t with
    | @cons _ xs _ xss t1 t2 =>
      obtain ⟨a, o, n, rfl, ho, hc, hd⟩ := t1
      rw [List.mapM_cons]
      refine wpAny_bind ?_
      rw [kas_first_eq]
      refine wpAny_bind (Looks.here (show Looks M s.heap (typeOf (.ref a)) o.cls from (Looks.ld ho).andThen .now) ?_)
      rw [hc, if_neg (by first | decide | simp)]
      refine wpAny_bind (listItems_at ho hd (wpAny_pure ?_))
      exact wpAny_bind (firsts_any vs xss (Q := fun bs s' => wpAny M A (pure ((List.toArray xs)[0]? :: bs)) Q E s') t2 (wpAny_pure (by simpa using h)))
theorem kind_empty {v : Value} {vs : List Value} {xss : List (List Value)} {Q : SortKind → Shared → Prop} (t : EachIs (fun v xs => ∃ a o n, v = Value.ref a ∧ s.heap.get? a = some o ∧ o.cls = .type "tuple" ∧ o.data = .seq (List.toArray xs) n) (v :: vs) ([] :: xss)) (h : Q oneType' s) :
    wpAny M A (keyKind' (List.toArray (v :: vs))) Q E s := by
  have hT : ∀ u ∈ v :: vs, Looks M s.heap (typeOf u) (.type "tuple") := fun u hu => by
    obtain ⟨xs, _, a, o, n, rfl, ho, hc, hd⟩ := t.left u hu
    rw [← hc]
    exact (Looks.ld ho).andThen .now
  rw [keyKind'_eq, List.mapM_toArray, map_eq_pure_bind]
  refine wpAny_bind (wpAny_bind (firsts_any _ _ t (wpAny_pure ?_)))
  rw [if_neg (by simp), if_neg (by simp)]
  rw [oneTypeOnly'_eq, List.mapM_toArray, map_eq_pure_bind]
  refine wpAny_bind (wpAny_bind (wpAny_bind (kas_mapM (r := Value.type "tuple") _ (fun v hv Q' hq => (hT v hv).here hq) (wpAny_pure ?_))))
  have hall : ((List.map (fun _ => Value.type "tuple") (v :: vs)).toArray.all fun x => x == Value.type "tuple") = true := by
    simp only [List.all_toArray, List.all_map, List.all_eq_true]
    intro _ _
    exact beq_self_eq_true _
  have h0 : (List.map (fun _ => Value.type "tuple") (v :: vs)).toArray[0]? = some (Value.type "tuple") := by simp
  rw [h0]
  simp only [hall, if_true]
  exact wpAny_pure (wpAny_pure h)
theorem oneLt_tuple {xs ys : List D} {a b : Value} {as bs : List Addr} {Q : Bool → Shared → Prop} (ra : Reads s.heap a (.tuple xs) as) (rb : Reads s.heap b (.tuple ys) bs) (h : W.alikeAll xs ys = true)
    (hu : A.units + min (PyData.depth (.tuple xs)) (PyData.depth (.tuple ys)) < cLine) (hq : Q (W.dataLt (.tuple xs) (.tuple ys)) s) : wpAny (model prog w) A (oneLt' true a b) Q E s := by
  cases ra with
  | @tuple l o vs n _ as₁ h1 h2 h3 h4 =>
    cases rb with
    | @tuple l' o' vs' n' _ bs₁ k1 k2 k3 k4 =>
      have n1 : vs.size = xs.length := by simpa using SeqAt.ReadsAll.length _ _ _ h4
      have n2 : vs'.size = ys.length := by simpa using SeqAt.ReadsAll.length _ _ _ k4
      rw [W.dataLt_tuple, ← W.firstLt_toks xs ys h, ← n1, ← n2] at hq
      rw [oneLt'_eq]
      simp only [if_true]
      refine wpAny_bind (wpAny_cRoomFor (SeqAt.room_here hu) ?_)
      obtain ⟨cls, dd, data, sl⟩ := o
      obtain ⟨cls', dd', data', sl'⟩ := o'
      simp only at h2 h3 k2 k3
      subst h2 h3 k2 k3
      refine wpAny_bind (wpAny_callSpecialIfBound?_slot (T := "tuple") ⟨_, h1, rfl⟩ F.slot_tuple_lt (call_meets F.slot_tuple_lt ⟨_, h1, rfl⟩ F.entry_tuple_lt (F.args_tuple_lt_2 _ _) (SeqAt.tuple_ltAt l l' vs vs' n n' dd dd' sl sl' (SeqAt.pairEq xs ys) fun j => W.dataLt (xs.getD j .none) (ys.getD j .none))
        ⟨h1, k1, fun j j1 j2 => ?_, fun j j1 j2 hj => ?_, ?_⟩))
      · have := W.eqAt_alikeAll xs ys A.in1 s vs.toList vs'.toList _ _ h4 k4 h (SeqAt.room_in hu) j (by simpa using j1) (by simpa using j2)
        simpa using this
      · have := W.rcLt_alikeAll xs ys A.in1 s vs.toList vs'.toList _ _ h4 k4 h (SeqAt.room_in hu) j (by simpa using j1) (by simpa using j2) hj
        simpa using this
      · exact wpAny_truthy_bool hq
end

section
variable {prog : Program} {w : World} {A : Around} {s : Shared}
/-- tuples, the first an empty one -/
def FirstEmpty (ds : List D) : Prop := (∃ r, ds = .tuple [] :: r) ∧ ∀ d ∈ ds, ∃ xs, d = .tuple xs
theorem sorts_empty {vs : List Value} {ds : List D} (e : EachIs (fun v d => ∃ as, Reads s.heap v d as) vs ds) (hal : AllAlike ds) (hk : FirstEmpty ds) (hu : ∀ d, d ∈ ds → A.units + d.depth < cLine) : SortsAt prog w A s (dataKind s.heap ds) vs := by
  refine ⟨fun v hv => ?_, oneType', ?_, fun h2 E Q hq => ?_⟩
  · obtain ⟨d, hd, as, r⟩ := e.left v hv
    exact ⟨_, dataKind_some hal hd r⟩
  · intro E x y a b Q ha hb hq
    obtain ⟨d, as, hd, ra, rfl⟩ := dataKind_inv ha
    obtain ⟨d', as', hd', rb, rfl⟩ := dataKind_inv hb
    obtain ⟨xs, rfl⟩ := hk.2 d hd
    obtain ⟨ys, rfl⟩ := hk.2 d' hd'
    rw [keyLt'_oneType]
    exact oneLt_tuple ra rb (by have := hal _ hd _ hd'; simpa [W.alike] using this) (Nat.lt_of_le_of_lt (Nat.add_le_add_left (Nat.min_le_left _ _) _) (hu _ hd)) hq
  · obtain ⟨r, er⟩ := hk.1
    subst er
    cases e with
    | @cons v _ vs _ e1 e2 =>
      have go : ∀ {us : List Value} {es : List D}, EachIs (fun v d => ∃ as, Reads s.heap v d as) us es → (∀ d ∈ es, ∃ xs, d = .tuple xs) → ∃ xss, EachIs (fun v xs => ∃ a o n, v = Value.ref a ∧ s.heap.get? a = some o ∧ o.cls = .type "tuple" ∧ o.data = .seq (List.toArray xs) n) us xss := by
        intro us es h
        induction h with
        | nil => intro _; exact ⟨[], .nil⟩
        | cons h1 _ ih =>
          intro ht
          obtain ⟨xss, t⟩ := ih fun d hd => ht d (List.mem_cons_of_mem _ hd)
          obtain ⟨xs, rfl⟩ := ht _ (List.mem_cons_self ..)
          obtain ⟨as, r⟩ := h1
          cases r with
          | @tuple l o vs n _ _ k1 k2 k3 k4 =>
            exact ⟨vs.toList :: xss, .cons ⟨l, o, n, rfl, k1, k2, by simpa using k3⟩ t⟩
      obtain ⟨xss, t⟩ := go e2 fun d hd => hk.2 d (List.mem_cons_of_mem _ hd)
      obtain ⟨as, r1⟩ := e1
      cases r1 with
      | @tuple l o vs0 n _ _ k1 k2 k3 k4 =>
        have k5 : vs0.toList = [] := by
          have := SeqAt.ReadsAll.length _ _ _ k4
          exact List.eq_nil_of_length_eq_zero this
        refine kind_empty (.cons ⟨l, o, n, rfl, k1, k2, ?_⟩ t) hq
        have : vs0 = List.toArray [] := by
          apply Array.toList_inj.mp
          rw [k5]
        rw [this] at k3
        exact k3
def isTup1 : D → Bool
  | .tuple (_ :: _) => true
  | _ => false
def isTupD : D → Bool
  | .tuple _ => true
  | _ => false
def srtOk (ds : List D) : Bool := alls ds && (ds.all isTup1 || ds.all (fun d => !isTupD d) || (match ds with | .tuple [] :: _ => ds.all isTupD | _ => false))
theorem srtOk_of {ds : List D} (h : srtOk ds = true) : alls ds = true ∧ (Sortable ds ∨ FirstEmpty ds) := by
  unfold srtOk at h
  rw [Bool.and_eq_true, Bool.or_eq_true, Bool.or_eq_true] at h
  refine ⟨h.1, ?_⟩
  obtain ⟨ha, hb⟩ := h
  rcases hb with (hb | hb) | hb
  · refine .inl (.inl fun d hd => ?_)
    have := List.all_eq_true.mp hb d hd
    unfold isTup1 at this
    split at this
    · exact ⟨_, _, rfl⟩
    · cases this
  · refine .inl (.inr fun d hd => ⟨(alls_of ha).1.2 d hd, fun xs e => ?_⟩)
    have := List.all_eq_true.mp hb d hd
    rw [e] at this
    cases this
  · refine .inr ?_
    split at hb
    · refine ⟨⟨_, rfl⟩, fun d hd => ?_⟩
      have := List.all_eq_true.mp hb d hd
      unfold isTupD at this
      split at this
      · exact ⟨_, rfl⟩
      · cases this
    · cases hb
theorem sorts_any {vs : List Value} {ds : List D} (e : EachIs (fun v d => ∃ as, Reads s.heap v d as) vs ds) (h : srtOk ds = true) (hu : A.units + 65 < cLine) : SortsAt prog w A s (dataKind s.heap ds) vs := by
  obtain ⟨ha, hk⟩ := srtOk_of h
  obtain ⟨⟨h1, _⟩, _, _, h2⟩ := alls_of ha
  rcases hk with hk | hk
  · exact SortsAt.data e h1 hk fun d hd => by have := h2 d hd; omega
  · exact sorts_empty e h1 hk fun d hd => by have := h2 d hd; omega
end

section
variable {X : Cx}
def leD : D → D → Bool := dataLe false id
/-- the items with their data, sorted by these -/
def rSortD (K : PySem.W.Frag) : List V → Hp → VK → Prop := fun xs H Q => ∃ a vs ds, xs = [.ref a] ∧ SqL K H a vs ∧ DpAll K H vs ds ∧ srtOk ds = true ∧ ∀ p, H p = none → Q (.ref p) (upd H p (.lst (((vs.zip ds).mergeSort fun x y => leD x.2 y.2).map (·.1))))
theorem zip_each {R : Value → V × D → Prop} : ∀ {its : List Value} {vs : List V} {ds : List D}, Vals vs its → vs.length = ds.length → (∀ v u d, RelV v u → (v, d) ∈ vs.zip ds → R u (v, d)) → EachIs R its (vs.zip ds)
  | _, _, [], .nil, _, _ => .nil
  | _, _, d :: ds, .cons r t, hl, h => .cons (h _ _ _ r (by simp)) (zip_each t (by simpa using hl) fun v u e r' hm => h v u e r' (by simp [hm]))
theorem each_vals : ∀ {its : List Value} {bs : List (V × D)}, EachIs (fun u b => RelV b.1 u) its bs → Vals (bs.map (·.1)) its
  | _, _, .nil => .nil
  | _, _, .cons r t => .cons r (each_vals t)
theorem DpAll.len {K : PySem.W.Frag} {H : Hp} : ∀ {vs : List V} {ds : List D}, DpAll K H vs ds → vs.length = ds.length
  | _, _, .nil => rfl
  | _, _, .cons _ t => congrArg (· + 1) (DpAll.len t)
theorem cr_sortD (hu : X.A.units + 67 < cLine) : CallR X (.builtin "sorted") (rSortD X.K) := by
  intro pins s σ H xs us Q I r h
  obtain ⟨a, vs, ds, rfl, hs, hd, ok, q⟩ := h
  rw [Vals.ref1 r]
  obtain ⟨its, rv, hl, hz⟩ := I.list hs
  have hl2 := DpAll.len hd
  have rds : ∀ v u d, RelV v u → (v, d) ∈ vs.zip ds → ∃ as, Reads s.heap u d as := fun v u d rr hm => by
    obtain ⟨i, hi, e⟩ := List.getElem_of_mem hm
    have e1 : vs[i]? = some v := by
      have := congrArg Prod.fst e
      simp at this
      rw [← this]
      simp
    obtain ⟨d', e2, dp⟩ := Dp.at' hd e1
    have e3 : ds[i]? = some d := by
      have := congrArg Prod.snd e
      simp at this
      rw [← this]
      simp
    rw [e3] at e2
    cases e2
    exact Dp.reads I d v u dp rr
  have er : EachIs (fun v (b : V × D) => ∃ as, Reads s.heap v b.2 as) its (vs.zip ds) := zip_each rv hl2 fun v u d rr hm => rds v u d rr hm
  have ev : EachIs (fun u (b : V × D) => RelV b.1 u) its (vs.zip ds) := zip_each rv hl2 fun v u d rr hm => rr
  have em : (vs.zip ds).map (·.2) = ds := by
    rw [List.map_snd_zip]
    omega
  have er' : EachIs (fun v (b : V × D) => ∃ as, Reads (sortingHeap (copyHeap s.heap its) (s.heap.objs.size + 1) its) v b.2 as) its (vs.zip ds) := er.mono fun _ _ ⟨as, r⟩ => ⟨as, PyProof.Rows.Reads.keeps (fun _ _ => W.sorting_copy_old) r⟩
  have hal : AllAlike ((vs.zip ds).map fun b => b.2) := by
    rw [em]
    exact (alls_of (srtOk_of ok).1).1.1
  have S : SortsAt X.prog X.w X.A.in1.in1 { s with heap := sortingHeap (copyHeap s.heap its) (s.heap.objs.size + 1) its } (dataKind (sortingHeap (copyHeap s.heap its) (s.heap.objs.size + 1) its) ((vs.zip ds).map fun b => b.2)) its := by
    have e1 : srtOk ((vs.zip ds).map fun b => b.2) = true := by rw [em]; exact ok
    exact sorts_any (s := { s with heap := sortingHeap (copyHeap s.heap its) (s.heap.objs.size + 1) its }) (W.each_map (R := fun v d => ∃ as, Reads (sortingHeap (copyHeap s.heap its) (s.heap.objs.size + 1) its) v d as) (fun b : V × D => b.2) er') e1 (by show X.A.units + 1 + 1 + 65 < cLine; omega)
  have hout := sortVals_data (enc := fun b : V × D => b.2) (R := fun u (b : V × D) => RelV b.1 u) false ev er' hal
  refine sorted_vals hl.isList S (by rw [← rv.length]; exact hz) ?_
  generalize W.sortVals (dataKind (sortingHeap (copyHeap s.heap its) (s.heap.objs.size + 1) its) ((vs.zip ds).map fun b => b.2)) false its its = out at hout ⊢
  have hv := each_vals hout
  have hm : (vs.zip ds).mergeSort (dataLe false fun b : V × D => b.2) = (vs.zip ds).mergeSort fun x y => leD x.2 y.2 := rfl
  rw [hm] at hv
  have hlen : (((vs.zip ds).mergeSort fun x y => leD x.2 y.2).map (·.1)).length ≤ sizeLine := by
    rw [List.length_map, List.length_mergeSort, List.length_zip]
    exact Nat.le_trans (Nat.min_le_left _ _) hz
  generalize (((vs.zip ds).mergeSort fun x y => leD x.2 y.2).map (·.1)) = ws at hv hlen q
  obtain ⟨ep, he'⟩ := PyProof.Rows.sortedAll_at s.heap its (List.toArray out)
  exact ⟨.ref _, upd H (s.heap.objs.size + 1) (.lst ws), I.laid (t' := s.toks) (fun _ _ => PyProof.Rows.sortedAll_old) (Nat.le_succ _) ⟨hlen, out, ep, hv, he'⟩, rfl, q _ (I.hok.fresh (Nat.le_succ _))⟩
end
end Py
namespace Py
open PySem L2 StX PySem.Spec PyProof.Rows PySem.Calls
open PySem.AutoSeq1 (wpAny_loadPart')
theorem tuple_mul1 (l : Addr) (items : Array Value) (n : Nat) (dd : Option Addr) (sl : Array (Option Value)) (u : Tok) :
    Meets (Builtin.«tuple.__mul__» ⟨[.ref l, .int 1 u], []⟩) (fun _ R s => s.heap.get? l = some { cls := .type "tuple", dict := dd, data := .seq items n, slots := sl } ∧
      R (.ok (.ret (Value.ref l))) s) :=
  .of_wp fun prog w A R s h => by
    obtain ⟨hp, g, d, tk, os⟩ := s
    obtain ⟨hl, h⟩ := h
    have f1 := AutoSeq1.idx_int
    have c1 : (items.isEmpty || (1 : Int) == 1) = true := by simp
    wp_walk using wpAny_loadPart' hl
    repeat (first
      | (refine wpAny_ite_false (decide_eq_false (by decide)) ?_; wp_walk using wpAny_loadPart' hl)
      | (refine wpAny_ite_true (decide_eq_true c1) ?_; wp_walk using wpAny_loadPart' hl))
    exact ⟨_, rfl, h⟩
def rRep1 (K : PySem.W.Frag) : R2 := fun x y H Q => ∃ l xs, x = .ref l ∧ y = .int 1 ∧ SqT K H l xs ∧ Q x H
theorem op_rep1 {X : Cx} : OpR X (binaryOp .Mult) (rRep1 X.K) := by
  intro pins s σ H x y v u Q I rx ry h
  obtain ⟨l, xs, rfl, rfl, hT, q⟩ := h
  cases rx
  obtain ⟨t, rfl⟩ := ry
  obtain ⟨its, r, ⟨⟨cls, dd, data, sl⟩, ho, hc, n, hd⟩, hs⟩ := I.tuple hT
  simp only at hc hd
  subst hc hd
  exact wpAny_binaryOp_repeat_ref (T := "tuple") (U := "int") (by decide) ⟨_, ho, rfl⟩ (fun s' => typeIs_int s' 1 t) noFill_tuple_mul F.fills_int_mul F.slot_int_rmul repeat_tuple F.slot_int_index.lookup
    (call_meets F.slot_int_rmul (typeIs_int s 1 t) F.entry_int_rmul (F.args_int_rmul_2 _ _) (int_rmul_tuple 1 t l its.toArray n dd sl)
      ⟨ho, rfl, ⟨_, ho, rfl⟩, call_meets F.slot_tuple_mul ⟨_, ho, rfl⟩ F.entry_tuple_mul (F.args_tuple_mul_2 _ _) (tuple_mul1 l its.toArray n dd sl t) ⟨ho, ⟨.ref l, H, I, rfl, q⟩⟩⟩)
def rMulX (K : PySem.W.Frag) : R2 := fun x y H Q => rMulA K x y H Q ∨ (rRepT K x y H Q ∨ rRep1 K x y H Q)
theorem op_mulX {X : Cx} : OpR X (binaryOp .Mult) (rMulX X.K) := op_mulA.or (op_repT.or op_rep1)
def gMulX : D → D → M D := fun x y => match x, y with
  | .tuple a, .int n => if decide (1 ≤ n ∧ n ≤ 1000 ∧ a ≠ [] ∧ a.length ≤ 100) = true then ret (.tuple (repD n.toNat a)) else stuck
  | x, y => gMul x y
theorem repD_one (a : List D) : repD 1 a = a := by simp [repD]
theorem oe_mulX {s : Sx} {K : PySem.W.Frag} : OpE s (rMulX K) gMulX := by
  intro c ps H x y u v Q P hc G hx hy q k
  unfold gMulX at q
  split at q
  · split at q
    · rename_i a n hl
      have hb := of_decide_eq_true hl
      obtain ⟨p1, vs, rfl, h1, dn1, n1⟩ := hx.tup
      have hv : vs.length ≤ 100 := by rw [dn1.length]; exact hb.2.2.2
      have hne : vs ≠ [] := fun e => hb.2.2.1 (dn1.nil_iff.mp e)
      by_cases e1 : n = 1
      · subst e1
        refine .inr (.inr ⟨p1, vs, rfl, hy.int, SqT.of h1, ?_⟩)
        have q' : P (.tuple (repD 1 a)) := q
        rw [repD_one] at q'
        exact k _ _ H q' (Stp.refl c H) (.tup h1 n1 dn1)
      · refine .inr (.inl ⟨p1, n, vs, rfl, hy.int, SqT.of h1, hne, by omega, hb.2.1, by omega, fun p hp => ?_⟩)
        have h3 : vs.length * n.toNat ≤ 100 * 1000 := Nat.mul_le_mul hv (by omega)
        have e := Stp.tup G.ok (xs := (List.replicate n.toNat vs).flatten) hp (by rw [List.length_flatten, List.map_replicate, List.sum_replicate_nat, Nat.mul_comm]; exact Nat.le_trans h3 (by decide))
        exact k _ _ _ q e (.tup upd_same (G.new hp) ((dn1.stp G.ok e).rep _))
    · cases q
  · exact .inl (oe_mul c ps H x y u v Q P hc G hx hy q k)
end Py
end
section
set_option maxHeartbeats 1000000
/-! PyM: builtin functions over data. -/
namespace Py
open PySem L2 StX
open PySem.W (minD maxD)
/-- r reckons G of the arguments: a datum -/
def CaE (s : Sx) (r : List V → Hp → VK → Prop) (g : List D → M D) : Prop := ∀ c ps H vs ds Q P, c.s = s → Gd c ps H → Views c ps H vs ds → g ds P → (∀ d w H', P d → Stp c H H' → Den H' (c.U ps) w d → Q w H') → r vs H Q
def CaL (s : Sx) (r : List V → Hp → VK → Prop) (g : List D → M (List D)) : Prop := ∀ c ps H vs ds Q P, c.s = s → Gd c ps H → Views c ps H vs ds → g ds P →
  (∀ es p ws H', P es → Stp c H H' → H p = none → H' p = some (.lst ws) → DenL H' (fun a => c.U ps a ∨ a = p) ws es → Q (.ref p) H') → r vs H Q
section
variable {s : Sx} {Γ : List Md} {K : PySem.W.Frag}
def cal (g : List D → M D) (f : Env → M (List D)) : Env → M D := fun ρ => bnd (f ρ) g
def calL (g : List D → M (List D)) (f : Env → M (List D)) : Env → M (List D) := fun ρ => bnd (f ρ) g
theorem sem_cb {r : List V → Hp → VK → Prop} {g : List D → M D} {t : TA} {f : Env → M (List D)} (o : CaE s r g) (h : SemAV s Γ t f) : SemE s Γ (tCB r t) (cal g f) := by
  intro c ρ ps σ H Q P hc r0 q k
  refine h c ρ ps σ H _ _ hc r0 q fun ds vs H1 q1 e1 d1 => ?_
  exact o c ps H1 vs ds Q P hc (r0.stp e1).gd d1 q1 fun d w H2 p e2 dn => k d w H2 p (e1.trans e2) dn
theorem sem_cbL {r : List V → Hp → VK → Prop} {g : List D → M (List D)} {t : TA} {f : Env → M (List D)} (o : CaL s r g) (h : SemAV s Γ t f) : SemL s Γ (tCB r t) (calL g f) := by
  intro c ρ ps σ H Q P hc r0 q k
  refine h c ρ ps σ H _ _ hc r0 q fun ds vs H1 q1 e1 d1 => ?_
  exact o c ps H1 vs ds Q P hc (r0.stp e1).gd d1 q1 fun es p ws H2 pp e2 hn hp dn => k es p ws H2 pp (e1.trans e2) (e1.fresh hn) hp dn
theorem View.seqK {c : Fx} {ps : List Addr} {H : Hp} {v : V} {d : D} {ds : List D} (h : View c ps H v d) (e : d = .list ds ∨ d = .tuple ds) : ∃ a vs, v = .ref a ∧ SqAny K H a vs ∧ DenL H (c.U ps) vs ds ∧ vs.length = ds.length := by
  obtain ⟨a, vs, rfl, h1, dn⟩ := h.seq e
  refine ⟨a, vs, rfl, ?_, dn, dn.length⟩
  rcases h1 with ⟨_, h1⟩ | ⟨_, h1⟩
  · exact .inl (SqL.of h1)
  · exact .inr (SqT.of h1)
/-- len -/
def cLen : List D → M D
  | [.list ds] => ret (.int ds.length)
  | [.tuple ds] => ret (.int ds.length)
  | _ => stuck
def rLenA (K : PySem.W.Frag) : List V → Hp → VK → Prop := fun xs H Q => ∃ p ys, xs = [.ref p] ∧ (SqL K H p ys ∨ SqT K H p ys) ∧ Q (.int ys.length) H
theorem ca_len : CaE s (rLenA K) cLen := by
  intro c ps H vs ds Q P hc G hv q k
  unfold cLen at q
  split at q
  · obtain ⟨v, rfl, hw⟩ := hv.one
    obtain ⟨a, ws, rfl, hs, dn, hl⟩ := hw.seqK (K := K) (.inl rfl)
    exact ⟨a, ws, rfl, hs, by rw [hl]; exact k _ _ H q (Stp.refl c H) (.int _)⟩
  · obtain ⟨v, rfl, hw⟩ := hv.one
    obtain ⟨a, ws, rfl, hs, dn, hl⟩ := hw.seqK (K := K) (.inr rfl)
    exact ⟨a, ws, rfl, hs, by rw [hl]; exact k _ _ H q (Stp.refl c H) (.int _)⟩
  · cases q
/-- abs, int, min and max of two -/
def cAbs : List D → M D
  | [.int i] => ret (.int (if i < 0 then -i else i))
  | _ => stuck
def rAbs : List V → Hp → VK → Prop := fun xs H Q => ∃ i, xs = [.int i] ∧ Q (.int (if i < 0 then -i else i)) H
theorem ca_abs : CaE s rAbs cAbs := by
  intro c ps H vs ds Q P hc G hv q k
  unfold cAbs at q
  split at q
  · obtain ⟨v, rfl, hw⟩ := hv.one
    exact ⟨_, by rw [hw.int], k _ _ H q (Stp.refl c H) (.int _)⟩
  · cases q
def cInt : List D → M D
  | [.int i] => ret (.int i)
  | [.bool b] => ret (.int (if b then 1 else 0))
  | _ => stuck
def rInt1 : List V → Hp → VK → Prop := fun xs H Q => (∃ i, xs = [.int i] ∧ Q (.int i) H) ∨ ∃ k, xs = [.bl k] ∧ Q (.int (if k then 1 else 0)) H
theorem ca_int : CaE s rInt1 cInt := by
  intro c ps H vs ds Q P hc G hv q k
  unfold cInt at q
  split at q
  · obtain ⟨v, rfl, hw⟩ := hv.one
    exact .inl ⟨_, by rw [hw.int], k _ _ H q (Stp.refl c H) (.int _)⟩
  · obtain ⟨v, rfl, hw⟩ := hv.one
    exact .inr ⟨_, by rw [hw.bl], k _ _ H q (Stp.refl c H) (.int _)⟩
  · cases q
def cMax2 : List D → M D
  | [.int i, .int j] => ret (.int (if j > i then j else i))
  | _ => stuck
def cMin2 : List D → M D
  | [.int i, .int j] => ret (.int (if j < i then j else i))
  | _ => stuck
abbrev rMx2 : List V → Hp → VK → Prop := fun xs H Q => ∃ i j, xs = [.int i, .int j] ∧ Q (.int (if j > i then j else i)) H
abbrev rMn2 : List V → Hp → VK → Prop := fun xs H Q => ∃ i j, xs = [.int i, .int j] ∧ Q (.int (if j < i then j else i)) H
theorem ca_max2 : CaE s rMx2 cMax2 := by
  intro c ps H vs ds Q P hc G hv q k
  unfold cMax2 at q
  split at q
  · obtain ⟨v, w, rfl, h1, h2⟩ := hv.two
    exact ⟨_, _, by rw [h1.int, h2.int], k _ _ H q (Stp.refl c H) (.int _)⟩
  · cases q
theorem ca_min2 : CaE s rMn2 cMin2 := by
  intro c ps H vs ds Q P hc G hv q k
  unfold cMin2 at q
  split at q
  · obtain ⟨v, w, rfl, h1, h2⟩ := hv.two
    exact ⟨_, _, by rw [h1.int, h2.int], k _ _ H q (Stp.refl c H) (.int _)⟩
  · cases q
def cGcd : List D → M D
  | [.int i, .int j] => ret (.int ((Nat.gcd i.natAbs j.natAbs : Nat) : Int))
  | _ => stuck
theorem ca_gcd : CaE s rGcd cGcd := by
  intro c ps H vs ds Q P hc G hv q k
  unfold cGcd at q
  split at q
  · obtain ⟨v, w, rfl, h1, h2⟩ := hv.two
    exact ⟨_, _, by rw [h1.int, h2.int], k _ _ H q (Stp.refl c H) (.int _)⟩
  · cases q
/-- lists of ints, of bools -/
def intsD : List D → Option (List Int)
  | [] => some []
  | .int i :: r => (intsD r).map (i :: ·)
  | _ => none
def boolsD : List D → Option (List Bool)
  | [] => some []
  | .bool i :: r => (boolsD r).map (i :: ·)
  | _ => none
theorem DenL.ints {H : Hp} {U : AS} : ∀ {ds : List D} {vs : List V} {ns : List Int}, DenL H U vs ds → intsD ds = some ns → vs = ns.map V.int
  | [], _, ns, h, e => by cases h; cases e; rfl
  | d :: ds, _, ns, h, e => by
    cases h with
    | cons h1 h2 =>
      unfold intsD at e
      split at e
      · rename_i he; cases he
      · rename_i i r he
        cases he
        obtain ⟨ms, e1, rfl⟩ := Option.map_eq_some_iff.mp e
        cases h1
        rw [h2.ints e1]; rfl
      · cases e
theorem DenL.bools {H : Hp} {U : AS} : ∀ {ds : List D} {vs : List V} {ns : List Bool}, DenL H U vs ds → boolsD ds = some ns → vs = ns.map V.bl
  | [], _, ns, h, e => by cases h; cases e; rfl
  | d :: ds, _, ns, h, e => by
    cases h with
    | cons h1 h2 =>
      unfold boolsD at e
      split at e
      · rename_i he; cases he
      · rename_i i r he
        cases he
        obtain ⟨ms, e1, rfl⟩ := Option.map_eq_some_iff.mp e
        cases h1
        rw [h2.bools e1]; rfl
      · cases e
def cSum : List D → M D
  | [.list ds] => match intsD ds with | some ns => ret (.int ns.sum) | none => stuck
  | _ => stuck
theorem ca_sum : CaE s (rSum K) cSum := by
  intro c ps H vs ds Q P hc G hv q k
  unfold cSum at q
  split at q
  · cases e : intsD _ with
    | none => rw [e] at q; cases q
    | some ns =>
      rw [e] at q
      obtain ⟨v, rfl, hw⟩ := hv.one
      obtain ⟨a, ws, rfl, h1, dn⟩ := hw.lst
      exact ⟨a, ns, rfl, by rw [← dn.ints e]; exact SqL.of h1, k _ _ H q (Stp.refl c H) (.int _)⟩
  · cases q
def cAll : List D → M D
  | [.list ds] => match boolsD ds with | some ns => ret (.bool (ns.all id)) | none => stuck
  | _ => stuck
def cAny : List D → M D
  | [.list ds] => match boolsD ds with | some ns => ret (.bool (ns.any id)) | none => stuck
  | _ => stuck
theorem ca_all : CaE s (rAll K) cAll := by
  intro c ps H vs ds Q P hc G hv q k
  unfold cAll at q
  split at q
  · cases e : boolsD _ with
    | none => rw [e] at q; cases q
    | some ns =>
      rw [e] at q
      obtain ⟨v, rfl, hw⟩ := hv.one
      obtain ⟨a, ws, rfl, h1, dn⟩ := hw.lst
      exact ⟨a, ns, rfl, by rw [← dn.bools e]; exact SqL.of h1, k _ _ H q (Stp.refl c H) (.bl _)⟩
  · cases q
theorem ca_any : CaE s (rAny K) cAny := by
  intro c ps H vs ds Q P hc G hv q k
  unfold cAny at q
  split at q
  · cases e : boolsD _ with
    | none => rw [e] at q; cases q
    | some ns =>
      rw [e] at q
      obtain ⟨v, rfl, hw⟩ := hv.one
      obtain ⟨a, ws, rfl, h1, dn⟩ := hw.lst
      exact ⟨a, ns, rfl, by rw [← dn.bools e]; exact SqL.of h1, k _ _ H q (Stp.refl c H) (.bl _)⟩
  · cases q
/-- min, max of a sequence of alike data -/
def cBest (f : D → List D → D) : List D → M D
  | [.list (d :: ds)] => if alls (d :: ds) = true then ret (f d ds) else stuck
  | [.tuple (d :: ds)] => if alls (d :: ds) = true then ret (f d ds) else stuck
  | _ => stuck
theorem ca_best {f : D → List D → D} : CaE s (rBest f K) (cBest f) := by
  intro c ps H vs ds Q P hc G hv q k
  have fin : ∀ (x : D) d es, (x = .list (d :: es) ∨ x = .tuple (d :: es)) → ds = [x] → alls (d :: es) = true → ret (f d es) P → rBest f K vs H Q := fun x d es hx e ok q' => by
    subst e
    obtain ⟨v, rfl, hw⟩ := hv.one
    obtain ⟨a, ws, rfl, hs, dn, _⟩ := hw.seqK (K := K) hx
    refine ⟨a, ws, d, es, rfl, hs, dn.dp (alls_of ok).2.2.1, ok, fun i w e1 e2 => ?_⟩
    obtain ⟨w', e3, dw⟩ := dn.get e2
    rw [e1] at e3
    cases e3
    exact k _ w H q' (Stp.refl c H) dw
  unfold cBest at q
  split at q
  · split at q
    · exact fin _ _ _ (.inl rfl) rfl (by assumption) q
    · cases q
  · split at q
    · exact fin _ _ _ (.inr rfl) rfl (by assumption) q
    · cases q
  · cases q
/-- tuple(x) -/
def cTup : List D → M D
  | [.list ds] => ret (.tuple ds)
  | [.tuple ds] => ret (.tuple ds)
  | _ => stuck
def rTupOf (K : PySem.W.Frag) : List V → Hp → VK → Prop := fun xs H Q => ∃ p ys, xs = [.ref p] ∧ ((SqL K H p ys ∧ ∀ l, H l = none → Q (.ref l) (upd H l (.tup ys))) ∨ (SqT K H p ys ∧ Q (.ref p) H))
theorem ca_tup : CaE s (rTupOf K) cTup := by
  intro c ps H vs ds Q P hc G hv q k
  unfold cTup at q
  split at q
  · obtain ⟨v, rfl, hw⟩ := hv.one
    obtain ⟨a, ws, rfl, h1, dn⟩ := hw.lst
    refine ⟨a, ws, rfl, .inl ⟨SqL.of h1, fun l hl => ?_⟩⟩
    have e := Stp.tup G.ok (xs := ws) hl (G.sz a ws (.inl h1))
    exact k _ _ _ q e (.tup upd_same (G.new hl) (dn.stp G.ok e))
  · obtain ⟨v, rfl, hw⟩ := hv.one
    obtain ⟨a, ws, rfl, h1, dn, hn⟩ := hw.tup
    exact ⟨a, ws, rfl, .inr ⟨SqT.of h1, k _ _ H q (Stp.refl c H) (.tup h1 hn dn)⟩⟩
  · cases q
/-- list(x) -/
def cLst : List D → M (List D)
  | [.list ds] => ret ds
  | [.tuple ds] => ret ds
  | _ => stuck
def rLstOf (K : PySem.W.Frag) : List V → Hp → VK → Prop := fun xs H Q => ∃ p ys, xs = [.ref p] ∧ (SqL K H p ys ∨ SqT K H p ys) ∧ ∀ l, H l = none → Q (.ref l) (upd H l (.lst ys))
theorem DenL.plus' {H : Hp} {U : AS} {p : Addr} {vs : List V} {ds : List D} {o : HO} (hp : H p = none) (h : DenL H U vs ds) : DenL (upd H p o) (fun a => U a ∨ a = p) vs ds := h.plus hp
theorem ca_lst : CaL s (rLstOf K) cLst := by
  intro c ps H vs ds Q P hc G hv q k
  have fin : ∀ (x : D) es, (x = .list es ∨ x = .tuple es) → ds = [x] → ret es P → rLstOf K vs H Q := fun x es hx e q' => by
    subst e
    obtain ⟨v, rfl, hw⟩ := hv.one
    obtain ⟨a, ws, rfl, h1, dn⟩ := hw.seq hx
    have hz : ws.length ≤ sizeLine := by
      rcases h1 with ⟨_, h1⟩ | ⟨_, h1⟩
      · exact G.sz a ws (.inl h1)
      · exact G.sz a ws (.inr h1)
    refine ⟨a, ws, rfl, ?_, fun l hl => ?_⟩
    · rcases h1 with ⟨_, h1⟩ | ⟨_, h1⟩
      · exact .inl (SqL.of h1)
      · exact .inr (SqT.of h1)
    · exact k es l ws _ q' (Stp.lst G.ok (xs := ws) hl hz) hl upd_same (dn.plus hl)
  unfold cLst at q
  split at q
  · exact fin _ _ (.inl rfl) rfl q
  · exact fin _ _ (.inr rfl) rfl q
  · cases q
/-- sorted(list) -/
def cSrt : List D → M (List D)
  | [.list ds] => if srtOk ds = true then ret (ds.mergeSort leD) else stuck
  | _ => stuck
theorem DenL.mem {H : Hp} {U : AS} : ∀ {vs : List V} {ds : List D}, DenL H U vs ds → ∀ b ∈ vs.zip ds, Den H U b.1 b.2
  | _, _, .nil, b, h => by simp at h
  | _, _, .cons h t, b, hb => by
    rcases List.mem_cons.mp hb with rfl | hb
    · exact h
    · exact t.mem b hb
theorem denL_of {H : Hp} {U : AS} : ∀ {bs : List (V × D)}, (∀ b ∈ bs, Den H U b.1 b.2) → DenL H U (bs.map (·.1)) (bs.map (·.2))
  | [], _ => .nil
  | b :: bs, h => .cons (h b (by simp)) (denL_of fun x hx => h x (by simp [hx]))
theorem DenL.srt {H : Hp} {U : AS} {vs : List V} {ds : List D} (h : DenL H U vs ds) : DenL H U (((vs.zip ds).mergeSort fun x y => leD x.2 y.2).map (·.1)) (ds.mergeSort leD) := by
  have e : ((vs.zip ds).mergeSort fun x y => leD x.2 y.2).map (·.2) = ds.mergeSort leD := by
    have := List.map_mergeSort (r := fun x y : V × D => leD x.2 y.2) (s := leD) (f := fun x : V × D => x.2) (l := vs.zip ds) (fun a _ b _ => rfl)
    rw [this, List.map_snd_zip]
    have := h.length
    omega
  rw [← e]
  exact denL_of fun b hb => h.mem b ((List.mergeSort_perm _ _).mem_iff.mp hb)
theorem ca_srt : CaL s (rSortD K) cSrt := by
  intro c ps H vs ds Q P hc G hv q k
  unfold cSrt at q
  split at q
  · split at q
    · rename_i es ok
      obtain ⟨v, rfl, hw⟩ := hv.one
      obtain ⟨a, ws, rfl, h1, dn⟩ := hw.lst
      have d2 := dn.srt
      refine ⟨a, ws, es, rfl, SqL.of h1, dn.dp (alls_of (srtOk_of ok).1).2.2.1, ok, fun p hp => ?_⟩
      have hz : (((ws.zip es).mergeSort fun x y => leD x.2 y.2).map (·.1)).length ≤ sizeLine := by
        rw [List.length_map, List.length_mergeSort, List.length_zip]
        exact Nat.le_trans (Nat.min_le_left _ _) (G.sz a ws (.inl h1))
      exact k _ p _ _ q (Stp.lst G.ok hp hz) hp upd_same (d2.plus hp)
    · cases q
  · cases q
/-- repr -/
def cRepr : List D → M D
  | [d] => if rpOk d = true then ret (.str d.shown) else stuck
  | _ => stuck
theorem ca_repr : CaE s (rRepr K) cRepr := by
  intro c ps H vs ds Q P hc G hv q k
  unfold cRepr at q
  split at q
  · split at q
    · rename_i d ok
      obtain ⟨v, rfl, hw⟩ := hv.one
      have lay : d.canLay0 = true := by
        have ok' := ok
        unfold rpOk at ok'
        simp only [Bool.and_eq_true] at ok'
        exact ok'.1.1.2
      exact ⟨v, d, rfl, hw.dp lay, ok, k _ _ H q (Stp.refl c H) (.str _)⟩
    · cases q
  · cases q
/-- in, not in -/
def gIn (neg : Bool) : D → D → M D
  | d, .list ds => if (shp d && PyData.canLayAll0 ds) = true then ret (.bool (xor neg (ds.any fun z => PyData.eqv z d))) else stuck
  | d, .tuple ds => if (shp d && PyData.canLayAll0 ds) = true then ret (.bool (xor neg (ds.any fun z => PyData.eqv z d))) else stuck
  | _, _ => stuck
theorem oe_in {neg : Bool} : OpE s (rInX neg K) (gIn neg) := by
  intro c ps H x y u v Q P hc G hx hy q k
  unfold gIn at q
  split at q
  · split at q
    · rename_i ds z
      rw [Bool.and_eq_true] at z
      exact ⟨_, ds, hx.dp (shp_lay z.1), .inl (hy.dp (by simpa [PyData.canLay0] using z.2)), z.1, z.2, k _ _ H q (Stp.refl c H) (.bl _)⟩
    · cases q
  · split at q
    · rename_i ds z
      rw [Bool.and_eq_true] at z
      exact ⟨_, ds, hx.dp (shp_lay z.1), .inr (hy.dp (by simpa [PyData.canLay0] using z.2)), z.1, z.2, k _ _ H q (Stp.refl c H) (.bl _)⟩
    · cases q
  · cases q
/-- < of tuples -/
def gLtD : D → D → M D := fun x y => if (cmpOk x y && shp y) = true then ret (.bool (W.dataLt x y)) else stuck
theorem oe_ltD : OpE s (rLtD K) gLtD := by
  intro c ps H x y u v Q P hc G hx hy q k
  unfold gLtD at q
  split at q
  · rename_i z
    rw [Bool.and_eq_true] at z
    have z1 := z.1
    unfold cmpOk at z1
    simp only [Bool.and_eq_true] at z1
    exact ⟨x, y, hx.dp (shp_lay z1.1.2), hy.dp (shp_lay z.2), z.1, k _ _ H q (Stp.refl c H) (.bl _)⟩
  · cases q
/-- isinstance -/
def tyD : D → String
  | .none => "NoneType"
  | .bool _ => "bool"
  | .int _ => "int"
  | .str _ => "str"
  | .list _ => "list"
  | .tuple _ => "tuple"
  | .dict _ => "dict"
def tIsi (K : PySem.W.Frag) (t : TE) (n : String) : TE := tCB (rIsi K) (tCons t (tCons (tC (.ty n)) tNil))
def gIsi (n : String) : D → M D := fun d => match kitB (tyD d) n with | some b => ret (.bool b) | none => stuck
theorem View.tyx {c : Fx} {ps : List Addr} {H : Hp} {v : V} {d : D} (h : View c ps H v d) : TyX K H v (.type (tyD d)) := by
  cases h with
  | den h =>
    cases h with
    | non => exact .base .non
    | bl b => exact .base (.bl b)
    | int i => exact .base (.int i)
    | str x => exact .base (.str x)
    | lst h1 => exact .base (.lst h1)
    | tup h1 => exact .base (.tup h1)
    | dct h1 => exact .base (.dK h1)
  | own h1 => exact .base (.lst h1)
theorem sem_isi {t : TE} {e : Env → M D} {n : String} (h : SemV s Γ t e) : SemE s Γ (tIsi K t n) (una (gIsi n) e) := by
  intro c ρ ps σ H Q P hc r0 q k
  refine h c ρ ps σ H _ _ hc r0 q fun d v H1 q1 e1 d1 => ?_
  unfold gIsi at q1
  cases hb : kitB (tyD d) n with
  | none => rw [hb] at q1; cases q1
  | some b =>
    rw [hb] at q1
    exact ⟨v, .ty n, _, _, b, rfl, .ty n, d1.tyx, kit_ty hb, k _ _ H1 q1 e1 (.bl _)⟩
end
end Py
end
section
set_option maxHeartbeats 1000000
/-! PyN: small things for printed walks. -/
namespace Py
open PySem L2 StX
theorem bt_len : bootBuiltins "len" = some (.builtin "len") := PySem.boot_len
theorem bt_abs : bootBuiltins "abs" = some (.builtin "abs") := by decide +kernel
theorem bt_max : bootBuiltins "max" = some (.builtin "max") := by decide +kernel
theorem bt_min : bootBuiltins "min" = some (.builtin "min") := by decide +kernel
theorem bt_sum : bootBuiltins "sum" = some (.builtin "sum") := by decide +kernel
theorem bt_all : bootBuiltins "all" = some (.builtin "all") := by decide +kernel
theorem bt_any : bootBuiltins "any" = some (.builtin "any") := by decide +kernel
theorem bt_repr : bootBuiltins "repr" = some (.builtin "repr") := by decide +kernel
theorem bt_sorted : bootBuiltins "sorted" = some (.builtin "sorted") := by decide +kernel
theorem bt_isinstance : bootBuiltins "isinstance" = some (.builtin "isinstance") := by decide +kernel
theorem bt_int : bootBuiltins "int" = some (.type "int") := by decide +kernel
theorem bt_bool : bootBuiltins "bool" = some (.type "bool") := by decide +kernel
theorem bt_str : bootBuiltins "str" = some (.type "str") := by decide +kernel
theorem bt_list : bootBuiltins "list" = some (.type "list") := by decide +kernel
theorem bt_tuple : bootBuiltins "tuple" = some (.type "tuple") := by decide +kernel
theorem bt_dict : bootBuiltins "dict" = some (.type "dict") := by decide +kernel
theorem _root_.L2.Room.u65 {k : Nat} {A : Around} (r : Room k A) : A.units + 65 < cLine := by have := r.un; omega
theorem _root_.L2.Room.u66 {k : Nat} {A : Around} (r : Room k A) : A.units + 66 < cLine := by have := r.un; omega
theorem _root_.L2.Room.u67 {k : Nat} {A : Around} (r : Room k A) : A.units + 67 < cLine := by have := r.un; omega
def froAt (Γ : List Md) (i : Nat) : Bool := match Γ[i]? with | some .fro => true | _ => false
theorem allFro {Γ : List Md} {vs : List Nat} (h : vs.all (froAt Γ) = true) : ∀ i ∈ vs, Γ[i]? = some .fro := fun i hi => by
  have := List.all_eq_true.mp h i hi
  unfold froAt at this
  split at this
  · assumption
  · cases this
section
variable {s : Sx} {Γ : List Md}
theorem DenL.rg {H : Hp} {U : AS} (a b : Int) : DenL H U (rgV a b) (rangeD a (b - a).toNat) := by
  unfold rgV rangeD
  generalize (b - a).toNat = n
  induction n with
  | zero => exact .nil
  | succ n ih =>
    rw [List.range_succ, List.map_append, List.map_append]
    exact ih.append (.cons (.int _) .nil)
def eTupRg (e : Env → M D) : Env → M D := fun ρ => bnd (e ρ) fun d => match d with
  | .int n => if rngOk n = true then ret (.tuple (rangeD 0 (n - 0).toNat)) else stuck
  | _ => stuck
theorem sem_tupRg {t : TE} {e : Env → M D} (h : SemV s Γ t e) : SemE s Γ (tTupRg (tRg1 t)) (eTupRg e) := by
  intro c ρ ps σ H Q P hc r0 q k
  refine h c ρ ps σ H _ _ hc r0 q fun d v H1 q1 e1 d1 => ?_
  dsimp only at q1
  split at q1
  · split at q1
    · rename_i n hr
      have hb := rngOk_b hr
      refine ⟨n, d1.int, (⟨by omega, by omega, by omega, by omega, by omega⟩ : RgOk 0 n), fun p hp => ?_⟩
      have r1 := r0.stp e1
      have e := Stp.tup r1.ok (xs := rgV 0 n) hp (by rw [rgV_length]; exact sz_1e5 (by omega))
      exact k _ _ _ q1 (e1.trans e) (.tup upd_same (r1.new hp) (DenL.rg 0 n))
    · cases q1
  · cases q1
end

/-! ### the walk's rules with K said -/
section
variable {X : Cx} {K : PySem.W.Frag}
theorem kIx (h : X.K = K := by rfl) : IxR X (rIx K) := by subst h; exact ix_seq
theorem kSl (h : X.K = K := by rfl) : SlR X (rSlLT K) := by subst h; exact sl_any
theorem kAdd (h : X.K = K := by rfl) : OpR X (binaryOp .Add) (rAddA K) := by subst h; exact op_addA
theorem kMul (h : X.K = K := by rfl) : OpR X (binaryOp .Mult) (rMulX K) := by subst h; exact op_mulX
theorem kEq {k : Nat} (r : Room k X.A) (h : X.K = K := by rfl) : OpR X (compareOp .Eq) (rEqD K) := by subst h; exact op_eqD r.units
theorem kNe {k : Nat} (r : Room k X.A) (h : X.K = K := by rfl) : OpR X (compareOp .NotEq) (rNeD K) := by subst h; exact op_neD r.units
theorem kIn {k : Nat} (r : Room k X.A) (h : X.K = K := by rfl) : OpR X (compareOp .In) (rInX false K) := by subst h; exact op_inX r.u65
theorem kNotIn {k : Nat} (r : Room k X.A) (h : X.K = K := by rfl) : OpR X (compareOp .NotIn) (rInX true K) := by subst h; exact op_notInX r.u65
theorem kLtD {k : Nat} (r : Room k X.A) (h : X.K = K := by rfl) : OpR X (compareOp .Lt) (rLtD K) := by subst h; exact op_ltD r.u65
theorem kLen (h : X.K = K := by rfl) : CallR X (.builtin "len") (rLenA K) := by subst h; exact call_len_seq
theorem kSum (hc : X.calm = true) (h : X.K = K := by rfl) : CallR X (.builtin "sum") (rSum K) := by subst h; exact cr_sum hc
theorem kAll (hc : X.calm = true) (h : X.K = K := by rfl) : CallR X (.builtin "all") (rAll K) := by subst h; exact cr_all hc
theorem kAny (hc : X.calm = true) (h : X.K = K := by rfl) : CallR X (.builtin "any") (rAny K) := by subst h; exact cr_any hc
theorem kTup (h : X.K = K := by rfl) : CallR X (.type "tuple") (rTupOf K) := by subst h; exact call_tuple_of
theorem kLst (h : X.K = K := by rfl) : CallR X (.type "list") (rLstOf K) := by subst h; exact call_list_of
theorem kMin {k : Nat} (hc : X.calm = true) (r : Room k X.A) (h : X.K = K := by rfl) : CallR X (.builtin "min") (rBest PySem.W.minD K) := by subst h; exact cr_minD hc r.u66
theorem kMax {k : Nat} (hc : X.calm = true) (r : Room k X.A) (h : X.K = K := by rfl) : CallR X (.builtin "max") (rBest PySem.W.maxD K) := by subst h; exact cr_maxD hc r.u66
theorem kSrt {k : Nat} (r : Room k X.A) (h : X.K = K := by rfl) : CallR X (.builtin "sorted") (rSortD K) := by subst h; exact cr_sortD r.u67
theorem kRepr {k : Nat} (hg : X.A.guards = some []) (r : Room k X.A) (h : X.K = K := by rfl) : CallR X (.builtin "repr") (rRepr K) := by subst h; exact cr_repr hg r.u66
theorem kIsi (h : X.K = K := by rfl) : CallR X (.builtin "isinstance") (rIsi K) := by subst h; exact call_isi
theorem piSeq {tg l : Expr} {tl : TE} (hl : PE X l tl) (h : X.K = K := by rfl) : PI X tg l (iSeq K tl) := by subst h; exact pi_seq hl
theorem paStar {e : Expr} {es : List Expr} {te : TE} {t : TA} {p : Pos} (he : PE X e te) (hr : PA X es t) (h : X.K = K := by rfl) (hs : starEach (.Starred e p :: es) X.env = (true, eval e X.env) :: starEach es X.env := by rfl) : PA X (.Starred e p :: es) (tStar K te t) := by
  subst h; exact pa_star he hr hs
theorem piZip {e e2 : Expr} {ta : TA} {p pos tpos : Pos} {elts : List Expr} {kk : Nat} (hg : Gl X "zip") (hm : X.mg "zip" = none) (ha : PA X [e, e2] ta) (h : X.K = K := by rfl)
    (hs : starEach [e, e2] X.env = (false, eval e X.env) :: starEach [e2] X.env := by rfl) (hs2 : (backTo pos (starEach [e2] X.env)).any (·.1) = false := by rfl) :
    PI X (.Tuple elts kk tpos) (.Call (.Name "zip" p) [e, e2] [] pos) (iZipB K ta) := by subst h; exact pi_zipB hg hm ha hs hs2
theorem piEnum {e : Expr} {ta : TA} {p pos tpos : Pos} {elts : List Expr} {kk : Nat} (hg : Gl X "enumerate") (hm : X.mg "enumerate" = none) (ha : PA X [e] ta) (h : X.K = K := by rfl) (hs : starEach [e] X.env = [(false, eval e X.env)] := by rfl) :
    PI X (.Tuple elts kk tpos) (.Call (.Name "enumerate" p) [e] [] pos) (iEnumB K ta) := by subst h; exact pi_enumB hg hm ha hs
theorem pgTup {es : List Expr} {k : Nat} {t : TGs} {n : Nat} {pos : Pos} (hc : X.calm = true) (hp : PGs X es t) (h : X.K = K := by rfl) (hn : (assignEach es X.env).length = n := by rfl) (hst : (assignEach es X.env).findIdx? (·.1) = none := by rfl) :
    PG X (.Tuple es k pos) (gTup K n t) := by subst h; exact pg_tup hc hp hn hst
theorem ptTru {a : Expr} {ta : TE} (ha : PE X a ta) (he : ∀ whole, isTrue a X.env whole = (do let v ← whole; standAt a.pos; holding [v] (truthy v)) := by intro _; rfl) (h : X.K = K := by rfl) :
    PT X a (fun σ H Q => ta σ H fun x H' => ∃ k, TruV K x H' k ∧ Q k H') := by subst h; exact pt_truth ha he
end
end Py
end
section
set_option maxHeartbeats 1000000
/-! PyP: the laws' own source of numbers: a dict with a list of cells. -/
namespace Py
open PySem L2 StX
/-- the dict at src, its cells at cl -/
def kCells : Key := .inr "cells"
def kLeft : Key := .inr "left"
def kMixed : Key := .inr "mixed"
def kTurn : Key := .inr "turn"
def srcKv (cl : Addr) (l m t : Int) : List (Key × V) := [(kCells, .ref cl), (kLeft, .int l), (kMixed, .int m), (kTurn, .int t)]
structure Src (src cl : Addr) (H : Hp) (ns : List Int) (l m t : Int) : Prop where
  d : H src = some (.dK (srcKv cl l m t))
  c : H cl = some (.lst (ns.map V.int))
theorem k_lc : kLeft ≠ kCells := by decide +kernel
theorem k_mc : kMixed ≠ kCells := by decide +kernel
theorem k_tc : kTurn ≠ kCells := by decide +kernel
theorem k_ml : kMixed ≠ kLeft := by decide +kernel
theorem k_tl : kTurn ≠ kLeft := by decide +kernel
theorem k_tm : kTurn ≠ kMixed := by decide +kernel
section
variable {cl : Addr} {l m t : Int}
theorem src_cells : valV (srcKv cl l m t) kCells = some (.ref cl) := by
  simp [valV, srcKv]
theorem src_left : valV (srcKv cl l m t) kLeft = some (.int l) := by
  simp [valV, srcKv, k_lc.symm]
theorem src_mixed : valV (srcKv cl l m t) kMixed = some (.int m) := by
  simp [valV, srcKv, k_mc.symm, k_ml.symm]
theorem src_turn : valV (srcKv cl l m t) kTurn = some (.int t) := by
  simp [valV, srcKv, k_tc.symm, k_tl.symm, k_tm.symm]
theorem put_left (x : Int) : putK (srcKv cl l m t) kLeft (.int x) = srcKv cl x m t := by
  simp [putK, srcKv, k_lc.symm, k_ml, k_tl]
theorem put_turn (x : Int) : putK (srcKv cl l m t) kTurn (.int x) = srcKv cl l m x := by
  simp [putK, srcKv, k_tc.symm, k_tl.symm, k_tm.symm]
theorem put_mixed (x : Int) : putK (srcKv cl l m t) kMixed (.int x) = srcKv cl l x t := by
  simp [putK, srcKv, k_mc.symm, k_ml.symm, k_tm]
end
def sxOf (src cl : Addr) : Sx := ⟨fun a => a = src ∨ a = cl, fun H => src ≠ cl ∧ ∃ ns l m t, Src src cl H ns l m t, src⟩
theorem sxOk (src cl : Addr) : SxOk (sxOf src cl) := ⟨fun H H' ⟨h0, ns, l, m, t, h⟩ e => ⟨h0, ns, l, m, t, e _ _ (.inl rfl) h.d, e _ _ (.inr rfl) h.c⟩⟩
/-- what pick gives: any number below -/
def anyBelow (n : Int) : M D := fun P => ∀ k : Int, 0 ≤ k → k < n → P (.int k)
def F_pick : List D → M D := fun ds => match ds with
  | [.int n] => if n < 2 then ret (.int 0) else if n < 1073741824 then anyBelow n else stuck
  | _ => stuck
theorem Src.stp {src cl : Addr} {U : AS} {H H' : Hp} {ns ns' : List Int} {l m t l' m' t' : Int} (ne : src ≠ cl) (h : Src src cl H ns l m t) (h' : Src src cl H' ns' l' m' t') (o : ∀ a, a ≠ src → a ≠ cl → H' a = H a) (hl : ns'.length ≤ ns.length) : Stp ⟨sxOf src cl, U, H⟩ H H' where
  keep := fun a x q n => by rw [o a (fun e => n (.inl e)) (fun e => n (.inr e))]; exact q
  there := fun a x q => by
    by_cases e1 : a = src
    · subst e1; exact ⟨_, h'.d⟩
    · by_cases e2 : a = cl
      · subst e2; exact ⟨_, h'.c⟩
      · exact ⟨x, by rw [o a e1 e2]; exact q⟩
  inv := fun _ => ⟨ne, _, _, _, _, h'⟩
  al := fun lo a u => by
    by_cases e1 : a = src
    · subst e1; exact ⟨_, h'.d, fun xs z => by cases z⟩
    · by_cases e2 : a = cl
      · subst e2; exact ⟨_, h'.c, fun xs z => by cases z⟩
      · rw [o a e1 e2]; exact lo a u
  sz := fun z a xs q => by
    by_cases e1 : a = src
    · subst e1; rw [h'.d] at q; rcases q with q | q <;> cases q
    · by_cases e2 : a = cl
      · subst e2
        rw [h'.c] at q
        rcases q with q | q <;> cases q
        have := z a _ (.inl h.c)
        simp only [List.length_map] at this ⊢
        omega
      · rw [o a e1 e2] at q; exact z a xs q
theorem Src.put {src cl : Addr} {H : Hp} {ns : List Int} {l m t l' m' t' : Int} (ne : src ≠ cl) (h : Src src cl H ns l m t) : Src src cl (upd H src (.dK (srcKv cl l' m' t'))) ns l' m' t' :=
  ⟨upd_same, by rw [upd_ne ne.symm]; exact h.c⟩
def cStr (x : Str) : TE := tC (.str x)
def tPick (K : PySem.W.Frag) : TS :=
  tSeq (tIfS (tTest (tOp (rI0 fun i j => .bl (decide (i < j))) (tVar 1) (tC (.int 2)))) (tRet (tC (.int 0))) tNext)
  (tSeq (tAsg (tDGet (tVar 0) (tC (.str "cells"))) (gName 2))
  (tSeq (tWhile (tAnd (tTest (tOp (rI0 fun i j => .bl (decide (i < j))) (tDGet (tVar 0) (tC (.str "left"))) (tC (.int 2)))) (tTest (tOp (rI0 fun i j => .bl (decide (j < i))) (tCB (rLenA K) (tCons (tVar 2) tNil)) (tC (.int 0)))))
    (sDPut (tVar 0) (tC (.str "left")) (tBM0 K "list" rPop (tVar 2))))
  (tSeq (tAsg (tDGet (tVar 0) (tC (.str "left"))) (gName 3))
  (tSeq (tIfS (tTest (tOp (rI0 fun i j => .bl (decide (j < i))) (tVar 3) (tC (.int 1)))) (tSeq (sDPut (tVar 0) (tC (.str "left")) (tOp (rI CDiv fun i j => .int (i / j)) (tVar 3) (tVar 1))) (tRet (tOp (rI (fun _ j => 0 < j) fun i j => .int (i % j)) (tCB rInt1 (tCons (tVar 3) tNil)) (tVar 1)))) tNext)
  (tSeq (sDPut (tVar 0) (tC (.str "turn")) (tOp (rI0 fun i j => .int (i + j)) (tDGet (tVar 0) (tC (.str "turn"))) (tC (.int 1))))
  (tSeq (tAsg (tDGet (tVar 0) (tC (.str "turn"))) (gName 4))
  (tSeq (tAsg (tOp (rI (fun _ j => 0 < j) fun i j => .int (i % j)) (tCB rInt1 (tCons (tOp (rI0 fun i j => .int (i + j)) (tDGet (tVar 0) (tC (.str "mixed"))) (tOp (rI CMul fun i j => .int (i * j)) (tVar 4) (tC (.int 104729)))) tNil)) (tC (.int 998244353))) (gName 5))
  (tSeq (tAsg (tOp (rI (fun _ j => 0 < j) fun i j => .int (i % j)) (tCB rInt1 (tCons (tOp (rI0 fun i j => .int (i + j)) (tOp (rI CMul fun i j => .int (i * j)) (tVar 5) (tVar 5)) (tOp (rI CMul fun i j => .int (i * j)) (tVar 4) (tC (.int 17)))) tNil)) (tC (.int 2147483647))) (gName 5))
  (tRet (tOp (rI (fun _ j => 0 < j) fun i j => .int (i % j)) (tCB rInt1 (tCons (tOp (rI CDiv fun i j => .int (i / j)) (tVar 5) (tC (.int 16))) tNil)) (tVar 1)))))))))))
theorem last_map {α β : Type} (f : α → β) (xs : List α) (h : xs ≠ []) : (xs.map f)[(xs.map f).length - 1]? = some (f (xs.getLast h)) := by
  rw [List.getElem?_map, List.length_map, ← List.getLast?_eq_getElem?, List.getLast?_eq_some_getLast h]; rfl
theorem pick_body {K : PySem.W.Frag} {src cl : Addr} {N : List Str} {vs : List V} {H : Hp} {Q : VK} {E : XK} (hN : N.length = 6) (h : spS (sxOf src cl) 1 F_pick vs H Q E) : tPick K { nx := fun _ H' => Q .non H', rt := Q } (L2.start N vs) H := by
  obtain ⟨hl, ws, rfl, ds, U, P, C⟩ := h
  obtain ⟨ne, ns, l, m, t, hs⟩ := C.inv
  have run := C.run
  unfold F_pick at run
  split at run
  · rename_i n
    have e0 := C.den
    cases e0 with
    | cons d1 d2 =>
      cases d2
      cases d1
      have est : L2.start N [V.ref src, .int n] = [some (.ref src), some (.int n), none, none, none, none] := by
        unfold L2.start
        rw [hN]; rfl
      show tPick K _ (L2.start N [V.ref src, .int n]) H
      rw [est]
      by_cases h2 : n < 2
      · rw [if_pos h2] at run
        refine ⟨_, rfl, n, 2, rfl, rfl, true, congrArg V.bl (decide_eq_true h2), iteT ?_⟩
        exact C.out _ _ H run (Stp.refl _ H) (.int 0)
      · rw [if_neg h2] at run
        by_cases h3 : n < 1073741824
        · rw [if_pos h3] at run
          have fin : ∀ k : Int, ∀ H' ns' l' m' t', 0 ≤ k → k < n → Src src cl H' ns' l' m' t' → (∀ a, a ≠ src → a ≠ cl → H' a = H a) → ns'.length ≤ ns.length → Q (.int k) H' := fun k H' ns' l' m' t' k0 k1 s' o hl' =>
            C.out _ _ H' (run k k0 k1) (hs.stp ne s' o hl') (.int k)
          refine ⟨_, rfl, n, 2, rfl, rfl, false, congrArg V.bl (decide_eq_false h2), iteF ?_⟩
          -- cells
          refine ⟨_, rfl, src, .ref cl, rfl, ?_, ?_⟩
          · have := DGet.k (k := kCells) hs.d
            rw [src_cells] at this; exact this
          -- while
          refine ⟨fun k σ H' => ∃ ns' l', σ = [some (.ref src), some (.int n), some (.ref cl), none, none, none] ∧ k = ns'.length ∧ Src src cl H' ns' l' m t ∧ (∀ a, a ≠ src → a ≠ cl → H' a = H a) ∧ ns'.length ≤ ns.length, ⟨ns.length, ns, l, rfl, rfl, hs, fun _ _ _ => rfl, Nat.le_refl _⟩, ?_⟩
          rintro k σ H' ⟨ns', l', rfl, rfl, s', o', hl'⟩
          have g1 : ∀ {H' ns' l' m' t'}, Src src cl H' ns' l' m' t' → DGet H' src (.str "left") (some (.int l')) := fun s => by
            have := DGet.k (k := kLeft) s.d
            rw [src_left] at this; exact this
          have g2 : ∀ {H' ns' l' m' t'}, Src src cl H' ns' l' m' t' → DGet H' src (.str "turn") (some (.int t')) := fun s => by
            have := DGet.k (k := kTurn) s.d
            rw [src_turn] at this; exact this
          have g3 : ∀ {H' ns' l' m' t'}, Src src cl H' ns' l' m' t' → DGet H' src (.str "mixed") (some (.int m')) := fun s => by
            have := DGet.k (k := kMixed) s.d
            rw [src_mixed] at this; exact this
          have p1 : ∀ {H' ns' l' m' t'} (x : Int), Src src cl H' ns' l' m' t' → DPut H' src (.str "left") (.int x) (upd H' src (.dK (srcKv cl x m' t'))) := fun x s => by
            have := DPut.k (k := kLeft) (v := .int x) s.d (by show 4 < sizeLine; decide)
            rw [put_left] at this; exact this
          have p2 : ∀ {H' ns' l' m' t'} (x : Int), Src src cl H' ns' l' m' t' → DPut H' src (.str "turn") (.int x) (upd H' src (.dK (srcKv cl l' m' x))) := fun x s => by
            have := DPut.k (k := kTurn) (v := .int x) s.d (by show 4 < sizeLine; decide)
            rw [put_turn] at this; exact this
          have oput : ∀ {H' : Hp} {o : HO}, (∀ a, a ≠ src → a ≠ cl → H' a = H a) → ∀ a, a ≠ src → a ≠ cl → (upd H' src o) a = H a := fun o' a a1 a2 => by rw [upd_ne a1]; exact o' a a1 a2
          -- behind the loop
          have after : ∀ ns' l' H', Src src cl H' ns' l' m t → (∀ a, a ≠ src → a ≠ cl → H' a = H a) → ns'.length ≤ ns.length → ∀ D : Ends, D.rt = Q → (tSeq (tAsg (tDGet (tVar 0) (tC (.str "left"))) (gName 3))
            (tSeq (tIfS (tTest (tOp (rI0 fun i j => .bl (decide (j < i))) (tVar 3) (tC (.int 1)))) (tSeq (sDPut (tVar 0) (tC (.str "left")) (tOp (rI CDiv fun i j => .int (i / j)) (tVar 3) (tVar 1))) (tRet (tOp (rI (fun _ j => 0 < j) fun i j => .int (i % j)) (tCB rInt1 (tCons (tVar 3) tNil)) (tVar 1)))) tNext)
            (tSeq (sDPut (tVar 0) (tC (.str "turn")) (tOp (rI0 fun i j => .int (i + j)) (tDGet (tVar 0) (tC (.str "turn"))) (tC (.int 1))))
            (tSeq (tAsg (tDGet (tVar 0) (tC (.str "turn"))) (gName 4))
            (tSeq (tAsg (tOp (rI (fun _ j => 0 < j) fun i j => .int (i % j)) (tCB rInt1 (tCons (tOp (rI0 fun i j => .int (i + j)) (tDGet (tVar 0) (tC (.str "mixed"))) (tOp (rI CMul fun i j => .int (i * j)) (tVar 4) (tC (.int 104729)))) tNil)) (tC (.int 998244353))) (gName 5))
            (tSeq (tAsg (tOp (rI (fun _ j => 0 < j) fun i j => .int (i % j)) (tCB rInt1 (tCons (tOp (rI0 fun i j => .int (i + j)) (tOp (rI CMul fun i j => .int (i * j)) (tVar 5) (tVar 5)) (tOp (rI CMul fun i j => .int (i * j)) (tVar 4) (tC (.int 17)))) tNil)) (tC (.int 2147483647))) (gName 5))
            (tRet (tOp (rI (fun _ j => 0 < j) fun i j => .int (i % j)) (tCB rInt1 (tCons (tOp (rI CDiv fun i j => .int (i / j)) (tVar 5) (tC (.int 16))) tNil)) (tVar 1)))))))))
              D [some (.ref src), some (.int n), some (.ref cl), none, none, none] H' := by
            intro ns' l' H' s' o' hl' D hD
            refine ⟨_, rfl, src, .int l', rfl, g1 s', ?_⟩
            by_cases h5 : 1 < l'
            · refine ⟨_, rfl, l', 1, rfl, rfl, true, congrArg V.bl (decide_eq_true h5), iteT ?_⟩
              refine ⟨_, rfl, _, rfl, l', n, rfl, rfl, ⟨by omega, h3⟩, _, rfl, src, _, rfl, p1 (l' / n) s', ?_⟩
              refine ⟨_, rfl, .inl ⟨l', rfl, _, rfl, l', n, rfl, rfl, by omega, ?_⟩⟩
              show D.rt (.int (l' % n)) _
              rw [hD]
              exact fin (l' % n) _ ns' _ m t (Int.emod_nonneg _ (by omega)) (Int.emod_lt_of_pos _ (by omega)) (s'.put ne) (oput o') hl'
            · refine ⟨_, rfl, l', 1, rfl, rfl, false, congrArg V.bl (decide_eq_false h5), iteF ?_⟩
              refine ⟨_, rfl, src, .int t, rfl, g2 s', t, 1, rfl, rfl, _, rfl, src, _, rfl, p2 (t + 1) s', ?_⟩
              have s2 : Src src cl (upd H' src (.dK (srcKv cl l' m (t + 1)))) ns' l' m (t + 1) := s'.put ne
              refine ⟨_, rfl, src, .int (t + 1), rfl, g2 s2, ?_⟩
              have b1 : 0 ≤ (m + (t + 1) * 104729) % 998244353 ∧ (m + (t + 1) * 104729) % 998244353 < 998244353 := by omega
              have c1 : CMul ((m + (t + 1) * 104729) % 998244353) ((m + (t + 1) * 104729) % 998244353) := .inl (by omega)
              have c2 : CMul (t + 1) 104729 := .inr (by decide)
              have c3 : CMul (t + 1) 17 := .inr (by decide)
              have c4 : ∀ i : Int, CDiv i 16 := fun i => by unfold CDiv; decide
              refine ⟨_, rfl, src, .int m, rfl, g3 s2, _, rfl, t + 1, 104729, rfl, rfl, c2, m, _, rfl, rfl, .inl ⟨_, rfl, _, 998244353, rfl, rfl, (show (0 : Int) < 998244353 by decide), ?_⟩⟩
              refine ⟨_, rfl, _, rfl, _, _, rfl, rfl, c1, _, rfl, t + 1, 17, rfl, rfl, c3, _, _, rfl, rfl, .inl ⟨_, rfl, _, 2147483647, rfl, rfl, (show (0 : Int) < 2147483647 by decide), ?_⟩⟩
              refine ⟨_, rfl, _, 16, rfl, rfl, c4 _, .inl ⟨_, rfl, _, rfl, _, n, rfl, rfl, (show (0 : Int) < n by omega), ?_⟩⟩
              show D.rt (.int (_ % n)) _
              rw [hD]
              exact fin _ _ ns' l' m (t + 1) (Int.emod_nonneg _ (by omega)) (Int.emod_lt_of_pos _ (by omega)) s2 (oput o') hl'
          refine ⟨_, rfl, src, .int l', rfl, g1 s', l', 2, rfl, rfl, ?_⟩
          by_cases h6 : l' < 2
          · refine ⟨true, congrArg V.bl (decide_eq_true h6), iteT ?_⟩
            refine ⟨_, rfl, cl, ns'.map V.int, rfl, .inl (SqL.of s'.c), _, 0, rfl, rfl, ?_⟩
            by_cases h7 : ns' = []
            · subst h7
              refine ⟨false, rfl, iteF ?_⟩
              exact after [] l' H' s' o' hl' _ rfl
            · have hp : 0 < ns'.length := List.length_pos_iff.mpr h7
              refine ⟨true, congrArg V.bl (decide_eq_true (show (0 : Int) < ((ns'.map V.int).length : Int) by rw [List.length_map]; omega)), iteT ?_⟩
              refine ⟨fun σ2 H2 => ∃ ns2 l2, σ2 = [some (.ref src), some (.int n), some (.ref cl), none, none, none] ∧ ns2.length < ns'.length ∧ Src src cl H2 ns2 l2 m t ∧ (∀ a, a ≠ src → a ≠ cl → H2 a = H a) ∧ ns2.length ≤ ns.length,
                fun σ2 H2 ⟨ns2, l2, a, b, c, d, e⟩ => ⟨ns2.length, b, ns2, l2, a, rfl, c, d, e⟩, ?_⟩
              refine ⟨_, rfl, .inl ⟨rfl, _, SqL.of s'.c⟩, cl, ns'.map V.int, _, rfl, rfl, s'.c, last_map V.int ns' h7, ?_⟩
              have s2 : Src src cl (upd H' cl (.lst (ns'.map V.int).dropLast)) ns'.dropLast l' m t := ⟨by rw [upd_ne ne]; exact s'.d, by rw [upd_same, List.map_dropLast]⟩
              refine ⟨_, rfl, src, _, rfl, p1 _ s2, ns'.dropLast, _, rfl, by rw [List.length_dropLast]; omega, s2.put ne, fun a a1 a2 => ?_, by rw [List.length_dropLast]; omega⟩
              rw [upd_ne a1, upd_ne a2]
              exact o' a a1 a2
          · refine ⟨false, congrArg V.bl (decide_eq_false h6), iteF ?_⟩
            refine iteF ?_
            exact after ns' l' H' s' o' hl' _ rfl
        · rw [if_neg h3] at run
          exact False.elim run
  · exact False.elim run

/-! ### how it is opened -/
/-- all that stood stands; a new source -/
def spOpen (K : PySem.W.Frag) : Sp := fun vs H Q _ => ∃ (a : Addr) (ns : List Int), vs = [.ref a] ∧ SqL K H a (ns.map V.int) ∧ ns.length ≤ 100000 ∧ Sz H ∧ ∀ H' src cl, (∀ b o, H b = some o → H' b = some o) → src ≠ cl → (∃ ns l m t, Src src cl H' ns l m t) → Sz H' → Q (.ref src) H'
def tOpen (K : PySem.W.Frag) : TS :=
  tSeq (tAsg (tC (.int 11)) (gName 1))
  (tSeq (tFor (iList K (tVar 0)) (gName 2) (tAsg (tOp (rI (fun _ j => 0 < j) fun i j => .int (i % j)) (tCB rInt1 (tCons (tOp (rI0 fun i j => .int (i + j)) (tOp (rI0 fun i j => .int (i + j)) (tOp (rI CMul fun i j => .int (i * j)) (tVar 1) (tC (.int 69069))) (tOp (rI CMul fun i j => .int (i * j)) (tVar 2) (tC (.int 31)))) (tC (.int 5))) tNil)) (tC (.int 2147483629))) (gName 1)))
  (tSeq (tAsg (tLc (iList K (tVar 0)) (gName 2) tYes (tCB rAbs (tCons (tVar 2) tNil)) [2]) (gName 3))
  (tRet (tDisp [(tC (.str "cells"), tRevL K (tVar 3)), (tC (.str "left"), tC (.int 1)), (tC (.str "mixed"), tVar 1), (tC (.str "turn"), tC (.int 0))]))))
theorem seq_up {K : PySem.W.Frag} {H H' : Hp} {a : Addr} {xs : List V} (e : ∀ b o, H b = some o → H' b = some o) (h : SqL K H a xs) : SqL K H' a xs := Evl.ex_l e h
def absI (i : Int) : Int := if i < 0 then -i else i
theorem merge_src {cl : Addr} {l m t : Int} : mergeK [] (srcKv cl l m t) = srcKv cl l m t := by
  simp [mergeK, putK, srcKv, k_lc.symm, k_mc.symm, k_tc.symm, k_ml.symm, k_tl.symm, k_tm.symm]
theorem open_body {K : PySem.W.Frag} {N : List Str} {vs : List V} {H : Hp} {Q : VK} {E : XK} (hN : N.length = 4) (h : spOpen K vs H Q E) : tOpen K { nx := fun _ H' => Q .non H', rt := Q } (L2.start N vs) H := by
  obtain ⟨a, ns, rfl, hS, hlen, hz, q⟩ := h
  have est : L2.start N [V.ref a] = [some (.ref a), none, none, none] := by
    unfold L2.start
    rw [hN]; rfl
  show tOpen K _ (L2.start N [V.ref a]) H
  rw [est]
  have lz : (ns.map V.int).length < sizeLine := by rw [List.length_map]; exact Nat.lt_of_le_of_lt hlen (by decide)
  refine ⟨_, rfl, a, rfl, ⟨_, hS⟩, for_list (K := K) (a := a) (xs := ns.map V.int) (fun i σ H' => ∃ x2 st, σ = [some (.ref a), some (.int st), x2, none] ∧ H' = H) ⟨none, 11, rfl, rfl⟩ (fun i σ H' _ ⟨_, _, _, e⟩ => by rw [e]; exact hS) (fun i x σ H' hx ⟨x2, st, e1, e2⟩ => ?_) (fun σ H' ⟨x2, st, e1, e2⟩ => ?_)⟩
  · subst e1 e2
    rw [List.getElem?_map, Option.map_eq_some_iff] at hx
    obtain ⟨n, hn, rfl⟩ := hx
    exact ⟨_, rfl, st, 69069, rfl, rfl, .inr (by decide), _, rfl, n, 31, rfl, rfl, .inr (by decide), _, _, rfl, rfl, _, _, rfl, rfl, .inl ⟨_, rfl, _, 2147483629, rfl, rfl, (show (0 : Int) < 2147483629 by decide), some (.int n), _, rfl, rfl⟩⟩
  · subst e1 e2
    refine ⟨_, rfl, a, rfl, ⟨_, hS⟩, fun Dd hD => ?_⟩
    have up1 : ∀ zs b o, H' b = some o → (upd H' Dd (.lst zs)) b = some o := fun zs b o e => by rw [upd_ne (ne_of_none e hD)]; exact e
    refine lc_list (K := K) (a := a) (xs := ns.map V.int) (fun i H2 => H2 = upd H' Dd (.lst (((ns.take i).map absI).map V.int))) rfl (fun i H2 _ e => by rw [e]; exact seq_up (up1 _) hS) (fun i x H2 hx e => ?_) (fun H2 e => ?_)
    · subst e
      rw [List.getElem?_map, Option.map_eq_some_iff] at hx
      obtain ⟨n, hn, rfl⟩ := hx
      refine ⟨rfl, ?_⟩
      refine iteT (B := False) ?_
      refine ⟨_, rfl, n, rfl, _, upd_same, ?_, ?_⟩
      · rw [List.length_map, List.length_map, List.length_take]
        exact Nat.lt_of_le_of_lt (Nat.min_le_right _ _) (by rw [List.length_map] at lz; exact lz)
      · rw [upd_upd]
        congr 2
        rw [List.take_add_one, hn]
        simp [absI]
    · subst e
      rw [List.length_map, List.take_length]
      intro p hp
      have hDp : Dd ≠ p := fun e => by rw [e, upd_same] at hp; cases hp
      refine ⟨_, rfl, Dd, _, rfl, SqL.of (by rw [upd_ne hDp, upd_same]), fun c hc => ?_⟩
      have hcp : c ≠ p := fun e => by rw [e, upd_same] at hc; cases hc
      refine ⟨_, rfl, by rw [upd_ne hcp.symm, upd_same], srcKv c 1 st 0, rfl, by show 4 ≤ 15; decide, ?_⟩
      rw [merge_src]
      have hHp : H' p = none := by rw [upd_ne hDp.symm] at hp; exact hp
      have hHc : H' c = none := by
        rw [upd_ne hcp] at hc
        by_cases e : c = Dd
        · rw [e, upd_same] at hc; cases hc
        · rw [upd_ne e] at hc; exact hc
      have e1 : ∀ ys : List Int, ((ys.map V.int).reverse) = (ys.reverse).map V.int := fun ys => by rw [List.map_reverse]
      refine q _ p c (fun b o e => ?_) hcp.symm ⟨_, 1, st, 0, upd_same, by rw [upd_ne hcp, upd_same, e1]⟩ ?_
      · rw [upd_ne (ne_of_none e hHp), upd_ne (ne_of_none e hHc), upd_ne (ne_of_none e hHp), upd_ne (ne_of_none e hD)]; exact e
      · have lz2 : ∀ ys : List V, ys.length = ns.length → ys.length ≤ sizeLine := fun ys e => by rw [e]; exact Nat.le_trans hlen (by decide)
        refine Sz.upd (Sz.upd (Sz.upd (Sz.upd hz ?_) ?_) ?_) ?_
        · intro xs e; rcases e with e | e <;> cases e; exact lz2 _ (by simp)
        · intro xs e; rcases e with e | e <;> cases e
        · intro xs e; rcases e with e | e <;> cases e; exact lz2 _ (by simp)
        · intro xs e; rcases e with e | e <;> cases e
end Py
end
section
set_option maxHeartbeats 1000000
/-! PyQ: calls with the source, the law's own body, the head. -/
namespace Py
open PySem PySem.Spec PyProof.Rows L2 StX
/-- the first argument is some source -/
def spX (n : Nat) (F : List D → M D) : Sp := fun vs H Q E => ∃ src cl, spS (sxOf src cl) n F vs H Q E
theorem spX_len {n : Nat} {F : List D → M D} {vs : List V} {H : Hp} {Q : VK} {E : XK} (h : spX n F vs H Q E) : vs.length = n + 1 := by
  obtain ⟨_, _, h⟩ := h
  exact h.1
section
variable {src cl : Addr} {Γ : List Md}
theorem sem_callX {i n : Nat} {F : List D → M D} {t : TA} {f : Py.Env → M (List D)} (hi : Γ[i]? = some .src) (h : SemA (sxOf src cl) Γ t f) : SemE (sxOf src cl) Γ (tCallG (spX n F) (tCons (tVar i) t)) (eCallS i n F f) := by
  intro c ρ ps σ H Q P hc r q k
  obtain ⟨d0, hd, q⟩ := eVar_get q
  obtain ⟨o, qs, ho, hs, _⟩ := r.sl.get hi hd
  cases hs with
  | src =>
    refine ⟨_, ho, ?_⟩
    refine h c ρ ps σ H _ _ hc r q fun ds vs H1 q1 e1 dn => ?_
    have r1 := r.stp e1
    dsimp only at q1
    split at q1
    · rename_i hl
      have hs : c.src = src := by show c.s.src = src; rw [hc]; rfl
      have hA : ∀ a, (sxOf src cl).A a → c.U ps a := fun a z => .inl (r.ok.sub a (by show c.s.A a; rw [hc]; exact z))
      refine ⟨src, cl, congrArg (· + 1) (dn.length.trans hl), vs, by rw [hs]; rfl, ds, c.U ps, P, dn, hA, r1.loose, r1.sz, by have := r1.inv; unfold Fx.J at this; rw [hc] at this; exact this, q1, fun d v H2 p e2 d2 => ?_⟩
      refine k d v H2 p (e1.trans ⟨fun a o q n => e2.keep a o q fun z => n (by show c.s.A a; rw [hc]; exact z), e2.there, fun z => by show c.s.J H2; rw [hc]; exact e2.inv (by have z' : c.s.J H1 := z; rw [hc] at z'; exact z'), fun _ a u => e2.al r1.loose a (.inl u), e2.sz⟩) d2
    · exact False.elim q1
end
/-- the body of a def with the source in its first place -/
theorem body_x {n m : Nat} {N : List Str} {Γr Γ' Γl : List Md} {t : TS} {f : Py.Env → M Out} {vs : List V} {H : Hp} {Q : VK} {E : XK} (h : ∀ src cl, SemS (sxOf src cl) Γl (.src :: (List.replicate n .fro ++ Γr)) Γ' t f) (hN : N.length = n + 1 + m) (hm : Γr.length = m)
    (hs : spX n (fnS m f) vs H Q E) : t { nx := fun _ H' => Q .non H', rt := Q } (L2.start N vs) H := by
  obtain ⟨src, cl, hs⟩ := hs
  exact body_s (sxOk src cl) (h src cl) hN hm hs
theorem pick_x {K : PySem.W.Frag} {N : List Str} {vs : List V} {H : Hp} {Q : VK} {E : XK} (hN : N.length = 6) (h : spX 1 F_pick vs H Q E) : tPick K { nx := fun _ H' => Q .non H', rt := Q } (L2.start N vs) H := by
  obtain ⟨src, cl, h⟩ := h
  exact pick_body hN h

/-! ### the law's own body -/
def spLaw (K : PySem.W.Frag) : Sp := fun vs H Q _ => ∃ (a : Addr) (ns : List Int), vs = [.ref a] ∧ SqL K H a (ns.map V.int) ∧ ns.length ≤ 63 ∧ Sz H ∧ ∀ H', Q (.bl true) H'
/-- behind source = open(script) -/
theorem law_rest {K : PySem.W.Frag} {N : List Str} {to : TA} {Γr Γ' : List Md} {t : TS} {f : Py.Env → M Out} {vs : List V} {H : Hp} {Q : VK} {E : XK} (h : ∀ src cl, SemS (sxOf src cl) [] (.fro :: .src :: Γr) Γ' t f) (hN : N.length = Γr.length + 2)
    (hf : f (none :: some .none :: List.replicate Γr.length none) fun o => o = .rt (.bool true)) (hs : spLaw K vs H Q E) :
    tSeq (tAsg (tCallG (spOpen K) (tCons (tVar 0) tNil)) (gName 1)) t { nx := fun _ H' => Q .non H', rt := Q } (L2.start N vs) H := by
  obtain ⟨a, ns, rfl, hS, hl, hz, q⟩ := hs
  have est : L2.start N [V.ref a] = some (.ref a) :: none :: List.replicate Γr.length none := by
    unfold L2.start
    rw [hN]; rfl
  rw [est]
  refine ⟨_, rfl, a, ns, rfl, hS, by omega, hz, fun H' src cl up ne inv hz' => ?_⟩
  obtain ⟨xs, l, m, tt, hsrc⟩ := inv
  have ok : Fx.Ok ⟨sxOf src cl, fun z => z = src ∨ z = cl, H'⟩ := ⟨fun z q => q, (sxOk src cl).st⟩
  have slots : ∀ Γ : List Md, Slots ⟨sxOf src cl, fun z => z = src ∨ z = cl, H'⟩ H' (Fx.U ⟨sxOf src cl, fun z => z = src ∨ z = cl, H'⟩ []) Γ (List.replicate Γ.length none) (List.replicate Γ.length none) [] := by
    intro Γ
    induction Γ with
    | nil => exact .nil
    | cons m Γ ih => exact Slots.cons (SlotR.no (m := m) (o := none)) ih
  have r0 : R ⟨sxOf src cl, fun z => z = src ∨ z = cl, H'⟩ (.fro :: .src :: Γr) (none :: some .none :: List.replicate Γr.length none) [] (some (.ref a) :: some (.ref src) :: List.replicate Γr.length none) H' := by
    refine ⟨ok, fun z o q _ => q, fun z o q => ⟨o, q⟩, ⟨ne, xs, l, m, tt, hsrc⟩, fun z u => ?_, hz', ?_, List.nodup_nil, fun p hp => absurd hp (by simp)⟩
    · rcases u with rfl | rfl
      · exact ⟨_, hsrc.d, fun xs z => by cases z⟩
      · exact ⟨_, hsrc.c, fun xs z => by cases z⟩
    · exact Slots.cons (SlotR.no (m := .fro) (o := some (.ref a))) (Slots.cons (SlotR.src (c := ⟨sxOf src cl, fun z => z = src ∨ z = cl, H'⟩) (d := .none)) (slots Γr))
  show t _ (some (.ref a) :: some (.ref src) :: List.replicate Γr.length none) H'
  refine h src cl _ _ [] _ H' _ _ rfl r0 hf ⟨(fun ρ ps σ H2 p r => nomatch p), (fun d v H2 p fi dn => ?_), (fun ρ ps σ H2 p r => nomatch p), (fun ρ ps σ H2 p r => nomatch p)⟩
  cases p
  cases dn
  exact q H2

/-! ### the head: as L2.law_call, for a def that may ask for texts of values (no repr is under way) -/
theorem sz_only {H : Hp} (h : Only H) : Sz H := fun a xs q => by
  rcases h a with z | ⟨o, ys, z⟩
  · rw [z] at q; rcases q with q | q <;> cases q
  · rw [z] at q; rcases q with q | q <;> cases q
theorem heap_of {P : Program} {w : World} {K : PySem.W.Frag} {sh : Shared} {a : Addr} {us : List Value} {ns : List Int} (kin : K.In sh.heap) (ob : sh.heap.get? a = some { cls := .type "list", data := .seq us.toArray }) (hi : IntsAre us ns) (hl : ns.length ≤ sizeLine) :
    ∃ H : Hp, Only H ∧ SqL K H a (ns.map V.int) ∧ HOk P w H sh.heap ∧ (∀ b, H b ≠ none → b = a) ∧ (H a ≠ none → K.lookup a = none) := by
  have rel : Vals (ns.map V.int) us := vals_ints hi
  have ln := hi.length
  cases hk : K.lookup a with
  | some o =>
    have eo := kin a o hk
    rw [ob] at eo
    cases eo
    refine ⟨fun _ => none, fun _ => .inl rfl, .inr ⟨_, us.toArray, _, hk, rfl, rfl, rfl, ?_, ?_⟩, fun b u z => ?_, fun b z => absurd rfl z, fun z => absurd rfl z⟩
    · rw [List.size_toArray, ln]; exact hl
    · simpa using rel
    · have z' : (none : Option HO) = some u := z
      cases z'
  | none =>
    let ho : HO := .frz { cls := .type "list", data := .seq us.toArray } (.lst (ns.map V.int))
    let H : Hp := fun b => if b = a then some ho else none
    have at_a : H a = some ho := if_pos rfl
    have off : ∀ {b}, b ≠ a → H b = none := fun e => if_neg e
    refine ⟨H, fun b => ?_, .inl (.inr ⟨_, at_a⟩), fun b u z => ?_, fun b z => ?_, fun _ => rfl⟩
    · by_cases e : b = a
      · subst e; exact .inr ⟨_, _, at_a⟩
      · exact .inl (off e)
    · by_cases e : b = a
      · subst e
        rw [at_a] at z
        cases z
        exact ⟨ob, by rw [List.length_map]; exact hl, us, _, rel, ob⟩
      · rw [off e] at z; cases z
    · by_cases e : b = a
      · exact e
      · exact absurd (off e) z
theorem callG {P : Program} {w : World} {K : PySem.W.Frag} {mg mb : Str → Option Value} {k : Nat} {fa a : Addr} {fd : FuncData} {x : Str} {sp : Sp} {sh : Shared} {us : List Value} {ns : List Int}
    (kin : K.In sh.heap) (gl : sh.heap.Ns mainGlobals mg) (bl : sh.heap.Ns builtinsNs mb) (bo : ∀ y : Str, y ≠ "__name__" → mb y = bootBuiltins y) (lim : sh.heap.NoLimit) (gn : sh.gens = #[])
    (ob : sh.heap.get? a = some { cls := .type "list", data := .seq us.toArray }) (hi : IntsAre us ns) (hl : ns.length ≤ sizeLine) (hr : Room k callerA)
    (F : ∀ base : Heap, K.In base → base.Ns mainGlobals mg → FnG P w K mg base k fa fd [x] sp) (bind : ∀ (z : Shared) (u : Value), BindsTo z fd ⟨[u], []⟩ [(x, u)])
    (hsp : ∀ H : Hp, Only H → SqL K H a (ns.map V.int) → sp [.ref a] H (fun v _ => v = .bl true) fun _ _ _ => False) :
    codeAny (model P w) callerA (.call (.ref fa) ⟨[.ref a], []⟩) (fun r z => r = .ok (.ret (.bool true)) ∧ OldK sh.heap z.heap ∧ z.os = sh.os ∧ AllBare z.gens) sh := by
  obtain ⟨H, only, seq, hok, hA, hK⟩ := heap_of (P := P) (w := w) kin ob hi hl
  have hid : ∀ {b : Addr} {o : Obj}, sh.heap.get? b = some o → H b = none → (hidT sh.heap H).get? b = some o := fun e n => hidT_get e n
  have notA : ∀ {b : Addr} {o : Obj}, sh.heap.get? b = some o → (∀ es ep, o.data = .dict es ep → H b = none) := fun {b o} e es ep d => by
    cases q : H b with
    | none => rfl
    | some u =>
      have eb : b = a := hA b (by rw [q]; simp)
      rw [eb, ob] at e
      cases e
      have d' : Data.seq us.toArray _ = Data.dict es ep := d
      cases d'
  have ns' : ∀ {b : Addr} {g : Str → Option Value}, sh.heap.Ns b g → (hidT sh.heap H).Ns b g := fun {b g} ⟨o, es, ep, e, d, r⟩ => ⟨o, es, ep, hid e (notA e es ep d), d, r⟩
  have kin' : K.In (hidT sh.heap H) := fun b o e => hid (kin b o e) (by
    cases q : H b with
    | none => rfl
    | some u =>
      have eb : b = a := hA b (by rw [q]; simp)
      rw [eb] at e q
      rw [hK (by rw [q]; simp)] at e
      cases e)
  have md : Mod K mg (hidT sh.heap H) := ⟨kin', ns' gl, ⟨mb, ns' bl, bo⟩, let ⟨mc, h1, h2⟩ := lim; ⟨mc, ns' h1, h2⟩⟩
  have en : Env0 P w K mg (hidT sh.heap H) callerA [] sh H := ⟨rfl, md, fun b o e => of_hidT e, Nat.le_of_eq (hidT_size _ _), trivial, fun b hb => absurd (show b ∈ ([] : List Addr) from hb) (by simp), hok, .of_eq gn⟩
  refine codeAny_mono ((F _ kin' (ns' gl)).run callerA [] sh H ⟨[.ref a], []⟩ [.ref a] [.ref a] _ _ rfl hr en (bind sh (.ref a)) (.cons rfl .nil) (hsp H only seq)) fun r z h => ?_
  cases r with
  | error e => exact (show False from h).elim
  | ok fl =>
    cases fl with
    | ret u =>
      obtain ⟨v, H', os, bare, un, hok', r', q⟩ := h
      have q' : v = .bl true := q
      subst q'
      obtain rfl : u = Value.bool true := r'
      refine ⟨rfl, OldK.of_keep fun b o e => ?_, os, bare⟩
      cases q : H b with
      | none => exact un.keep b o e q (by intro z; exact absurd (show b ∈ ([] : List Addr) from z) (by simp)) (by simp)
      | some y =>
        rcases only b with z | ⟨ob2, xs, z⟩
        · rw [q] at z; cases z
        · have z2 := un.frzs b ob2 _ z
          obtain ⟨e1, _⟩ := hok b _ z
          obtain ⟨e2, _⟩ := hok' b _ z2
          rw [e] at e1
          cases e1
          exact e2
    | _ => exact (show False from h).elim
theorem walkG {l : PySem.W.OpenLaw} {n k : Nat} {q : Program} {loose : List Str} {XP : (Str → Option Value) → Heap → Prop} {YP : World → Heap → Prop} {d : DefRec} {K : Params → PySem.W.Frag} {x : Str}
    (hn : l.most = some n) (hn2 : n ≤ 63) (hdf : d.params.defaults = []) (hr : Room k callerA) (hY : ∀ (w : World) (h : Heap), YP w h → (K w.params).In h)
    (F : ∀ (w : World) (mg : Str → Option Value) (fa : Addr) (h : Heap), (K w.params).In h → h.Ns mainGlobals mg → mg d.name = some (.ref fa) →
      ∃ fd : FuncData, (∀ (z : Shared) (u : Value), BindsTo z fd ⟨[u], []⟩ [(x, u)]) ∧ ∀ base : Heap, (K w.params).In base → base.Ns mainGlobals mg → FnG l.prog w (K w.params) mg base k fa fd [x] (spLaw (K w.params))) :
    PySem.W.WalkO q loose XP YP l.row.toRowW d [] (fun f vs => PySem.call f vs) := by
  refine Att.attach_call hn hdf fun w z0 z1 mg mb fa o pm cd doc a us ns G Y ho hd hcd hmg hobj hints hlen hg => ?_
  have kin := hY w _ Y
  obtain ⟨fd, bd, hF⟩ := F w mg fa _ kin G.T.g hmg
  exact callG kin G.T.g G.T.b G.T.builtins G.T.nolimit hg hobj hints (Nat.le_trans (Nat.le_trans hlen hn2) (by decide)) hr hF bd fun H on seq => ⟨a, ns, rfl, seq, Nat.le_trans hlen hn2, sz_only on, fun _ => rfl⟩
end Py
end
section
set_option maxHeartbeats 1000000
/-! PyV: a list of lists of one's own; a list times an int. -/
namespace Py
open PySem L2 StX
section
variable {s : Sx} {Γ Γ' Γl : List Md} {K : PySem.W.Frag}
/-! ### [x] * n -/
def repL (a b : Env → M D) : Env → M (List D) := fun ρ => bnd (a ρ) fun x => bnd (b ρ) fun y => match x, y with
  | .list ds, .int n => if decide (0 ≤ n ∧ n ≤ 1000 ∧ ds.length ≤ 100) = true then ret (repD n.toNat ds) else stuck
  | _, _ => stuck
theorem sem_repL {ta tb : TE} {a b : Env → M D} (ha : SemV s Γ ta a) (hb : SemV s Γ tb b) : SemL s Γ (tOp (rMulX K) ta tb) (repL a b) := by
  intro c ρ ps σ H Q P hc r0 q k
  refine ha c ρ ps σ H _ _ hc r0 q fun x u H1 q1 e1 d1 => ?_
  refine hb c ρ ps σ H1 _ _ hc (r0.stp e1) q1 fun y v H2 q2 e2 d2 => ?_
  have r2 := (r0.stp e1).stp e2
  have d1 := d1.stp r0.ok r2.gd.nA e2
  dsimp only at q2
  split at q2
  · split at q2
    · rename_i ds n _ hl
      have hb := of_decide_eq_true hl
      obtain ⟨p1, vs, rfl, h1, dn1⟩ := d1.lst
      have hv : vs.length ≤ 100 := by rw [dn1.length]; exact hb.2.2
      have h3 : vs.length * n.toNat ≤ 100 * 1000 := Nat.mul_le_mul hv (by omega)
      have hz : vs.length * n.toNat ≤ sizeLine := Nat.le_trans h3 (by decide)
      refine .inl (.inr ⟨p1, n, vs, rfl, d2.int, h1, by omega, by omega, hz, fun p hp => ?_⟩)
      have hz2 : (List.replicate n.toNat vs).flatten.length ≤ sizeLine := by rw [List.length_flatten, List.map_replicate, List.sum_replicate_nat, Nat.mul_comm]; exact hz
      have e := Stp.lst r0.ok (xs := (List.replicate n.toNat vs).flatten) hp hz2
      exact k _ p _ _ q2 ((e1.trans e2).trans e) ((e1.trans e2).fresh hp) upd_same ((dn1.rep _).plus hp)
    · cases q2
  · cases q2

/-! ### rows of one's own -/
theorem Rows.len {H : Hp} {U : AS} : ∀ {qs : List Addr} {dss : List (List D)}, Rows H U qs dss → qs.length = dss.length
  | _, _, .nil => rfl
  | _, _, .cons _ _ t => congrArg (· + 1) t.len
theorem Rows.get {H : Hp} {U : AS} : ∀ {qs : List Addr} {dss : List (List D)} {j : Nat} {ds : List D}, Rows H U qs dss → dss[j]? = some ds → ∃ q vs, qs[j]? = some q ∧ H q = some (.lst vs) ∧ DenL H U vs ds
  | _, _, _, _, .nil, e => by simp at e
  | _, _, 0, _, .cons h1 h2 _, e => by simp at e; subst e; exact ⟨_, _, rfl, h1, h2⟩
  | _, _, j + 1, _, .cons _ _ t, e => by
    obtain ⟨q, vs, a, b, c⟩ := t.get (j := j) (by simpa using e)
    exact ⟨q, vs, by simpa using a, b, c⟩
theorem Rows.set {H : Hp} {U : AS} {q : Addr} {vs : List V} {ds : List D} (h1 : H q = some (.lst vs)) (h2 : DenL H U vs ds) : ∀ {qs : List Addr} {dss : List (List D)} (j : Nat), Rows H U qs dss → Rows H U (qs.set j q) (dss.set j ds)
  | _, _, _, .nil => .nil
  | _, _, 0, .cons _ _ t => .cons h1 h2 t
  | _, _, j + 1, .cons a b t => .cons a b (Rows.set h1 h2 j t)
theorem Slots.updP {c : Fx} {H H' : Hp} {U : AS} {Γ : List Md} {ρ : Env} {σ : St} {ps : List Addr} (h : Slots c H U Γ ρ σ ps) {q : Addr} (hU : U q) (same : ∀ a o, a ≠ q → H a = some o → H' a = some o) {m : Md} {d d' : Option D} {o : Option V} {qs0 qs' : List Addr} (hq : q ∈ qs0) (new : SlotR c H' U m d' o qs') (pm : qs'.Perm qs0) :
    ∀ {i : Nat}, ps.Nodup → (∀ qs, SlotR c H U m d o qs → qs = qs0) → Γ[i]? = some m → ρ[i]? = some d → σ[i]? = some o → ∃ ps', Slots c H' U Γ (ρ.set i d') σ ps' ∧ ps'.Perm ps := by
  have e : ∀ a u, H a = some u → ¬ U a → H' a = some u := fun a u q1 n => same a u (fun z => n (by rw [z]; exact hU)) q1
  induction h with
  | nil => intro i _ _ hm; simp at hm
  | @cons m1 d1 o1 p1 q1 Γ1 ρ1 σ1 h1 h2 ih =>
    intro i nd un hm hd ho
    have nd' := List.nodup_append.mp nd
    cases i with
    | zero =>
      simp at hm hd ho
      subst hm hd ho
      have ep := un _ h1
      subst ep
      refine ⟨qs' ++ q1, .cons new (h2.mono (fun a ha u w => same a u (fun z => ?_) w) e fun _ _ _ w => w), pm.append_right _⟩
      rw [z] at ha
      exact nd'.2.2 q hq q ha rfl
    | succ i =>
      have hm' : Γ1[i]? = some m := by simpa using hm
      have hd' : ρ1[i]? = some d := by simpa using hd
      have ho' : σ1[i]? = some o := by simpa using ho
      obtain ⟨ps', s', p'⟩ := ih (i := i) nd'.2.1 un hm' hd' ho'
      obtain ⟨o2, qs2, e1, e2, e3⟩ := h2.get hm' hd'
      rw [ho'] at e1; cases e1
      have eq2 := un _ e2
      subst eq2
      refine ⟨p1 ++ ps', .cons (h1.mono (fun a ha u w => same a u (fun z => ?_) w) e fun _ _ _ w => w) s', p'.append_left _⟩
      rw [z] at ha
      exact nd'.2.2 q ha q (e3 q hq) rfl
/-- own places in another order -/
theorem R.perm {c : Fx} {ρ : Env} {ps ps' : List Addr} {σ : St} {H : Hp} (r : R c Γ ρ ps σ H) {ρ' : Env} {H' : Hp} (keep : ∀ a o, a ∉ ps → H a = some o → H' a = some o) (there : ∀ a, a ∈ ps → ∃ o, H' a = some o) (sz : Sz H') (sl : Slots c H' (c.U ps) Γ ρ' σ ps') (pm : ps'.Perm ps) : R c Γ ρ' ps' σ H' where
  ok := r.ok
  keep := fun a o q n => keep a o (fun z => by rw [(r.own a z).1] at q; cases q) (r.keep a o q n)
  there := fun a o q => let ⟨o', q'⟩ := r.there a o q; ⟨o', keep a o' (fun z => by rw [(r.own a z).1] at q; cases q) q'⟩
  inv := r.ok.st H _ r.inv fun a o u q => keep a o (fun z => r.ownA z u) q
  al := fun a u => let ⟨o, h1, h2⟩ := r.al a u; ⟨o, keep a o (fun z => (r.own a z).2 u) h1, h2⟩
  sz := sz
  sl := sl.mono (fun _ _ _ q => q) (fun _ _ q _ => q) fun a o q u => u.imp id fun z => pm.mem_iff.mp z
  nd := pm.nodup_iff.mpr r.nd
  own := fun a ha => r.own a (pm.mem_iff.mp ha)
theorem R.own2At {c : Fx} {ρ : Env} {ps : List Addr} {σ : St} {H : Hp} (r : R c Γ ρ ps σ H) {i : Nat} {d : D} (hm : Γ[i]? = some .own2) (hd : ρ[i]? = some (some d)) :
    ∃ p qs dss, σ[i]? = some (some (.ref p)) ∧ d = .list (dss.map .list) ∧ H p = some (.lst (qs.map V.ref)) ∧ Rows H (c.U ps) qs dss ∧ (∀ a ∈ p :: qs, a ∈ ps) ∧ (p :: qs).Nodup := by
  have key : ∀ {Γ : List Md} {ρ : Env} {σ : St} {ps : List Addr} {U : AS}, Slots c H U Γ ρ σ ps → ps.Nodup → ∀ {i : Nat}, Γ[i]? = some .own2 → ρ[i]? = some (some d) →
      ∃ p qs dss, σ[i]? = some (some (.ref p)) ∧ d = .list (dss.map .list) ∧ H p = some (.lst (qs.map V.ref)) ∧ Rows H U qs dss ∧ (∀ a ∈ p :: qs, a ∈ ps) ∧ (p :: qs).Nodup := by
    intro Γ ρ σ ps U h
    induction h with
    | nil => intro _ i hm; simp at hm
    | @cons m1 d1 o1 p1 q1 Γ1 ρ1 σ1 h1 h2 ih =>
      intro nd i hm hd
      have nd' := List.nodup_append.mp nd
      cases i with
      | zero =>
        simp at hm hd
        subst hm hd
        cases h1 with
        | @own2 p qs dss a1 a2 => exact ⟨p, qs, dss, rfl, rfl, a1, a2, fun a ha => List.mem_append_left _ ha, nd'.1⟩
      | succ i =>
        obtain ⟨p, qs, dss, a, b, c1, d1, e1, f1⟩ := ih nd'.2.1 (i := i) (by simpa using hm) (by simpa using hd)
        exact ⟨p, qs, dss, by simpa using a, b, c1, d1, fun x hx => List.mem_append_right _ (e1 x hx), f1⟩
  exact key r.sl r.nd hm hd
theorem atI_map {α β : Type} (f : α → β) (xs : List α) (i : Int) : L2.atI (xs.map f) i = (L2.atI xs i).map f := by
  unfold L2.atI
  rw [List.length_map]
  cases ixN xs.length i with
  | none => rfl
  | some j => simp
/-- rows[a][b] -/
theorem sem_ix2 {i : Nat} {ta tb : TE} {a b : Env → M D} (hm : Γ[i]? = some .own2) (ha : SemV s Γ ta a) (hb : SemV s Γ tb b) : SemE s Γ (tOp (rIx K) (tOp (rIx K) (tVar i) ta) tb) (bin gIx (bin gIx (eVar i) a) b) := by
  intro c ρ ps σ H Q P hc r q k
  obtain ⟨d, hd, q⟩ := eVar_get q
  obtain ⟨p, qs, dss, ho, rfl, hp, rw0, sub, nd⟩ := r.own2At hm hd
  refine ⟨_, ho, ?_⟩
  refine ha c ρ ps σ H _ _ hc r q fun x u H1 q1 e1 d1 => ?_
  have r1 := r.stp e1
  have hp1 : H1 p = some (.lst (qs.map V.ref)) := e1.keep _ _ hp (r.ownA (sub p (by simp)))
  have rw1 : Rows H1 (c.U ps) qs dss := rw0.monoOn (fun z o q n => e1.keep z o q (r.nA n)) (fun _ _ _ q => q) fun z hz o q => e1.keep z o q (r.ownA (sub z (by simp [hz])))
  cases x with
  | int n =>
    have q1 : (match L2.atI (dss.map PyData.list) n with | some d => ret d | none => (stuck : M D)) (fun y => bnd (b ρ) (fun z => gIx y z) P) := q1
    rw [atI_map] at q1
    cases hz : L2.atI dss n with
    | none => rw [hz] at q1; exact False.elim q1
    | some row =>
      rw [hz] at q1
      have q2 : bnd (b ρ) (fun z => gIx (.list row) z) P := q1
      have hj : ∃ j, ixN dss.length n = some j ∧ dss[j]? = some row := by
        unfold L2.atI at hz
        cases zz : ixN dss.length n with
        | none => rw [zz] at hz; cases hz
        | some j => rw [zz] at hz; exact ⟨j, rfl, hz⟩
      obtain ⟨j, j1, j2⟩ := hj
      obtain ⟨qa, vs, g1, g2, g3⟩ := rw1.get j2
      have hat : L2.atI (qs.map V.ref) n = some (.ref qa) := by
        rw [atI_map]
        unfold L2.atI
        rw [rw1.len, j1]
        simp [g1]
      refine .inl ⟨p, _, n, _, rfl, d1.int, SqL.of hp1, hat, ?_⟩
      refine hb c ρ ps σ H1 _ _ hc r1 q2 fun y v H2 q3 e2 d2 => ?_
      have qin : qa ∈ ps := sub qa (by simp [List.mem_of_getElem? g1])
      have g2' : H2 qa = some (.lst vs) := e2.keep _ _ g2 (r.ownA qin)
      have dn2 := g3.stp r.ok e2
      cases y with
      | int m =>
        have q3 : (match L2.atI row m with | some d => ret d | none => (stuck : M D)) P := q3
        cases z : L2.atI row m with
        | none => rw [z] at q3; exact False.elim q3
        | some d =>
          rw [z] at q3
          obtain ⟨w, w1, w2⟩ := dn2.atI z
          exact .inl ⟨qa, vs, m, w, rfl, d2.int, SqL.of g2', w1, k _ _ H2 q3 (e1.trans e2) w2⟩
      | _ => exact False.elim q3
  | _ => exact False.elim q1
/-- len(rows) -/
theorem sem_len2 {i : Nat} (hm : Γ[i]? = some .own2) : SemE s Γ (tCB (rLenA K) (tCons (tVar i) tNil)) (cal cLen (aCons (eVar i) aNil)) := by
  intro c ρ ps σ H Q P hc r q k
  obtain ⟨d, hd, q⟩ := eVar_get q
  obtain ⟨p, qs, dss, ho, rfl, hp, rw0, sub, nd⟩ := r.own2At hm hd
  have q' : P (.int ((dss.map PyData.list).length : Nat)) := q
  refine ⟨_, ho, p, _, rfl, .inl (SqL.of hp), ?_⟩
  have e : (qs.map V.ref).length = (dss.map PyData.list).length := by rw [List.length_map, List.length_map, rw0.len]
  rw [e]
  exact k _ _ H q' (Stp.refl c H) (.int _)
/-- rows[a][b] = e -/
def putRow (i : Nat) (l x row y d : D) (ρ : Env) : M Out := match l, x, row, y with
  | .list rows, .int n, .list r, .int m => match ixN rows.length n with
    | some j => match ixN r.length m with
      | some k => ret (.nx (ρ.set i (some (.list (rows.set j (.list (r.set k d)))))))
      | none => stuck
    | none => stuck
  | _, _, _, _ => stuck
def sSet2 (i : Nat) (a b e : Env → M D) : Env → M Out := fun ρ => bnd (e ρ) fun d => bnd (eVar i ρ) fun l => bnd (a ρ) fun x => bnd (gIx l x) fun row => bnd (b ρ) fun y => putRow i l x row y d ρ
theorem own2_uniq {c : Fx} {H : Hp} {U : AS} {p : Addr} {qs : List Addr} {d : D} (hp : H p = some (.lst (qs.map V.ref))) : ∀ qs', SlotR c H U .own2 (some d) (some (.ref p)) qs' → qs' = p :: qs := by
  intro qs' h
  cases h with
  | @own2 _ qs2 dss a1 a2 =>
    rw [hp] at a1
    have e : qs.map V.ref = qs2.map V.ref := by injection a1 with a1; injection a1
    have inj : ∀ x y : List Addr, x.map V.ref = y.map V.ref → x = y := by
      intro x
      induction x with
      | nil => intro y e; cases y with | nil => rfl | cons _ _ => simp at e
      | cons a x ih =>
        intro y e
        cases y with
        | nil => simp at e
        | cons b y =>
          simp only [List.map_cons, List.cons.injEq, V.ref.injEq] at e
          rw [e.1, ih y e.2]
    rw [inj _ _ e]
theorem sem_set2 {i : Nat} {t u w : TE} {e a b : Env → M D} (hm : Γ[i]? = some .own2) (he : SemE s Γ t e) (ha : SemV s Γ u a) (hb : SemV s Γ w b) : SemS s Γl Γ Γ (tAsg t (L2.gSub (tOp (rIx K) (tVar i) u) w rSetL)) (sSet2 i a b e) := by
  intro c ρ ps σ H E P hc r q k
  refine he c ρ ps σ H _ _ hc r q fun d v H0 q0 e0 d0 => ?_
  have r0 := r.stp e0
  obtain ⟨l, hl, q0⟩ := eVar_get q0
  obtain ⟨p, qs, dss, ho, rfl, hp, rw0, sub, nd⟩ := r0.own2At hm hl
  refine ⟨_, ho, ?_⟩
  refine ha c ρ ps σ H0 _ _ hc r0 q0 fun x ux H1 q1 e1 d1 => ?_
  have r1 := r0.stp e1
  have hp1 : H1 p = some (.lst (qs.map V.ref)) := e1.keep _ _ hp (r.ownA (sub p (by simp)))
  have rw1 : Rows H1 (c.U ps) qs dss := rw0.monoOn (fun z o q n => e1.keep z o q (r0.nA n)) (fun _ _ _ q => q) fun z hz o q => e1.keep z o q (r.ownA (sub z (by simp [hz])))
  cases x with
  | int n =>
    have q1 : (match L2.atI (dss.map PyData.list) n with | some d => ret d | none => (stuck : M D)) (fun row => bnd (b ρ) (fun y => putRow i (.list (dss.map .list)) (.int n) row y d ρ) P) := q1
    rw [atI_map] at q1
    cases hz : L2.atI dss n with
    | none => rw [hz] at q1; exact False.elim q1
    | some row =>
      rw [hz] at q1
      have q2 : bnd (b ρ) (fun y => putRow i (.list (dss.map .list)) (.int n) (.list row) y d ρ) P := q1
      obtain ⟨j, j1, j2⟩ : ∃ j, ixN dss.length n = some j ∧ dss[j]? = some row := by
        unfold L2.atI at hz
        cases zz : ixN dss.length n with
        | none => rw [zz] at hz; cases hz
        | some j => rw [zz] at hz; exact ⟨j, rfl, hz⟩
      obtain ⟨qa, vs, g1, g2, g3⟩ := rw1.get j2
      have hat : L2.atI (qs.map V.ref) n = some (.ref qa) := by
        rw [atI_map]
        unfold L2.atI
        rw [rw1.len, j1]
        simp [g1]
      refine .inl ⟨p, _, n, _, rfl, d1.int, SqL.of hp1, hat, ?_⟩
      refine hb c ρ ps σ H1 _ _ hc r1 q2 fun y v2 H2 q3 e2 d2 => ?_
      have qin : qa ∈ ps := sub qa (by simp [List.mem_of_getElem? g1])
      have r2 := r1.stp e2
      have g2' : H2 qa = some (.lst vs) := e2.keep _ _ g2 (r.ownA qin)
      have dn2 := g3.stp r.ok e2
      have hp2 : H2 p = some (.lst (qs.map V.ref)) := e2.keep _ _ hp1 (r.ownA (sub p (by simp)))
      have rw2 : Rows H2 (c.U ps) qs dss := rw1.monoOn (fun z o q n => e2.keep z o q (r1.nA n)) (fun _ _ _ q => q) fun z hz o q => e2.keep z o q (r.ownA (sub z (by simp [hz])))
      cases y with
      | int m =>
        have q3 : (match ixN (dss.map PyData.list).length n with
          | some j => match ixN row.length m with
            | some k => ret (Out.nx (ρ.set i (some (.list ((dss.map PyData.list).set j (.list (row.set k d)))))))
            | none => stuck
          | none => (stuck : M Out)) P := q3
        rw [List.length_map, j1] at q3
        cases z : ixN row.length m with
        | none => rw [z] at q3; exact False.elim q3
        | some kk =>
          rw [z] at q3
          have q4 : P (Out.nx (ρ.set i (some (.list ((dss.map PyData.list).set j (.list (row.set kk d))))))) := q3
          have dv : Den H2 (c.U ps) v d := (d0.stp r.ok e1).stp r.ok e2
          refine ⟨qa, vs, m, kk, rfl, d2.int, g2', by rw [g3.length]; exact z, ?_⟩
          -- the new heap
          have pq : p ≠ qa := fun e => (List.nodup_cons.mp nd).1 (by rw [e]; exact List.mem_of_getElem? g1)
          have hU : c.U ps qa := .inr qin
          have same : ∀ a o, a ≠ qa → H2 a = some o → (upd H2 qa (.lst (vs.set kk v))) a = some o := fun a o n e => by rw [upd_ne n]; exact e
          have off : ∀ a o, H2 a = some o → ¬ c.U ps a → (upd H2 qa (.lst (vs.set kk v))) a = some o := fun a o e n => same a o (fun z => n (by rw [z]; exact hU)) e
          have d3 : DenL (upd H2 qa (.lst (vs.set kk v))) (c.U ps) (vs.set kk v) (row.set kk d) := (DenL.set dv kk dn2).mono off fun _ _ _ q => q
          have rw3 : Rows (upd H2 qa (.lst (vs.set kk v))) (c.U ps) qs (dss.set j (row.set kk d)) := by
            have nq : qs.Nodup := (List.nodup_cons.mp nd).2
            have go : ∀ {qs : List Addr} {dss : List (List D)} {j : Nat}, Rows H2 (c.U ps) qs dss → qs.Nodup → qs[j]? = some qa → Rows (upd H2 qa (.lst (vs.set kk v))) (c.U ps) qs (dss.set j (row.set kk d)) := by
              intro qs dss j h
              induction h generalizing j with
              | nil => intro _ e; simp at e
              | @cons q0 qs0 vs0 ds0 dss0 a1 a2 a3 ih =>
                intro nq0 e
                have nq1 := List.nodup_cons.mp nq0
                cases j with
                | zero =>
                  simp at e
                  subst e
                  exact .cons upd_same d3 (a3.monoOn off (fun _ _ _ q => q) fun z hz o q => same z o (fun e => nq1.1 (by rw [← e]; exact hz)) q)
                | succ j =>
                  have e' : qs0[j]? = some qa := by simpa using e
                  have nz : q0 ≠ qa := fun e2 => nq1.1 (by rw [e2]; exact List.mem_of_getElem? e')
                  exact .cons (same _ _ nz a1) (a2.mono off fun _ _ _ q => q) (ih nq1.2 e')
            exact go rw2 nq g1
          have hp3 : (upd H2 qa (.lst (vs.set kk v))) p = some (.lst (qs.map V.ref)) := same _ _ pq hp2
          have eset : (dss.map PyData.list).set j (.list (row.set kk d)) = (dss.set j (row.set kk d)).map PyData.list := by rw [List.map_set]
          rw [eset] at q4
          obtain ⟨ps', sl, pm⟩ := r2.sl.updP (q := qa) (H' := upd H2 qa (.lst (vs.set kk v))) hU same (qs0 := p :: qs) (qs' := p :: qs) (by simp [List.mem_of_getElem? g1]) (SlotR.own2 hp3 rw3) (List.Perm.refl _) r2.nd (own2_uniq hp2) hm hl ho
          refine k.nx _ ps' σ _ q4 (r2.perm (fun a o n e => same a o (fun z => n (by rw [z]; exact qin)) e) (fun a ha => ?_) (r2.sz.upd fun zs q => ?_) sl pm)
          · by_cases e : a = qa
            · subst e; exact ⟨_, upd_same⟩
            · obtain ⟨xs, hx, hy⟩ := r2.sl.loose a ha
              exact ⟨xs, same a _ e hx⟩
          · rcases q with q | q <;> cases q
            rw [List.length_set]
            exact r2.sz qa vs (.inl g2')
      | _ => exact False.elim q3
  | _ => exact False.elim q1

/-- rows[k], rows[some[0]] = rows[some[0]], rows[k] -/
def swapR (i : Nat) (l s x : D) (ρ : Env) : M Out := match l, s, x with
  | .list rows, .list (.int m :: _), .int n => match ixN rows.length n with
    | some a => match ixN rows.length m with
      | some b => match rows[a]? with
        | some ra => match rows[b]? with
          | some rb => ret (.nx (ρ.set i (some (.list ((rows.set a rb).set b ra)))))
          | none => stuck
        | none => stuck
      | none => stuck
    | none => stuck
  | _, _, _ => stuck
def sSwap (i ik is : Nat) : Env → M Out := fun ρ => bnd (eVar i ρ) fun l => bnd (eVar is ρ) fun s => bnd (eVar ik ρ) fun x => swapR i l s x ρ
theorem swapR_get {i : Nat} {rows : List D} {s x : D} {ρ : Env} {P : Out → Prop} (h : swapR i (.list rows) s x ρ P) : ∃ m tl n a b ra rb, s = .list (.int m :: tl) ∧ x = .int n ∧ ixN rows.length n = some a ∧ ixN rows.length m = some b ∧ rows[a]? = some ra ∧ rows[b]? = some rb ∧ P (.nx (ρ.set i (some (.list ((rows.set a rb).set b ra))))) := by
  cases s with
  | list ss =>
    cases ss with
    | nil => exact False.elim h
    | cons hd tl =>
      cases hd with
      | int m =>
        cases x with
        | int n =>
          have h : (match ixN rows.length n with
            | some a => match ixN rows.length m with
              | some b => match rows[a]? with
                | some ra => match rows[b]? with
                  | some rb => ret (Out.nx (ρ.set i (some (.list ((rows.set a rb).set b ra)))))
                  | none => stuck
                | none => stuck
              | none => stuck
            | none => (stuck : M Out)) P := h
          cases ea : ixN rows.length n with
          | none => rw [ea] at h; exact False.elim h
          | some a =>
            rw [ea] at h
            cases eb : ixN rows.length m with
            | none => rw [eb] at h; exact False.elim h
            | some b =>
              rw [eb] at h
              dsimp only at h
              cases ra : rows[a]? with
              | none => rw [ra] at h; exact False.elim h
              | some x =>
                rw [ra] at h
                cases rb : rows[b]? with
                | none => rw [rb] at h; exact False.elim h
                | some y =>
                  rw [rb] at h
                  exact ⟨m, tl, n, a, b, x, y, rfl, rfl, ea, eb, ra, rb, h⟩
        | _ => exact False.elim h
      | _ => cases x <;> exact False.elim h
  | _ => cases x <;> exact False.elim h
theorem perm_swap {α : Type} : ∀ {xs : List α} {a b : Nat} {x y : α}, xs[a]? = some x → xs[b]? = some y → ((xs.set a y).set b x).Perm xs := by
  intro xs a b x y ha hb
  obtain ⟨la, ea⟩ := List.getElem?_eq_some_iff.mp ha
  obtain ⟨lb, eb⟩ := List.getElem?_eq_some_iff.mp hb
  subst ea eb
  exact List.set_set_perm la lb
theorem sem_swap {i ik is : Nat} (hm : Γ[i]? = some .own2) (hk : Γ[ik]? = some .fro) (hs : Γ[is]? = some .fro) :
    SemS s Γl Γ Γ (tAsg (tTup (tCons (tOp (rIx K) (tVar i) (tOp (rIx K) (tVar is) (tC (.int 0)))) (tCons (tOp (rIx K) (tVar i) (tVar ik)) tNil)))
      (gTup K 2 (gCons (L2.gSub (tVar i) (tVar ik) rSetL) (gCons (L2.gSub (tVar i) (tOp (rIx K) (tVar is) (tC (.int 0))) rSetL) gNil)))) (sSwap i ik is) := by
  intro c ρ ps σ H E P hc r q k
  obtain ⟨l, hl, q⟩ := eVar_get q
  obtain ⟨sd, hsd, q⟩ := eVar_get q
  obtain ⟨xd, hxd, q⟩ := eVar_get q
  obtain ⟨p, qs, dss, ho, rfl, hp, rw0, sub, nd⟩ := r.own2At hm hl
  obtain ⟨m, tl, n, a, b, ra, rb, rfl, rfl, ea, eb, eRa, eRb, q⟩ := swapR_get q
  rw [List.length_map] at ea eb
  rw [List.getElem?_map, Option.map_eq_some_iff] at eRa eRb
  obtain ⟨da, hda, rfl⟩ := eRa
  obtain ⟨db, hdb, rfl⟩ := eRb
  obtain ⟨qa, va, ga, _, _⟩ := rw0.get hda
  obtain ⟨qb, vb, gb, _, _⟩ := rw0.get hdb
  obtain ⟨os, _, hos, sls, _⟩ := r.sl.get hs hsd
  obtain ⟨ok, _, hok, slk, _⟩ := r.sl.get hk hxd
  cases sls with
  | fro ds =>
    cases slk with
    | fro dk =>
      cases dk
      cases ds with
      | @lst sa xs _ h1 h2 h3 =>
        cases h3 with
        | @cons v0 xs0 _ _ d1 d2 =>
          cases d1
          have pin : p ∈ ps := sub p (by simp)
          have lq : qs.length = dss.length := rw0.len
          have at0 : ∀ H', H' sa = some (.lst (.int m :: xs0)) → ∀ Q : VK, Q (.int m) H' → tOp (rIx K) (tVar is) (tC (.int 0)) σ H' Q := fun H' e Q q => ⟨_, hos, .inl ⟨sa, _, 0, .int m, rfl, rfl, SqL.of e, atI_nat (j := 0) rfl, q⟩⟩
          have ixA : L2.atI (qs.map V.ref) n = some (.ref qa) := by
            rw [atI_map]; unfold L2.atI; rw [lq, ea]; simp [ga]
          have ixB : L2.atI (qs.map V.ref) m = some (.ref qb) := by
            rw [atI_map]; unfold L2.atI; rw [lq, eb]; simp [gb]
          refine ⟨_, ho, at0 H h1 _ ?_⟩
          refine .inl ⟨p, _, m, _, rfl, rfl, SqL.of hp, ixB, ?_⟩
          refine ⟨_, ho, _, hok, .inl ⟨p, _, n, _, rfl, rfl, SqL.of hp, ixA, ?_⟩⟩
          refine ⟨by show 2 ≤ sizeLine; decide, fun T hT => ?_⟩
          have sT : ∀ z o, H z = some o → (upd H T (.tup [.ref qb, .ref qa])) z = some o := fun z o e => upd_keep hT z o e
          have hpT := sT p _ hp
          refine ⟨T, _, rfl, SqT.of upd_same, rfl, _, _, rfl, ?_⟩
          refine ⟨_, ho, _, hok, p, _, n, a, rfl, rfl, hpT, by rw [List.length_map, lq]; exact ea, ?_⟩
          have psa : sa ≠ p := fun e => h2 (.inr (by rw [e]; exact pin))
          refine ⟨_, _, rfl, _, ho, at0 _ (by rw [upd_ne psa]; exact sT sa _ h1) _ ?_⟩
          refine ⟨p, _, m, b, rfl, rfl, upd_same, by rw [List.length_set, List.length_map, lq]; exact eb, ?_⟩
          refine ⟨rfl, ?_⟩
          rw [upd_upd]
          have eq1 : (((qs.map V.ref).set a (.ref qb)).set b (.ref qa)) = ((qs.set a qb).set b qa).map V.ref := by rw [List.map_set, List.map_set]
          rw [eq1]
          have eq2 : (((dss.map PyData.list).set a (.list db)).set b (.list da)) = ((dss.set a db).set b da).map PyData.list := by rw [List.map_set, List.map_set]
          rw [eq2] at q
          have pmq : ((qs.set a qb).set b qa).Perm qs := perm_swap ga gb
          have hU : c.U ps p := .inr pin
          have rT : R c Γ ρ ps σ (upd H T (.tup [.ref qb, .ref qa])) := r.stp (Stp.tup r.ok hT (by show 2 ≤ sizeLine; decide))
          have rowsT : Rows (upd H T (.tup [.ref qb, .ref qa])) (c.U ps) qs dss := rw0.monoOn (fun z o q _ => sT z o q) (fun _ _ _ q => q) fun z hz o q => sT z o q
          have same : ∀ z o, z ≠ p → (upd H T (.tup [.ref qb, .ref qa])) z = some o → (upd (upd H T (.tup [.ref qb, .ref qa])) p (.lst (((qs.set a qb).set b qa).map V.ref))) z = some o := fun z o n e => by rw [upd_ne n]; exact e
          have off : ∀ z o, (upd H T (.tup [.ref qb, .ref qa])) z = some o → ¬ c.U ps z → (upd (upd H T (.tup [.ref qb, .ref qa])) p (.lst (((qs.set a qb).set b qa).map V.ref))) z = some o := fun z o e n => same z o (fun w => n (by rw [w]; exact hU)) e
          have nq := List.nodup_cons.mp nd
          have rows2 : Rows (upd (upd H T (.tup [.ref qb, .ref qa])) p (.lst (((qs.set a qb).set b qa).map V.ref))) (c.U ps) qs dss := rowsT.monoOn off (fun _ _ _ q => q) fun z hz o q => same z o (fun e => nq.1 (by rw [← e]; exact hz)) q
          obtain ⟨qa', va', ga', ha1, ha2⟩ := rows2.get hda
          obtain ⟨qb', vb', gb', hb1, hb2⟩ := rows2.get hdb
          rw [ga] at ga'; cases ga'
          rw [gb] at gb'; cases gb'
          have rows3 := Rows.set ha1 ha2 b (Rows.set hb1 hb2 a rows2)
          obtain ⟨ps', sl, pm⟩ := rT.sl.updP (q := p) hU same (qs0 := p :: qs) (qs' := p :: ((qs.set a qb).set b qa)) (by simp) (SlotR.own2 upd_same rows3) (pmq.cons p) rT.nd (own2_uniq hpT) hm hl ho
          refine k.nx _ ps' σ _ q (rT.perm (fun z o n e => same z o (fun w => n (by rw [w]; exact pin)) e) (fun z hz => ?_) (rT.sz.upd fun zs q => ?_) sl pm)
          · by_cases e : z = p
            · subst e; exact ⟨_, upd_same⟩
            · obtain ⟨xs, hx, hy⟩ := rT.sl.loose z hz
              exact ⟨xs, same z _ e hx⟩
          · rcases q with q | q <;> cases q
            have := rT.sz p _ (.inl hpT)
            rw [List.length_map] at this ⊢
            rw [pmq.length_eq]; exact this

/-- rows, u, w = [list(row) for row in rows], 1, 1 -/
def rowsD : List D → Option (List (List D))
  | [] => some []
  | .list r :: t => (rowsD t).map (r :: ·)
  | .tuple r :: t => (rowsD t).map (r :: ·)
  | _ => none
def sMk2 (i j l : Nat) (x y : Int) : Env → M Out := fun ρ => bnd (eVar i ρ) fun d => bnd (seqD d) fun ds => match rowsD ds with
  | some dss => ret (.nx (((ρ.set i (some (.list (dss.map .list)))).set j (some (.int x))).set l (some (.int y))))
  | none => stuck
theorem rowsD_get : ∀ {ds : List D} {dss : List (List D)}, rowsD ds = some dss → ∀ {k : Nat} {d : D}, ds[k]? = some d → ∃ r, dss[k]? = some r ∧ (d = .list r ∨ d = .tuple r)
  | [], _, h, k, d, e => by simp at e
  | .list r :: t, _, h, k, d, e => by
    simp only [rowsD, Option.map_eq_some_iff] at h
    obtain ⟨u, hu, rfl⟩ := h
    cases k with
    | zero => simp at e; subst e; exact ⟨r, rfl, .inl rfl⟩
    | succ k =>
      obtain ⟨r', e1, e2⟩ := rowsD_get hu (k := k) (by simpa using e)
      exact ⟨r', by simpa using e1, e2⟩
  | .tuple r :: t, _, h, k, d, e => by
    simp only [rowsD, Option.map_eq_some_iff] at h
    obtain ⟨u, hu, rfl⟩ := h
    cases k with
    | zero => simp at e; subst e; exact ⟨r, rfl, .inr rfl⟩
    | succ k =>
      obtain ⟨r', e1, e2⟩ := rowsD_get hu (k := k) (by simpa using e)
      exact ⟨r', by simpa using e1, e2⟩
  | .none :: _, _, h, _, _, _ => by simp [rowsD] at h
  | .bool _ :: _, _, h, _, _, _ => by simp [rowsD] at h
  | .int _ :: _, _, h, _, _, _ => by simp [rowsD] at h
  | .str _ :: _, _, h, _, _, _ => by simp [rowsD] at h
  | .dict _ :: _, _, h, _, _, _ => by simp [rowsD] at h
theorem rowsD_len : ∀ {ds : List D} {dss : List (List D)}, rowsD ds = some dss → dss.length = ds.length
  | [], _, h => by simp [rowsD] at h; subst h; rfl
  | .list r :: t, _, h => by
    simp only [rowsD, Option.map_eq_some_iff] at h
    obtain ⟨u, hu, rfl⟩ := h
    simp [rowsD_len hu]
  | .tuple r :: t, _, h => by
    simp only [rowsD, Option.map_eq_some_iff] at h
    obtain ⟨u, hu, rfl⟩ := h
    simp [rowsD_len hu]
  | .none :: _, _, h => by simp [rowsD] at h
  | .bool _ :: _, _, h => by simp [rowsD] at h
  | .int _ :: _, _, h => by simp [rowsD] at h
  | .str _ :: _, _, h => by simp [rowsD] at h
  | .dict _ :: _, _, h => by simp [rowsD] at h
/-- lists that H2 holds at qs, of what H1 knows -/
inductive RowsF (H1 H2 : Hp) (U : AS) : List Addr → List (List D) → Prop
  | nil : RowsF H1 H2 U [] []
  | snoc {q : Addr} {qs : List Addr} {vs : List V} {ds : List D} {dss : List (List D)} : RowsF H1 H2 U qs dss → H2 q = some (.lst vs) → DenL H1 U vs ds → RowsF H1 H2 U (qs ++ [q]) (dss ++ [ds])
theorem Rows.snoc {H : Hp} {U : AS} {q : Addr} {vs : List V} {ds : List D} (h1 : H q = some (.lst vs)) (h2 : DenL H U vs ds) : ∀ {qs : List Addr} {dss : List (List D)}, Rows H U qs dss → Rows H U (qs ++ [q]) (dss ++ [ds])
  | _, _, .nil => .cons h1 h2 .nil
  | _, _, .cons a b t => .cons a b (Rows.snoc h1 h2 t)
theorem RowsF.rows {H1 H2 : Hp} {U U' : AS} (e : ∀ a o, H1 a = some o → H2 a = some o) (u : ∀ a o, H1 a = some o → U' a → U a) {qs : List Addr} {dss : List (List D)} (h : RowsF H1 H2 U qs dss) : Rows H2 U' qs dss := by
  induction h with
  | nil => exact .nil
  | snoc _ h1 h2 ih => exact ih.snoc h1 (h2.mono (fun a o q _ => e a o q) u)
theorem RowsF.keep {H1 H2 H3 : Hp} {U : AS} {qs : List Addr} {dss : List (List D)} (h : RowsF H1 H2 U qs dss) (e : ∀ q ∈ qs, ∀ o, H2 q = some o → H3 q = some o) : RowsF H1 H3 U qs dss := by
  induction h with
  | nil => exact .nil
  | snoc _ h1 h2 ih => exact .snoc (ih fun q hq => e q (List.mem_append_left _ hq)) (e _ (by simp) _ h1) h2
theorem sem_mk2 {i j l r : Nat} {x y : Int} (hi : Γ[i]? = some .fro) (hj : Γ[j]? = some .fro) (hl : Γ[l]? = some .fro) (hij : i ≠ j) (hil : i ≠ l) (hr : Γ[r]? = some .fro) (hri : r ≠ i) :
    SemS s Γl Γ (Γ.set i .own2) (tAsg (tTup (tCons (tLc (iSeq K (tVar i)) (gName r) tYes (tCB (rLstOf K) (tCons (tVar r) tNil)) [r]) (tCons (tC (.int x)) (tCons (tC (.int y)) tNil))))
      (gTup K 3 (gCons (gName i) (gCons (gName j) (gCons (gName l) gNil))))) (sMk2 i j l x y) := by
  intro c ρ ps σ H E P hc r0 q k
  obtain ⟨d, hd, q⟩ := eVar_get q
  obtain ⟨ds, ed, q⟩ := seqD_get q
  obtain ⟨o, _, ho, sl, _⟩ := r0.sl.get hi hd
  cases hrw : rowsD ds with
  | none => rw [hrw] at q; exact False.elim q
  | some dss =>
    rw [hrw] at q
    have q : P (Out.nx (((ρ.set i (some (.list (dss.map .list)))).set j (some (.int x))).set l (some (.int y)))) := q
    cases sl with
    | @fro d0 v dn0 =>
      obtain ⟨a, xs, b, rfl, _, dn, nu, hh⟩ := dn0.seqU (K := K) ed
      have len := dn.length
      have lrs := rowsD_len hrw
      have main : ∀ J : It, (∀ n H', (∀ a o, H a = some o → H' a = some o) → n < ds.length → J.go n H') → (∀ H', (∀ a o, H a = some o → H' a = some o) → J.stop ds.length H') →
          (∀ n xv H' H'', (∀ a o, H a = some o → H' a = some o) → J.yld n H' xv H'' → H'' = H' ∧ xs[n]? = some xv) → ∀ Dd, H Dd = none → ∀ Qd : Hp → Prop, (∀ H2 qs, (∀ a o, H a = some o → H2 a = some o) → Sz H2 → H2 Dd = some (.lst (qs.map V.ref)) → RowsF H H2 (c.U ps) qs dss → (Dd :: qs).Nodup → (∀ z ∈ qs, H z = none) → Qd H2) →
          ∃ W : Nat → Nat → Hp → Prop, (∃ m, W 0 m (upd H Dd (.lst []))) ∧ ∀ i m H', W i m H' → (J.stop i H' ∧ Qd H') ∨ (J.go i H' ∧ ∃ Nx : Hp → Prop, (∀ H', Nx H' → ∃ m', m' < m ∧ W (i + 1) m' H') ∧ ∀ x H'', J.yld i H' x H'' → gName r x (wipe σ [r]) H'' fun σ2 H2 => wipe σ2 [r] = wipe σ [r] ∧ tYes σ2 H2 fun b H3 =>
            if b = true then tCB (rLstOf K) (tCons (tVar r) tNil) σ2 H3 fun y H4 => ∃ acc, H4 Dd = some (.lst acc) ∧ acc.length < sizeLine ∧ Nx (upd H4 Dd (.lst (acc ++ [y]))) else Nx H3) := by
        intro J hgo hstop hyld Dd hD Qd fin
        have lz : ds.length ≤ sizeLine := by rw [← len]; exact sz_seq r0.sz hh
        refine ⟨fun n m H' => m = ds.length - n ∧ n ≤ ds.length ∧ ∃ qs, (∀ a o, H a = some o → H' a = some o) ∧ Sz H' ∧ H' Dd = some (.lst (qs.map V.ref)) ∧ RowsF H H' (c.U ps) qs (dss.take n) ∧ (Dd :: qs).Nodup ∧ (∀ z ∈ qs, H z = none) ∧ qs.length = n,
          ⟨ds.length, by simp, Nat.zero_le _, [], fun a o e => upd_keep hD a o e, r0.sz.upd fun zs q => by rcases q with q | q <;> cases q; exact Nat.zero_le _, upd_same, .nil, by simp, fun z hz => absurd hz (by simp), rfl⟩, ?_⟩
        rintro n m H' ⟨rfl, hle, qs, up, sz, hDd, rf, nd, fr, lq⟩
        by_cases hlt : n < ds.length
        · refine .inr ⟨hgo n H' up hlt, fun H'' => n + 1 ≤ ds.length ∧ ∃ qs, (∀ a o, H a = some o → H'' a = some o) ∧ Sz H'' ∧ H'' Dd = some (.lst (qs.map V.ref)) ∧ RowsF H H'' (c.U ps) qs (dss.take (n + 1)) ∧ (Dd :: qs).Nodup ∧ (∀ z ∈ qs, H z = none) ∧ qs.length = n + 1,
            fun H'' h => ⟨ds.length - (n + 1), by omega, rfl, h⟩, fun xv H'' yl => ?_⟩
          obtain ⟨rfl, hxv⟩ := hyld n xv H' H'' up yl
          have hdn : ds[n]? = some ds[n] := by simp [hlt]
          obtain ⟨row, er, ekind⟩ := rowsD_get hrw hdn
          obtain ⟨w, ew, dw⟩ := dn.get hdn
          rw [hxv] at ew
          cases ew
          obtain ⟨ra, ys, rb, rfl, _, dny, nuy, hhy⟩ := dw.seqU (K := K) ekind
          have hrs : r < σ.length := by have h1 := (List.getElem?_eq_some_iff.mp hr).1; have := r0.sl.len; omega
          have hget : ((wipe σ [r]).set r (some (.ref ra)))[r]? = some (some (.ref ra)) := by
            rw [List.getElem?_set_self (by show r < (wipe σ [r]).length; rw [wipe_length]; exact hrs)]
          refine ⟨by show ((σ.set r none).set r _).set r none = σ.set r none; simp, ?_⟩
          refine iteT (B := False) ?_
          have hys : SqL K H'' ra ys ∨ SqT K H'' ra ys := by
            rcases hhy with ⟨h1, _⟩ | ⟨h1, _⟩
            · exact .inl (SqL.of (up _ _ h1))
            · exact .inr (SqT.of (up _ _ h1))
          refine ⟨_, hget, ra, ys, rfl, hys, fun lq' hlq => ?_⟩
          have ne : Dd ≠ lq' := ne_of_none hDd hlq
          refine ⟨_, by rw [upd_ne ne]; exact hDd, by rw [List.length_map, lq]; omega, hlt, qs ++ [lq'], fun z o e => ?_, ?_, ?_, ?_, ?_, ?_, by rw [List.length_append, lq]; rfl⟩
          · rw [upd_ne (ne_of_none e hD)]; exact upd_keep hlq z o (up z o e)
          · refine Sz.upd (Sz.upd sz ?_) ?_
            · intro zs q; rcases q with q | q <;> cases q; exact sz_seq r0.sz hhy
            · intro zs q; rcases q with q | q <;> cases q
              rw [List.length_append, List.length_map, lq]; show n + 1 ≤ sizeLine; omega
          · rw [upd_same, List.map_append]; rfl
          · rw [List.take_add_one, er]
            refine RowsF.snoc (rf.keep fun z hz o e => ?_) (vs := ys) ?_ dny
            · have zn : z ≠ Dd := fun w => (List.nodup_cons.mp nd).1 (by rw [← w]; exact hz)
              rw [upd_ne zn]; exact upd_keep hlq z o e
            · rw [upd_ne ne.symm, upd_same]
          · have nd' := List.nodup_cons.mp nd
            have nq : lq' ∉ qs := fun z => by
              have key : ∀ {qs : List Addr} {dss : List (List D)}, RowsF H H'' (c.U ps) qs dss → ∀ z ∈ qs, ∃ vs, H'' z = some (.lst vs) := by
                intro qs dss h
                induction h with
                | nil => intro z hz; simp at hz
                | snoc _ h1 _ ih =>
                  intro z hz
                  rcases List.mem_append.mp hz with hz | hz
                  · exact ih z hz
                  · rw [List.mem_singleton.mp hz]; exact ⟨_, h1⟩
              obtain ⟨vs, hv⟩ := key rf _ z
              rw [hlq] at hv; cases hv
            refine List.nodup_cons.mpr ⟨fun z => ?_, List.nodup_append.mpr ⟨nd'.2, by simp, fun x hx y hy e => ?_⟩⟩
            · rcases List.mem_append.mp z with z | z
              · exact nd'.1 z
              · exact ne (List.mem_singleton.mp z)
            · rw [List.mem_singleton.mp hy] at e; rw [e] at hx; exact nq hx
          · intro z hz
            rcases List.mem_append.mp hz with hz | hz
            · exact fr z hz
            · rw [List.mem_singleton.mp hz]
              cases q : H lq' with
              | none => rfl
              | some o => rw [up _ _ q] at hlq; cases hlq
        · have e : n = ds.length := by omega
          subst e
          rw [← lrs, List.take_length] at rf
          exact .inl ⟨hstop H' up, fin H' qs up sz hDd rf nd fr⟩
      have Up : ∀ {b : Addr} {o : HO} {H' : Hp}, (∀ a o, H a = some o → H' a = some o) → H b = some o → H' b = some o := fun u e => u _ _ e
      -- behind the comprehension
      have after : ∀ Dd, H Dd = none → ∀ H2 qs, (∀ a o, H a = some o → H2 a = some o) → Sz H2 → H2 Dd = some (.lst (qs.map V.ref)) → RowsF H H2 (c.U ps) qs dss → (Dd :: qs).Nodup → (∀ z ∈ qs, H z = none) →
          ([V.ref Dd, V.int x, V.int y].length ≤ sizeLine ∧ ∀ T, H2 T = none → (gTup K 3 (gCons (gName i) (gCons (gName j) (gCons (gName l) gNil)))) (.ref T) σ (upd H2 T (.tup [V.ref Dd, V.int x, V.int y])) E.nx) := by
        intro Dd hD H2 qs up sz hDd rf nd fr
        refine ⟨by show 3 ≤ sizeLine; decide, fun T hT => ⟨T, _, rfl, SqT.of upd_same, rfl, _, _, rfl, _, _, rfl, _, _, rfl, rfl, ?_⟩⟩
        have e2 : Stp c H H2 := Stp.same r0.ok up fun _ => sz
        have eT : Stp c H2 (upd H2 T (.tup [V.ref Dd, V.int x, V.int y])) := Stp.tup r0.ok hT (by show 3 ≤ sizeLine; decide)
        have rT := (r0.stp e2).stp eT
        have upT : ∀ a o, H a = some o → (upd H2 T (.tup [V.ref Dd, V.int x, V.int y])) a = some o := fun a o e => upd_keep hT a o (up a o e)
        have frA : ∀ z ∈ Dd :: qs, H z = none := fun z hz => by
          rcases List.mem_cons.mp hz with rfl | hz
          · exact hD
          · exact fr z hz
        have rows : Rows (upd H2 T (.tup [V.ref Dd, V.int x, V.int y])) (fun a => c.U ps a ∨ a ∈ Dd :: qs) qs dss := by
          have rfT : RowsF H (upd H2 T (.tup [V.ref Dd, V.int x, V.int y])) (c.U ps) qs dss := rf.keep fun z hz o e => upd_keep hT z o e
          exact rfT.rows upT fun a o e u => u.elim id fun z => by rw [frA a z] at e; cases e
        have hDT : (upd H2 T (.tup [V.ref Dd, V.int x, V.int y])) Dd = some (.lst (qs.map V.ref)) := upd_keep hT _ _ hDd
        have slT : Slots c (upd H2 T (.tup [V.ref Dd, V.int x, V.int y])) (fun a => c.U ps a ∨ a ∈ Dd :: qs) Γ ρ σ ps := r0.sl.mono (fun a ha o e => upT a o e) (fun a o e _ => upT a o e) fun a o e u => u.elim id fun z => by rw [frA a z] at e; cases e
        have hilt : i < Γ.length := (List.getElem?_eq_some_iff.mp hi).1
        obtain ⟨ps', s1, n1, m1⟩ := slT.put (SlotR.own2 hDT rows) r0.nd nd (fun a ha z => by
          obtain ⟨xs, e, _⟩ := r0.sl.loose a z
          rw [frA a ha] at e; cases e) hilt
        have rN : R c (Γ.set i .own2) (ρ.set i (some (.list (dss.map .list)))) ps' (σ.set i (some (.ref Dd))) _ := rT.ofSlots (qs := Dd :: qs) s1 n1 m1 fun a ha => ⟨r0.fresh0 (frA a ha), r0.nU0 (frA a ha)⟩
        have gj : (Γ.set i .own2)[j]? = some .fro := by rw [List.getElem?_set_ne hij]; exact hj
        have gl : (Γ.set i .own2)[l]? = some .fro := by rw [List.getElem?_set_ne hil]; exact hl
        exact k.nx _ ps' _ _ q ((rN.setFro (Den.int x) gj).setFro (Den.int y) gl)
      rcases hh with ⟨h1, _⟩ | ⟨h1, _⟩
      · refine ⟨_, ho, .inl ⟨a, rfl, ⟨xs, SqL.of h1⟩, fun Dd hD => main (Itl K a) (fun n H' up hn => ⟨xs, xs[n]'(by rw [len]; exact hn), SqL.of (up _ _ h1), by simp [len, hn]⟩) (fun H' up => ⟨xs, SqL.of (up _ _ h1), by rw [len]; exact Nat.le_refl _⟩) (fun n xv H' H'' up yl => ⟨yl.1, yl.2 xs (SqL.of (up _ _ h1))⟩) Dd hD _ fun H2 qs a1 a2 a3 a4 a5 a6 => after Dd hD H2 qs a1 a2 a3 a4 a5 a6⟩⟩
      · refine ⟨_, ho, .inr ⟨a, rfl, ⟨xs, SqT.of h1⟩, fun Dd hD => main (Itt K a) (fun n H' up hn => ⟨xs, xs[n]'(by rw [len]; exact hn), SqT.of (up _ _ h1), by simp [len, hn]⟩) (fun H' up => ⟨xs, SqT.of (up _ _ h1), by rw [len]; exact Nat.le_refl _⟩) (fun n xv H' H'' up yl => ⟨yl.1, yl.2 xs (SqT.of (up _ _ h1))⟩) Dd hD _ fun H2 qs a1 a2 a3 a4 a5 a6 => after Dd hD H2 qs a1 a2 a3 a4 a5 a6⟩⟩
end
end Py
end
section
set_option maxHeartbeats 1000000
/-! PyO: enumerate(zip(a, b)): the inner pair stays within the outer one. -/
namespace Py
open PySem PySem.Spec PyProof.Rows L2 StX
open PySem.W (kdx_alive)

/-- a zip's record, whatever became of the tuple that it gave last -/
abbrev ZipR (h : Heap) (z TI TO : Addr) (g : Value) (f : Bool) : Prop := h.get? z = some { cls := .type "zip", dict := none, data := .fields #[g, .bool f, .bool false, .ref TI, .ref TO], slots := #[] }
def LastOk (g : Value) : Prop := g = .none ∨ ∃ T : Addr, g = rawInt T
section
variable {prog : Program} {w : World} {A : Around} {E : Value → Shared → Prop} {s : Shared} {z TI TO i1 i2 : Addr} {l1 l2 : List Addr} {n1 n2 i : Nat} {P1 P2 : Nat → Value → Prop} {S1 S2 : Nat → Heap → Prop} {g : Value} {f : Bool}
theorem free_or {Q : Bool → Shared → Prop} (zr : ZipR s.heap z TI TO g f) (lk : LastOk g) (yes : Q true s) (no : ∀ h', ZipR h' z TI TO g true → Heap.SameBut z s.heap h' → Q false { s with heap := h' }) :
    wpAny (model prog w) A (Builtin.SmallTypes.ownedTupleIsFree (.ref z)) Q E s := by
  unfold Builtin.SmallTypes.ownedTupleIsFree
  rcases lk with e | ⟨T, e⟩
  · subst e
    exact wpAny_bind (wpAny_field zr rfl (x := .none) rfl (wpAny_pure yes))
  · subst e
    refine wpAny_bind (wpAny_field zr rfl (x := rawInt T) rfl ?_)
    show wpAny _ _ (loadIfAlive ((T : Int).toNat) >>= _) _ _ s
    rw [Int.toNat_natCast]
    cases q : s.heap.get? T with
    | some o =>
      refine wpAny_bind (kdx_alive q ?_)
      simp only [Option.isNone_some, Bool.false_eq_true, if_false]
      refine wpAny_bind (wpAny_field zr rfl (x := .bool f) rfl ?_)
      cases f with
      | true =>
        rw [if_neg (show ¬ ((Value.bool true != Value.bool true) = true) from Bool.false_ne_true)]
        exact wpAny_pure (no s.heap zr (Heap.SameBut.refl _ _))
      | false =>
        rw [if_pos (show (Value.bool false != Value.bool true) = true from rfl)]
        exact wpAny_bind (wpAny_setField_rec zr (by simp) fun h1 r1 k1 => wpAny_pure (no h1 r1 k1))
    | none =>
      have gone : ∀ {R : Option Obj → Shared → Prop}, R none s → wpAny (model prog w) A (loadIfAlive T) R E s := fun {R} r => by
        have r' : R (s.heap.get? T) s := by rw [q]; exact r
        exact fun _ _ _ => r'
      refine wpAny_bind (gone ?_)
      simp only [Option.isNone_none, if_true]
      exact wpAny_pure yes
/-- the cells of such a zip lie apart -/
theorem put2 {T : Addr} {a1 a2 x : Value} {k : Nat} {Q : Unit → Shared → Prop} (t : IsTupOf2 s.heap T a1 a2) (h : ∀ h', h'.get? T = some { cls := .type "tuple", data := .seq ((#[a1, a2] : Array Value).setIfInBounds k x) } → Heap.SameBut T s.heap h' → Q () { s with heap := h' }) :
    wpAny (model prog w) A (updateSeq T (·.setIfInBounds k x)) Q E s := updateSeq_IsTupOf2 t h
/-- what a draw leaves -/
structure Drew (z TI TO i1 i2 : Addr) (S1 S2 : Nat → Heap → Prop) (i : Nat) (h h' : Heap) : Prop where
  rcd : ∃ g f, ZipR h' z TI TO g f ∧ LastOk g
  out : ∃ a1 a2, IsTupOf2 h' TO a1 a2
  st1 : S1 (i + 1) h'
  st2 : S2 (i + 1) h'
  big : h.objs.size ≤ h'.objs.size
  keep : ∀ c o, c ≠ z → c ≠ TO → c ≠ i1 → c ≠ i2 → h.get? c = some o → h'.get? c = some o
theorem zip_item (Z : ZipSep2 z TI TO i1 i2 l1 l2) (U1 : Draws prog w A i1 l1 n1 P1 S1) (U2 : Draws prog w A i2 l2 n2 P2 S2) {b1 b2 : Value} (zr : ZipR s.heap z TI TO g f) (lk : LastOk g)
    (tI : IsTupOf2 s.heap TI (.ref i1) (.ref i2)) (tO : IsTupOf2 s.heap TO b1 b2) (q1 : S1 i s.heap) (q2 : S2 i s.heap) (c1 : i < n1) (c2 : i < n2) {Q : Value → Shared → Prop}
    (fin : ∀ T x y h' tk, P1 i x → P2 i y → s.heap.objs.size ≤ T → IsTupOf2 h' T x y → Drew z TI TO i1 i2 S1 S2 i s.heap h' → Q (.ref T) { s with heap := h', toks := tk }) :
    wpAny (model prog w) A (Builtin.«zip.__next__» ⟨[.ref z], []⟩) (fun r s' => ∃ v, r = .done (.ret v) ∧ Q v s') E s := by
  obtain ⟨hp, gs, dr, tk0, os⟩ := s
  show wpAny _ _ (field (.ref z) 2 >>= _) _ _ _
  refine wpAny_bind (wpAny_field zr rfl (x := .bool false) rfl ?_)
  show wpAny _ _ (field (.ref z) 3 >>= _) _ _ _
  refine wpAny_bind (wpAny_field zr rfl (x := .ref TI) rfl ?_)
  refine wpAny_bind (wpAny_seqItems tI rfl ?_)
  show wpAny _ _ (Builtin.SmallTypes.ownedTupleIsFree (.ref z) >>= _) _ _ _
  refine wpAny_bind (free_or zr lk ?_ fun h1 r1 k1 => ?_)
  · simp only [if_true]
    refine wpAny_bind (wpAny_rule ?_)
    refine wpAny_bind (wpAny_field zr rfl (x := .ref TO) rfl ?_)
    refine wpAny_bind (wpAny_setField_rec zr (by simp) fun m0 zr0 k0 => ?_)
    replace zr0 : ZipR m0 z TI TO .ellipsis f := zr0
    replace k0 : Heap.SameBut z hp m0 := k0
    refine wpAny_bind ?_
    simp only [List.zipIdx_cons, List.zipIdx_nil, List.forIn_cons, List.forIn_nil]
    refine wpAny_bind (wpAny_bind (wpAny_onRaise ?_))
    show wpAny _ _ (Builtin.SmallTypes.nextOf (.ref i1) >>= _) _ _ ⟨m0, gs, dr, tk0, os⟩
    refine wpAny_bind (U1.item i _ _ _ c1 (U1.over q1 k0 Z.zf1) fun x m1 tk1 px sx j1 => wpAny_pure ?_)
    replace j1 : Heap.SameBut i1 m0 m1 := j1
    have t1 : IsTupOf2 m1 TO b1 b2 := j1.extBut _ _ Z.Ti1 (k0.extBut _ _ Z.TOz tO)
    refine wpAny_bind (wpAny_seqItems (s := ⟨m1, gs, dr, tk1, os⟩) t1 rfl ?_)
    refine wpAny_bind (put2 (s := ⟨m1, gs, dr, tk1, os⟩) t1 fun m2 t2 j2 => ?_)
    replace t2 : IsTupOf2 m2 TO x b2 := t2
    replace j2 : Heap.SameBut TO m1 m2 := j2
    refine wpAny_bind (wpAny_letGo (wpAny_pure ?_))
    refine wpAny_bind (wpAny_bind (wpAny_onRaise ?_))
    show wpAny _ _ (Builtin.SmallTypes.nextOf (.ref i2) >>= _) _ _ ⟨m2, gs, dr, tk1, os⟩
    refine wpAny_bind (U2.item i _ _ _ c2 (U2.over (U2.over (U2.over q2 k0 Z.zf2) j1 Z.sep1_2) j2 Z.Tf2) fun y m3 tk2 py sy j3 => wpAny_pure ?_)
    replace j3 : Heap.SameBut i2 m2 m3 := j3
    have t3 : IsTupOf2 m3 TO x b2 := j3.extBut _ _ Z.Ti2 t2
    refine wpAny_bind (wpAny_seqItems (s := ⟨m3, gs, dr, tk2, os⟩) t3 rfl ?_)
    refine wpAny_bind (put2 (s := ⟨m3, gs, dr, tk2, os⟩) t3 fun m4 t4 j4 => ?_)
    replace t4 : IsTupOf2 m4 TO x y := t4
    replace j4 : Heap.SameBut TO m3 m4 := j4
    refine wpAny_bind (wpAny_letGo (wpAny_pure (wpAny_pure ?_)))
    refine wpAny_bind (wpAny_seqItems (s := ⟨m4, gs, dr, tk2, os⟩) t4 rfl ?_)
    refine wpAny_bind (wpAny_newTuple ?_)
    have sz4 : m4.objs.size = hp.objs.size := by rw [j4.1, j3.1, j2.1, j1.1, k0.1]
    have zr4 : ZipR m4 z TI TO .ellipsis f := j4.extBut _ _ Z.TOz.symm (j3.extBut _ _ Z.zi2 (j2.extBut _ _ Z.TOz.symm (j1.extBut _ _ Z.zi1 zr0)))
    have kp : ∀ c o, c ≠ z → c ≠ TO → c ≠ i1 → c ≠ i2 → hp.get? c = some o → m4.get? c = some o := fun c o cz ct d1 d2 e => j4.extBut _ _ ct (j3.extBut _ _ d2 (j2.extBut _ _ ct (j1.extBut _ _ d1 (k0.extBut _ _ cz e))))
    have s1 : S1 (i + 1) m4 := U1.over (U1.over (U1.over sx j2 Z.Tf1) j3 Z.sep2_1) j4 Z.Tf1
    have s2 : S2 (i + 1) m4 := U2.over sy j4 Z.Tf2
    have zlt : z < m4.objs.size := Heap.lt_size zr4
    show wpAny _ _ (Builtin.SmallTypes.ownedTupleHandOut (.ref z) (.ref m4.objs.size) >>= _) _ _ ⟨m4.push { cls := .type "tuple", data := .seq #[x, y] }, gs, dr, tk2, os⟩
    refine wpAny_bind ?_
    unfold Builtin.SmallTypes.ownedTupleHandOut
    have zr5 : ZipR (m4.push { cls := .type "tuple", data := .seq #[x, y] }) z TI TO .ellipsis f := Heap.get?_push_of_some _ zr4
    refine wpAny_bind (wpAny_setField_rec zr5 (by simp) fun m6 zr6 j6 => ?_)
    replace zr6 : ZipR m6 z TI TO (rawInt m4.objs.size) f := zr6
    refine wpAny_setField_rec zr6 (by simp) fun m7 zr7 j7 => ?_
    replace zr7 : ZipR m7 z TI TO (rawInt m4.objs.size) false := zr7
    replace j6 : Heap.SameBut z (m4.push { cls := .type "tuple", data := .seq #[x, y] }) m6 := j6
    replace j7 : Heap.SameBut z m6 m7 := j7
    have up : ∀ c o, c ≠ z → m4.get? c = some o → m7.get? c = some o := fun c o n e => j7.extBut _ _ n (j6.extBut _ _ n (Heap.get?_push_of_some _ e))
    have tN : IsTupOf2 m7 m4.objs.size x y := j7.extBut _ _ (Nat.ne_of_gt zlt) (j6.extBut _ _ (Nat.ne_of_gt zlt) (Heap.get?_push_size _ rfl))
    have sz7 : m7.objs.size = m4.objs.size + 1 := by rw [j7.1, j6.1, Heap.size_push]
    refine wpAny_pure ⟨_, rfl, ?_⟩
    show Q (.ref m4.objs.size) ⟨m7, gs, dr, tk2, os⟩
    refine fin m4.objs.size x y m7 tk2 px py (by show hp.objs.size ≤ _; omega) tN ⟨⟨_, _, zr7, .inr ⟨_, rfl⟩⟩, ⟨_, _, up _ _ Z.TOz t4⟩, U1.frame _ _ _ s1 fun b hb o e => up b o (fun w => Z.zf1 (w ▸ hb)) e, U2.frame _ _ _ s2 fun b hb o e => up b o (fun w => Z.zf2 (w ▸ hb)) e, ?_, fun c o cz ct d1 d2 e => up c o cz (kp c o cz ct d1 d2 e)⟩
    show hp.objs.size ≤ m7.objs.size
    omega
  · replace k1 : Heap.SameBut z hp h1 := k1
    simp only [Bool.false_eq_true, if_false]
    refine wpAny_bind ?_
    rw [← Array.forIn_toList]
    simp only [List.forIn_cons, List.forIn_nil]
    refine wpAny_bind (wpAny_bind (wpAny_holding ?_))
    show wpAny _ _ (Builtin.SmallTypes.nextOf (.ref i1) >>= _) _ _ ⟨h1, gs, dr, tk0, os⟩
    refine wpAny_bind (U1.item i _ _ _ c1 (U1.over q1 k1 Z.zf1) fun x m1 tk1 px sx j1 => wpAny_pure ?_)
    replace j1 : Heap.SameBut i1 h1 m1 := j1
    refine wpAny_pure ?_
    refine wpAny_bind (wpAny_bind (wpAny_holding ?_))
    show wpAny _ _ (Builtin.SmallTypes.nextOf (.ref i2) >>= _) _ _ ⟨m1, gs, dr, tk1, os⟩
    refine wpAny_bind (U2.item i _ _ _ c2 (U2.over (U2.over q2 k1 Z.zf2) j1 Z.sep1_2) fun y m2 tk2 py sy j2 => wpAny_pure ?_)
    replace j2 : Heap.SameBut i2 m1 m2 := j2
    refine wpAny_pure (wpAny_pure ?_)
    show wpAny _ _ (newTuple [x, y] >>= _) _ _ ⟨m2, gs, dr, tk2, os⟩
    refine wpAny_bind (wpAny_newTuple ?_)
    have sz2 : m2.objs.size = hp.objs.size := by rw [j2.1, j1.1, k1.1]
    have zr2 : ZipR m2 z TI TO g true := j2.extBut _ _ Z.zi2 (j1.extBut _ _ Z.zi1 r1)
    have kp : ∀ c o, c ≠ z → c ≠ i1 → c ≠ i2 → hp.get? c = some o → m2.get? c = some o := fun c o cz d1 d2 e => j2.extBut _ _ d2 (j1.extBut _ _ d1 (k1.extBut _ _ cz e))
    have up : ∀ c o, m2.get? c = some o → (m2.push { cls := .type "tuple", data := .seq #[x, y] }).get? c = some o := fun c o e => Heap.get?_push_of_some _ e
    refine wpAny_pure ⟨_, rfl, ?_⟩
    show Q (.ref m2.objs.size) ⟨m2.push { cls := .type "tuple", data := .seq #[x, y] }, gs, dr, tk2, os⟩
    refine fin m2.objs.size x y _ tk2 px py (by show hp.objs.size ≤ _; omega) (Heap.get?_push_size _ rfl) ⟨⟨_, _, up _ _ zr2, lk⟩, ⟨_, _, up _ _ (kp _ _ Z.TOz Z.Ti1 Z.Ti2 tO)⟩, U1.frame _ _ _ (U1.over sx j2 Z.sep2_1) fun b _ o e => up b o e, U2.frame _ _ _ sy fun b _ o e => up b o e, ?_, fun c o cz _ d1 d2 e => up c o (kp c o cz d1 d2 e)⟩
    show hp.objs.size ≤ (m2.push _).objs.size
    rw [Heap.size_push]; omega
theorem zip_stop (Z : ZipSep2 z TI TO i1 i2 l1 l2) (U1 : Draws prog w A i1 l1 n1 P1 S1) (U2 : Draws prog w A i2 l2 n2 P2 S2) {b1 b2 : Value} (zr : ZipR s.heap z TI TO g f) (lk : LastOk g)
    (tI : IsTupOf2 s.heap TI (.ref i1) (.ref i2)) (tO : IsTupOf2 s.heap TO b1 b2) (q1 : S1 i s.heap) (q2 : S2 i s.heap) (c1 : i ≤ n1) (c2 : i ≤ n2) (over : i = n1 ∨ i = n2) {Q : PySem.Fin → Shared → Prop}
    (fin : ∀ h' tk e, (∀ c o, c ≠ z → c ≠ TO → c ≠ i1 → c ≠ i2 → s.heap.get? c = some o → h'.get? c = some o) → (∃ o, h'.get? e = some o ∧ o.cls = .type "StopIteration") → E (.ref e) { s with heap := h', toks := tk }) :
    wpAny (model prog w) A (Builtin.«zip.__next__» ⟨[.ref z], []⟩) Q E s := by
  obtain ⟨hp, gs, dr, tk0, os⟩ := s
  show wpAny _ _ (field (.ref z) 2 >>= _) _ _ _
  refine wpAny_bind (wpAny_field zr rfl (x := .bool false) rfl ?_)
  show wpAny _ _ (field (.ref z) 3 >>= _) _ _ _
  refine wpAny_bind (wpAny_field zr rfl (x := .ref TI) rfl ?_)
  refine wpAny_bind (wpAny_seqItems tI rfl ?_)
  show wpAny _ _ (Builtin.SmallTypes.ownedTupleIsFree (.ref z) >>= _) _ _ _
  refine wpAny_bind (free_or zr lk ?_ fun h1 r1 k1 => ?_)
  · simp only [if_true]
    refine wpAny_bind (wpAny_rule ?_)
    refine wpAny_bind (wpAny_field zr rfl (x := .ref TO) rfl ?_)
    refine wpAny_bind (wpAny_setField_rec zr (by simp) fun m0 zr0 k0 => ?_)
    replace zr0 : ZipR m0 z TI TO .ellipsis f := zr0
    replace k0 : Heap.SameBut z hp m0 := k0
    refine wpAny_bind ?_
    simp only [List.zipIdx_cons, List.zipIdx_nil, List.forIn_cons, List.forIn_nil]
    refine wpAny_bind (wpAny_bind (wpAny_onRaise ?_))
    show wpAny _ _ (Builtin.SmallTypes.nextOf (.ref i1) >>= _) _ _ ⟨m0, gs, dr, tk0, os⟩
    by_cases lt : i < n1
    · refine wpAny_bind (U1.item i _ _ _ lt (U1.over q1 k0 Z.zf1) fun x m1 tk1 px sx j1 => wpAny_pure ?_)
      replace j1 : Heap.SameBut i1 m0 m1 := j1
      have t1 : IsTupOf2 m1 TO b1 b2 := j1.extBut _ _ Z.Ti1 (k0.extBut _ _ Z.TOz tO)
      refine wpAny_bind (wpAny_seqItems (s := ⟨m1, gs, dr, tk1, os⟩) t1 rfl ?_)
      refine wpAny_bind (put2 (s := ⟨m1, gs, dr, tk1, os⟩) t1 fun m2 t2 j2 => ?_)
      replace j2 : Heap.SameBut TO m1 m2 := j2
      refine wpAny_bind (wpAny_letGo (wpAny_pure ?_))
      have ei : i = n2 := by omega
      refine wpAny_bind (wpAny_bind (wpAny_onRaise ?_))
      show wpAny _ _ (Builtin.SmallTypes.nextOf (.ref i2) >>= _) _ _ ⟨m2, gs, dr, tk1, os⟩
      refine wpAny_bind (U2.done ⟨m2, gs, dr, tk1, os⟩ _ _ (by rw [← ei]; exact U2.over (U2.over (U2.over q2 k0 Z.zf2) j1 Z.sep1_2) j2 Z.Tf2) fun m3 e j3 he => ?_)
      replace j3 : Heap.ExtBut i2 m2 m3 := j3
      obtain ⟨oe, ho, hc⟩ := he
      replace ho : m3.get? e = some oe := ho
      have zr3 : ZipR m3 z TI TO .ellipsis f := j3 _ _ Z.zi2 (j2.extBut _ _ Z.TOz.symm (j1.extBut _ _ Z.zi1 zr0))
      have ne : e ≠ z := fun x => by subst x; rw [zr3] at ho; cases ho; simp at hc
      refine wpAny_setField_rec (s := ⟨m3, gs, dr, tk1, os⟩) zr3 (by simp) fun m4 _ j4 => ?_
      replace j4 : Heap.SameBut z m3 m4 := j4
      exact fin m4 tk1 e (fun c o cz ct d1 d2 x => j4.extBut _ _ cz (j3 _ _ d2 (j2.extBut _ _ ct (j1.extBut _ _ d1 (k0.extBut _ _ cz x))))) ⟨oe, j4.extBut _ _ ne ho, hc⟩
    · have ei : i = n1 := by omega
      refine wpAny_bind (U1.done ⟨m0, gs, dr, tk0, os⟩ _ _ (by rw [← ei]; exact U1.over q1 k0 Z.zf1) fun m3 e j3 he => ?_)
      replace j3 : Heap.ExtBut i1 m0 m3 := j3
      obtain ⟨oe, ho, hc⟩ := he
      replace ho : m3.get? e = some oe := ho
      have zr3 : ZipR m3 z TI TO .ellipsis f := j3 _ _ Z.zi1 zr0
      have ne : e ≠ z := fun x => by subst x; rw [zr3] at ho; cases ho; simp at hc
      refine wpAny_setField_rec (s := ⟨m3, gs, dr, tk0, os⟩) zr3 (by simp) fun m4 _ j4 => ?_
      replace j4 : Heap.SameBut z m3 m4 := j4
      exact fin m4 tk0 e (fun c o cz ct d1 d2 x => j4.extBut _ _ cz (j3 _ _ d1 (k0.extBut _ _ cz x))) ⟨oe, j4.extBut _ _ ne ho, hc⟩
  · replace k1 : Heap.SameBut z hp h1 := k1
    simp only [Bool.false_eq_true, if_false]
    refine wpAny_bind ?_
    rw [← Array.forIn_toList]
    simp only [List.forIn_cons, List.forIn_nil]
    refine wpAny_bind (wpAny_bind (wpAny_holding ?_))
    show wpAny _ _ (Builtin.SmallTypes.nextOf (.ref i1) >>= _) _ _ ⟨h1, gs, dr, tk0, os⟩
    by_cases lt : i < n1
    · refine wpAny_bind (U1.item i _ _ _ lt (U1.over q1 k1 Z.zf1) fun x m1 tk1 px sx j1 => wpAny_pure ?_)
      replace j1 : Heap.SameBut i1 h1 m1 := j1
      refine wpAny_pure ?_
      have ei : i = n2 := by omega
      refine wpAny_bind (wpAny_bind (wpAny_holding ?_))
      show wpAny _ _ (Builtin.SmallTypes.nextOf (.ref i2) >>= _) _ _ ⟨m1, gs, dr, tk1, os⟩
      refine wpAny_bind (U2.done ⟨m1, gs, dr, tk1, os⟩ _ _ (by rw [← ei]; exact U2.over (U2.over q2 k1 Z.zf2) j1 Z.sep1_2) fun m3 e j3 he => ?_)
      replace j3 : Heap.ExtBut i2 m1 m3 := j3
      exact fin m3 tk1 e (fun c o cz ct d1 d2 x => j3 _ _ d2 (j1.extBut _ _ d1 (k1.extBut _ _ cz x))) he
    · have ei : i = n1 := by omega
      refine wpAny_bind (U1.done ⟨h1, gs, dr, tk0, os⟩ _ _ (by rw [← ei]; exact U1.over q1 k1 Z.zf1) fun m3 e j3 he => ?_)
      replace j3 : Heap.ExtBut i1 h1 m3 := j3
      exact fin m3 tk0 e (fun c o cz ct d1 d2 x => j3 _ _ d1 (k1.extBut _ _ cz x)) he
end

/-! ### two new objects at once -/
theorem turned2 {X : Cx} {pins : List (Addr × Obj)} {σ : L2.St} {H : Hp} {s : Shared} {h' : Heap} {t' : Nat} {ch : List Addr} {T1 T2 : Addr} {o1 o2 : HO} (I : Inv X pins σ H s) (k : ∀ b o, b ∉ ch → s.heap.get? b = some o → h'.get? b = some o) (hf : ∀ b ∈ ch, FpOk X pins H b)
    (g1 : s.heap.objs.size ≤ T1) (g2 : s.heap.objs.size ≤ T2) (new1 : ObjOk X.prog X.w (upd (upd H T1 o1) T2 o2) h' T1 o1) (new2 : ObjOk X.prog X.w (upd (upd H T1 o1) T2 o2) h' T2 o2) (ne : T1 ≠ T2) : Inv X pins σ (upd (upd H T1 o1) T2 o2) { s with heap := h', toks := t' } := by
  have f1 : H T1 = none := I.hok.fresh g1
  have f2 : H T2 = none := I.hok.fresh g2
  have same : ∀ b u, H b = some u → (upd (upd H T1 o1) T2 o2) b = some u := fun b u e => by rw [upd_ne (ne_of_none e f2), upd_ne (ne_of_none e f1)]; exact e
  have nit : ∀ b u, H b = some u → b ∉ ch := fun b u e z => by
    have q := (hf b z).1
    rw [q] at e; cases e
  refine I.step (g' := s.gens) (d' := s.drawn) (ch := ch) (fun b hb => let ⟨_, a2, _, a4, a5, a6⟩ := hf b hb; ⟨a4, a2, a5, a6⟩) (fun b o _ _ hc e _ => k b o hc e) (fun b o _ _ hc e _ => ⟨_, k b o hc e⟩)
    (fun b o _ e n => ?_) (fun b o hc e => ⟨_, k b o hc e⟩) (fun b xs e => same b _ e) (fun b o u e => same b _ e) (fun b ps e => ⟨#[], ?_⟩) (fun m hm => ?_) (fun b u e => ?_) I.bare
  · have lt := Heap.lt_size e
    rw [upd_ne (Nat.ne_of_lt (Nat.lt_of_lt_of_le lt g2)), upd_ne (Nat.ne_of_lt (Nat.lt_of_lt_of_le lt g1))]; exact n
  · rw [same b _ e]; simp
  · obtain ⟨o, es, ep, ho, r⟩ := hm
    exact ⟨o, es, ep, k _ o (fun z => (hf _ z).2.1 rfl) ho, r⟩
  · by_cases b2 : b = T2
    · subst b2
      rw [upd_same] at e
      cases e
      exact new2
    · rw [upd_ne b2] at e
      by_cases b1 : b = T1
      · subst b1
        rw [upd_same] at e
        cases e
        exact new1
      · rw [upd_ne b1] at e
        exact (I.hok b u e).stay (fun c v hc q => k c v (hc.elim (fun w => by rw [w]; exact nit b u e) fun w => nit c _ w) q) (fun c q => same c _ q) fun c xs q => same c _ q

/-! ### enumerate over such a zip -/
def itEZ (K : PySem.W.Frag) (b1 b2 : Bool) (a b : Addr) : It :=
  ⟨goZ K b1 b2 a b, fun i H v H' => ∃ T1 T2 x y, v = .ref T2 ∧ H T1 = none ∧ H T2 = none ∧ T1 ≠ T2 ∧ H' = upd (upd H T1 (.tup [x, y])) T2 (.tup [.int (i : Nat), .ref T1]) ∧ valZ K b1 b2 a b i H [x, y], stopZ K b1 b2 a b⟩
def tnEZ (b1 b2 : Bool) (e z TI TO i1 i2 a b : Addr) : Nat → Heap → Prop := fun i h => (∃ old, IsEnum h e z (0 + ((i : Nat) : Int)) old) ∧ (∃ g f, ZipR h z TI TO g f ∧ LastOk g) ∧ IsTupOf2 h TI (.ref i1) (.ref i2) ∧ (∃ a1 a2, IsTupOf2 h TO a1 a2) ∧ ItB b1 h i1 a i ∧ ItB b2 h i2 b i
theorem next_zip {prog : Program} {w : World} {A : Around} {E : Value → Shared → Prop} {s : Shared} {z TI TO : Addr} {g : Value} {f : Bool} {Q : Value → Shared → Prop} (zr : ZipR s.heap z TI TO g f)
    (h : wpAny (model prog w) A.in1 (Builtin.«zip.__next__» ⟨[.ref z], []⟩) (fun r s' => ∃ v, r = .done (.ret v) ∧ Q v s') E s) : wpAny (model prog w) A (Builtin.SmallTypes.nextOf (.ref z)) Q E s := by
  have ty : s.TypeIs (.ref z) "zip" := ⟨_, zr, rfl⟩
  unfold Builtin.SmallTypes.nextOf
  refine wpAny_bind (wpAny_callSpecial?_slot (name := Str.ofString "__next__") ty F.slot_zip_next (wpAny_call_entry F.slot_zip_next ty F.entry_zip_next ?_ (F.args_zip_next_1 _)))
  refine wpAny_mono h (fun r s' hr => ?_) fun _ _ q => q
  obtain ⟨v, e, q⟩ := hr
  subst e
  exact ⟨_, rfl, wpAny_pure q⟩

section
variable {prog : Program} {w : World} {A : Around} {E : Value → Shared → Prop} {s : Shared} {e z TI TO i1 i2 : Addr} {l1 l2 : List Addr} {n1 n2 i : Nat} {P1 P2 : Nat → Value → Prop} {S1 S2 : Nat → Heap → Prop} {g : Value} {f : Bool} {c : Int} {old : Value}
theorem ez_item (Z : ZipSep2 z TI TO i1 i2 l1 l2) (U1 : Draws prog w A.in1 i1 l1 n1 P1 S1) (U2 : Draws prog w A.in1 i2 l2 n2 P2 S2) (he : IsEnum s.heap e z c old) {b1 b2 : Value} (zr : ZipR s.heap z TI TO g f) (lk : LastOk g)
    (tI : IsTupOf2 s.heap TI (.ref i1) (.ref i2)) (tO : IsTupOf2 s.heap TO b1 b2) (q1 : S1 i s.heap) (q2 : S2 i s.heap) (c1 : i < n1) (c2 : i < n2) (ez : e ≠ z) (eO : e ≠ TO) (e1 : e ∉ l1) (e2 : e ∉ l2) {Q : Value → Shared → Prop}
    (fin : ∀ T1 T2 x y t h' tk, P1 i x → P2 i y → s.heap.objs.size ≤ T1 → s.heap.objs.size ≤ T2 → T1 ≠ T2 → IsTupOf2 h' T1 x y → h'.get? T2 = some { cls := .type "tuple", data := .seq #[.int c t, .ref T1] } → IsEnumOut h' e z (c + 1) (.ref T1) T2 → Drew z TI TO i1 i2 S1 S2 i s.heap h'  ∨ True →
      (∃ g f, ZipR h' z TI TO g f ∧ LastOk g) → (∃ a1 a2, IsTupOf2 h' TO a1 a2) → S1 (i + 1) h' → S2 (i + 1) h' → (∀ c o, c ≠ e → c ≠ z → c ≠ TO → c ≠ i1 → c ≠ i2 → s.heap.get? c = some o → h'.get? c = some o) → Q (.ref T2) { s with heap := h', toks := tk }) :
    wpAny (model prog w) A (Builtin.«enumerate.__next__» ⟨[.ref e], []⟩) (fun r s' => ∃ v, r = .done (.ret v) ∧ Q v s') E s := by
  obtain ⟨hp, gs, dr, tk0, os⟩ := s
  have ne1 : e ≠ i1 := fun w => e1 (by rw [w]; exact Z.mem1)
  have ne2 : e ≠ i2 := fun w => e2 (by rw [w]; exact Z.mem2)
  show wpAny _ _ (field (.ref e) 2 >>= _) _ _ _
  refine wpAny_bind (wpAny_field he rfl (x := .ref z) rfl ?_)
  refine wpAny_bind (next_zip zr (zip_item Z U1 U2 zr lk tI tO q1 q2 c1 c2 fun T1 x y m1 tk1 px py g1 tN dw => ?_))
  replace g1 : hp.objs.size ≤ T1 := g1
  have big1 : hp.objs.size ≤ m1.objs.size := dw.big
  have he1 : IsEnum m1 e z c old := dw.keep _ _ ez eO ne1 ne2 he
  have l1 : T1 < m1.objs.size := Heap.lt_size tN
  have eT : e ≠ T1 := Nat.ne_of_lt (Nat.lt_of_lt_of_le (Heap.lt_size (show hp.get? e = _ from he)) g1)
  show wpAny _ _ (field (.ref e) 3 >>= _) _ _ ⟨m1, gs, dr, tk1, os⟩
  refine wpAny_bind (wpAny_field he1 rfl (x := rawInt c) rfl ?_)
  show wpAny _ _ (field (.ref e) 4 >>= _) _ _ ⟨m1, gs, dr, tk1, os⟩
  refine wpAny_bind (wpAny_field he1 rfl (x := .none) rfl ?_)
  show wpAny _ _ (mkInt c >>= _) _ _ ⟨m1, gs, dr, tk1, os⟩
  refine wpAny_bind (wpAny_mkInt ?_)
  show wpAny _ _ (setField (.ref e) 3 (rawInt (c + 1)) >>= _) _ _ ⟨m1, gs, dr, tk1 + 1, os⟩
  refine wpAny_bind (wpAny_setField_rec he1 (by simp) fun m2 he2 k2 => ?_)
  replace k2 : Heap.SameBut e m1 m2 := k2
  replace he2 : IsEnum m2 e z (c + 1) old := he2
  show wpAny _ _ (setField (.ref e) 4 .none >>= _) _ _ ⟨m2, gs, dr, tk1 + 1, os⟩
  refine wpAny_bind (wpAny_setField_rec he2 (by simp) fun m3 he3 k3 => ?_)
  replace k3 : Heap.SameBut e m2 m3 := k3
  replace he3 : IsEnum m3 e z (c + 1) old := he3
  show wpAny _ _ (newTuple [.int c tk1, .ref T1] >>= _) _ _ ⟨m3, gs, dr, tk1 + 1, os⟩
  refine wpAny_bind (wpAny_newTuple ?_)
  have sz3 : m3.objs.size = m1.objs.size := by rw [k3.1, k2.1]
  have he4 : IsEnum (m3.push { cls := .type "tuple", data := .seq #[.int c tk1, .ref T1] }) e z (c + 1) old := Heap.get?_push_of_some _ he3
  have t4 : (m3.push { cls := .type "tuple", data := .seq #[.int c tk1, .ref T1] }).get? m3.objs.size = some { cls := .type "tuple", data := .seq #[.int c tk1, .ref T1] } := Heap.get?_push_size _ rfl
  have up4 : ∀ b o, b ≠ e → m1.get? b = some o → (m3.push { cls := .type "tuple", data := .seq #[.int c tk1, .ref T1] }).get? b = some o := fun b o n q => Heap.get?_push_of_some _ (k3.extBut _ _ n (k2.extBut _ _ n q))
  have neT : e ≠ m3.objs.size := Nat.ne_of_lt (Heap.lt_size he3)
  generalize (m3.push { cls := .type "tuple", data := .seq #[.int c tk1, .ref T1] }) = m4 at he4 t4 up4
  show wpAny _ _ (Builtin.SmallTypes.ownedTupleIsFree (.ref e) >>= _) _ _ ⟨m4, gs, dr, tk1 + 1, os⟩
  refine wpAny_bind ?_
  unfold Builtin.SmallTypes.ownedTupleIsFree
  refine wpAny_bind (wpAny_field he4 rfl (x := .none) rfl (wpAny_pure ?_))
  simp only [if_true]
  refine wpAny_bind (wpAny_rule ?_)
  refine wpAny_bind (wpAny_field he4 rfl (x := old) rfl ?_)
  refine wpAny_bind (wpAny_setField_rec he4 (by simp) fun m5 he5 k5 => ?_)
  replace k5 : Heap.SameBut e m4 m5 := k5
  replace he5 : IsEnum m5 e z (c + 1) (.ref T1) := he5
  show wpAny _ _ (Builtin.SmallTypes.ownedTupleHandOut (.ref e) (.ref m3.objs.size) >>= _) _ _ ⟨m5, gs, dr, tk1 + 1, os⟩
  refine wpAny_bind ?_
  unfold Builtin.SmallTypes.ownedTupleHandOut
  refine wpAny_bind (wpAny_setField_rec he5 (by simp) fun m6 he6 k6 => ?_)
  replace k6 : Heap.SameBut e m5 m6 := k6
  replace he6 : IsEnumOut m6 e z (c + 1) (.ref T1) m3.objs.size := he6
  refine wpAny_setField_rec he6 (by simp) fun m7 he7 k7 => ?_
  replace k7 : Heap.SameBut e m6 m7 := k7
  replace he7 : IsEnumOut m7 e z (c + 1) (.ref T1) m3.objs.size := he7
  have up7 : ∀ b o, b ≠ e → m4.get? b = some o → m7.get? b = some o := fun b o n q => k7.extBut _ _ n (k6.extBut _ _ n (k5.extBut _ _ n q))
  have up : ∀ b o, b ≠ e → m1.get? b = some o → m7.get? b = some o := fun b o n q => up7 b o n (up4 b o n q)
  obtain ⟨gg, ff, zr1, lk1⟩ := dw.rcd
  obtain ⟨a1, a2, tO1⟩ := dw.out
  refine wpAny_bind (wpAny_letGo (wpAny_pure ⟨_, rfl, ?_⟩))
  refine fin T1 m3.objs.size x y tk1 m7 (tk1 + 1) px py g1 (by show hp.objs.size ≤ _; omega) (Nat.ne_of_lt (by omega)) (up _ _ eT.symm tN) (up7 _ _ neT.symm t4) he7 (.inr trivial) ⟨gg, ff, up _ _ ez.symm zr1, lk1⟩ ⟨a1, a2, up _ _ eO.symm tO1⟩
    (U1.frame _ _ _ dw.st1 fun b hb o q => up b o (fun w => e1 (w ▸ hb)) q) (U2.frame _ _ _ dw.st2 fun b hb o q => up b o (fun w => e2 (w ▸ hb)) q) fun b o ne nz nO n1 n2 q => up b o ne (dw.keep b o nz nO n1 n2 q)
end
theorem turn_ez {P : Program} {w : World} {K : PySem.W.Frag} {b1 b2 : Bool} {e z TI TO i1 i2 a b : Addr} {elts : List Expr} {k : Nat} {pos : Pos} (Z : ZipSep2 z TI TO i1 i2 [i1, a] [i2, b]) (ha : a ≠ i1) (hb : b ≠ i2) (ez : e ≠ z) (eI : e ≠ TI) (eO : e ≠ TO) (e1 : e ∉ [i1, a]) (e2 : e ∉ [i2, b]) :
    Turn P w K (.Tuple elts k pos) (itEZ K b1 b2 a b) [e, z, TI, TO, i1, i2] e (tnEZ b1 b2 e z TI TO i1 i2 a b) where
  mem := by simp
  obj := fun i h st c hc => by
    obtain ⟨⟨old, he⟩, ⟨g, f, zr, _⟩, tI, ⟨x, y, tO⟩, h1, h2⟩ := st
    have e' : c = e ∨ c = z ∨ c = TI ∨ c = TO ∨ c = i1 ∨ c = i2 := by simpa using hc
    rcases e' with q | q | q | q | q | q
    · rw [q]; exact ⟨_, he, fun v q => nomatch q⟩
    · rw [q]; exact ⟨_, zr, fun v q => nomatch q⟩
    · rw [q]; exact ⟨_, tI, fun v q => nomatch q⟩
    · rw [q]; exact ⟨_, tO, fun v q => nomatch q⟩
    · rw [q]; exact h1.obj
    · rw [q]; exact h2.obj
  keep := fun i h h' st kp => by
    obtain ⟨⟨old, he⟩, ⟨g, f, zr, lk⟩, tI, ⟨x, y, tO⟩, h1, h2⟩ := st
    exact ⟨⟨old, kp e (by simp) _ he⟩, ⟨g, f, kp z (by simp) _ zr, lk⟩, kp TI (by simp) _ tI, ⟨x, y, kp TO (by simp) _ tO⟩, h1.at fun o q => kp i1 (by simp) o q, h2.at fun o q => kp i2 (by simp) o q⟩
  item := by
    intro X hP hw hK hc i pins s σ H E Iv hf st hg
    have hh := Iv.ok.hd hc
    subst hP hw hK
    obtain ⟨⟨old, he⟩, ⟨g, f, zr, lk⟩, tI, ⟨x0, y0, tO⟩, h1, h2⟩ := st
    obtain ⟨xs, ys, x, y, hqx, hqy, hx, hy⟩ := hg
    obtain ⟨its, rv, p, la⟩ := hqx.raw Iv
    obtain ⟨its2, rv2, p2, lb⟩ := hqy.raw Iv
    have hi1 : i < xs.length := (List.getElem?_eq_some_iff.mp hx).1
    have hi2 : i < ys.length := (List.getElem?_eq_some_iff.mp hy).1
    have l1 := rv.length
    have l2 := rv2.length
    have ty : s.TypeIs (.ref e) "enumerate" := ⟨_, he, rfl⟩
    unfold pyNext
    refine wpAny_bind (wpAny_attempt (wpAny_callSpecial?_slot (name := Str.ofString "__next__") ty F.slot_enumerate_next (wpAny_call_entry F.slot_enumerate_next ty F.entry_enumerate_next ?_ (F.args_enumerate_next_1 _))))
    refine ez_item Z (draws_b (A := X.A.in1.in1) hh b1 i1 a ha its.toArray) (draws_b (A := X.A.in1.in1) hh b2 i2 b hb its2.toArray) he zr lk tI tO ⟨h1, p⟩ ⟨h2, p2⟩ (by simp only [List.size_toArray]; omega) (by simp only [List.size_toArray]; omega) ez eO e1 e2 fun T1 T2 u1 u2 t h' tk px py g1 g2 ne12 tN t2 eo _ zr' tO' s1 s2 kp => ?_
    refine wpAny_pure ⟨_, rfl, ?_⟩
    refine wpAny_letOwnedTupleGo_enum eo fun h'' he' k2 => ?_
    replace k2 : Heap.SameBut e h' h'' := k2
    obtain ⟨v1, hv1, r1⟩ := rv.get hx
    obtain ⟨v2, hv2, r2⟩ := rv2.get hy
    have q1 : v1 = u1 := Option.some.inj (hv1.symm.trans (by simpa using px))
    have q2 : v2 = u2 := Option.some.inj (hv2.symm.trans (by simpa using py))
    subst q1 q2
    have lte : e < s.heap.objs.size := Heap.lt_size he
    have tN' : IsTupOf2 h'' T1 v1 v2 := k2.extBut _ _ (Nat.ne_of_gt (Nat.lt_of_lt_of_le lte g1)) tN
    have t2' := k2.extBut _ _ (Nat.ne_of_gt (Nat.lt_of_lt_of_le lte g2)) t2
    obtain ⟨gg, ff, zr1, lk1⟩ := zr'
    obtain ⟨a1, a2, tO1⟩ := tO'
    have f1 : H T1 = none := Iv.hok.fresh g1
    have f2 : H T2 = none := Iv.hok.fresh g2
    have ltTI : TI ≠ i1 ∧ TI ≠ i2 ∧ TI ≠ TO ∧ TI ≠ z := ⟨Z.TIi1, Z.TIi2, Z.TITO, Z.TIz⟩
    refine ⟨.ref T2, _, turned2 (s := s) (h' := h'') (t' := tk) (ch := [e, z, TI, TO, i1, i2]) (o1 := .tup [x, y]) (o2 := .tup [.int (i : Nat), .ref T1]) Iv (fun c o hc q => ?_) hf g1 g2 ?_ ?_ ne12, rfl, ⟨T1, T2, x, y, rfl, f1, f2, ne12, rfl, x, y, rfl, fun l hl => by rw [hl.inj Iv hqx]; exact hx, fun l hl => by rw [hl.inj Iv hqy]; exact hy⟩, ?_, fun c hc => ?_⟩
    · have n : c ≠ e ∧ c ≠ z ∧ c ≠ TI ∧ c ≠ TO ∧ c ≠ i1 ∧ c ≠ i2 := by simpa using hc
      exact k2.extBut _ _ n.1 (kp c o n.1 n.2.1 n.2.2.2.1 n.2.2.2.2.1 n.2.2.2.2.2 q)
    · exact ⟨by show 2 ≤ sizeLine; decide, [v1, v2], .cons r1 (.cons r2 .nil), ⟨_, tN', rfl, _, rfl⟩⟩
    · exact ⟨by show 2 ≤ sizeLine; decide, [.int (0 + (i : Int)) t, .ref T1], .cons ⟨t, by rw [Int.zero_add]⟩ (.cons rfl .nil), ⟨_, t2', rfl, _, rfl⟩⟩
    · have nx : (0 : Int) + ((i + 1 : Nat) : Int) = 0 + (i : Int) + 1 := by omega
      refine ⟨⟨.ref T1, by rw [nx]; exact he'⟩, ⟨gg, ff, k2.extBut _ _ ez.symm zr1, lk1⟩, k2.extBut _ _ eI.symm (kp TI _ eI.symm ltTI.2.2.2 ltTI.2.2.1 ltTI.1 ltTI.2.1 tI), ⟨a1, a2, k2.extBut _ _ eO.symm tO1⟩, s1.1.at fun o q => k2.extBut _ _ (fun w => e1 (by rw [w]; simp)) q, s2.1.at fun o q => k2.extBut _ _ (fun w => e2 (by rw [w]; simp)) q⟩
    · have hc' : c = e ∨ c = z ∨ c = TI ∨ c = TO ∨ c = i1 ∨ c = i2 := by simpa using hc
      have ex : ∃ o, s.heap.get? c = some o := by
        rcases hc' with q | q | q | q | q | q
        · rw [q]; exact ⟨_, he⟩
        · rw [q]; exact ⟨_, zr⟩
        · rw [q]; exact ⟨_, tI⟩
        · rw [q]; exact ⟨_, tO⟩
        · rw [q]; obtain ⟨o, ho, _⟩ := h1.obj; exact ⟨o, ho⟩
        · rw [q]; obtain ⟨o, ho, _⟩ := h2.obj; exact ⟨o, ho⟩
      obtain ⟨o, ho⟩ := ex
      have lt := Heap.lt_size ho
      rw [upd_ne (Nat.ne_of_lt (Nat.lt_of_lt_of_le lt g2)), upd_ne (Nat.ne_of_lt (Nat.lt_of_lt_of_le lt g1))]
      exact (hf c hc).1
  done := by
    intro X hP hw hK hc i pins s σ H E Iv hf st hg
    have hh := Iv.ok.hd hc
    subst hP hw hK
    obtain ⟨⟨old, he⟩, ⟨g, f, zr, lk⟩, tI, ⟨x0, y0, tO⟩, h1, h2⟩ := st
    obtain ⟨xs, ys, hqx, hqy, hi⟩ := hg
    obtain ⟨its, rv, p, la⟩ := hqx.raw Iv
    obtain ⟨its2, rv2, p2, lb⟩ := hqy.raw Iv
    have l1 := rv.length
    have l2 := rv2.length
    have ty : s.TypeIs (.ref e) "enumerate" := ⟨_, he, rfl⟩
    unfold pyNext
    refine wpAny_bind (wpAny_attempt (wpAny_callSpecial?_slot (name := Str.ofString "__next__") ty F.slot_enumerate_next (wpAny_call_entry F.slot_enumerate_next ty F.entry_enumerate_next ?_ (F.args_enumerate_next_1 _))))
    show wpAny _ _ (field (.ref e) 2 >>= _) _ _ _
    refine wpAny_bind (wpAny_field he rfl (x := .ref z) rfl ?_)
    refine wpAny_bind (next_zip zr (zip_stop Z (draws_b (A := X.A.in1.in1) hh b1 i1 a ha its.toArray) (draws_b (A := X.A.in1.in1) hh b2 i2 b hb its2.toArray) zr lk tI tO ⟨h1, p⟩ ⟨h2, p2⟩ (by simp only [List.size_toArray]; omega) (by simp only [List.size_toArray]; omega) (by simp only [List.size_toArray]; omega) fun h' tk e' kp hx => ?_))
    obtain ⟨o, ho, hc'⟩ := hx
    refine wpAny_bind (wpAny_isInstance (T := "StopIteration") (b := true) ⟨o, ho, hc'⟩ isSubtype_stop ?_)
    refine wpAny_pure ⟨rfl, ?_⟩
    exact Iv.turnedL (ch := [e, z, TI, TO, i1, i2]) (fun c o hc q => by
      have n : c ≠ e ∧ c ≠ z ∧ c ≠ TI ∧ c ≠ TO ∧ c ≠ i1 ∧ c ≠ i2 := by simpa using hc
      exact kp c o n.2.1 n.2.2.2.1 n.2.2.2.2.1 n.2.2.2.2.2 q) hf
  self := fun A i s Q E st h => let ⟨⟨_, he⟩, _⟩ := st; wpAny_pyIter_enum he h

theorem meets_enumZ {z TI TO : Addr} :
    Meets (Builtin.«enumerate.__new__» ⟨[.type "enumerate", .ref z], []⟩) (fun _ R s => IsZip s.heap z TI TO .none ∧
      R (.ok (.ret (.ref s.heap.objs.size))) { s with heap := s.heap.push { cls := .type "enumerate", data := .fields #[.none, .bool false, .ref z, rawInt 0, .none, .none] } }) :=
  .of_wp fun prog w A R s h => by
    obtain ⟨hp, g, d, tk, os⟩ := s; obtain ⟨hl, h⟩ := h
    have hsub := sub_enumerate
    have q1 : ∀ {A' : Around} {E : Value → Shared → Prop} {Q : Value → Shared → Prop}, Q (.ref z) ⟨hp, g, d, tk, os⟩ → wpAny (model prog w) A' (pyIter (.ref z)) Q E ⟨hp, g, d, tk, os⟩ :=
      fun q => wpAny_pyIter_zip (s := ⟨hp, g, d, tk, os⟩) hl q
    wp_walk
    refine wpAny_stack_any fun st => wpAny_pure ?_
    split
    · rename_i c _ _ _ _ _
      cases (c == Value.type "enumerate")
      · wp_walk using q1
        exact ⟨_, rfl, h⟩
      · wp_walk using q1
        exact ⟨_, rfl, h⟩
    · wp_walk using q1
      exact ⟨_, rfl, h⟩
theorem enum_zip {prog : Program} {w : World} {A : Around} {E : Value → Shared → Prop} {s : Shared} {z TI TO : Addr} {Q : Value → Shared → Prop} (hz : IsZip s.heap z TI TO .none)
    (h : ∀ h', IsEnum h' s.heap.objs.size z 0 .none → (∀ b u, s.heap.get? b = some u → h'.get? b = some u) → Q (.ref s.heap.objs.size) { s with heap := h' }) :
    wpAny (model prog w) A (call (.type "enumerate") [.ref z]) Q E s := by
  refine callType_new F.called_enumerate (by decide) (F.typeCall_enumerate_1 _) (F.newCall_enumerate_1 _) (fun obj => F.args_object_init_2 obj _) F.entry_enumerate_new (meets_enumZ (TI := TI) (TO := TO)) ⟨hz, ?_⟩
  have he : IsEnum (s.heap.push { cls := .type "enumerate", data := .fields #[.none, .bool false, .ref z, rawInt 0, .none, .none] }) s.heap.objs.size z 0 .none := Heap.get?_push_size _ rfl
  exact ⟨⟨_, he, rfl⟩, h _ he fun b u x => Heap.get?_push_of_some _ x⟩
def iEZ (K : PySem.W.Frag) (ta : TA) : TI := fun σ H R => ta σ H fun vs H1 => ∃ a b b1 b2 xs ys, vs = [.ref a, .ref b] ∧ SqB K b1 H1 a xs ∧ SqB K b2 H1 b ys ∧ R (itEZ K b1 b2 a b) H1
theorem pi_ez {X : Cx} {e e2 : Expr} {ta : TA} {p pos p2 pos2 tpos : Pos} {elts : List Expr} {kk : Nat} (hg0 : Gl X "enumerate") (hm0 : X.mg "enumerate" = none) (hg : Gl X "zip") (hm : X.mg "zip" = none) (ha : PA X [e, e2] ta)
    (hs0 : starEach [.Call (.Name "zip" p2) [e, e2] [] pos2] X.env = (false, eval (.Call (.Name "zip" p2) [e, e2] [] pos2) X.env) :: starEach [] X.env := by rfl)
    (hs : starEach [e, e2] X.env = (false, eval e X.env) :: starEach [e2] X.env := by rfl) (hpl : (backTo pos2 (starEach [e2] X.env)).any (·.1) = false := by rfl) :
    PI X (.Tuple elts kk tpos) (.Call (.Name "enumerate" p) [.Call (.Name "zip" p2) [e, e2] [] pos2] [] pos) (iEZ X.K ta) := by
  refine ⟨fun pn st sg Hh Rr In hw => ?_⟩
  refine Call_ (ld_blt In hg0 hm0 boot_enumerate ?_)
  refine PyProof.Rows.callWith_type1 (PyProof.Rows.args_cons ?_ hs0) hs0 rfl
  refine Call_ (ld_blt In hg hm PyProof.Rows.boot_zip (PyProof.Rows.callWith_type1 (thn (ha.run pos2 pn st sg Hh _ In hw) fun us s1 ⟨vs, H1, I1, r1, q1⟩ => ?_) hs hpl))
  obtain ⟨a, b, b1, b2, xs, ys, ex, hqx, hqy, q⟩ := q1
  subst ex
  cases r1 with
  | cons r rr =>
    cases rr with
    | cons r' rr =>
      cases rr
      cases r
      cases r'
      obtain ⟨its, rv, p1, la⟩ := hqx.raw I1
      obtain ⟨its2, rv2, p2', lb⟩ := hqy.raw I1
      refine zip_begins2 (begins_b b1 a its.toArray) (begins_b b2 b its2.toArray) p1 p2' fun h' hz hTI hTO h1 h2 hsz hk => PyProof.Rows.args_nil ?_
      refine enum_zip (s := { s1 with heap := h' }) hz fun h3 he hk3 => wpAny_pyIter_enum (s := { s1 with heap := h3 }) he ?_
      have I2 : Inv X pn sg H1 { s1 with heap := h3 } := I1.kept (t' := s1.toks) fun b o q => hk3 b o (hk b o q)
      have S := zip_sep2 (N := s1.heap.objs.size) (fp1 := [a]) (fp2 := [b]) (by simpa using la) (by simpa using lb)
      have big : s1.heap.objs.size + 5 ≤ h'.objs.size := by rw [hsz]; exact Nat.le_refl _
      have ez : h'.objs.size ≠ s1.heap.objs.size + 4 := by omega
      have eI : h'.objs.size ≠ s1.heap.objs.size + 2 := by omega
      have eO : h'.objs.size ≠ s1.heap.objs.size + 3 := by omega
      have ea : h'.objs.size ≠ a := Nat.ne_of_gt (Nat.lt_of_lt_of_le la (by omega))
      have eb : h'.objs.size ≠ b := Nat.ne_of_gt (Nat.lt_of_lt_of_le lb (by omega))
      have ef1 : h'.objs.size ∉ [s1.heap.objs.size, a] := fun w => by
        rcases List.mem_cons.mp w with w | w
        · omega
        · exact ea (List.mem_singleton.mp w)
      have ef2 : h'.objs.size ∉ [s1.heap.objs.size + 1, b] := fun w => by
        rcases List.mem_cons.mp w with w | w
        · omega
        · exact eb (List.mem_singleton.mp w)
      refine ⟨h'.objs.size, [h'.objs.size, s1.heap.objs.size + 4, s1.heap.objs.size + 2, s1.heap.objs.size + 3, s1.heap.objs.size, s1.heap.objs.size + 1], _, _, H1, rfl, I2,
        turn_ez (b1 := b1) (b2 := b2) S (Nat.ne_of_lt la) (Nat.ne_of_lt (Nat.lt_succ_of_lt lb)) ez eI eO ef1 ef2,
        ⟨⟨.none, he⟩, ⟨.none, false, hk3 _ _ hz, .inl rfl⟩, hk3 _ _ hTI, ⟨_, _, hk3 _ _ hTO⟩, ItB.start (hk3 _ _ h1), ItB.start (hk3 _ _ h2)⟩, fun c hcm => ?_, q⟩
      have e' : c = h'.objs.size ∨ c = s1.heap.objs.size + 4 ∨ c = s1.heap.objs.size + 2 ∨ c = s1.heap.objs.size + 3 ∨ c = s1.heap.objs.size ∨ c = s1.heap.objs.size + 1 := by simpa using hcm
      have hle : s1.heap.objs.size ≤ c := by
        rcases e' with z | z | z | z | z | z <;> rw [z] <;> omega
      exact I1.fpOk hle (I1.hok.fresh hle)
theorem piEZ {X : Cx} {K : PySem.W.Frag} {e e2 : Expr} {ta : TA} {p pos p2 pos2 tpos : Pos} {elts : List Expr} {kk : Nat} (hg0 : Gl X "enumerate") (hm0 : X.mg "enumerate" = none) (hg : Gl X "zip") (hm : X.mg "zip" = none) (ha : PA X [e, e2] ta) (h : X.K = K := by rfl)
    (hs0 : starEach [.Call (.Name "zip" p2) [e, e2] [] pos2] X.env = (false, eval (.Call (.Name "zip" p2) [e, e2] [] pos2) X.env) :: starEach [] X.env := by rfl)
    (hs : starEach [e, e2] X.env = (false, eval e X.env) :: starEach [e2] X.env := by rfl) (hpl : (backTo pos2 (starEach [e2] X.env)).any (·.1) = false := by rfl) :
    PI X (.Tuple elts kk tpos) (.Call (.Name "enumerate" p) [.Call (.Name "zip" p2) [e, e2] [] pos2] [] pos) (iEZ K ta) := by subst h; exact pi_ez hg0 hm0 hg hm ha hs0 hs hpl

section
variable {s : Sx} {Γ : List Md} {K : PySem.W.Frag}
theorem items_ez {H : Hp} {S U : AS} {a b : Addr} {b1 b2 : Bool} {vs ws : List V} {ds es : List D} (h1 : H a = some (.lst vs) ∧ b1 = true ∨ H a = some (.tup vs) ∧ b1 = false) (h2 : H b = some (.lst ws) ∧ b2 = true ∨ H b = some (.tup ws) ∧ b2 = false)
    (n1 : ¬ S a) (n2 : ¬ S b) (d1 : DenL H U vs ds) (d2 : DenL H U ws es) (z : Sz H) : Items (itEZ K b1 b2 a b) S U H (enumD 0 (zipD ds es)) where
  len := by rw [enumD_len, zipD_len, ← d1.length]; exact Nat.le_trans (Nat.min_le_left _ _) (sz_seq z h1)
  go := fun i H' l hi => by
    rw [enumD_len, zipD_len] at hi
    have i1 : i < vs.length := by rw [d1.length]; omega
    have i2 : i < ws.length := by rw [d2.length]; omega
    exact ⟨vs, ws, vs[i], ws[i], seq_later h1 n1 l, seq_later h2 n2 l, by simp [i1], by simp [i2]⟩
  stop := fun H' l => ⟨vs, ws, seq_later h1 n1 l, seq_later h2 n2 l, by rw [enumD_len, zipD_len, d1.length, d2.length]⟩
  yld := fun i x H' v H'' l lu hd y => by
    obtain ⟨T1, T2, x1, y1, rfl, k1, k2, ne, rfl, _, _, ev, f1, f2⟩ := y
    cases ev
    obtain ⟨dd, g0, rfl⟩ := enumD_get hd
    obtain ⟨d, e, g1, g2, rfl⟩ := zipD_get g0
    obtain ⟨u1, a1, a2⟩ := d1.get g1
    obtain ⟨u2, c1, c2⟩ := d2.get g2
    have p1 := f1 vs (seq_later h1 n1 l)
    have p2 := f2 ws (seq_later h2 n2 l)
    rw [a1] at p1; cases p1
    rw [c1] at p2; cases p2
    have kk : (upd H' T1 (.tup [x1, y1])) T2 = none := by rw [upd_ne ne.symm]; exact k2
    have up0 : ∀ aa o, H' aa = some o → (upd (upd H' T1 (.tup [x1, y1])) T2 (.tup [.int (i : Nat), .ref T1])) aa = some o := fun aa o q => upd_keep kk aa o (upd_keep k1 aa o q)
    have up : ∀ aa o, H aa = some o → ¬ U aa → (upd (upd H' T1 (.tup [x1, y1])) T2 (.tup [.int (i : Nat), .ref T1])) aa = some o := fun aa o q nn => up0 aa o (lu aa o q nn)
    refine ⟨up0, fun zz => Sz.upd (Sz.upd zz fun xs q => ?_) fun xs q => ?_, fun U' hu nu => .tup upd_same (nu T2 k2) (.cons (by rw [Nat.zero_add]; exact .int _) (.cons (.tup (by rw [upd_ne ne, upd_same]) (nu T1 k1) (.cons (a2.mono up hu) (.cons (c2.mono up hu) .nil))) .nil))⟩
    · rcases q with q | q <;> cases q
      show 2 ≤ sizeLine
      decide
    · rcases q with q | q <;> cases q
      show 2 ≤ sizeLine
      decide
def itEZip (f : Py.Env → M (List D)) : Py.Env → M (List D) := fun ρ => bnd (f ρ) fun l => match l with
  | [x, y] => bnd (seqD x) fun ds => bnd (seqD y) fun es => ret (enumD 0 (zipD ds es))
  | _ => stuck
theorem semIc_ez {t : TA} {f : Py.Env → M (List D)} (h : SemAV s Γ t f) : SemIc s Γ (iEZ K t) (itEZip f) := by
  intro c ρ ps σ H R' P hc r0 q k
  refine h c ρ ps σ H _ _ hc r0 q fun ds vs H1 q1 e1 d1 => ?_
  dsimp only at q1
  split at q1
  · rename_i x y
    obtain ⟨l1, z1, q1⟩ := seqD_get q1
    obtain ⟨l2, z2, q1⟩ := seqD_get q1
    obtain ⟨v, w, rfl, dx, dy⟩ := d1.two
    have g := (r0.stp e1).gd
    obtain ⟨a, us, b1, rfl, hs1, dn1, nu1, hh1⟩ := dx.seqA (K := K) g.ok g.nA z1
    obtain ⟨b, ws, b2, rfl, hs2, dn2, nu2, hh2⟩ := dy.seqA (K := K) g.ok g.nA z2
    exact ⟨a, b, b1, b2, us, ws, rfl, hs1, hs2, k _ _ H1 q1 e1 (items_ez hh1 hh2 nu1 nu2 dn1 dn2 g.sz)⟩
  · cases q1
theorem semI_ez {t : TA} {f : Py.Env → M (List D)} (h : SemA s Γ t f) : SemI s Γ (iEZ K t) (itEZip f) := by
  intro c ρ ps σ H R' P hc r0 q k
  refine h c ρ ps σ H _ _ hc r0 q fun ds vs H1 q1 e1 d1 => ?_
  dsimp only at q1
  split at q1
  · rename_i x y
    obtain ⟨l1, z1, q1⟩ := seqD_get q1
    obtain ⟨l2, z2, q1⟩ := seqD_get q1
    cases d1 with
    | cons dx dr =>
      cases dr with
      | cons dy dr =>
        cases dr
        obtain ⟨a, us, b1, rfl, hs1, dn1, nu1, hh1⟩ := dx.seqU (K := K) z1
        obtain ⟨b, ws, b2, rfl, hs2, dn2, nu2, hh2⟩ := dy.seqU (K := K) z2
        exact ⟨a, b, b1, b2, us, ws, rfl, hs1, hs2, k _ _ H1 q1 e1 (items_ez hh1 hh2 nu1 nu2 dn1 dn2 (r0.stp e1).sz)⟩
  · cases q1
end
end Py
end
/-! PyE: combinators reckoned: equations f ρ = ret x. -/
namespace Py
open PySem L2 StX
@[simp] theorem bnd_ret' {α β : Type} (a : α) (k : α → M β) : bnd (ret a) k = k a := (rfl)
@[simp] theorem bnd_stuck' {α β : Type} (k : α → M β) : bnd stuck k = (stuck : M β) := (rfl)
@[simp] theorem oThen_nx (ρ : Env) (k : Env → M Out) : oThen (.nx ρ) k = k ρ := (rfl)
@[simp] theorem oThen_rt (d : D) (k : Env → M Out) : oThen (.rt d) k = ret (.rt d) := (rfl)
@[simp] theorem oLoop_nx (ρ : Env) (k : Env → M Out) : oLoop (.nx ρ) k = k ρ := (rfl)
@[simp] theorem oLoop_rt (d : D) (k : Env → M Out) : oLoop (.rt d) k = ret (.rt d) := (rfl)
@[simp] theorem outD_rt (d : D) : outD (.rt d) = ret d := (rfl)
@[simp] theorem outD_nx (ρ : Env) : outD (.nx ρ) = ret .none := (rfl)
@[simp] theorem lenOk_def (n : Nat) : (lenOk n = true) = (n ≤ 100000) := by simp [lenOk]
theorem ite_t {α : Type} {c : Prop} [Decidable c] {a b : α} (h : c) : (if c then a else b) = a := if_pos h

/-! ### data -/
def dInts (xs : List Int) : List D := xs.map .int
def tupI (xs : List Int) : D := .tuple (dInts xs)
def lstI (xs : List Int) : D := .list (dInts xs)
/-- a table: a tuple of tuples; a list of lists -/
def dT (M : List (List Int)) : D := .tuple (M.map tupI)
def dL (M : List (List Int)) : D := .list (M.map lstI)
@[simp] theorem dInts_len (xs : List Int) : (dInts xs).length = xs.length := by simp [dInts]
theorem intsD_dInts : ∀ xs : List Int, intsD (dInts xs) = some xs
  | [] => rfl
  | x :: xs => by
    show (intsD (dInts xs)).map (x :: ·) = some (x :: xs)
    rw [intsD_dInts xs]; rfl
theorem boolsD_bools : ∀ xs : List Bool, boolsD (xs.map .bool) = some xs
  | [] => rfl
  | x :: xs => by
    show (boolsD (xs.map .bool)).map (x :: ·) = some (x :: xs)
    rw [boolsD_bools xs]; rfl

/-! ### comprehensions -/
theorem lcW_map {α : Type} {tg : D → Env → M Env} {cond : Env → M Bool} {elt : Env → M D} {ρ : Env} (f : α → D) (c : α → Bool) (e : α → D) : ∀ (xs : List α), (∀ x ∈ xs, ∃ ρ', tg (f x) ρ = ret ρ' ∧ cond ρ' = ret (c x) ∧ (c x = true → elt ρ' = ret (e x))) →
    lcW tg cond elt ρ (xs.map f) = ret ((xs.filter c).map e)
  | [], _ => rfl
  | x :: xs, h => by
    obtain ⟨ρ', h1, h2, h3⟩ := h x (by simp)
    have ih := lcW_map f c e xs fun y hy => h y (by simp [hy])
    show bnd (tg (f x) ρ) (fun ρ' => bnd (cond ρ') fun b => if b = true then bnd (elt ρ') fun y => bnd (lcW tg cond elt ρ (xs.map f)) fun ys => ret (y :: ys) else lcW tg cond elt ρ (xs.map f)) = _
    rw [h1, ih]
    simp only [bnd_ret', h2]
    cases hc : c x with
    | true => simp [h3 hc, hc]
    | false => simp [hc]
theorem lcW_all {α : Type} {tg : D → Env → M Env} {elt : Env → M D} {ρ : Env} (f : α → D) (e : α → D) (xs : List α) (h : ∀ x ∈ xs, ∃ ρ', tg (f x) ρ = ret ρ' ∧ elt ρ' = ret (e x)) : lcW tg cYes elt ρ (xs.map f) = ret (xs.map e) := by
  have := lcW_map (tg := tg) (cond := cYes) (elt := elt) (ρ := ρ) f (fun _ => true) e xs fun x hx => by
    obtain ⟨ρ', h1, h2⟩ := h x hx
    exact ⟨ρ', h1, rfl, fun _ => h2⟩
  rw [List.filter_eq_self.mpr (by simp)] at this
  exact this
theorem lcW_allL {α : Type} {tg : D → Env → M Env} {elt : Env → M D} {ρ : Env} {ds : List D} (f : α → D) (e : α → D) (xs : List α) (hd : ds = xs.map f) (h : ∀ x ∈ xs, ∃ ρ', tg (f x) ρ = ret ρ' ∧ elt ρ' = ret (e x)) : lcW tg cYes elt ρ ds = ret (xs.map e) := by
  rw [hd]; exact lcW_all f e xs h
theorem rangeD_eq (lo : Int) (n : Nat) : rangeD lo n = (List.range n).map fun i => .int (lo + (i : Nat)) := rfl

/-! ### loops: each turn leads from one state to the next -/
theorem forW_fold {α : Type} {tg : D → Env → M Env} {body : Env → M Out} (f : α → D) (St : List α → Env) : ∀ (done xs : List α), (∀ done x rest, done ++ x :: rest = done ++ x :: rest → ∃ ρ', tg (f x) (St done) = ret ρ' ∧ body ρ' = ret (.nx (St (done ++ [x])))) → forW tg body (xs.map f) (St done) = ret (.nx (St (done ++ xs)))
  | done, [], _ => by rw [List.append_nil]; rfl
  | done, x :: xs, h => by
    obtain ⟨ρ', h1, h2⟩ := h done x xs rfl
    show bnd (tg (f x) (St done)) (fun ρ' => bnd (body ρ') fun o => oLoop o (forW tg body (xs.map f))) = _
    rw [h1]
    simp only [bnd_ret', h2, oLoop_nx]
    rw [forW_fold f St (done ++ [x]) xs h, List.append_assoc]
    rfl

/-! ### what the combinators do, as equations -/
def toB : D → M Bool
  | .bool b => ret b
  | _ => stuck
@[simp] theorem toB_b (b : Bool) : toB (.bool b) = ret b := (rfl)
def toI : D → M (Option Int)
  | .int i => ret (some i)
  | _ => stuck
@[simp] theorem toI_i (i : Int) : toI (.int i) = ret (some i) := (rfl)
def optM : Option D → M D
  | some d => ret d
  | none => stuck
@[simp] theorem optM_some (d : D) : optM (some d) = ret d := (rfl)
@[simp] theorem x_eVar (i : Nat) (ρ : Env) : eVar i ρ = optM ((ρ[i]?).getD none) := by
  unfold eVar
  cases h : ρ[i]? with
  | none => rfl
  | some o => cases o <;> rfl
@[simp] theorem x_tst (e : Env → M D) (ρ : Env) : tst e ρ = bnd (e ρ) toB := by
  unfold tst
  congr 1
@[simp] theorem x_tru (e : Env → M D) (ρ : Env) : tru e ρ = bnd (e ρ) truD := (rfl)
@[simp] theorem x_oPart (e : Env → M D) (ρ : Env) : oPart e ρ = bnd (e ρ) toI := by
  unfold oPart
  congr 1
@[simp] theorem x_tupRg (e : Env → M D) (ρ : Env) (n : Int) (h : e ρ = ret (.int n)) (hn : rngOk n = true) : eTupRg e ρ = ret (.tuple (rangeD 0 (n - 0).toNat)) := by
  unfold eTupRg
  rw [h]
  show (if rngOk n = true then ret (PyData.tuple (rangeD 0 (n - 0).toNat)) else stuck) = _
  rw [if_pos hn]
def zip2 : List D → M (List D)
  | [x, y] => bnd (seqD x) fun ds => bnd (seqD y) fun es => ret (zipD ds es)
  | _ => stuck
@[simp] theorem zip2_2 (x y : D) : zip2 [x, y] = bnd (seqD x) fun ds => bnd (seqD y) fun es => ret (zipD ds es) := (rfl)
@[simp] theorem x_itZip (f : Env → M (List D)) (ρ : Env) : itZip f ρ = bnd (f ρ) zip2 := by
  unfold itZip
  congr 1
@[simp] theorem x_itEZip (f : Env → M (List D)) (ρ : Env) : itEZip f ρ = bnd (f ρ) fun l => bnd (zip2 l) fun ds => ret (enumD 0 ds) := by
  unfold itEZip
  congr 1
  funext l
  match l with
  | [] => rfl
  | [x] => rfl
  | [x, y] =>
    show bnd (seqD x) _ = bnd (bnd (seqD x) fun ds => bnd (seqD y) fun es => ret (zipD ds es)) _
    rfl
  | x :: y :: z :: r => rfl
def enum1 : List D → M (List D)
  | [x] => bnd (seqD x) fun ds => ret (enumD 0 ds)
  | _ => stuck
@[simp] theorem enum1_1 (x : D) : enum1 [x] = bnd (seqD x) fun ds => ret (enumD 0 ds) := (rfl)
@[simp] theorem x_itEnum (f : Env → M (List D)) (ρ : Env) : itEnum f ρ = bnd (f ρ) enum1 := by
  unfold itEnum
  congr 1
def rng1 : List D → M (List D)
  | [.int n] => if rngOk n = true then ret (rangeD 0 n.toNat) else stuck
  | _ => stuck
@[simp] theorem rng1_i (n : Int) : rng1 [.int n] = if rngOk n = true then ret (rangeD 0 n.toNat) else stuck := (rfl)
@[simp] theorem x_itRng1 (f : Env → M (List D)) (ρ : Env) : itRng1 f ρ = bnd (f ρ) rng1 := by
  unfold itRng1
  congr 1
def rng2 : List D → M (List D)
  | [.int m, .int n] => if (rngOk m && rngOk n) = true then ret (rangeD m (n - m).toNat) else stuck
  | _ => stuck
@[simp] theorem rng2_i (m n : Int) : rng2 [.int m, .int n] = if (rngOk m && rngOk n) = true then ret (rangeD m (n - m).toNat) else stuck := (rfl)
@[simp] theorem x_itRng2 (f : Env → M (List D)) (ρ : Env) : itRng2 f ρ = bnd (f ρ) rng2 := by
  unfold itRng2
  congr 1
def par2 (i j : Nat) (ρ : Env) : List D → M Out
  | [x, y] => ret (.nx ((ρ.set i (some x)).set j (some y)))
  | _ => stuck
@[simp] theorem par2_2 (i j : Nat) (ρ : Env) (x y : D) : par2 i j ρ [x, y] = ret (.nx ((ρ.set i (some x)).set j (some y))) := (rfl)
@[simp] theorem x_sPar (i j : Nat) (f : Env → M (List D)) (ρ : Env) : sPar i j f ρ = bnd (f ρ) (par2 i j ρ) := by
  unfold sPar
  congr 1
def par3 (i j l : Nat) (ρ : Env) : List D → M Out
  | [x, y, z] => ret (.nx (((ρ.set i (some x)).set j (some y)).set l (some z)))
  | _ => stuck
@[simp] theorem par3_3 (i j l : Nat) (ρ : Env) (x y z : D) : par3 i j l ρ [x, y, z] = ret (.nx (((ρ.set i (some x)).set j (some y)).set l (some z))) := (rfl)
@[simp] theorem x_sPar3 (i j k : Nat) (f : Env → M (List D)) (ρ : Env) : sPar3 i j k f ρ = bnd (f ρ) (par3 i j k ρ) := by
  unfold sPar3
  congr 1
theorem cSum_dInts (xs : List Int) : cSum [.list (dInts xs)] = ret (.int xs.sum) := by
  show (match intsD (dInts xs) with | some ns => ret (PyData.int ns.sum) | none => stuck) = _
  rw [intsD_dInts]
theorem cAll_bools (xs : List Bool) : cAll [.list (xs.map .bool)] = ret (.bool (xs.all id)) := by
  show (match boolsD (xs.map .bool) with | some ns => ret (PyData.bool (ns.all id)) | none => stuck) = _
  rw [boolsD_bools]
theorem cAny_bools (xs : List Bool) : cAny [.list (xs.map .bool)] = ret (.bool (xs.any id)) := by
  show (match boolsD (xs.map .bool) with | some ns => ret (PyData.bool (ns.any id)) | none => stuck) = _
  rw [boolsD_bools]
theorem gIx_l {ds : List D} {i : Int} {d : D} (h : L2.atI ds i = some d) : gIx (.list ds) (.int i) = ret d := by
  show (match L2.atI ds i with | some d => ret d | none => (stuck : M D)) = _
  rw [h]
theorem gIx_t {ds : List D} {i : Int} {d : D} (h : L2.atI ds i = some d) : gIx (.tuple ds) (.int i) = ret d := by
  show (match L2.atI ds i with | some d => ret d | none => (stuck : M D)) = _
  rw [h]
@[simp] theorem x_eC (d : D) (ρ : Env) : eC d ρ = ret d := (rfl)
@[simp] theorem x_bin (g : D → D → M D) (a b : Env → M D) (ρ : Env) : bin g a b ρ = bnd (a ρ) fun x => bnd (b ρ) fun y => g x y := (rfl)
@[simp] theorem x_una (g : D → M D) (a : Env → M D) (ρ : Env) : una g a ρ = bnd (a ρ) g := (rfl)
@[simp] theorem x_bAnd (a b : Env → M Bool) (ρ : Env) : bAnd a b ρ = bnd (a ρ) fun x => if x = true then b ρ else ret false := (rfl)
@[simp] theorem x_bOr (a b : Env → M Bool) (ρ : Env) : bOr a b ρ = bnd (a ρ) fun x => if x = true then ret true else b ρ := (rfl)
@[simp] theorem x_bNot (a : Env → M Bool) (ρ : Env) : bNot a ρ = bnd (a ρ) fun x => ret (!x) := (rfl)
@[simp] theorem x_eAnd (a b : Env → M D) (ρ : Env) : eAnd a b ρ = bnd (tst a ρ) fun x => if x = true then b ρ else ret (.bool false) := (rfl)
@[simp] theorem x_eOr (a b : Env → M D) (ρ : Env) : eOr a b ρ = bnd (tst a ρ) fun x => if x = true then ret (.bool true) else b ρ := (rfl)
@[simp] theorem x_eNot (a : Env → M D) (ρ : Env) : eNot a ρ = bnd (tst a ρ) fun x => ret (.bool (!x)) := (rfl)
@[simp] theorem x_eIf (g : Env → M Bool) (a b : Env → M D) (ρ : Env) : eIf g a b ρ = bnd (g ρ) fun x => if x = true then a ρ else b ρ := (rfl)
@[simp] theorem x_eChain (g g' : D → D → M D) (a b e : Env → M D) (ρ : Env) : eChain g g' a b e ρ = bnd (a ρ) fun x => bnd (b ρ) fun y => bnd (g x y) fun z => bnd (toB z) fun k => if k = true then bnd (e ρ) fun w => g' y w else ret (.bool false) := by
  unfold eChain
  congr 1; funext x; congr 1; funext y; congr 1; funext z
  cases z <;> rfl
@[simp] theorem x_eSl (e : Env → M D) (lo hi : Env → M (Option Int)) (ρ : Env) : eSl e lo hi ρ = bnd (e ρ) fun d => bnd (lo ρ) fun l => bnd (hi ρ) fun h => gSl d l h := (rfl)
@[simp] theorem x_oNo (ρ : Env) : oNo ρ = ret none := (rfl)
@[simp] theorem x_aNil (ρ : Env) : aNil ρ = ret [] := (rfl)
@[simp] theorem x_aCons (a : Env → M D) (r : Env → M (List D)) (ρ : Env) : aCons a r ρ = bnd (a ρ) fun d => bnd (r ρ) fun ds => ret (d :: ds) := (rfl)
@[simp] theorem x_aStar (a : Env → M D) (r : Env → M (List D)) (ρ : Env) : aStar a r ρ = bnd (a ρ) fun d => bnd (seqD d) fun xs => bnd (r ρ) fun ds => ret (xs ++ ds) := (rfl)
@[simp] theorem x_eTup (f : Env → M (List D)) (ρ : Env) : eTup f ρ = bnd (f ρ) fun ds => if lenOk ds.length = true then ret (.tuple ds) else stuck := (rfl)
@[simp] theorem x_lDisp (f : Env → M (List D)) (ρ : Env) : lDisp f ρ = bnd (f ρ) fun ds => if lenOk ds.length = true then ret ds else stuck := (rfl)
@[simp] theorem x_tgN (i : Nat) (d : D) (ρ : Env) : tgN i d ρ = ret (ρ.set i (some d)) := (rfl)
@[simp] theorem x_tgsNil (ρ : Env) : tgsNil [] ρ = ret ρ := (rfl)
@[simp] theorem x_tgsCons (g : D → Env → M Env) (r : List D → Env → M Env) (d : D) (ds : List D) (ρ : Env) : tgsCons g r (d :: ds) ρ = bnd (g d ρ) fun ρ' => r ds ρ' := (rfl)
@[simp] theorem x_tgTup (n : Nat) (g : List D → Env → M Env) (ds : List D) (ρ : Env) : tgTup n g (.tuple ds) ρ = if ds.length = n then g ds ρ else stuck := (rfl)
@[simp] theorem x_itSeq (e : Env → M D) (ρ : Env) : itSeq e ρ = bnd (e ρ) seqD := (rfl)
@[simp] theorem x_eLc (its : Env → M (List D)) (tg : D → Env → M Env) (cond : Env → M Bool) (elt : Env → M D) (vs : List Nat) (ρ : Env) : eLc its tg cond elt vs ρ = bnd (its ρ) fun ds => lcW tg cond elt (wipeD ρ vs) ds := (rfl)
@[simp] theorem x_cYes (ρ : Env) : cYes ρ = ret true := (rfl)
@[simp] theorem x_mkL (f : Env → M (List D)) (ρ : Env) : mkL f ρ = bnd (f ρ) fun ds => ret (.list ds) := (rfl)
@[simp] theorem x_sSeq (f g : Env → M Out) (ρ : Env) : sSeq f g ρ = bnd (f ρ) fun o => oThen o g := (rfl)
@[simp] theorem x_sNx (ρ : Env) : sNx ρ = ret (.nx ρ) := (rfl)
@[simp] theorem x_sAsg (i : Nat) (e : Env → M D) (ρ : Env) : sAsg i e ρ = bnd (e ρ) fun d => ret (.nx (ρ.set i (some d))) := (rfl)
@[simp] theorem x_sOwn (i : Nat) (e : Env → M (List D)) (ρ : Env) : sOwn i e ρ = bnd (e ρ) fun ds => ret (.nx (ρ.set i (some (.list ds)))) := (rfl)
@[simp] theorem x_sTgt (e : Env → M D) (g : D → Env → M Env) (ρ : Env) : sTgt e g ρ = bnd (e ρ) fun d => bnd (g d ρ) fun ρ' => ret (.nx ρ') := (rfl)
@[simp] theorem x_sRet (e : Env → M D) (ρ : Env) : sRet e ρ = bnd (e ρ) fun d => ret (.rt d) := (rfl)
@[simp] theorem x_sRetN (ρ : Env) : sRetN ρ = ret (.rt .none) := (rfl)
@[simp] theorem x_sIf (g : Env → M Bool) (f f' : Env → M Out) (ρ : Env) : sIf g f f' ρ = bnd (g ρ) fun b => if b = true then f ρ else f' ρ := (rfl)
@[simp] theorem x_sFor (its : Env → M (List D)) (tg : D → Env → M Env) (body : Env → M Out) (ρ : Env) : sFor its tg body ρ = bnd (its ρ) fun ds => forW tg body ds ρ := (rfl)
@[simp] theorem x_sRetOwn (i : Nat) (ρ : Env) : sRetOwn i ρ = bnd (eVar i ρ) fun d => ret (.rt d) := (rfl)
@[simp] theorem x_cal (g : List D → M D) (f : Env → M (List D)) (ρ : Env) : cal g f ρ = bnd (f ρ) g := (rfl)
@[simp] theorem x_calL (g : List D → M (List D)) (f : Env → M (List D)) (ρ : Env) : calL g f ρ = bnd (f ρ) g := (rfl)
@[simp] theorem x_eCall (n : Nat) (F : List D → M D) (f : Env → M (List D)) (ρ : Env) : eCall n F f ρ = bnd (f ρ) fun ds => if ds.length = n then F ds else stuck := (rfl)
@[simp] theorem x_eCallS (i n : Nat) (F : List D → M D) (f : Env → M (List D)) (ρ : Env) : eCallS i n F f ρ = bnd (eVar i ρ) fun _ => bnd (f ρ) fun ds => if ds.length = n then F ds else stuck := (rfl)
@[simp] theorem x_fnD (m : Nat) (f : Env → M Out) (ds : List D) : fnD m f ds = bnd (f (ds.map some ++ List.replicate m none)) outD := (rfl)
@[simp] theorem x_fnS (m : Nat) (f : Env → M Out) (ds : List D) : fnS m f ds = bnd (f (some .none :: (ds.map some ++ List.replicate m none))) outD := (rfl)
@[simp] theorem x_seqD_l (ds : List D) : seqD (.list ds) = ret ds := (rfl)
@[simp] theorem x_seqD_t (ds : List D) : seqD (.tuple ds) = ret ds := (rfl)
@[simp] theorem x_gI_i (f : Int → Int → D) (i j : Int) : gI f (.int i) (.int j) = ret (f i j) := (rfl)
@[simp] theorem x_gIc_i (p : Int → Int → Bool) (f : Int → Int → D) (i j : Int) : gIc p f (.int i) (.int j) = if p i j = true then ret (f i j) else stuck := (rfl)
@[simp] theorem x_gNeg_i (i : Int) : gNeg (.int i) = ret (.int (-i)) := (rfl)
@[simp] theorem x_gAdd_i (i j : Int) : gAdd (.int i) (.int j) = ret (.int (i + j)) := (rfl)
@[simp] theorem x_gAdd_t (a b : List D) : gAdd (.tuple a) (.tuple b) = if lenOk (a.length + b.length) = true then ret (.tuple (a ++ b)) else stuck := (rfl)
@[simp] theorem x_gAdd_l (a b : List D) : gAdd (.list a) (.list b) = if lenOk (a.length + b.length) = true then ret (.list (a ++ b)) else stuck := (rfl)
@[simp] theorem x_gMulX_i (i j : Int) : gMulX (.int i) (.int j) = if mulOk i j = true then ret (.int (i * j)) else stuck := (rfl)
@[simp] theorem x_cTup_l (ds : List D) : cTup [.list ds] = ret (.tuple ds) := (rfl)
@[simp] theorem x_cTup_t (ds : List D) : cTup [.tuple ds] = ret (.tuple ds) := (rfl)
@[simp] theorem x_cLst_l (ds : List D) : cLst [.list ds] = ret ds := (rfl)
@[simp] theorem x_cLst_t (ds : List D) : cLst [.tuple ds] = ret ds := (rfl)
@[simp] theorem x_cLen_l (ds : List D) : cLen [.list ds] = ret (.int ds.length) := (rfl)
@[simp] theorem x_cLen_t (ds : List D) : cLen [.tuple ds] = ret (.int ds.length) := (rfl)
@[simp] theorem x_cInt_b (b : Bool) : cInt [.bool b] = ret (.int (if b then 1 else 0)) := (rfl)
@[simp] theorem x_cInt_i (i : Int) : cInt [.int i] = ret (.int i) := (rfl)
@[simp] theorem x_cAbs_i (i : Int) : cAbs [.int i] = ret (.int (if i < 0 then -i else i)) := (rfl)
@[simp] theorem x_gIsN_ (d e : D) : gIsN d e = ret (.bool (isNonD d)) := (rfl)
@[simp] theorem x_wipeD_nil (ρ : Env) : wipeD ρ [] = ρ := (rfl)
@[simp] theorem x_wipeD_cons (ρ : Env) (v : Nat) (vs : List Nat) : wipeD ρ (v :: vs) = (wipeD ρ vs).set v none := (rfl)
end Py
/-! PyR: what repr shows of nested data, its length and its letters. -/
namespace Py
open PySem hiding ret
open PyData (strOk)
theorem strOk_def (x : Str) : strOk x = true ↔ ∀ c ∈ x.cps, c < 0x110000 := by
  unfold strOk
  rw [Array.all_eq_true]
  constructor
  · intro h c hc
    obtain ⟨i, hi, e⟩ := Array.mem_iff_getElem.mp hc
    rw [← e]
    simpa using h i hi
  · intro h i hi
    simpa using h _ (Array.getElem_mem hi)
theorem ok_ofString (s : String) : strOk (Str.ofString s) = true := by
  rw [strOk_def, Str.ofString_eq_toList]
  intro c hc
  have : c ∈ s.toList.map Char.toNat := by simpa using hc
  obtain ⟨x, -, rfl⟩ := List.mem_map.mp this
  rcases x.valid with h | h
  · exact Nat.lt_trans h (by decide)
  · exact h.2
theorem ok_app {a b : Str} (ha : strOk a = true) (hb : strOk b = true) : strOk (a ++ b) = true := by
  rw [strOk_def] at *
  intro c hc
  have : c ∈ a.cps ++ b.cps := hc
  rcases Array.mem_append.mp this with h | h
  · exact ha c h
  · exact hb c h
theorem ok_joins {sep : Str} (hs : strOk sep = true) : ∀ ts : List Str, (∀ t ∈ ts, strOk t = true) → strOk (Str.join sep ts) = true
  | [], _ => by
    show strOk Str.empty = true
    decide +kernel
  | [x], h => h x (by simp)
  | x :: y :: rest, h => ok_app (ok_app (h x (by simp)) hs) (ok_joins hs (y :: rest) fun t ht => h t (by simp [List.mem_cons.mp ht] ))
theorem ok_tupleText {ts : List Str} (h : ∀ t ∈ ts, strOk t = true) : strOk (tupleText ts) = true := by
  unfold tupleText
  refine ok_app (ok_app (ok_ofString _) (ok_joins (ok_ofString _) ts h)) ?_
  split <;> exact ok_ofString _
theorem ok_textFrom : ∀ (ts : List Str) (k : Nat) (acc : Str), strOk acc = true → (∀ t ∈ ts, strOk t = true) → strOk (textFrom k acc ts) = true
  | [], _, acc, ha, _ => ha
  | t :: ts, k, acc, ha, h => ok_textFrom ts (k + 1) _ (ok_app (ok_app ha (ok_ofString _)) (h t (by simp))) fun x hx => h x (List.mem_cons_of_mem _ hx)
theorem ok_listText {ts : List Str} (h : ∀ t ∈ ts, strOk t = true) : strOk (listText ts) = true := ok_app (ok_textFrom ts 0 _ (ok_ofString _) h) (ok_ofString _)
mutual
def sz : D → Nat
  | .none => 4
  | .bool _ => 5
  | .int i => i.natAbs.log2 + 2
  | .str x => (reprText x).length
  | .list xs => szAll xs + 3
  | .tuple xs => szAll xs + 3
  | .dict _ => 0
def szAll : List D → Nat
  | [] => 0
  | x :: xs => sz x + 2 + szAll xs
end
mutual
def ptx : D → Bool
  | .none => true
  | .bool _ => true
  | .int i => decide (i.natAbs.log2 < 1920)
  | .str x => strOk (reprText x) && strOk x
  | .list xs => ptxAll xs
  | .tuple xs => ptxAll xs
  | .dict _ => false
def ptxAll : List D → Bool
  | [] => true
  | x :: xs => ptx x && ptxAll xs
end
mutual
theorem ptx_shown : ∀ d : D, ptx d = true → strOk d.shown = true ∧ d.shown.length ≤ sz d ∧ d.showable = true ∧ d.canLay0 = true
  | .none, _ => ⟨ok_ofString _, by decide +kernel, by simp [PyData.showable], by simp [PyData.canLay0]⟩
  | .bool b, _ => ⟨by cases b <;> exact ok_ofString _, by cases b <;> decide +kernel, by simp [PyData.showable], by simp [PyData.canLay0]⟩
  | .int i, h => by
    have h' : i.natAbs.log2 < 1920 := by simpa [ptx] using h
    refine ⟨ok_ofString _, ?_, by simpa [PyData.showable] using h', by simp [PyData.canLay0]⟩
    show (Str.ofString (toString i)).length ≤ i.natAbs.log2 + 2
    have := int_text_length_le (a := i) (k := i.natAbs.log2 + 1) (by omega) (by omega)
    rw [show (Str.ofString (toString i)).length = (toString i).length by rw [Str.ofString_eq_toList]; simp [Str.length, String.length]]
    omega
  | .str x, h => by
    have h' : strOk (reprText x) = true ∧ strOk x = true := by simpa [ptx] using h
    exact ⟨by simpa [PyData.shown] using h'.1, by simp [PyData.shown, sz], by simp [PyData.showable], by simpa [PyData.canLay0] using h'.2⟩
  | .list xs, h => by
    obtain ⟨h1, h2, h3, h4⟩ := ptx_all xs (by simpa [ptx] using h)
    refine ⟨by simpa [PyData.shown] using ok_listText h1, ?_, by simpa [PyData.showable] using h3, by simpa [PyData.canLay0] using h4⟩
    have := listText_len_le (PyData.shownAll xs)
    simp only [PyData.shown, sz]
    omega
  | .tuple xs, h => by
    obtain ⟨h1, h2, h3, h4⟩ := ptx_all xs (by simpa [ptx] using h)
    refine ⟨by simpa [PyData.shown] using ok_tupleText h1, ?_, by simpa [PyData.showable] using h3, by simpa [PyData.canLay0] using h4⟩
    have := tupleText_len_le (PyData.shownAll xs)
    simp only [PyData.shown, sz]
    omega
  | .dict _, h => by simp [ptx] at h
theorem ptx_all : ∀ xs : List D, ptxAll xs = true → (∀ t ∈ PyData.shownAll xs, strOk t = true) ∧ ((PyData.shownAll xs).map (·.length)).sum + 2 * (PyData.shownAll xs).length ≤ szAll xs ∧ PyData.showableAll xs = true ∧ PyData.canLayAll0 xs = true
  | [], _ => ⟨by simp [PyData.shownAll], by simp [PyData.shownAll, szAll], by simp [PyData.showableAll], by simp [PyData.canLayAll0]⟩
  | x :: xs, h => by
    have h' : ptx x = true ∧ ptxAll xs = true := by simpa [ptxAll] using h
    obtain ⟨a1, a2, a3, a4⟩ := ptx_shown x h'.1
    obtain ⟨b1, b2, b3, b4⟩ := ptx_all xs h'.2
    refine ⟨?_, ?_, by simp [PyData.showableAll, a3, b3], by simp [PyData.canLayAll0, a4, b4]⟩
    · intro t ht
      rcases List.mem_cons.mp (by simpa [PyData.shownAll] using ht) with rfl | h
      · exact a1
      · exact b1 t h
    · simp only [PyData.shownAll, List.map_cons, List.sum_cons, List.length_cons, szAll]
      omega
end
/-- what repr and the comparing of two texts want -/
def rok (d : D) : Prop := ptx d = true ∧ d.depth ≤ 64 ∧ sz d ≤ 16777216
theorem rok.rp {d : D} (h : rok d) : rpOk d = true := by
  obtain ⟨h1, h2, h3⟩ := h
  obtain ⟨a1, a2, a3, a4⟩ := ptx_shown d h1
  unfold rpOk
  simp only [Bool.and_eq_true, decide_eq_true_eq, a3, a4, PyData.hasDict_of_canLay d a4, h2]
  exact ⟨by simp, Nat.le_trans a2 (Nat.le_trans h3 (by decide))⟩
theorem rok.shp {d : D} (h : rok d) : shp (.str d.shown) = true := by
  have := (ptx_shown d h.1).1
  show SeqAt.shaped _ = true
  unfold SeqAt.shaped
  simp [PyData.canLay0, this, PyData.depth]
theorem cRepr_ok {d : D} (h : rok d) : cRepr [d] = ret (.str d.shown) := if_pos h.rp
theorem gNe_rep {d : D} (h : rok d) : gNe (.str d.shown) (.str d.shown) = ret (.bool false) := by
  show (if (Py.shp (.str d.shown) && Py.shp (.str d.shown)) = true then ret (PyData.bool (!PyData.eqv (.str d.shown) (.str d.shown))) else stuck) = _
  rw [h.shp, Bool.and_self, if_pos rfl]
  simp [PyData.eqv]
theorem rep_ne {a b : Py.Env → M D} {ρ : Py.Env} {d : D} (ha : a ρ = ret d) (hb : b ρ = ret d) (h : rok d) : bin gNe (cal cRepr (aCons a aNil)) (cal cRepr (aCons b aNil)) ρ = ret (.bool false) := by
  simp only [x_bin, x_cal, x_aCons, x_aNil, ha, hb, bnd_ret', cRepr_ok h, gNe_rep h]
/-- the same with bounds of depth and of size kept apart -/
def rk (m s : Nat) (d : D) : Prop := ptx d = true ∧ d.depth ≤ m ∧ sz d ≤ s
theorem rk.mono {m s m' s' : Nat} {d : D} (h : rk m s d) (hm : m ≤ m') (hs : s ≤ s') : rk m' s' d := ⟨h.1, Nat.le_trans h.2.1 hm, Nat.le_trans h.2.2 hs⟩
theorem rk.ok {m s : Nat} {d : D} (h : rk m s d) (hm : m ≤ 64 := by decide) (hs : s ≤ 16777216 := by decide) : rok d := ⟨h.1, Nat.le_trans h.2.1 hm, Nat.le_trans h.2.2 hs⟩
theorem rk_int {k : Nat} {i : Int} (h : i.natAbs ≤ 2 ^ k) (hk : k < 1919) : rk 0 (k + 3) (.int i) := by
  have l : i.natAbs.log2 < k + 1 := by
    by_cases z : i.natAbs = 0
    · rw [z, show Nat.log2 0 = 0 from by decide]; omega
    · rw [Nat.log2_lt z]
      exact Nat.lt_of_le_of_lt h (Nat.pow_lt_pow_right (by decide) (by omega))
  refine ⟨?_, ?_, ?_⟩
  · simp only [ptx, decide_eq_true_eq]; omega
  · simp [PyData.depth]
  · simp only [sz]; omega
theorem rk_bool (b : Bool) : rk 0 5 (.bool b) := ⟨by simp [ptx], by simp [PyData.depth], by simp [sz]⟩
theorem rk_none : rk 0 4 (.none : D) := ⟨by simp [ptx], by simp [PyData.depth], by simp [sz]⟩
theorem rkAll {m s : Nat} : ∀ {ds : List D}, (∀ d ∈ ds, rk m s d) → ptxAll ds = true ∧ PyData.depthAll ds ≤ m ∧ szAll ds ≤ ds.length * (s + 2)
  | [], _ => ⟨by simp [ptxAll], by simp [PyData.depthAll], by simp [szAll]⟩
  | d :: ds, h => by
    obtain ⟨a1, a2, a3⟩ := h d (by simp)
    obtain ⟨b1, b2, b3⟩ := rkAll (ds := ds) fun x hx => h x (List.mem_cons_of_mem _ hx)
    refine ⟨by simp [ptxAll, a1, b1], by simp only [PyData.depthAll]; omega, ?_⟩
    simp only [szAll, List.length_cons, Nat.succ_mul]; omega
theorem rk_tuple {m s n : Nat} {ds : List D} (h : ∀ d ∈ ds, rk m s d) (hn : ds.length ≤ n) : rk (m + 1) (n * (s + 2) + 3) (.tuple ds) := by
  obtain ⟨b1, b2, b3⟩ := rkAll h
  have := Nat.mul_le_mul_right (s + 2) hn
  refine ⟨by simpa [ptx] using b1, by simp only [PyData.depth]; omega, by simp only [sz]; omega⟩
theorem rk_list {m s n : Nat} {ds : List D} (h : ∀ d ∈ ds, rk m s d) (hn : ds.length ≤ n) : rk (m + 1) (n * (s + 2) + 3) (.list ds) := by
  obtain ⟨b1, b2, b3⟩ := rkAll h
  have := Nat.mul_le_mul_right (s + 2) hn
  refine ⟨by simpa [ptx] using b1, by simp only [PyData.depth]; omega, by simp only [sz]; omega⟩
theorem rk_ints {k n : Nat} {xs : List Int} (h : ∀ x ∈ xs, x.natAbs ≤ 2 ^ k) (hk : k < 1919) (hn : xs.length ≤ n) : rk 1 (n * (k + 5) + 3) (tupI xs) :=
  rk_tuple (m := 0) (s := k + 3) (fun d hd => by
    obtain ⟨x, hx, rfl⟩ := List.mem_map.mp hd
    exact rk_int (h x hx) hk) (by rw [dInts_len]; exact hn)
/-- a comprehension over mapped values -/
theorem comp_all {α : Type} {its : Env → M (List D)} {tg : D → Env → M Env} {elt : Env → M D} {vs : List Nat} {ρ : Env} (f : α → D) (e : α → D) (xs : List α) (hi : its ρ = ret (xs.map f)) (h : ∀ x ∈ xs, ∃ ρ', tg (f x) (wipeD ρ vs) = ret ρ' ∧ elt ρ' = ret (e x)) : mkL (eLc its tg cYes elt vs) ρ = ret (.list (xs.map e)) := by
  rw [x_mkL, x_eLc, hi, bnd_ret', lcW_all f e xs h, bnd_ret']
theorem comp_map {α : Type} {its : Env → M (List D)} {tg : D → Env → M Env} {cond : Env → M Bool} {elt : Env → M D} {vs : List Nat} {ρ : Env} (f : α → D) (c : α → Bool) (e : α → D) (xs : List α) (hi : its ρ = ret (xs.map f)) (h : ∀ x ∈ xs, ∃ ρ', tg (f x) (wipeD ρ vs) = ret ρ' ∧ cond ρ' = ret (c x) ∧ (c x = true → elt ρ' = ret (e x))) : mkL (eLc its tg cond elt vs) ρ = ret (.list ((xs.filter c).map e)) := by
  rw [x_mkL, x_eLc, hi, bnd_ret', lcW_map f c e xs h, bnd_ret']
/-- one statement after another -/
theorem seq_nx {f g : Env → M Out} {ρ ρ' : Env} (h : f ρ = ret (.nx ρ')) : sSeq f g ρ = g ρ' := by rw [x_sSeq, h, bnd_ret', oThen_nx]
theorem asg_nx {i : Nat} {e : Env → M D} {g : Env → M Out} {ρ : Env} {d : D} (h : e ρ = ret d) : sSeq (sAsg i e) g ρ = g (ρ.set i (some d)) := by rw [x_sSeq, x_sAsg, h, bnd_ret', bnd_ret', oThen_nx]
theorem if_no {c : Env → M Bool} {f g : Env → M Out} {ρ : Env} (h : c ρ = ret false) : sSeq (sIf c f sNx) g ρ = g ρ := by rw [x_sSeq, x_sIf, h, bnd_ret', if_neg (by decide), x_sNx, bnd_ret', oThen_nx]
theorem or_no {a b : Env → M Bool} {ρ : Env} (h : a ρ = ret false) (h' : b ρ = ret false) : bOr a b ρ = ret false := by rw [x_bOr, h, bnd_ret', if_neg (by decide), h']
theorem tst_b {e : Env → M D} {ρ : Env} {b : Bool} (h : e ρ = ret (.bool b)) : tst e ρ = ret b := by rw [x_tst, h, bnd_ret', toB_b]
theorem var_eq {i : Nat} {ρ : Env} {d : D} (h : ρ[i]? = some (some d)) : eVar i ρ = ret d := by rw [x_eVar, h]; rfl
end Py
section
set_option maxHeartbeats 1000000
/-! PyT: a dict of one's own whose keys are tuples of ints: made, stored into, its length, sorted. -/
namespace Py
open PySem L2 StX PySem.Spec PyProof.Rows
open PySem.W (SortsAt AllAlike dataKind EachIs sortingHeap sortVals_data sortVals)
def keyT (ks : List (List Int)) : List D := ks.map fun k => .tuple (k.map .int)
section
variable {X : Cx}
def rSortDT : List V → Hp → VK → Prop := fun xs H Q => ∃ d kvs ks, xs = [V.ref d] ∧ H d = some (.dT kvs) ∧ kvs.map (·.1) = ks.map (fun k : List Int => k.map Sum.inl) ∧ srtOk (keyT ks) = true ∧
  ∀ p bs, H p = none → IsKeys H kvs bs → Q (.ref p) (upd H p (.lst ((((bs.map V.ref).zip (keyT ks)).mergeSort fun x y => leD x.2 y.2).map (·.1))))
theorem keys_dp {K : PySem.W.Frag} {H : Hp} : ∀ {kvs : List (List L2.Key × V)} {ks : List (List Int)} {bs : List Addr}, kvs.map (·.1) = ks.map (fun k : List Int => k.map Sum.inl) → IsKeys H kvs bs → DpAll K H (bs.map V.ref) (keyT ks)
  | _, [], _, e, h => by
    have e' := congrArg List.length e
    cases h with
    | nil => exact .nil
    | cons _ _ => simp at e'
  | _, k :: ks, _, e, h => by
    cases h with
    | nil => simp at e
    | @cons p b l m h1 h2 =>
      simp only [List.map_cons, List.cons.injEq] at e
      obtain ⟨e1, e2⟩ := e
      have h1' : H b = some (.tup (p.1.map kV)) := h1
      refine .cons (.tup (xs := p.1.map kV) (SqT.of h1') ?_) (keys_dp e2 h2)
      rw [e1]
      clear e1 h1 h1'
      induction k with
      | nil => exact .nil
      | cons i k ih => exact .cons (.int i) ih
theorem cr_sortDT (hcalm : X.calm = true) (hu : X.A.units + 67 < cLine) : CallR X (.builtin "sorted") rSortDT := by
  intro pins s σ H xs us Q I r h
  obtain ⟨d, kvs, ksI, rfl, hd, hks, ok, q⟩ := h
  obtain ⟨u, rfl, rx⟩ := r.one
  cases rx
  obtain ⟨z, hs, ks, pr, o, es, ep, ho, hx, hdt, he, hn⟩ := (show ObjOk X.prog X.w H s.heap d (.dT kvs) from I.hok d _ hd)
  have l1 : es.size = ks.length := size_of_entries he
  have l2 : kvs.length = ks.length := Paired.length pr
  refine Calls.call_function_entry PyProof.Rows.kind_sorted PyProof.Rows.plain_sorted PyProof.Rows.entry_sorted (PyProof.Rows.args_sorted1 _) ?_
  unfold Builtin.«sorted»
  refine wpAny_bind (m := checkCount "sorted" 1 1 _) (wpAny_pure ?_)
  refine wpAny_bind (PySem.W.kdu_collect (A := X.A.in1) (kdl_raw hs hx hdt) (I.ok.hd hcalm) ho (by omega) fun h' tk acc' kp it => ?_)
  have ea : acc'.toList = ks.map fun x => Value.ref x.2.1 := by
    have hl : acc'.toList.length = ks.length := by rw [Array.length_toList, it.1]; exact l1
    apply List.ext_getElem?
    intro j
    rw [List.getElem?_map]
    cases hj : acc'.toList[j]? with
    | none =>
      have h1 := List.getElem?_eq_none_iff.mp hj
      rw [List.getElem?_eq_none (by omega)]
      rfl
    | some v =>
      obtain ⟨en, hen, hv⟩ := it.2 j v (by rw [← Array.getElem?_toList]; exact hj)
      have qe := entry_at he j
      rw [hen] at qe
      cases hb : ks[j]? with
      | none =>
        rw [hb] at qe
        exact nomatch (show some en = none from qe)
      | some b =>
        rw [hb] at qe
        have e2 : en = entryOfKey (tupleKind (mixKind X.prog X.w)) b := Option.some.inj qe
        rw [hv, e2]
        rfl
  have eb : acc'.toList = (ks.map fun x => x.2.1).map Value.ref := by rw [ea, List.map_map]; rfl
  obtain ⟨its, hits⟩ : ∃ its, its = acc'.toList := ⟨_, rfl⟩
  rw [← hits] at eb ⊢
  have rv : Vals ((ks.map fun x => x.2.1).map V.ref) its := by rw [eb]; exact vals_refs _
  have isk : IsKeys H kvs (ks.map fun x => x.2.1) := isKeys_of pr
  have hd2 := keys_dp (K := X.K) hks isk
  generalize (ks.map fun x => x.2.1) = bs at eb rv isk hd2
  have hz : its.length ≤ sizeLine := by rw [← rv.length, List.length_map, ← (Paired.length isk)]; omega
  have I1 : Inv X pins σ H { s with heap := h', toks := tk } := I.kept kp
  refine wpAny_bind (wpAny_newList ?_ hz)
  have hoL : (h'.push (seqObj "list" its.toArray 0)).get? h'.objs.size = some (seqObj "list" its.toArray 0) := Heap.get?_push_size _ rfl
  show wpAny _ _ _ _ _ { s with heap := h'.push (seqObj "list" its.toArray 0), toks := tk }
  have old : ∀ b u, h'.get? b = some u → (sortingHeap (h'.push (seqObj "list" its.toArray 0)) h'.objs.size its).get? b = some u := fun b u e =>
    PySem.W.sortingHeap_old (Nat.ne_of_lt (Heap.lt_size e)) (Heap.get?_push_of_some _ e)
  have hl2 : (bs.map V.ref).length = (keyT ksI).length := DpAll.len hd2
  have rds : ∀ v u d, RelV v u → (v, d) ∈ (bs.map V.ref).zip (keyT ksI) → ∃ as, Reads h' u d as := fun v u d rr hm => by
    obtain ⟨i, hi, e⟩ := List.getElem_of_mem hm
    have e1 : (bs.map V.ref)[i]? = some v := by
      have := congrArg Prod.fst e
      simp only [List.getElem_zip] at this
      rw [← this]
      exact List.getElem?_eq_getElem _
    obtain ⟨d', e2, dp⟩ := Dp.at' hd2 e1
    have e3 : (keyT ksI)[i]? = some d := by
      have := congrArg Prod.snd e
      simp only [List.getElem_zip] at this
      rw [← this]
      exact List.getElem?_eq_getElem _
    rw [e3] at e2
    cases e2
    exact Dp.reads I1 d v u dp rr
  have ev : EachIs (fun u (b : V × D) => RelV b.1 u) its ((bs.map V.ref).zip (keyT ksI)) := zip_each rv hl2 fun v u d rr hm => rr
  have er' : EachIs (fun v (b : V × D) => ∃ as, Reads (sortingHeap (h'.push (seqObj "list" its.toArray 0)) h'.objs.size its) v b.2 as) its ((bs.map V.ref).zip (keyT ksI)) :=
    zip_each rv hl2 fun v u d rr hm => let ⟨as, r⟩ := rds v u d rr hm; ⟨as, PyProof.Rows.Reads.keeps (fun b o e => old b o e) r⟩
  have em : ((bs.map V.ref).zip (keyT ksI)).map (·.2) = keyT ksI := by
    rw [List.map_snd_zip]
    omega
  have hal : AllAlike (((bs.map V.ref).zip (keyT ksI)).map fun b => b.2) := by
    rw [em]
    exact (alls_of (srtOk_of ok).1).1.1
  have S : SortsAt X.prog X.w X.A.in1.in1 { s with heap := sortingHeap (h'.push (seqObj "list" its.toArray 0)) h'.objs.size its, toks := tk } (dataKind (sortingHeap (h'.push (seqObj "list" its.toArray 0)) h'.objs.size its) (((bs.map V.ref).zip (keyT ksI)).map fun b => b.2)) its := by
    have e1 : srtOk (((bs.map V.ref).zip (keyT ksI)).map fun b => b.2) = true := by rw [em]; exact ok
    exact sorts_any (s := { s with heap := sortingHeap (h'.push (seqObj "list" its.toArray 0)) h'.objs.size its, toks := tk }) (W.each_map (R := fun v d => ∃ as, Reads (sortingHeap (h'.push (seqObj "list" its.toArray 0)) h'.objs.size its) v d as) (fun b : V × D => b.2) er') e1 (by show X.A.units + 1 + 1 + 65 < cLine; omega)
  have hout := sortVals_data (enc := fun b : V × D => b.2) (R := fun u (b : V × D) => RelV b.1 u) false ev er' hal
  have mer : ((bs.map V.ref).zip (keyT ksI)).mergeSort (PySem.W.dataLe false fun b : V × D => b.2) = ((bs.map V.ref).zip (keyT ksI)).mergeSort fun x y => leD x.2 y.2 := rfl
  rw [mer] at hout
  have hv := each_vals hout
  have hlen : ((((bs.map V.ref).zip (keyT ksI)).mergeSort fun x y => leD x.2 y.2).map (·.1)).length ≤ sizeLine := by
    rw [List.length_map, List.length_mergeSort, List.length_zip]
    have : its.length = (bs.map V.ref).length := rv.length.symm
    omega
  refine wpAny_bind (wpAny_holding (wpAny_call_entry PyProof.Rows.slot_list_sort ⟨_, hoL, rfl⟩ PyProof.Rows.entry_list_sort
    (PySem.W.list_sort_vals (s := { s with heap := h'.push (seqObj "list" its.toArray 0), toks := tk }) hoL S hz ⟨_, rfl, ?_⟩) (PyProof.Rows.args_list_sort _)))
  generalize sortVals (dataKind (sortingHeap (h'.push (seqObj "list" its.toArray 0)) h'.objs.size its) (((bs.map V.ref).zip (keyT ksI)).map fun b => b.2)) false its its = out at hv ⊢
  have fin := q (p := h'.objs.size) bs (I1.hok.fresh (Nat.le_refl _)) isk
  generalize ((((bs.map V.ref).zip (keyT ksI)).mergeSort fun x y => leD x.2 y.2).map (·.1)) = ws at hv hlen fin
  obtain ⟨e', he'⟩ := PyProof.Rows.sortedHeap_at (vs := its) (out := out.toArray) hoL
  refine wpAny_pure ⟨_, rfl, .ref h'.objs.size, upd H h'.objs.size (.lst ws), I1.laid (t' := tk) (fun b u e => ?_) (Nat.le_refl _)
    (show ObjOk X.prog X.w _ _ _ (.lst ws) from ⟨hlen, out, e', hv, he'⟩), rfl, fin⟩
  have hb : b < h'.objs.size := Heap.lt_size e
  rw [PyProof.Rows.sortedHeap_old (Nat.ne_of_lt hb) (by rw [size_push']; exact Nat.lt_succ_of_lt hb)]
  exact Heap.get?_push_of_some _ e
end
section
variable {s : Sx} {Γ Γ' Γl : List Md}
/-- a, b = e, [..]: the second a list of one's own -/
def sParO (i j : Nat) (e : Env → M D) (f : Env → M (List D)) : Env → M Out := fun ρ => bnd (e ρ) fun d => bnd (f ρ) fun ds => ret (.nx ((ρ.set i (some d)).set j (some (.list ds))))
theorem sem_parO {i j : Nat} {t u : TE} {e : Env → M D} {f : Env → M (List D)} (h1 : SemE s Γ t e) (h2 : SemL s Γ u f) (hi : Γ[i]? = some .fro) (hj : j < Γ.length) : SemS s Γl Γ (Γ.set j .own) (tPar i j (tCons t (tCons u tNil))) (sParO i j e f) := by
  intro c ρ ps σ H E P hc r q k
  refine h1 c ρ ps σ H _ _ hc r q fun d v H1 q1 e1 dn => ?_
  refine h2 c ρ ps σ H1 _ _ hc (r.stp e1) q1 fun ds p vs H2 q2 e2 hn hp dn2 => ?_
  obtain ⟨ps', r'⟩ := ((r.stp e1).setFro dn hi).putOwn e2 (i := j) hj hn hp dn2
  exact ⟨_, _, rfl, k.nx _ ps' _ H2 q2 r'⟩
theorem R.putDic {c : Fx} {ρ : Env} {ps : List Addr} {σ : L2.St} {H : Hp} (r : R c Γ ρ ps σ H) {i : Nat} {p : Addr} (hi : i < Γ.length) (hn : H p = none) : ∃ ps', R c (Γ.set i .dic) (ρ.set i (some (.list []))) ps' (σ.set i (some (.ref p))) (upd H p (.dT [])) := by
  have e : Stp c H (upd H p (.dT [])) := Stp.new r.ok hn fun xs z => by rcases z with z | z <;> cases z
  have r' := r.stp e
  have nU := r.new hn
  have sl' : Slots c (upd H p (.dT [])) (fun a => c.U ps a ∨ a ∈ [p]) Γ ρ σ ps := r.sl.mono (fun a ha o q => e.keep a o q (r.ownA ha)) (fun a o q n => e.keep a o q (r.nA n)) fun a o q u => u.elim id fun z => by
    rw [List.mem_singleton.mp z, hn] at q; cases q
  obtain ⟨ps', h1, h2, h3⟩ := sl'.put (SlotR.dic (c := c) (ks := []) upd_same rfl) r.nd (by simp) (fun a ha z => nU (.inr (by rw [List.mem_singleton.mp ha] at z; exact z))) hi
  exact ⟨ps', r'.ofSlots (qs := [p]) h1 h2 h3 fun a ha => by
    rw [List.mem_singleton.mp ha]
    exact ⟨r.fresh0 hn, r.nU0 hn⟩⟩
/-- a, b, d = e, f, {} -/
def sParD (i j l : Nat) (e f : Env → M D) : Env → M Out := fun ρ => bnd (e ρ) fun a => bnd (f ρ) fun b => ret (.nx (((ρ.set i (some a)).set j (some b)).set l (some (.list []))))
theorem sem_parD {i j l : Nat} {t u : TE} {e f : Env → M D} (h1 : SemE s Γ t e) (h2 : SemE s Γ u f) (hi : Γ[i]? = some .fro) (hj : Γ[j]? = some .fro) (hl : l < Γ.length) : SemS s Γl Γ (Γ.set l .dic) (tPar3 i j l (tCons t (tCons u (tCons tDNewT tNil)))) (sParD i j l e f) := by
  intro c ρ ps σ H E P hc r q k
  refine h1 c ρ ps σ H _ _ hc r q fun d v H1 q1 e1 dn => ?_
  refine h2 c ρ ps σ H1 _ _ hc (r.stp e1) q1 fun d2 v2 H2 q2 e2 dn2 => ?_
  intro p hn
  obtain ⟨ps', r'⟩ := ((((r.stp e1).setFro dn hi).stp e2).setFro dn2 hj).putDic (i := l) hl hn
  exact ⟨_, _, _, rfl, k.nx _ ps' _ _ q2 r'⟩
theorem R.dicAt {c : Fx} {ρ : Env} {ps : List Addr} {σ : L2.St} {H : Hp} (r : R c Γ ρ ps σ H) {i : Nat} {d : D} (hm : Γ[i]? = some .dic) (hd : ρ[i]? = some (some d)) :
    ∃ (p : Addr) (kvs : List (Key2 × V)) (ks : List (List Int)), σ[i]? = some (some (.ref p)) ∧ d = .list (keyT ks) ∧ p ∈ ps ∧ H p = some (.dT kvs) ∧ kvs.map (·.1) = ks.map (fun k => k.map Sum.inl) := by
  obtain ⟨o, qs, e1, e2, e3⟩ := r.sl.get hm hd
  cases e2 with
  | dic a1 a2 => exact ⟨_, _, _, e1, rfl, e3 _ (by simp), a1, a2⟩
theorem dic_uniq {c : Fx} {H : Hp} {U : AS} {p : Addr} {d : D} : ∀ qs', SlotR c H U .dic (some d) (some (.ref p)) qs' → qs' = [p] := by
  intro qs' h
  cases h with
  | dic _ _ => rfl
theorem eqvAll_ints : ∀ a b : List Int, PyData.eqvAll (a.map .int) (b.map .int) = decide (a = b)
  | [], [] => by simp [PyData.eqvAll]
  | [], _ :: _ => by simp [PyData.eqvAll]
  | _ :: _, [] => by simp [PyData.eqvAll]
  | x :: a, y :: b => by
    simp only [List.map_cons, PyData.eqvAll, eqvAll_ints a b, PyData.eqv]
    by_cases h : x = y <;> by_cases h' : a = b <;> simp [h, h']
def putT (ds : List D) (is : List Int) : List D := if (ds.any fun d => PyData.eqv d (.tuple (is.map .int))) = true then ds else ds ++ [.tuple (is.map .int)]
def putI (ks : List (List Int)) (is : List Int) : List (List Int) := if (ks.any fun k => decide (k = is)) = true then ks else ks ++ [is]
theorem putT_keyT (ks : List (List Int)) (is : List Int) : putT (keyT ks) is = keyT (putI ks is) := by
  have e : ((keyT ks).any fun d => PyData.eqv d (.tuple (is.map .int))) = ks.any fun k => decide (k = is) := by
    rw [keyT, List.any_map]
    congr 1
    funext k
    simp only [Function.comp_apply, PyData.eqv, eqvAll_ints]
  unfold putT putI
  rw [e]
  split
  · rfl
  · simp [keyT]
theorem inl_inj {a b : List Int} : a.map (Sum.inl (β := Str)) = b.map Sum.inl ↔ a = b := by
  constructor
  · intro h
    have := congrArg (List.filterMap fun z : Int ⊕ Str => z.getLeft?) h
    simpa [List.filterMap_map, Function.comp_def] using this
  · intro h; rw [h]
theorem putK_keys {kvs : List (Key2 × V)} {ks : List (List Int)} {is : List Int} {v : V} (e : kvs.map (·.1) = ks.map (fun k => k.map Sum.inl)) : (putK kvs (is.map Sum.inl) v).map (·.1) = (putI ks is).map (fun k => k.map Sum.inl) := by
  have h : (kvs.any fun kv => decide (kv.1 = is.map Sum.inl)) = ks.any fun k => decide (k = is) := by
    have h1 : (kvs.any fun kv => decide (kv.1 = is.map Sum.inl)) = (kvs.map (·.1)).any fun k => decide (k = is.map Sum.inl) := by rw [List.any_map]; rfl
    rw [h1, e, List.any_map]
    congr 1
    funext k
    simp only [Function.comp_apply]
    exact decide_eq_decide.mpr inl_inj
  unfold putK putI
  rw [h]
  split
  · rw [List.map_map, ← e]
    apply List.map_congr_left
    intro kv _
    simp only [Function.comp_apply]
    split <;> rfl
  · simp [e]
/-- d[k] = v, the key a tuple of ints -/
def sDSet (i : Nat) (k v : Env → M D) : Env → M Out := fun ρ => bnd (v ρ) fun _ => bnd (eVar i ρ) fun l => bnd (k ρ) fun x => match l, x with
  | .list ds, .tuple es => (match intsD es with | some is => if lenOk (ds.length + 1) = true then ret (.nx (ρ.set i (some (.list (putT ds is))))) else stuck | none => stuck)
  | _, _ => stuck
theorem sem_dset {i : Nat} {ty tv : TE} {k v : Env → M D} (hm : Γ[i]? = some .dic) (hv : SemE s Γ tv v) (hk : SemE s Γ ty k) : SemS s Γl Γ Γ (sDPut (tVar i) ty tv) (sDSet i k v) := by
  intro c ρ ps σ H E P hc r q K
  refine hv c ρ ps σ H _ _ hc r q fun d w H1 q1 e1 d1 => ?_
  have r1 := r.stp e1
  obtain ⟨l, hl, q1⟩ := eVar_get q1
  obtain ⟨p, kvs, ks, ho, rfl, hp, h1, hk1⟩ := r1.dicAt hm hl
  refine ⟨_, ho, ?_⟩
  refine hk c ρ ps σ H1 _ _ hc r1 q1 fun x y H2 q2 e2 d2 => ?_
  have r2 := r1.stp e2
  cases x with
  | tuple es =>
    have q2 : (match intsD es with | some is => if lenOk ((keyT ks).length + 1) = true then ret (Out.nx (ρ.set i (some (.list (putT (keyT ks) is))))) else (stuck : M Out) | none => (stuck : M Out)) P := q2
    cases z : intsD es with
    | none => rw [z] at q2; exact False.elim q2
    | some is =>
      rw [z] at q2
      dsimp only at q2
      split at q2
      · rename_i hz
        cases d2 with
        | @tup b xs _ hb hu dn =>
          have ex := dn.ints z
          subst ex
          have h2' : H2 p = some (.dT kvs) := e2.keep _ _ h1 (r.ownA hp)
          have hb' : H2 b = some (.tup ((is.map Sum.inl).map kV)) := by
            rw [hb, List.map_map]
            rfl
          have lz : kvs.length < sizeLine := by
            have e := congrArg List.length hk1
            rw [List.length_map, List.length_map] at e
            have := lenOk_sz hz
            rw [keyT, List.length_map] at this
            omega
          refine ⟨p, _, rfl, DPut.t h2' hb' lz, ?_⟩
          have same : ∀ a o, a ≠ p → H2 a = some o → upd H2 p (.dT (putK kvs (is.map Sum.inl) w)) a = some o := fun a o n e => by rw [upd_ne n]; exact e
          obtain ⟨ps', sl, pm⟩ := r2.sl.updP (q := p) (H' := upd H2 p (.dT (putK kvs (is.map Sum.inl) w))) (.inr hp) same (qs0 := [p]) (qs' := [p]) (by simp) (SlotR.dic (c := c) (U := c.U ps) (ks := putI ks is) upd_same (putK_keys hk1)) (List.Perm.refl _) r2.nd dic_uniq hm hl ho
          rw [putT_keyT] at q2
          refine K.nx _ ps' σ _ q2 (r2.perm (fun a o n e => same a o (fun z => n (by rw [z]; exact hp)) e) (fun a ha => ?_) (r2.sz.upd fun zs q => by rcases q with q | q <;> cases q) sl pm)
          by_cases e : a = p
          · subst e; exact ⟨_, upd_same⟩
          · obtain ⟨o, hx, _⟩ := r2.sl.loose a ha
            exact ⟨o, same a _ e hx⟩
      · exact False.elim q2
  | _ => exact False.elim q2
theorem sem_lenD {i : Nat} (hm : Γ[i]? = some .dic) : SemE s Γ (tCB rLenT (tCons (tVar i) tNil)) (cal cLen (aCons (eVar i) aNil)) := by
  intro c ρ ps σ H Q P hc r q k
  obtain ⟨d, hd, q⟩ := eVar_get q
  obtain ⟨p, kvs, ks, ho, rfl, hp, h1, hk1⟩ := r.dicAt hm hd
  have q' : P (.int ((keyT ks).length : Nat)) := q
  refine ⟨_, ho, p, kvs, rfl, h1, ?_⟩
  have e : kvs.length = (keyT ks).length := by
    have e := congrArg List.length hk1
    rw [List.length_map, List.length_map] at e
    rw [keyT, List.length_map, e]
  rw [e]
  exact k _ _ H q' (Stp.refl c H) (.int _)
/-- sorted(d) -/
def eSrtD (i : Nat) : Env → M (List D) := fun ρ => bnd (eVar i ρ) fun d => match d with
  | .list ds => if (srtOk ds && lenOk ds.length) = true then ret (ds.mergeSort leD) else stuck
  | _ => stuck
theorem keys_den {H : Hp} {U : AS} (lo : Loose H U) : ∀ {kvs : List (Key2 × V)} {ks : List (List Int)} {bs : List Addr}, kvs.map (·.1) = ks.map (fun k : List Int => k.map Sum.inl) → IsKeys H kvs bs → DenL H U (bs.map V.ref) (keyT ks)
  | _, [], _, e, h => by
    have e' := congrArg List.length e
    cases h with
    | nil => exact .nil
    | cons _ _ => simp at e'
  | _, k :: ks, _, e, h => by
    cases h with
    | nil => simp at e
    | @cons p b l m h1 h2 =>
      simp only [List.map_cons, List.cons.injEq] at e
      obtain ⟨e1, e2⟩ := e
      have h1' : H b = some (.tup (p.1.map kV)) := h1
      refine .cons (.tup (xs := p.1.map kV) h1' (fun u => by
        obtain ⟨o, ho, hn⟩ := lo b u
        rw [h1'] at ho
        cases ho
        exact hn _ rfl) ?_) (keys_den lo e2 h2)
      rw [e1]
      clear e1 h1 h1'
      induction k with
      | nil => exact .nil
      | cons i k ih => exact .cons (.int i) ih
theorem sem_srtD {i : Nat} (hm : Γ[i]? = some .dic) : SemL s Γ (tCB rSortDT (tCons (tVar i) tNil)) (eSrtD i) := by
  intro c ρ ps σ H Q P hc r q k
  obtain ⟨d, hd, q⟩ := eVar_get q
  obtain ⟨p, kvs, ks, ho, rfl, hp, h1, hk1⟩ := r.dicAt hm hd
  have q' : (if (srtOk (keyT ks) && lenOk (keyT ks).length) = true then ret ((keyT ks).mergeSort leD) else stuck) P := q
  split at q'
  · rename_i ok0
    rw [Bool.and_eq_true] at ok0
    obtain ⟨ok, lok⟩ := ok0
    refine ⟨_, ho, p, kvs, ks, rfl, h1, hk1, ok, fun a bs ha isk => ?_⟩
    have dn := (keys_den r.loose hk1 isk).srt
    have hz : ((((bs.map V.ref).zip (keyT ks)).mergeSort fun x y => leD x.2 y.2).map (·.1)).length ≤ sizeLine := by
      have e := congrArg List.length hk1
      rw [List.length_map, List.length_map] at e
      rw [List.length_map, List.length_mergeSort, List.length_zip, List.length_map]
      have l2 : kvs.length = bs.length := Paired.length isk
      have : (keyT ks).length ≤ sizeLine := lenOk_sz lok
      omega
    exact k _ a _ _ q' (Stp.lst r.ok ha hz) ha upd_same (dn.plus ha)
  · exact False.elim q'
end
theorem kSrtD {X : Cx} {k : Nat} (hc : X.calm = true) (r : Room k X.A) : CallR X (.builtin "sorted") rSortDT := cr_sortDT hc r.u67
end Py
end
section
set_option maxHeartbeats 1000000
/-! PyX: values with an empty dict among them: == and != of unequal lengths, repr; 10 ** 20; reversed tuples. -/
namespace Py
open PySem L2 StX PySem.Spec PyProof.Rows
/-! tuples, and empty dicts at the leaves; no lists -/
mutual
def onTD : D → Bool
  | .none => true
  | .bool _ => true
  | .int _ => true
  | .str _ => true
  | .list _ => false
  | .tuple xs => onTDs xs
  | .dict kvs => kvs.isEmpty
def onTDs : List D → Bool
  | [] => true
  | x :: xs => onTD x && onTDs xs
end
mutual
inductive Dq (K : PySem.W.Frag) (H : Hp) : V → PyData → Prop
  | non : Dq K H .non .none
  | bl (b : Bool) : Dq K H (.bl b) (.bool b)
  | int (i : Int) : Dq K H (.int i) (.int i)
  | str (x : Str) : Dq K H (.str x) (.str x)
  | tup {a : Addr} {xs : List V} {ds : List PyData} : SqT K H a xs → DqAll K H xs ds → Dq K H (.ref a) (.tuple ds)
  | dct {a : Addr} : H a = some (.dK []) → Dq K H (.ref a) (.dict [])
inductive DqAll (K : PySem.W.Frag) (H : Hp) : List V → List PyData → Prop
  | nil : DqAll K H [] []
  | cons {v : V} {vs : List V} {d : PyData} {ds : List PyData} : Dq K H v d → DqAll K H vs ds → DqAll K H (v :: vs) (d :: ds)
end
section
variable {X : Cx} {pins : List (Addr × Obj)} {σ : L2.St} {H : Hp} {s : Shared}
mutual
theorem Dq.reads (I : Inv X pins σ H s) : ∀ (d : PyData) (v : V) (u : Value), Dq X.K H v d → RelV v u → ∃ as, Reads s.heap u d as ∧ sysModules ∉ as
  | .none, _, _, h, r => by
    cases h
    cases r
    exact ⟨_, Reads.none, by simp⟩
  | .bool b, _, _, h, r => by
    cases h
    cases r
    exact ⟨_, Reads.bool b, by simp⟩
  | .int i, _, _, h, r => by
    cases h
    obtain ⟨t, rfl⟩ := r
    exact ⟨_, Reads.int i t, by simp⟩
  | .str x, _, _, h, r => by
    cases h
    obtain ⟨t, rfl⟩ := r
    exact ⟨_, Reads.str x t, by simp⟩
  | .list ds, _, _, h, r => by cases h
  | .tuple ds, _, _, h, r => by
    cases h with
    | tup hs ha =>
      cases r
      obtain ⟨its, rv, ⟨o, ho, hc, n, hd⟩, _⟩ := I.tuple hs
      obtain ⟨as, hr, hn⟩ := Dq.readsAll I ds _ its ha rv
      exact ⟨_, Reads.tuple ho hc hd hr, hn⟩
  | .dict kvs, _, _, h, r => by
    cases h with
    | @dct a e =>
      cases r
      obtain ⟨_, ne, vs, rk, o, es, ep, ho, hx, hd, _, hp, _⟩ := (show ObjOk X.prog X.w H s.heap a (.dK []) from I.hok a _ e)
      have v0 : vs = [] := by
        cases vs with
        | nil => rfl
        | cons _ _ => cases rk
      rw [v0] at hp
      have e0 : es.toList = [] := by
        cases h : es.toList with
        | nil => rfl
        | cons _ _ => rw [h] at hp; cases hp
      refine ⟨_, Reads.dict (kvs := []) ho hx.1 hd (by rw [e0]; exact .nil) (by rw [e0]; exact .nil), ?_⟩
      simp only [List.append_nil, List.mem_singleton]
      intro q
      rw [← q] at ne
      simp at ne
theorem Dq.readsAll (I : Inv X pins σ H s) : ∀ (ds : List PyData) (vs : List V) (us : List Value), DqAll X.K H vs ds → Vals vs us → ∃ as, ReadsAll s.heap us ds as ∧ sysModules ∉ as
  | [], _, _, h, r => by
    cases h
    cases r
    exact ⟨_, ReadsAll.nil, by simp⟩
  | d :: ds, _, _, h, r => by
    cases h with
    | cons h1 h2 =>
      cases r with
      | cons r1 r2 =>
        obtain ⟨as, q1, n1⟩ := Dq.reads I d _ _ h1 r1
        obtain ⟨bs, q2, n2⟩ := Dq.readsAll I ds _ _ h2 r2
        exact ⟨_, ReadsAll.cons q1 q2, fun z => (List.mem_append.mp z).elim n1 n2⟩
end
end
theorem Den.dq {K : PySem.W.Frag} {H : Hp} {U : AS} : ∀ {d : D} {v : V}, Den H U v d → onTD d = true → Dq K H v d := by
  intro d v h
  refine Den.rec (motive_1 := fun v d _ => onTD d = true → Dq K H v d) (motive_2 := fun vs ds _ => onTDs ds = true → DqAll K H vs ds) ?_ ?_ ?_ ?_ ?_ ?_ ?_ ?_ ?_ h
  · intro _; exact .non
  · intro b _; exact .bl b
  · intro b _; exact .int b
  · intro b _; exact .str b
  · intro a xs ds ha hu _ ih z; simp [onTD] at z
  · intro a xs ds ha hu _ ih z; exact .tup (SqT.of ha) (ih (by simpa [onTD] using z))
  · intro a ha hu z; exact .dct ha
  · intro _; exact .nil
  · intro v vs d ds _ _ h1 h2 z
    have z' : onTD d = true ∧ onTDs ds = true := by simpa [onTDs] using z
    exact .cons (h1 z'.1) (h2 z'.2)
theorem View.dq {K : PySem.W.Frag} {c : Fx} {ps : List Addr} {H : Hp} {v : V} {d : D} (h : View c ps H v d) (z : onTD d = true) : Dq K H v d := by
  cases h with
  | den h => exact h.dq z
  | own h1 _ h3 => simp [onTD] at z
def rpX (d : D) : Bool := d.showable && onTD d && decide (d.depth ≤ 64) && decide (d.shown.length ≤ sizeLine)
def rReprX (K : PySem.W.Frag) : List V → Hp → VK → Prop := fun xs H Q => rRepr K xs H Q ∨ ∃ x d, xs = [x] ∧ Dq K H x d ∧ rpX d = true ∧ Q (.str d.shown) H
section
variable {X : Cx}
theorem cr_reprX (hg : X.A.guards = some []) (hu : X.A.units + 66 < cLine) : CallR X (.builtin "repr") (rReprX X.K) := by
  intro pins s σ H xs us Q I r h
  rcases h with h | h
  · exact cr_repr hg hu pins s σ H xs us Q I r h
  obtain ⟨x, d, rfl, hd, ok, q⟩ := h
  unfold rpX at ok
  simp only [Bool.and_eq_true, decide_eq_true_eq] at ok
  obtain ⟨⟨⟨o1, o2⟩, o4⟩, o5⟩ := ok
  obtain ⟨u, rfl, rx⟩ := vals1 r
  have fin : ∀ tk t, EP X pins σ Q (.str d.shown t) { s with toks := tk } := fun tk t => ⟨.str d.shown, H, I.tok tk, ⟨t, rfl⟩, q⟩
  have obj : ∀ a, u = .ref a → wpAny (model X.prog X.w) X.A (call (.builtin "repr") [u]) (EP X pins σ Q) X.xe s := fun a e => by
    obtain ⟨as, rd, hn⟩ := Dq.reads I d x u hd rx
    rw [e] at rd ⊢
    exact repr_of_reads' rd o1 (fun _ => hn) hg (by omega) (fun _ _ q => q) (fun h' t tk hk => ⟨.str d.shown, H, I.kept hk, ⟨t, rfl⟩, q⟩) o5
  cases hd with
  | non =>
    cases rx
    exact P.repr_of_none (fin _ _)
  | bl b =>
    cases rx
    exact P.repr_of_bool (by
      have := fin (s.toks + 1) s.toks
      cases b <;> exact this)
  | int i =>
    obtain ⟨t, rfl⟩ := rx
    exact P.repr_of_int (of_decide_eq_true o1) (fin _ _)
  | str w =>
    obtain ⟨t, rfl⟩ := rx
    exact P.repr_of_str (fin _ _) o5
  | tup hs ha => cases rx; exact obj _ rfl
  | dct e => cases rx; exact obj _ rfl
/-- lists, tuples of unequal lengths -/
def rEqLL (K : PySem.W.Frag) (r : Bool) : R2 := fun x y H Q => ∃ a b xs ys, x = .ref a ∧ y = .ref b ∧ SqL K H a xs ∧ SqL K H b ys ∧ xs.length ≠ ys.length ∧ Q (.bl r) H
def rEqLT (K : PySem.W.Frag) : R2 := fun x y H Q => ∃ a b xs ys, x = .ref a ∧ y = .ref b ∧ SqT K H a xs ∧ SqT K H b ys ∧ xs.length ≠ ys.length ∧
  (∀ (j : Nat) (v w : V), xs[j]? = some v → ys[j]? = some w → ∃ d e, Dp K H v d ∧ Dp K H w e ∧ SeqAt.shaped d = true ∧ SeqAt.shaped e = true) ∧ Q (.bl false) H
theorem op_eqLL (hu : X.A.units + 64 < cLine) : OpR X (compareOp .Eq) (rEqLL X.K false) := by
  intro pins s σ H x y v u Q I rx ry h
  obtain ⟨a, b, xs, ys, rfl, rfl, ha, hb, hl, q⟩ := h
  cases (show v = Value.ref a from rx)
  cases (show u = Value.ref b from ry)
  obtain ⟨us, r1, p1, _⟩ := I.list ha
  obtain ⟨ws, r2, p2, _⟩ := I.list hb
  refine SeqAt.eq_list_lengthsAt p1.isList p2.isList ?_ (by omega) ⟨.bl false, H, I, rfl, q⟩
  rw [bne_iff_ne, List.size_toArray, List.size_toArray, ← r1.length, ← r2.length]
  exact hl
theorem op_neLL (hu : X.A.units + 64 < cLine) : OpR X (compareOp .NotEq) (rEqLL X.K true) := by
  intro pins s σ H x y v u Q I rx ry h
  obtain ⟨a, b, xs, ys, rfl, rfl, ha, hb, hl, q⟩ := h
  cases (show v = Value.ref a from rx)
  cases (show u = Value.ref b from ry)
  obtain ⟨us, r1, p1, _⟩ := I.list ha
  obtain ⟨ws, r2, p2, _⟩ := I.list hb
  refine SeqAt.RcNeAt.lists_lengths p1.isList p2.isList ?_ (by omega) X.prog X.w _ _ ⟨.bl true, H, I, rfl, q⟩
  rw [bne_iff_ne, List.size_toArray, List.size_toArray, ← r1.length, ← r2.length]
  exact hl
theorem vals_at : ∀ {vs : List V} {us : List Value} {j : Nat} {u : Value}, Vals vs us → us[j]? = some u → ∃ v, vs[j]? = some v ∧ RelV v u
  | _, _, _, _, .nil, h => by simp at h
  | _, _, 0, _, .cons r t, h => by simp at h; subst h; exact ⟨_, rfl, r⟩
  | _, _, j + 1, _, .cons r t, h => by
    obtain ⟨v, a, b⟩ := vals_at (j := j) t (by simpa using h)
    exact ⟨v, by simpa using a, b⟩
theorem op_eqLT (hu : X.A.units + 66 < cLine) : OpR X (compareOp .Eq) (rEqLT X.K) := by
  intro pins s σ H x y v u Q I rx ry h
  obtain ⟨a, b, xs, ys, rfl, rfl, ha, hb, hl, he, q⟩ := h
  cases (show v = Value.ref a from rx)
  cases (show u = Value.ref b from ry)
  obtain ⟨us, r1, p1, _⟩ := I.tuple ha
  obtain ⟨ws, r2, p2, _⟩ := I.tuple hb
  have ex : ∀ j (h1 : j < us.toArray.size) (h2 : j < ws.toArray.size), ∃ e, SeqAt.EqAt X.A.in1 s us.toArray[j] ws.toArray[j] e := fun j h1 h2 => by
    obtain ⟨v, e1, q1⟩ := vals_at (j := j) r1 (List.getElem?_eq_getElem (by simpa using h1))
    obtain ⟨w, e2, q2⟩ := vals_at (j := j) r2 (List.getElem?_eq_getElem (by simpa using h2))
    obtain ⟨d, e, d1, d2, s1, s2⟩ := he j v w e1 e2
    obtain ⟨as, rd1⟩ := Dp.reads I d v _ d1 q1
    obtain ⟨bs, rd2⟩ := Dp.reads I e w _ d2 q2
    exact ⟨_, SeqAt.eqAt_reads d e X.A.in1 s _ _ as bs (by simpa using rd1) (by simpa using rd2) (SeqAt.canLay_of_shaped s1) (SeqAt.canLay_of_shaped s2) (SeqAt.room_of_shaped s1 (by show X.A.units + 1 + 64 < cLine; omega))⟩
  let e : Nat → Bool := fun j => if h : j < us.toArray.size ∧ j < ws.toArray.size then Classical.choose (ex j h.1 h.2) else false
  refine SeqAt.eq_tupleAt (e := e) p1 p2 (by omega) (fun j h1 h2 => ?_) ?_
  · have : e j = Classical.choose (ex j h1 h2) := dif_pos ⟨h1, h2⟩
    rw [this]
    exact Classical.choose_spec (ex j h1 h2)
  · have ne : (us.toArray.size == ws.toArray.size) = false := by
      rw [beq_eq_false_iff_ne, List.size_toArray, List.size_toArray, ← r1.length, ← r2.length]
      exact hl
    rw [ne, Bool.and_false]
    exact ⟨.bl false, H, I, rfl, q⟩
end
end Py
end
section
set_option maxHeartbeats 1000000
/-! PyY: t[::-1] of a tuple. -/
namespace HT
open PySem PySem.Spec PyProof.Rows PyProof.V PySem.W PySem.Calls
section
variable {prog : Program} {w : World} {A : Around} {E : Value → Shared → Prop} {s : Shared}
theorem sliceApplied_rev {sl : Addr} {vl vu vs : Value} {n : Nat} {Q : Int × Int × Nat → Shared → Prop} (hs : s.heap.IsSliceOf sl vl vu vs) (pl : IsPart vl none) (pu : IsPart vu none) (ps : IsPart vs (some (-1)))
    (h : Q ((n : Int) - 1, -1, n) s) : wpAny (model prog w) A (Builtin.Slice.sliceApplied (.ref sl) (pure (n : Int))) Q E s := by
  obtain ⟨os, hos, hcs, hds⟩ := id hs
  unfold Builtin.Slice.sliceApplied Builtin.Slice.sliceFields
  refine wpAny_bind (wpAny_bind (wpAny_field hos hds (x := vl) rfl (wpAny_bind (wpAny_field hos hds (x := vu) rfl (wpAny_bind (wpAny_field hos hds (x := vs) rfl (wpAny_pure ?_)))))))
  refine wpAny_bind (slicePart_ ps ?_)
  show wpAny _ _ (if ((-1 : Int) == 0) = true then _ else _) _ _ s
  rw [if_neg (by decide)]
  refine wpAny_bind (slicePart_ pl (wpAny_bind (slicePart_ pu (wpAny_bind (wpAny_pure ?_)))))
  have e : Builtin.Slice.sliceAdjust none none (-1) (n : Int) = ((n : Int) - 1, -1) := by
    unfold Builtin.Slice.sliceAdjust
    simp
  have e2 : Builtin.Slice.slicePlaces ((n : Int) - 1) (-1) (-1) = n := by
    unfold Builtin.Slice.slicePlaces
    simp
    omega
  show wpAny _ _ (match Builtin.Slice.sliceAdjust none none (-1) (n : Int) with | (lo, hi) => pure (lo, (-1 : Int), Builtin.Slice.slicePlaces lo hi (-1))) _ _ s
  rw [e]
  show wpAny _ _ (pure ((n : Int) - 1, (-1 : Int), Builtin.Slice.slicePlaces ((n : Int) - 1) (-1) (-1))) _ _ s
  rw [e2]
  exact wpAny_pure h
theorem fm_congr {α β : Type} {f g : α → Option β} : ∀ {l : List α}, (∀ x ∈ l, f x = g x) → l.filterMap f = l.filterMap g
  | [], _ => rfl
  | a :: l, h => by
    have h1 := h a (by simp)
    have h2 := fm_congr (l := l) fun x hx => h x (List.mem_cons_of_mem _ hx)
    rw [List.filterMap_cons, List.filterMap_cons, h1, h2]
theorem pick_rev (xs : Array Value) : ((List.range xs.size).filterMap fun (m : Nat) => xs[((xs.size : Int) - 1 + (m : Int) * (-1)).toNat]?).toArray = xs.toList.reverse.toArray := by
  congr 1
  have e : ∀ (m : Nat), m ∈ List.range xs.size → xs[((xs.size : Int) - 1 + (m : Int) * (-1)).toNat]? = xs.toList.reverse[m]? := by
    intro m hm
    have hm' : m < xs.size := List.mem_range.mp hm
    have : ((xs.size : Int) - 1 + (m : Int) * (-1)).toNat = xs.size - 1 - m := by omega
    rw [this, List.getElem?_reverse (by simpa using hm')]
    simp
  rw [fm_congr e]
  have := krv_all xs.toList.reverse.toArray
  simpa using this
theorem getItem_tuple_rev {t sl : Addr} {items : Array Value} {vl vu vs : Value} {Q : Value → Shared → Prop} (ht : IsTup s.heap t items) (hs : s.heap.IsSliceOf sl vl vu vs) (pl : IsPart vl none) (pu : IsPart vu none) (ps : IsPart vs (some (-1)))
    (h : Q (.ref s.heap.objs.size) { s with heap := s.heap.push { cls := .type "tuple", data := .seq items.toList.reverse.toArray } })
    (hsz : items.size ≤ sizeLine) : wpAny (model prog w) A (getItem (.ref t) (.ref sl)) Q E s := by
  have htake : sizeOk (.seq items.toList.reverse.toArray) := by
    show items.toList.reverse.toArray.size ≤ sizeLine
    rw [List.size_toArray, List.length_reverse, Array.length_toList]
    exact hsz
  obtain ⟨os, hos, hcs, hds⟩ := id hs
  have hTs : s.TypeIs (.ref sl) "slice" := ⟨os, hos, hcs⟩
  unfold getItem
  try with_reducible refine wpAny_holding ?_
  first | refine wpAny_bind (wpAny_pure ?_) | skip
  refine wpAny_bind (wpAny_sequenceKey ht.typeIs (by decide) ?_)
  refine wpAny_bind (wpAny_callSpecial?_slot (name := Str.ofString "__getitem__") ht.typeIs PyProof.Rows.slot_tuple_getitem
    (wpAny_call_entry PyProof.Rows.slot_tuple_getitem ht.typeIs entry_tuple_getitem ?_ (args_tuple_getitem _ _)))
  show wpAny _ _ (Builtin.Tuple.tupleItemsOf (.ref t) >>= _) _ _ s
  refine wpAny_bind (tupleItemsOf_ ht ?_)
  refine wpAny_bind (wpAny_typeOf hTs ?_)
  rw [if_pos (by decide)]
  refine wpAny_bind (sliceApplied_rev hs pl pu ps ?_)
  have hno : ¬ ((((items.size : Int) - 1) == 0 && (-1 : Int) == 1 && items.size == items.size) = true) := by simp
  show wpAny _ _ (if ((((items.size : Int) - 1) == 0 && (-1 : Int) == 1 && items.size == items.size) = true) then _ else _) _ _ s
  rw [if_neg hno, pick_rev]
  first
    | exact wpAny_bind (m := Builtin.Tuple.tupleExact _) (wpAny_newObj_type (wpAny_pure ⟨_, rfl, wpAny_pure h⟩) htake)
    | exact wpAny_bind (m := Builtin.Tuple.tupleExact _) (wpAny_newObj_type (wpAny_bind (wpAny_pure (wpAny_pure ⟨_, rfl, wpAny_pure h⟩))) htake)
    | exact wpAny_bind (wpAny_bind (m := Builtin.Tuple.tupleExact _) (wpAny_newObj_type (wpAny_pure (wpAny_pure ⟨_, rfl, wpAny_pure h⟩)) htake))
    | exact wpAny_bind (wpAny_bind (m := Builtin.Tuple.tupleExact _) (wpAny_newObj_type (wpAny_pure ⟨_, rfl, wpAny_pure h⟩) htake))
end
end HT
namespace L2
open PySem PySem.Spec PyProof.Rows
def tRevT (K : PySem.W.Frag) (te : TE) : TE := fun σ H Q => te σ H fun x H1 => ∃ a xs, x = .ref a ∧ SqT K H1 a xs ∧ ∀ p, H1 p = none → Q (.ref p) (upd H1 p (.tup xs.reverse))
theorem pe_revT {X : Cx} {e : Expr} {te : TE} {k : Nat} {p1 p2 p3 pos : Pos} (he : PE X e te) : PE X (.Subscript e (.Slice none none (some (.UnaryOp .USub (.Constant (.int 1) k p1) p2)) p3) pos) (tRevT X.K te) := by
  refine ⟨fun pins s σ H Q I h => ?_⟩
  refine Subscript_ (thn (he.run pins s σ H _ I h) fun v s1 ⟨x, H1, I1, r1, q1⟩ => ?_)
  obtain ⟨a, xs, ex, hx, q⟩ := q1
  subst ex
  cases r1
  have hst : PO X (some (.UnaryOp .USub (.Constant (.int 1) k p1) p2)) (tPart (tUn (rU fun i => .int (-i)) (tC (.int 1)))) := po_some (pe_un un_neg pe_int)
  refine wpAny_Slice (thn (po_none.run pins s1 σ H1 (fun o H2 => o = none ∧ H2 = H1) I1 ⟨rfl, rfl⟩) fun vl s2 ⟨l, H2, I2, pl, el, e2⟩ => ?_)
  subst el e2
  refine thn (po_none.run pins s2 σ H2 (fun o H3 => o = none ∧ H3 = H2) I2 ⟨rfl, rfl⟩) fun vu s3 ⟨u, H3, I3, pu, eu, e3⟩ => ?_
  subst eu e3
  refine thn (hst.run pins s3 σ H3 (fun o H4 => o = some (-1) ∧ H4 = H3) I3 ⟨1, rfl, -1, rfl, rfl, rfl⟩) fun vs s4 ⟨o, H4, I4, ps, eo, e4⟩ => ?_
  subst eo e4
  have I5 : Inv X pins σ H4 { s4 with heap := s4.heap.push { cls := .type "slice", data := .fields #[vl, vu, vs] } } := I4.kept (t' := s4.toks) fun b ob q => Heap.get?_push_of_some _ q
  obtain ⟨its, r, ht, hz⟩ := I5.tuple hx
  have hlen := r.length
  show wpAny (model X.prog X.w) X.A (subscriptTail e (.Slice none none (some (.UnaryOp .USub (.Constant (.int 1) k p1) p2)) p3) (.ref a) (.ref s4.heap.objs.size)) (EP X pins σ Q) X.xe { s4 with heap := s4.heap.push { cls := .type "slice", data := .fields #[vl, vu, vs] } }
  refine tail_any (ops := [.ref a, .ref s4.heap.objs.size]) ht.typeIs (PyProof.Rows.slot_tuple_getitem.lookup) ?_ (by with_unfolding_all rfl)
  refine HT.getItem_tuple_rev ht (Heap.IsSliceOf.new _ vl vu vs) pl pu ps ?_ (by rw [List.size_toArray]; omega)
  refine ⟨.ref _, _, I5.laid (t' := s4.toks) (o := .tup xs.reverse) (fun b ob q => Heap.get?_push_of_some _ q) (Nat.le_refl _) ?_, rfl, q _ (I5.hok.fresh (Nat.le_refl _))⟩
  exact ⟨by rw [List.length_reverse]; exact hz, _, r.reverse, IsTup.new _ _⟩
end L2
end
section
set_option maxHeartbeats 1000000
/-! PyZ: the readings of PyX and PyY over data. -/
namespace Py
open PySem L2 StX PySem.Spec PyProof.Rows
def preT (a b : List D) : Bool := decide (a.length ≠ b.length) && (a.zip b).all fun p => shp p.1 && shp p.2
def gEqX (x y : D) : M D := if (shp x && shp y) = true then ret (.bool (PyData.eqv x y)) else match x, y with
  | .tuple a, .tuple b => if preT a b = true then ret (.bool false) else stuck
  | .list a, .list b => if decide (a.length ≠ b.length) = true then ret (.bool false) else stuck
  | _, _ => stuck
def gNeX (x y : D) : M D := if (shp x && shp y) = true then ret (.bool (!PyData.eqv x y)) else match x, y with
  | .list a, .list b => if decide (a.length ≠ b.length) = true then ret (.bool true) else stuck
  | _, _ => stuck
def rEqX (K : PySem.W.Frag) : R2 := fun x y H Q => rEqD K x y H Q ∨ (rEqLL K false x y H Q ∨ rEqLT K x y H Q)
def rNeX (K : PySem.W.Frag) : R2 := fun x y H Q => rNeD K x y H Q ∨ rEqLL K true x y H Q
theorem kEqX {X : Cx} {K : PySem.W.Frag} {k : Nat} (r : Room k X.A) (h : X.K = K := by rfl) : OpR X (compareOp .Eq) (rEqX K) := by
  subst h
  exact (op_eqD r.units).or ((op_eqLL r.units).or (op_eqLT r.u66))
theorem kNeX {X : Cx} {K : PySem.W.Frag} {k : Nat} (r : Room k X.A) (h : X.K = K := by rfl) : OpR X (compareOp .NotEq) (rNeX K) := by
  subst h
  exact (op_neD r.units).or (op_neLL r.units)
theorem kReprX {X : Cx} {K : PySem.W.Frag} {k : Nat} (hg : X.A.guards = some []) (r : Room k X.A) (h : X.K = K := by rfl) : CallR X (.builtin "repr") (rReprX K) := by
  subst h
  exact cr_reprX hg r.u66
section
variable {s : Sx} {Γ Γ' Γl : List Md} {K : PySem.W.Frag}
theorem zip_get {a b : List D} {j : Nat} {x y : D} (h : (a.zip b).all (fun p => shp p.1 && shp p.2) = true) (ha : a[j]? = some x) (hb : b[j]? = some y) : shp x = true ∧ shp y = true := by
  have : (x, y) ∈ a.zip b := by
    refine List.mem_of_getElem? (i := j) ?_
    rw [List.getElem?_zip_eq_some]
    exact ⟨ha, hb⟩
  have := List.all_eq_true.mp h _ this
  simpa using this
theorem DenL.get' {H : Hp} {U : AS} : ∀ {vs : List V} {ds : List D} {j : Nat} {v : V}, DenL H U vs ds → vs[j]? = some v → ∃ d, ds[j]? = some d ∧ Den H U v d
  | _, _, _, _, .nil, h => by simp at h
  | _, _, 0, _, .cons h _, e => by simp at e; subst e; exact ⟨_, rfl, h⟩
  | _, _, j + 1, _, .cons _ t, e => by
    obtain ⟨d, a, b⟩ := DenL.get' (j := j) t (by simpa using e)
    exact ⟨d, by simpa using a, b⟩
theorem oe_eqX : OpE s (rEqX K) gEqX := by
  intro c ps H x y u v Q P hc G hx hy q k
  unfold gEqX at q
  split at q
  · rename_i z
    have z' : shp x = true ∧ shp y = true := by simpa using z
    exact .inl ⟨x, y, hx.dp (shp_lay z'.1), hy.dp (shp_lay z'.2), z'.1, z'.2, k _ _ H q (Stp.refl c H) (.bl _)⟩
  · split at q
    · rename_i a b hn
      split at q
      · rename_i z
        obtain ⟨z1, z2⟩ : a.length ≠ b.length ∧ (a.zip b).all (fun p => shp p.1 && shp p.2) = true := by simpa [preT] using z
        obtain ⟨p, vs, rfl, h1, dn, _⟩ := hx.tup
        obtain ⟨p2, ws, rfl, h2, dn2, _⟩ := hy.tup
        refine .inr (.inr ⟨p, p2, vs, ws, rfl, rfl, SqT.of h1, SqT.of h2, by rw [dn.length, dn2.length]; exact z1, fun j v w e1 e2 => ?_, k _ _ H q (Stp.refl c H) (.bl _)⟩)
        obtain ⟨d, g1, d1⟩ := dn.get' e1
        obtain ⟨e, g2, d2⟩ := dn2.get' e2
        obtain ⟨s1, s2⟩ := zip_get z2 g1 g2
        exact ⟨d, e, d1.dp (shp_lay s1), d2.dp (shp_lay s2), s1, s2⟩
      · cases q
    · rename_i a b hn
      split at q
      · rename_i z
        have z1 : a.length ≠ b.length := by simpa using z
        obtain ⟨p, vs, rfl, h1, dn⟩ := hx.lst
        obtain ⟨p2, ws, rfl, h2, dn2⟩ := hy.lst
        exact .inr (.inl ⟨p, p2, vs, ws, rfl, rfl, SqL.of h1, SqL.of h2, by rw [dn.length, dn2.length]; exact z1, k _ _ H q (Stp.refl c H) (.bl _)⟩)
      · cases q
    · cases q
theorem oe_neX : OpE s (rNeX K) gNeX := by
  intro c ps H x y u v Q P hc G hx hy q k
  unfold gNeX at q
  split at q
  · rename_i z
    have z' : shp x = true ∧ shp y = true := by simpa using z
    exact .inl ⟨x, y, hx.dp (shp_lay z'.1), hy.dp (shp_lay z'.2), z'.1, z'.2, k _ _ H q (Stp.refl c H) (.bl _)⟩
  · split at q
    · rename_i a b hn
      split at q
      · rename_i z
        have z1 : a.length ≠ b.length := by simpa using z
        obtain ⟨p, vs, rfl, h1, dn⟩ := hx.lst
        obtain ⟨p2, ws, rfl, h2, dn2⟩ := hy.lst
        exact .inr ⟨p, p2, vs, ws, rfl, rfl, SqL.of h1, SqL.of h2, by rw [dn.length, dn2.length]; exact z1, k _ _ H q (Stp.refl c H) (.bl _)⟩
      · cases q
    · cases q
def cReprX : List D → M D
  | [d] => if rpOk d = true then ret (.str d.shown) else if rpX d = true then ret (.str d.shown) else stuck
  | _ => stuck
theorem ca_reprX : CaE s (rReprX K) cReprX := by
  intro c ps H vs ds Q P hc G hv q k
  unfold cReprX at q
  split at q
  · rename_i d
    split at q
    · rename_i ok
      exact .inl (ca_repr c ps H vs [d] Q P hc G hv (by rw [show cRepr [d] = ret (.str d.shown) from if_pos ok]; exact q) k)
    · split at q
      · rename_i ok
        obtain ⟨v, rfl, hw⟩ := hv.one
        have lay : onTD d = true := by
          have ok' := ok
          unfold rpX at ok'
          simp only [Bool.and_eq_true] at ok'
          exact ok'.1.1.2
        exact .inr ⟨v, d, rfl, hw.dq lay, ok, k _ _ H q (Stp.refl c H) (.str _)⟩
      · cases q
  · cases q
/-- {} -/
theorem sem_dct : SemE s Γ tDNewK (eC (.dict [])) := by
  intro c ρ ps σ H Q P hc r q k p hn
  exact k _ _ _ q (Stp.new r.ok hn fun xs z => by rcases z with z | z <;> cases z) (.dct upd_same (r.new hn))
/-- a ** b, two numbers of the text -/
theorem sem_powc {a b : Int} (h : CPow a b) : SemE s Γ (tOp (rI CPow fun i j => .int (i ^ j.toNat)) (tC (.int a)) (tC (.int b))) (eC (.int (a ^ b.toNat))) := by
  intro c ρ ps σ H Q P hc r q k
  exact ⟨a, b, rfl, rfl, h, k _ _ H q (Stp.refl c H) (.int _)⟩
/-- t[::-1] -/
def eRevT (e : Env → M D) : Env → M D := fun ρ => bnd (e ρ) fun d => match d with
  | .tuple ds => ret (.tuple ds.reverse)
  | _ => stuck
theorem sem_revT {te : TE} {e : Env → M D} (he : SemV s Γ te e) : SemE s Γ (tRevT K te) (eRevT e) := by
  intro c ρ ps σ H Q P hc r0 q k
  refine he c ρ ps σ H _ _ hc r0 q fun x u H1 q1 e1 d1 => ?_
  have r1 := r0.stp e1
  dsimp only at q1
  split at q1
  · obtain ⟨a, vs, rfl, h1, dn, nu⟩ := d1.tup
    refine ⟨a, vs, rfl, SqT.of h1, fun p hp => ?_⟩
    have e := Stp.tup r0.ok (xs := vs.reverse) hp (by rw [List.length_reverse]; exact r1.sz a vs (.inr h1))
    exact k _ _ _ q1 (e1.trans e) (.tup upd_same (r1.new hp) (dn.stp r0.ok e).reverse)
  · cases q1
end
end Py
end
section
set_option maxHeartbeats 1000000
/-! PyW: sum of a tuple. -/
namespace L2
open PySem PySem.Spec PyProof.Rows
variable {X : Cx}
def rSumX (K : PySem.W.Frag) : List V → Hp → VK → Prop := fun vs H Q => rSum K vs H Q ∨ ∃ (a : Addr) (ns : List Int), vs = [V.ref a] ∧ SqT K H a (ns.map V.int) ∧ Q (.int ns.sum) H
theorem sumT_raw {prog : Program} {w : World} {A : Around} {E : Value → Shared → Prop} {s : Shared} {l : Addr} {its : List Value} {ns : List Int} {Q : Value → Shared → Prop} (hh : A.handled = none) (hl : s.heap.IsTuple l its.toArray) (hi : IntsAre its ns)
    (h : ∀ h' tk t', (∀ b o, s.heap.get? b = some o → h'.get? b = some o) → Q (.int ns.sum t') { s with heap := h', toks := tk }) : wpAny (model prog w) A (call (.builtin "sum") [.ref l]) Q E s := by
  obtain ⟨xs, e⟩ := hi.allInts.items
  have hn : numsOf (intItems xs).toList = ns := by rw [← e]; exact hi.numsOf
  rw [nums_intItems] at hn
  rw [e] at hl
  refine PySem.W.ktm_sumG hh hl fun h' tk t' hk => ?_
  have := h h' tk t' hk
  rw [preSum_eq, List.take_of_length_le (by simp), hn]; exact this
theorem cr_sumX (hc : X.calm = true) : CallR X (.builtin "sum") (rSumX X.K) := by
  intro pins s σ H vs us Q I r h
  rcases h with h | h
  · exact cr_sum hc pins s σ H vs us Q I r h
  · obtain ⟨a, ns, rfl, hs, q⟩ := h
    obtain ⟨its, rv, hl, _⟩ := I.tuple hs
    rw [Vals.ref1 r]
    exact sumT_raw (I.ok.hd hc) hl rv.ints fun h' tk t' hk => ⟨.int _, H, I.kept hk, ⟨_, rfl⟩, q⟩
end L2
namespace Py
open PySem L2 StX
section
variable {s : Sx} {K : PySem.W.Frag}
def cSumX : List D → M D
  | [.list ds] => match intsD ds with | some ns => ret (.int ns.sum) | none => stuck
  | [.tuple ds] => match intsD ds with | some ns => ret (.int ns.sum) | none => stuck
  | _ => stuck
theorem ca_sumX : CaE s (rSumX K) cSumX := by
  intro c ps H vs ds Q P hc G hv q k
  unfold cSumX at q
  split at q
  · cases e : intsD _ with
    | none => rw [e] at q; cases q
    | some ns =>
      rw [e] at q
      obtain ⟨v, rfl, hw⟩ := hv.one
      obtain ⟨a, ws, rfl, h1, dn⟩ := hw.lst
      exact .inl ⟨a, ns, rfl, by rw [← dn.ints e]; exact SqL.of h1, k _ _ H q (Stp.refl c H) (.int _)⟩
  · cases e : intsD _ with
    | none => rw [e] at q; cases q
    | some ns =>
      rw [e] at q
      obtain ⟨v, rfl, hw⟩ := hv.one
      obtain ⟨a, ws, rfl, h1, dn, nu⟩ := hw.tup
      exact .inr ⟨a, ns, rfl, by rw [← dn.ints e]; exact SqT.of h1, k _ _ H q (Stp.refl c H) (.int _)⟩
  · cases q
theorem kSumX {X : Cx} {K : PySem.W.Frag} (hc : X.calm = true) (h : X.K = K := by rfl) : CallR X (.builtin "sum") (rSumX K) := by subst h; exact cr_sumX hc
theorem cSumX_t (xs : List Int) : cSumX [.tuple (dInts xs)] = ret (.int xs.sum) := by
  show (match intsD (dInts xs) with | some ns => ret (PyData.int ns.sum) | none => stuck) = _
  rw [intsD_dInts]
theorem cSumX_l (xs : List Int) : cSumX [.list (dInts xs)] = ret (.int xs.sum) := by
  show (match intsD (dInts xs) with | some ns => ret (PyData.int ns.sum) | none => stuck) = _
  rw [intsD_dInts]
end
end Py
end
namespace L93
open PySem PySem.Spec PyProof.Rows L2 Py StX
def b_shared_bottom : Py.Env → M Out := (sRet (bin gFdiv (bin gMulX (bin gIx (bin gIx (eVar 0) (eC (.int 0))) (eC (.int 1))) (bin gIx (bin gIx (eVar 0) (eC (.int 1))) (eC (.int 1)))) (cal cGcd (aCons (bin gIx (bin gIx (eVar 0) (eC (.int 0))) (eC (.int 1))) (aCons (bin gIx (bin gIx (eVar 0) (eC (.int 1))) (eC (.int 1))) aNil)))))
def F_shared_bottom : List D → M D := fnD 0 b_shared_bottom
def b_ways_from : Py.Env → M Out := (sSeq (sAsg 2 (eCall 1 F_shared_bottom (aCons (eVar 1) aNil)))
  (sSeq (sTgt (eTup (aCons (bin gMulX (bin gIx (bin gIx (eVar 1) (eC (.int 0))) (eC (.int 0))) (bin gFdiv (eVar 2) (bin gIx (bin gIx (eVar 1) (eC (.int 0))) (eC (.int 1))))) (aCons (bin gMulX (bin gIx (bin gIx (eVar 1) (eC (.int 1))) (eC (.int 0))) (bin gFdiv (eVar 2) (bin gIx (bin gIx (eVar 1) (eC (.int 1))) (eC (.int 1))))) aNil))) (tgTup 2 (tgsCons (tgN 3) (tgsCons (tgN 4) tgsNil))))
  (sRet (mkL (eLc (itSeq (eVar 0)) (tgTup 2 (tgsCons (tgN 5) (tgsCons (tgN 6) tgsNil))) cYes (eTup (aCons (bin gSub (bin gMulX (eVar 5) (eVar 2)) (eVar 3)) (aCons (bin gSub (bin gMulX (eVar 6) (eVar 2)) (eVar 4)) aNil))) [5, 6])))))
def F_ways_from : List D → M D := fnD 5 b_ways_from
def b_told_by : Py.Env → M Out := (sRet (bin gAdd (bin gMulX (eVar 1) (bin gIx (eVar 0) (eC (.int 0)))) (bin gMulX (eVar 2) (bin gIx (eVar 0) (eC (.int 1))))))
def F_told_by : List D → M D := fnD 0 b_told_by
def b_many_on_side : Py.Env → M Out := (sRet (cal cLen (aCons (mkL (eLc (itSeq (eVar 0)) (tgN 3) (tst (bin gGe (eCall 3 F_told_by (aCons (eVar 3) (aCons (eVar 1) (aCons (eVar 2) aNil)))) (eC (.int 0)))) (eVar 3) [3])) aNil)))
def F_many_on_side : List D → M D := fnD 1 b_many_on_side
def b_side_count : Py.Env → M Out := (sRet (eCall 3 F_many_on_side (aCons (eCall 2 F_ways_from (aCons (eVar 0) (aCons (eVar 1) aNil))) (aCons (eVar 2) (aCons (eVar 3) aNil)))))
def F_side_count : List D → M D := fnD 0 b_side_count
def b_lowest_way : Py.Env → M Out := (sSeq (sAsg 1 (cal cGcd (aCons (bin gIx (eVar 0) (eC (.int 0))) (aCons (bin gIx (eVar 0) (eC (.int 1))) aNil))))
  (sRet (eTup (aCons (bin gFdiv (bin gIx (eVar 0) (eC (.int 0))) (eVar 1)) (aCons (bin gFdiv (bin gIx (eVar 0) (eC (.int 1))) (eVar 1)) aNil)))))
def F_lowest_way : List D → M D := fnD 1 b_lowest_way
def b_is_lower : Py.Env → M Out := (sRet (eOr (bin gLt (bin gIx (eVar 0) (eC (.int 1))) (eC (.int 0))) (eAnd (bin gEq (bin gIx (eVar 0) (eC (.int 1))) (eC (.int 0))) (bin gLt (bin gIx (eVar 0) (eC (.int 0))) (eC (.int 0))))))
def F_is_lower : List D → M D := fnD 0 b_is_lower
def b_turn_between : Py.Env → M Out := (sRet (bin gSub (bin gMulX (bin gIx (eVar 0) (eC (.int 0))) (bin gIx (eVar 1) (eC (.int 1)))) (bin gMulX (bin gIx (eVar 0) (eC (.int 1))) (bin gIx (eVar 1) (eC (.int 0))))))
def F_turn_between : List D → M D := fnD 0 b_turn_between
def b_is_earlier_way : Py.Env → M Out := (sSeq (sIf (tst (bin gNe (eCall 1 F_is_lower (aCons (eVar 0) aNil)) (eCall 1 F_is_lower (aCons (eVar 1) aNil)))) (sRet (eCall 1 F_is_lower (aCons (eVar 1) aNil))) sNx)
  (sRet (bin gGt (eCall 2 F_turn_between (aCons (eVar 0) (aCons (eVar 1) aNil))) (eC (.int 0)))))
def F_is_earlier_way : List D → M D := fnD 0 b_is_earlier_way
def b_put_way : Py.Env → M Out := (sSeq (sIf (tst (bin (gIn false) (eVar 1) (eVar 0))) (sRet (eVar 0)) sNx)
  (sSeq (sAsg 2 (cal cLen (aCons (mkL (eLc (itSeq (eVar 0)) (tgN 3) (tst (eCall 2 F_is_earlier_way (aCons (eVar 3) (aCons (eVar 1) aNil)))) (eVar 3) [3])) aNil)))
  (sRet (mkL (lDisp (aStar (eSl (eVar 0) oNo (oPart (eVar 2))) (aCons (eVar 1) (aStar (eSl (eVar 0) (oPart (eVar 2)) oNo) aNil))))))))
def F_put_way : List D → M D := fnD 2 b_put_way
def b_round_of_ways : Py.Env → M Out := (sSeq (sAsg 1 (mkL (lDisp aNil)))
  (sSeq (sFor (itSeq (eVar 0)) (tgN 2)
  (sIf (tst (bin gNe (eVar 2) (eTup (aCons (eC (.int 0)) (aCons (eC (.int 0)) aNil))))) (sSeq (sAsg 1 (eCall 2 F_put_way (aCons (eVar 1) (aCons (eCall 1 F_lowest_way (aCons (eVar 2) aNil)) aNil))))
  (sAsg 1 (eCall 2 F_put_way (aCons (eVar 1) (aCons (eCall 1 F_lowest_way (aCons (eTup (aCons (una gNeg (bin gIx (eVar 2) (eC (.int 0)))) (aCons (una gNeg (bin gIx (eVar 2) (eC (.int 1)))) aNil))) aNil)) aNil))))) sNx))
  (sRet (eVar 1))))
def F_round_of_ways : List D → M D := fnD 2 b_round_of_ways
def b_ways_between : Py.Env → M Out := (sSeq (sAsg 1 (eCall 1 F_round_of_ways (aCons (eVar 0) aNil)))
  (sSeq (sIf (tst (bin gEq (eVar 1) (mkL (lDisp aNil)))) (sRet (mkL (lDisp (aCons (eTup (aCons (eC (.int 0)) (aCons (una gNeg (eC (.int 1))) aNil))) aNil)))) sNx)
  (sSeq (sOwn 2 (lDisp aNil))
  (sSeq (sFor (itZip (aCons (eVar 1) (aCons (mkL (lDisp (aStar (eSl (eVar 1) (oPart (eC (.int 1))) oNo) (aCons (bin gIx (eVar 1) (eC (.int 0))) aNil)))) aNil))) (tgTup 2 (tgsCons (tgN 3) (tgsCons (tgN 4) tgsNil)))
  (sSeq (sAsg 5 (bin gEq (cal cLen (aCons (eVar 1) aNil)) (eC (.int 2))))
  (sApp 2 (eIf (tru (eVar 5)) (eTup (aCons (una gNeg (bin gIx (eVar 3) (eC (.int 1)))) (aCons (bin gIx (eVar 3) (eC (.int 0))) aNil))) (eTup (aCons (bin gAdd (bin gIx (eVar 3) (eC (.int 0))) (bin gIx (eVar 4) (eC (.int 0)))) (aCons (bin gAdd (bin gIx (eVar 3) (eC (.int 1))) (bin gIx (eVar 4) (eC (.int 1)))) aNil)))))))
  (sRetOwn 2)))))
def F_ways_between : List D → M D := fnD 5 b_ways_between
def b_sides_told : Py.Env → M Out := (sSeq (sParO 2 3 (eCall 2 F_ways_from (aCons (eVar 0) (aCons (eVar 1) aNil))) (lDisp aNil))
  (sSeq (sFor (itSeq (eCall 1 F_ways_between (aCons (eVar 2) aNil))) (tgTup 2 (tgsCons (tgN 4) (tgsCons (tgN 5) tgsNil)))
  (sApp 3 (eTup (aCons (eCall 3 F_many_on_side (aCons (eVar 2) (aCons (una gNeg (eVar 5)) (aCons (eVar 4) aNil)))) (aCons (una gNeg (eVar 5)) (aCons (eVar 4) aNil))))))
  (sRetOwn 3)))
def F_sides_told : List D → M D := fnD 4 b_sides_told
def b_depth_of : Py.Env → M Out := (sRet (cal (cBest PySem.W.minD) (aCons (mkL (eLc (itSeq (eCall 2 F_sides_told (aCons (eVar 0) (aCons (eVar 1) aNil)))) (tgTup 3 (tgsCons (tgN 2) (tgsCons (tgN 3) (tgsCons (tgN 4) tgsNil)))) cYes (eVar 2) [2, 3, 4])) aNil)))
def F_depth_of : List D → M D := fnD 3 b_depth_of
def b_least_side : Py.Env → M Out := (sSeq (sTgt (cal (cBest PySem.W.minD) (aCons (eCall 2 F_sides_told (aCons (eVar 0) (aCons (eVar 1) aNil))) aNil)) (tgTup 3 (tgsCons (tgN 2) (tgsCons (tgN 3) (tgsCons (tgN 4) tgsNil)))))
  (sRet (eTup (aCons (eVar 3) (aCons (eVar 4) aNil)))))
def F_least_side : List D → M D := fnD 3 b_least_side
def b_many_more : Py.Env → M Out := (sSeq (sTgt (eVar 1) (tgTup 3 (tgsCons (tgN 2) (tgsCons (tgN 3) (tgsCons (tgN 4) tgsNil)))))
  (sRet (cal cLen (aCons (mkL (eLc (itSeq (eVar 0)) (tgTup 2 (tgsCons (tgN 5) (tgsCons (tgN 6) tgsNil))) (tst (bin gGt (bin gAdd (bin gMulX (eVar 2) (eVar 5)) (bin gMulX (eVar 3) (eVar 6))) (eVar 4))) (eC (.int 1)) [5, 6])) aNil))))
def F_many_more : List D → M D := fnD 5 b_many_more
def b_many_less : Py.Env → M Out := (sSeq (sTgt (eVar 1) (tgTup 3 (tgsCons (tgN 2) (tgsCons (tgN 3) (tgsCons (tgN 4) tgsNil)))))
  (sRet (cal cLen (aCons (mkL (eLc (itSeq (eVar 0)) (tgTup 2 (tgsCons (tgN 5) (tgsCons (tgN 6) tgsNil))) (tst (bin gLt (bin gAdd (bin gMulX (eVar 2) (eVar 5)) (bin gMulX (eVar 3) (eVar 6))) (eVar 4))) (eC (.int 1)) [5, 6])) aNil))))
def F_many_less : List D → M D := fnD 5 b_many_less
def b_depth_paper : Py.Env → M Out := (sRet (eIf (tst (bin gGe (eCall 2 F_depth_of (aCons (eVar 0) (aCons (eVar 1) aNil))) (eVar 2))) (eTup (aCons (eC (.str "deep")) aNil)) (eTup (aCons (eC (.str "side")) (aStar (eCall 2 F_least_side (aCons (eVar 0) (aCons (eVar 1) aNil))) aNil)))))
def F_depth_paper : List D → M D := fnD 0 b_depth_paper
def b_are_whole_numbers : Py.Env → M Out := (sRet (cal cAll (aCons (mkL (eLc (itSeq (eVar 0)) (tgN 1) cYes (eAnd (una (gIsi "int") (eVar 1)) (eNot (una (gIsi "bool") (eVar 1)))) [1])) aNil)))
def F_are_whole_numbers : List D → M D := fnD 1 b_are_whole_numbers
def b_judge_depth : Py.Env → M Out := (sSeq (sIf (bOr (bNot (tst (una (gIsi "tuple") (eVar 3)))) (bOr (tst (bin gEqX (eVar 3) (eTup aNil))) (bNot (tst (una (gIsi "str") (bin gIx (eVar 3) (eC (.int 0)))))))) (sRet (eTup (aCons (eC (.str "form")) aNil))) sNx)
  (sSeq (sIf (tst (bin gEqX (eVar 3) (eTup (aCons (eC (.str "deep")) aNil)))) (sSeq (sAsg 4 (eCall 2 F_depth_of (aCons (eVar 0) (aCons (eVar 1) aNil))))
  (sRet (eIf (tst (bin gLt (eVar 4) (eVar 2))) (eTup (aCons (eC (.str "depth")) (aCons (eVar 4) aNil))) (eC .none)))) sNx)
  (sSeq (sIf (bOr (tst (bin gNeX (bin gIx (eVar 3) (eC (.int 0))) (eC (.str "side")))) (bOr (tst (bin gNeX (cal cLen (aCons (eVar 3) aNil)) (eC (.int 3)))) (bOr (bNot (tst (eCall 1 F_are_whole_numbers (aCons (eSl (eVar 3) (oPart (eC (.int 1))) oNo) aNil)))) (tst (bin gEqX (eSl (eVar 3) (oPart (eC (.int 1))) oNo) (eTup (aCons (eC (.int 0)) (aCons (eC (.int 0)) aNil)))))))) (sRet (eTup (aCons (eC (.str "form")) aNil))) sNx)
  (sSeq (sAsg 5 (eCall 4 F_side_count (aCons (eVar 0) (aCons (eVar 1) (aCons (bin gIx (eVar 3) (eC (.int 1))) (aCons (bin gIx (eVar 3) (eC (.int 2))) aNil))))))
  (sRet (eIf (tst (bin gGe (eVar 5) (eVar 2))) (eTup (aCons (eC (.str "many")) (aCons (eVar 5) aNil))) (eC .none)))))))
def F_judge_depth : List D → M D := fnD 2 b_judge_depth
def b_judge_halving : Py.Env → M Out := (sSeq (sIf (bOr (bNot (tst (una (gIsi "tuple") (eVar 2)))) (bOr (tst (bin gNe (cal cLen (aCons (eVar 2) aNil)) (eC (.int 3)))) (bOr (bNot (tst (eCall 1 F_are_whole_numbers (aCons (eVar 2) aNil)))) (tst (bin gEq (eSl (eVar 2) oNo (oPart (eC (.int 2)))) (eTup (aCons (eC (.int 0)) (aCons (eC (.int 0)) aNil)))))))) (sRet (eTup (aCons (eC (.str "form")) aNil))) sNx)
  (sSeq (sFor (itEnum (aCons (eTup (aCons (eVar 0) (aCons (eVar 1) aNil))) aNil)) (tgTup 2 (tgsCons (tgN 3) (tgsCons (tgN 4) tgsNil)))
  (sSeq (sIf (tst (bin gGt (bin gMulX (eC (.int 2)) (eCall 2 F_many_more (aCons (eVar 4) (aCons (eVar 2) aNil)))) (cal cLen (aCons (eVar 4) aNil)))) (sRet (eTup (aCons (eC (.str "more")) (aCons (eVar 3) aNil)))) sNx)
  (sIf (tst (bin gGt (bin gMulX (eC (.int 2)) (eCall 2 F_many_less (aCons (eVar 4) (aCons (eVar 2) aNil)))) (cal cLen (aCons (eVar 4) aNil)))) (sRet (eTup (aCons (eC (.str "less")) (aCons (eVar 3) aNil)))) sNx)))
  (sRet (eC .none))))
def F_judge_halving : List D → M D := fnD 2 b_judge_halving

def F__law_pick : List D → M D := F_pick
def b__law_of : Py.Env → M Out := (sRet (bin gIx (eVar 1) (eCallS 0 1 F__law_pick (aCons (cal cLen (aCons (eVar 1) aNil)) aNil))))
def F__law_of : List D → M D := fnS 0 b__law_of
def b__law_is_int : Py.Env → M Out := (sRet (eAnd (una (gIsi "int") (eVar 0)) (eNot (una (gIsi "bool") (eVar 0)))))
def F__law_is_int : List D → M D := fnD 0 b__law_is_int
def b__law_bent (G__law_bent : List D → M D) : Py.Env → M Out := (sSeq (sIf (bAnd (tst (eCall 1 F__law_is_int (aCons (eVar 1) aNil))) (tst (bin gGt (eCallS 0 1 F__law_pick (aCons (eC (.int 3)) aNil)) (eC (.int 0))))) (sRet (bin gAdd (eVar 1) (eCallS 0 1 F__law_of (aCons (mkL (lDisp (aCons (eC (.int 1)) (aCons (una gNeg (eC (.int 1))) (aCons (eC (.int 2)) aNil))))) aNil)))) sNx)
  (sSeq (sIf (bOr (bNot (tst (una (gIsi "tuple") (eVar 1)))) (bOr (tst (bin gEq (eVar 1) (eTup aNil))) (tst (bin gEq (eCallS 0 1 F__law_pick (aCons (eC (.int 7)) aNil)) (eC (.int 0)))))) (sRet (eCallS 0 1 F__law_of (aCons (eVar 2) aNil))) sNx)
  (sSeq (sPar 3 4 (aCons (eCallS 0 1 F__law_pick (aCons (cal cLen (aCons (eVar 1) aNil)) aNil)) (aCons (eCallS 0 1 F__law_pick (aCons (eC (.int 8)) aNil)) aNil)))
  (sSeq (sIf (tst (bin gLt (eVar 4) (eC (.int 5)))) (sRet (bin gAdd (bin gAdd (eSl (eVar 1) oNo (oPart (eVar 3))) (eTup (aCons (eCallS 0 2 G__law_bent (aCons (bin gIx (eVar 1) (eVar 3)) (aCons (eVar 2) aNil))) aNil))) (eSl (eVar 1) (oPart (bin gAdd (eVar 3) (eC (.int 1)))) oNo))) sNx)
  (sRet (bin gIx (mkL (lDisp (aCons (bin gAdd (eSl (eVar 1) oNo (oPart (eVar 3))) (eSl (eVar 1) (oPart (bin gAdd (eVar 3) (eC (.int 1)))) oNo)) (aCons (bin gAdd (eSl (eVar 1) oNo (oPart (bin gAdd (eVar 3) (eC (.int 1))))) (eSl (eVar 1) (oPart (eVar 3)) oNo)) (aCons (bin gAdd (eSl (eVar 1) (oPart (eVar 3)) oNo) (eSl (eVar 1) oNo (oPart (eVar 3)))) aNil))))) (bin gSub (eVar 4) (eC (.int 5)))))))))
def R__law_bent : Nat → List D → M D
  | 0 => fun _ => stuck
  | n + 1 => fnS 2 (b__law_bent (R__law_bent n))
def F__law_bent : List D → M D := R__law_bent 4
def b__law_low : Py.Env → M Out := (sSeq (sPar 2 3 (aCons (cal cAbs (aCons (eVar 0) aNil)) (aCons (cal cAbs (aCons (eVar 1) aNil)) aNil)))
  (sSeq (sWhile (fun _ => 200) (tst (bin gGt (eVar 3) (eC (.int 0))))
  (sPar 2 3 (aCons (eVar 3) (aCons (bin gMod (cal cInt (aCons (eVar 2) aNil)) (eVar 3)) aNil))))
  (sRet (eIf (tst (bin gGt (eVar 1) (eC (.int 0)))) (eTup (aCons (bin gFdiv (eVar 0) (eVar 2)) (aCons (bin gFdiv (eVar 1) (eVar 2)) aNil))) (eTup (aCons (bin gFdiv (bin gSub (eC (.int 0)) (eVar 0)) (eVar 2)) (aCons (bin gFdiv (bin gSub (eC (.int 0)) (eVar 1)) (eVar 2)) aNil)))))))
def F__law_low : List D → M D := fnD 2 b__law_low
def b__law_lot : Py.Env → M Out := (sSeq (sParD 3 4 5 (bin gAdd (eVar 1) (eCallS 0 1 F__law_pick (aCons (bin gAdd (bin gSub (eVar 2) (eVar 1)) (eC (.int 1))) aNil))) (eCallS 0 1 F__law_pick (aCons (eC (.int 4)) aNil)))
  (sSeq (sAsg 6 (eCallS 0 1 F__law_of (aCons (mkL (lDisp (aCons (eC (.int 3)) (aCons (eC (.int 6)) (aCons (eC (.int 20)) aNil))))) aNil)))
  (sSeq (sAsg 7 (mkL (lDisp (aCons (eTup (aCons (eC (.int 0)) (aCons (eC (.int 5)) aNil))) (aCons (eTup (aCons (eC (.int 5)) (aCons (eC (.int 0)) aNil))) (aCons (eTup (aCons (eC (.int 3)) (aCons (eC (.int 4)) aNil))) (aCons (eTup (aCons (eC (.int 4)) (aCons (eC (.int 3)) aNil))) (aCons (eTup (aCons (una gNeg (eC (.int 3))) (aCons (eC (.int 4)) aNil))) (aCons (eTup (aCons (una gNeg (eC (.int 4))) (aCons (eC (.int 3)) aNil))) (aCons (eTup (aCons (eC (.int 3)) (aCons (una gNeg (eC (.int 4))) aNil))) (aCons (eTup (aCons (eC (.int 0)) (aCons (una gNeg (eC (.int 5))) aNil))) (aCons (eTup (aCons (una gNeg (eC (.int 5))) (aCons (eC (.int 0)) aNil))) (aCons (eTup (aCons (eC (.int 0)) (aCons (eC (.int 0)) aNil))) aNil)))))))))))))
  (sSeq (sFor (itRng1 (aCons (bin gMulX (eC (.int 4)) (eVar 3)) aNil)) (tgN 8)
  (sSeq (sPar 9 10 (aCons (bin gSub (eCallS 0 1 F__law_pick (aCons (bin gAdd (bin gMulX (eC (.int 2)) (eVar 6)) (eC (.int 1))) aNil)) (eVar 6)) (aCons (bin gSub (eCallS 0 1 F__law_pick (aCons (bin gAdd (bin gMulX (eC (.int 2)) (eVar 6)) (eC (.int 1))) aNil)) (eVar 6)) aNil)))
  (sSeq (sIf (tst (bin gEq (eVar 4) (eC (.int 1)))) (sAsg 10 (eCallS 0 1 F__law_of (aCons (mkL (lDisp (aCons (eC (.int 0)) (aCons (eVar 9) (aCons (eC (.int 2)) aNil))))) aNil))) sNx)
  (sSeq (sIf (tst (bin gEq (eVar 4) (eC (.int 2)))) (sTgt (eCallS 0 1 F__law_of (aCons (eVar 7) aNil)) (tgTup 2 (tgsCons (tgN 9) (tgsCons (tgN 10) tgsNil)))) sNx)
  (sIf (tst (bin gLt (cal cLen (aCons (eVar 5) aNil)) (eVar 3))) (sDSet 5 (eTup (aCons (eVar 9) (aCons (eVar 10) aNil))) (eC (.int 0))) sNx)))))
  (sSeq (sFor (itRng1 (aCons (eVar 3) aNil)) (tgN 11)
  (sIf (tst (bin gLt (cal cLen (aCons (eVar 5) aNil)) (eVar 3))) (sDSet 5 (eTup (aCons (bin gAdd (eC (.int 30)) (eVar 11)) (aCons (bin gFdiv (bin gMulX (eVar 11) (bin gAdd (eVar 11) (eC (.int 1)))) (eC (.int 2))) aNil))) (eC (.int 0))) sNx))
  (sRet (cal cTup (aCons (mkL (eSrtD 5)) aNil))))))))
def F__law_lot : List D → M D := fnS 9 b__law_lot
def b__law_place : Py.Env → M Out := (sSeq (sPar3 2 3 4 (aCons (eCallS 0 1 F__law_pick (aCons (eC (.int 4)) aNil)) (aCons (eCallS 0 1 F__law_of (aCons (eVar 1) aNil)) (aCons (eCallS 0 1 F__law_of (aCons (eVar 1) aNil)) aNil))))
  (sSeq (sIf (tst (bin gLt (eVar 2) (eC (.int 2)))) (sRet (cal cTup (aCons (mkL (eLc (itZip (aCons (eVar 3) (aCons (eIf (tst (bin gEq (eVar 2) (eC (.int 0)))) (eVar 4) (eVar 3)) aNil))) (tgTup 2 (tgsCons (tgN 5) (tgsCons (tgN 6) tgsNil))) cYes (eCall 2 F__law_low (aCons (bin gAdd (eVar 5) (eVar 6)) (aCons (eC (.int 2)) aNil))) [5, 6])) aNil))) sNx)
  (sRet (cal cTup (aCons (mkL (eLc (itSeq (eTup (aCons (eC (.int 0)) (aCons (eC (.int 1)) aNil)))) (tgN 7) cYes (eCall 2 F__law_low (aCons (bin gSub (eCallS 0 1 F__law_pick (aCons (eC (.int 41)) aNil)) (eC (.int 20))) (aCons (bin gAdd (eC (.int 1)) (eCallS 0 1 F__law_pick (aCons (eC (.int 6)) aNil))) aNil))) [7])) aNil)))))
def F__law_place : List D → M D := fnS 6 b__law_place
def b__law_count : Py.Env → M Out := (sSeq (sTgt (eVar 1) (tgTup 2 (tgsCons (tgTup 2 (tgsCons (tgN 4) (tgsCons (tgN 5) tgsNil))) (tgsCons (tgTup 2 (tgsCons (tgN 6) (tgsCons (tgN 7) tgsNil))) tgsNil))))
  (sSeq (sAsg 8 (eC (.int 0)))
  (sSeq (sFor (itSeq (eVar 0)) (tgTup 2 (tgsCons (tgN 9) (tgsCons (tgN 10) tgsNil)))
  (sAsg 8 (bin gAdd (eVar 8) (cal cInt (aCons (bin gGe (bin gMulX (bin gMulX (bin gAdd (bin gMulX (eVar 2) (eVar 9)) (bin gMulX (eVar 3) (eVar 10))) (eVar 5)) (eVar 7)) (bin gAdd (bin gMulX (bin gMulX (eVar 2) (eVar 4)) (eVar 7)) (bin gMulX (bin gMulX (eVar 3) (eVar 6)) (eVar 5)))) aNil)))))
  (sRet (eVar 8)))))
def F__law_count : List D → M D := fnD 7 b__law_count
def b__law_ways : Py.Env → M Out := (sSeq (sTgt (eVar 1) (tgTup 2 (tgsCons (tgTup 2 (tgsCons (tgN 2) (tgsCons (tgN 3) tgsNil))) (tgsCons (tgTup 2 (tgsCons (tgN 4) (tgsCons (tgN 5) tgsNil))) tgsNil))))
  (sRet (mkL (eLc (itSeq (eVar 0)) (tgTup 2 (tgsCons (tgN 6) (tgsCons (tgN 7) tgsNil))) cYes (eTup (aCons (bin gSub (bin gMulX (bin gMulX (eVar 6) (eVar 3)) (eVar 5)) (bin gMulX (eVar 2) (eVar 5))) (aCons (bin gSub (bin gMulX (bin gMulX (eVar 7) (eVar 3)) (eVar 5)) (bin gMulX (eVar 4) (eVar 3))) aNil))) [6, 7]))))
def F__law_ways : List D → M D := fnD 6 b__law_ways
def b__law_depth : Py.Env → M Out := (sSeq (sAsg 2 (mkL (eLc (itSeq (eCall 2 F__law_ways (aCons (eVar 0) (aCons (eVar 1) aNil)))) (tgN 9) (tst (bin gNe (eVar 9) (eTup (aCons (eC (.int 0)) (aCons (eC (.int 0)) aNil))))) (eVar 9) [9])))
  (sSeq (sPar 3 4 (aCons (bin gSub (cal cLen (aCons (eVar 0) aNil)) (cal cLen (aCons (eVar 2) aNil))) (aCons (cal cLen (aCons (eVar 0) aNil)) aNil)))
  (sSeq (sFor (itSeq (bin gAdd (eVar 2) (mkL (eLc (itSeq (eVar 2)) (tgTup 2 (tgsCons (tgN 5) (tgsCons (tgN 6) tgsNil))) cYes (eTup (aCons (bin gSub (eC (.int 0)) (eVar 5)) (aCons (bin gSub (eC (.int 0)) (eVar 6)) aNil))) [5, 6])))) (tgTup 2 (tgsCons (tgN 5) (tgsCons (tgN 6) tgsNil)))
  (sSeq (sAsg 7 (cal cLen (aCons (mkL (eLc (itSeq (eVar 2)) (tgTup 2 (tgsCons (tgN 10) (tgsCons (tgN 11) tgsNil))) (tst (bin gGt (bin gSub (bin gMulX (eVar 5) (eVar 11)) (bin gMulX (eVar 6) (eVar 10))) (eC (.int 0)))) (eC (.int 1)) [10, 11])) aNil)))
  (sSeq (sAsg 8 (cal cLen (aCons (mkL (eLc (itSeq (eVar 2)) (tgTup 2 (tgsCons (tgN 10) (tgsCons (tgN 11) tgsNil))) (bAnd (tst (bin gEq (bin gSub (bin gMulX (eVar 5) (eVar 11)) (bin gMulX (eVar 6) (eVar 10))) (eC (.int 0)))) (tst (bin gLt (bin gAdd (bin gMulX (eVar 5) (eVar 10)) (bin gMulX (eVar 6) (eVar 11))) (eC (.int 0))))) (eC (.int 1)) [10, 11])) aNil)))
  (sAsg 4 (cal cMin2 (aCons (eVar 4) (aCons (bin gAdd (bin gAdd (eVar 3) (eVar 7)) (eVar 8)) aNil)))))))
  (sRet (eVar 4)))))
def F__law_depth : List D → M D := fnD 10 b__law_depth
def b__law_middles : Py.Env → M Out := (sSeq (sAsg 3 (mkL (calL cSrt (aCons (mkL (eLc (itSeq (eVar 0)) (tgTup 2 (tgsCons (tgN 4) (tgsCons (tgN 5) tgsNil))) cYes (bin gAdd (bin gMulX (eVar 1) (eVar 4)) (bin gMulX (eVar 2) (eVar 5))) [4, 5])) aNil))))
  (sRet (eTup (aCons (bin gIx (eVar 3) (bin gFdiv (bin gSub (cal cLen (aCons (eVar 3) aNil)) (eC (.int 1))) (eC (.int 2)))) (aCons (bin gIx (eVar 3) (bin gFdiv (cal cLen (aCons (eVar 3) aNil)) (eC (.int 2)))) aNil)))))
def F__law_middles : List D → M D := fnD 3 b__law_middles
def b__law_line_fault : Py.Env → M Out := (sSeq (sIf (bOr (bNot (tst (una (gIsi "tuple") (eVar 2)))) (bOr (tst (bin gNeX (cal cLen (aCons (eVar 2) aNil)) (eC (.int 3)))) (tst (bin gNeX (mkL (eLc (itSeq (eVar 2)) (tgN 8) (bNot (tst (eCall 1 F__law_is_int (aCons (eVar 8) aNil)))) (eVar 8) [8])) (mkL (lDisp aNil)))))) (sRet (eTup (aCons (eC (.str "form")) aNil))) sNx)
  (sSeq (sTgt (eVar 2) (tgTup 3 (tgsCons (tgN 3) (tgsCons (tgN 4) (tgsCons (tgN 5) tgsNil)))))
  (sSeq (sIf (bAnd (tst (bin gEqX (eVar 3) (eC (.int 0)))) (tst (bin gEqX (eVar 4) (eC (.int 0))))) (sRet (eTup (aCons (eC (.str "form")) aNil))) sNx)
  (sSeq (sFor (itEnum (aCons (eTup (aCons (eVar 0) (aCons (eVar 1) aNil))) aNil)) (tgTup 2 (tgsCons (tgN 6) (tgsCons (tgN 7) tgsNil)))
  (sSeq (sIf (tst (bin gGt (bin gMulX (eC (.int 2)) (cal cLen (aCons (mkL (eLc (itSeq (eVar 7)) (tgTup 2 (tgsCons (tgN 8) (tgsCons (tgN 9) tgsNil))) (tst (bin gGt (bin gAdd (bin gMulX (eVar 3) (eVar 8)) (bin gMulX (eVar 4) (eVar 9))) (eVar 5))) (eC (.int 1)) [8, 9])) aNil))) (cal cLen (aCons (eVar 7) aNil)))) (sRet (eTup (aCons (eC (.str "more")) (aCons (eVar 6) aNil)))) sNx)
  (sIf (tst (bin gGt (bin gMulX (eC (.int 2)) (cal cLen (aCons (mkL (eLc (itSeq (eVar 7)) (tgTup 2 (tgsCons (tgN 8) (tgsCons (tgN 9) tgsNil))) (tst (bin gLt (bin gAdd (bin gMulX (eVar 3) (eVar 8)) (bin gMulX (eVar 4) (eVar 9))) (eVar 5))) (eC (.int 1)) [8, 9])) aNil))) (cal cLen (aCons (eVar 7) aNil)))) (sRet (eTup (aCons (eC (.str "less")) (aCons (eVar 6) aNil)))) sNx)))
  (sRet (eC .none))))))
def F__law_line_fault : List D → M D := fnD 7 b__law_line_fault
def b__law_fault : Py.Env → M Out := (sSeq (sIf (bOr (bNot (tst (una (gIsi "tuple") (eVar 3)))) (tst (bin (gIn true) (cal cReprX (aCons (eSl (eVar 3) oNo (oPart (eC (.int 1)))) aNil)) (eTup (aCons (eC (.str "('deep',)")) (aCons (eC (.str "('side',)")) aNil)))))) (sRet (eTup (aCons (eC (.str "form")) aNil))) sNx)
  (sSeq (sIf (tst (bin gEqX (bin gIx (eVar 3) (eC (.int 0))) (eC (.str "deep")))) (sSeq (sAsg 4 (eCall 2 F__law_depth (aCons (eVar 0) (aCons (eVar 1) aNil))))
  (sRet (eIf (tst (bin gGt (cal cLen (aCons (eVar 3) aNil)) (eC (.int 1)))) (eTup (aCons (eC (.str "form")) aNil)) (eIf (tst (bin gLt (eVar 4) (eVar 2))) (eTup (aCons (eC (.str "depth")) (aCons (eVar 4) aNil))) (eC .none))))) sNx)
  (sSeq (sIf (bOr (tst (bin gNeX (cal cLen (aCons (eVar 3) aNil)) (eC (.int 3)))) (bOr (bNot (tst (eCall 1 F__law_is_int (aCons (bin gIx (eVar 3) (eC (.int 1))) aNil)))) (bOr (bNot (tst (eCall 1 F__law_is_int (aCons (bin gIx (eVar 3) (eC (.int 2))) aNil)))) (bAnd (tst (bin gEqX (bin gIx (eVar 3) (eC (.int 1))) (eC (.int 0)))) (tst (bin gEqX (bin gIx (eVar 3) (eC (.int 2))) (eC (.int 0)))))))) (sRet (eTup (aCons (eC (.str "form")) aNil))) sNx)
  (sSeq (sAsg 5 (eCall 4 F__law_count (aCons (eVar 0) (aCons (eVar 1) (aCons (bin gIx (eVar 3) (eC (.int 1))) (aCons (bin gIx (eVar 3) (eC (.int 2))) aNil))))))
  (sRet (eIf (tst (bin gGe (eVar 5) (eVar 2))) (eTup (aCons (eC (.str "many")) (aCons (eVar 5) aNil))) (eC .none)))))))
def F__law_fault : List D → M D := fnD 2 b__law_fault
def b_law : Py.Env → M Out := (sSeq (sAsg 2 (mkL (lDisp (aCons (eC .none) (aCons (eC (.bool true)) (aCons (eC (.int 0)) (aCons (eC (.int 1)) (aCons (una gNeg (eC (.int 1))) (aCons (eC (.str "deep")) (aCons (eC (.str "side")) (aCons (eTup aNil) (aCons (eTup (aCons (eC (.int 0)) aNil)) (aCons (eTup (aCons (eC (.int 0)) (aCons (eC (.int 1)) aNil))) (aCons (mkL (lDisp aNil)) (aCons (eC (.dict [])) (aCons (eC (.int (10 ^ ((20 : Int).toNat)))) aNil))))))))))))))))
  (sSeq (sFor (itRng1 (aCons (eC (.int 4)) aNil)) (tgN 3)
  (sSeq (sPar 4 5 (aCons (eCallS 1 2 F__law_lot (aCons (eC (.int 1)) (aCons (bin gIx (mkL (lDisp (aCons (eC (.int 4)) (aCons (eC (.int 6)) (aCons (eC (.int 8)) (aCons (eC (.int 9)) aNil)))))) (eVar 3)) aNil))) (aCons (eCallS 1 2 F__law_lot (aCons (eC (.int 1)) (aCons (eC (.int 7)) aNil))) aNil)))
  (sSeq (sPar3 6 7 8 (aCons (eCallS 1 1 F__law_place (aCons (eVar 4) aNil)) (aCons (bin gAdd (eC (.int 1)) (eCallS 1 1 F__law_pick (aCons (cal cLen (aCons (eVar 4) aNil)) aNil))) (aCons (cal cReprX (aCons (mkL (lDisp (aCons (eVar 4) (aCons (eVar 5) aNil)))) aNil)) aNil))))
  (sSeq (sAsg 9 (eCall 3 F_depth_paper (aCons (eVar 4) (aCons (eVar 6) (aCons (eVar 7) aNil)))))
  (sSeq (sIf (tst (bin gNotN (eCall 4 F__law_fault (aCons (eVar 4) (aCons (eVar 6) (aCons (eVar 7) (aCons (eVar 9) aNil))))) (eC .none))) (sRet (eC (.bool false))) sNx)
  (sSeq (sPar 10 11 (aCons (bin gSub (eCallS 1 1 F__law_pick (aCons (eC (.int 9)) aNil)) (eC (.int 4))) (aCons (bin gSub (eCallS 1 1 F__law_pick (aCons (eC (.int 9)) aNil)) (eC (.int 4))) aNil)))
  (sSeq (sAsg 12 (mkL (lDisp (aCons (eVar 9) (aCons (eTup (aCons (eC (.str "deep")) aNil)) (aCons (eTup (aCons (eC (.str "side")) (aCons (eVar 10) (aCons (eVar 11) aNil)))) (aCons (eTup (aCons (eC (.str "side")) (aCons (eC (.int 0)) (aCons (eC (.int 0)) aNil)))) (aCons (eTup (aCons (eC (.str "deep")) (aCons (eC (.int 0)) aNil))) (aCons (eTup (aCons (eC (.str "side")) (aCons (eVar 10) aNil))) (aCons (mkL (calL cLst (aCons (eVar 9) aNil))) (aCons (eRevT (eVar 9)) aNil)))))))))))
  (sSeq (sFor (itSeq (bin gAdd (bin gAdd (eVar 12) (mkL (lDisp (aCons (eC .none) (aCons (eTup aNil) aNil))))) (mkL (eLc (itSeq (bin gAdd (eSl (eVar 12) oNo (oPart (eC (.int 3)))) (mkL (repL (mkL (lDisp (aCons (eVar 9) aNil))) (eC (.int 4)))))) (tgN 17) cYes (eCallS 1 2 F__law_bent (aCons (eVar 17) (aCons (eVar 2) aNil))) [17])))) (tgN 13)
  (sSeq (sPar 14 15 (aCons (cal cReprX (aCons (eVar 13) aNil)) (aCons (eCall 4 F__law_fault (aCons (eVar 4) (aCons (eVar 6) (aCons (eVar 7) (aCons (eVar 13) aNil))))) aNil)))
  (sSeq (sIf (bOr (tst (bin gNeX (cal cReprX (aCons (eCall 4 F_judge_depth (aCons (eVar 4) (aCons (eVar 6) (aCons (eVar 7) (aCons (eVar 13) aNil))))) aNil)) (cal cReprX (aCons (eVar 15) aNil)))) (tst (bin gNeX (cal cReprX (aCons (eVar 13) aNil)) (eVar 14)))) (sRet (eC (.bool false))) sNx)
  (sIf (bAnd (tst (bin gIsN (eVar 15) (eC .none))) (tst (bin gNeX (bin gIx (eVar 13) (eC (.int 0))) (bin gIx (eVar 9) (eC (.int 0)))))) (sRet (eC (.bool false))) sNx))))
  (sSeq (sPar 10 11 (aCons (bin gSub (eCallS 1 1 F__law_pick (aCons (eC (.int 9)) aNil)) (eC (.int 4))) (aCons (bin gSub (eCallS 1 1 F__law_pick (aCons (eC (.int 9)) aNil)) (eC (.int 4))) aNil)))
  (sSeq (sAsg 16 (eTup (aCons (eVar 10) (aCons (eVar 11) (aCons (bin gFdiv (cal cSumX (aCons (eCall 3 F__law_middles (aCons (eVar 4) (aCons (eVar 10) (aCons (eVar 11) aNil)))) aNil)) (eC (.int 2))) aNil)))))
  (sSeq (sAsg 12 (mkL (lDisp (aCons (eVar 16) (aCons (eTup (aCons (eVar 10) (aCons (eVar 11) (aCons (bin gIx (eCall 3 F__law_middles (aCons (eVar 5) (aCons (eVar 10) (aCons (eVar 11) aNil)))) (eC (.int 0))) aNil)))) (aCons (eTup (aCons (eC (.int 0)) (aCons (eC (.int 0)) (aCons (eC (.int 1)) aNil)))) (aCons (eTup (aCons (eVar 10) (aCons (eVar 11) aNil))) (aCons (mkL (calL cLst (aCons (eVar 16) aNil))) (aCons (eC .none) (aCons (eTup aNil) (aCons (eTup (aCons (eVar 10) (aCons (eVar 11) (aCons (eC (.bool true)) aNil)))) aNil)))))))))))
  (sSeq (sFor (itSeq (bin gAdd (eVar 12) (mkL (eLc (itSeq (mkL (repL (eSl (eVar 12) oNo (oPart (eC (.int 2)))) (eC (.int 4))))) (tgN 17) cYes (eCallS 1 2 F__law_bent (aCons (eVar 17) (aCons (eVar 2) aNil))) [17])))) (tgN 13)
  (sSeq (sPar 14 15 (aCons (cal cReprX (aCons (eVar 13) aNil)) (aCons (eCall 3 F__law_line_fault (aCons (eVar 4) (aCons (eVar 5) (aCons (eVar 13) aNil)))) aNil)))
  (sIf (bOr (tst (bin gNeX (cal cReprX (aCons (eCall 3 F_judge_halving (aCons (eVar 4) (aCons (eVar 5) (aCons (eVar 13) aNil)))) aNil)) (cal cReprX (aCons (eVar 15) aNil)))) (tst (bin gNeX (cal cReprX (aCons (eVar 13) aNil)) (eVar 14)))) (sRet (eC (.bool false))) sNx)))
  (sIf (tst (bin gNeX (cal cReprX (aCons (mkL (lDisp (aCons (eVar 4) (aCons (eVar 5) aNil)))) aNil)) (eVar 8))) (sRet (eC (.bool false))) sNx)))))))))))))
  (sRet (bin gEqX (eCall 3 F_judge_halving (aCons (eTup (aCons (eTup (aCons (eC (.int 0)) (aCons (eC (.int 0)) aNil))) (aCons (eTup (aCons (eC (.int 2)) (aCons (eC (.int 0)) aNil))) aNil))) (aCons (eTup (aCons (eTup (aCons (eC (.int 0)) (aCons (eC (.int 2)) aNil))) (aCons (eTup (aCons (eC (.int 2)) (aCons (eC (.int 2)) aNil))) aNil))) (aCons (eTup (aCons (eC (.int 0)) (aCons (eC (.int 1)) (aCons (eC (.int 1)) aNil)))) aNil)))) (eTup (aCons (eC (.str "less")) (aCons (eC (.int 0)) aNil)))))))
end L93
namespace L93
abbrev P2 := Int × Int
def turn (a b : P2) : Int := a.1 * b.2 - a.2 * b.1
def dotp (a b : P2) : Int := a.1 * b.1 + a.2 * b.2
def low (a : P2) : Bool := decide (a.2 < 0) || (decide (a.2 = 0) && decide (a.1 < 0))
def earl (a b : P2) : Bool := if low a ≠ low b then low b else decide (0 < turn a b)
def neg (a : P2) : P2 := (-a.1, -a.2)
def add (a b : P2) : P2 := (a.1 + b.1, a.2 + b.2)
def scl (k : Int) (a : P2) : P2 := (k * a.1, k * a.2)
def up (a : P2) : Prop := 0 < a.2 ∨ (a.2 = 0 ∧ 0 < a.1)
theorem pos_mul {a b : Int} (ha : 0 < a) (hb : 0 < b) : 0 < a * b := Int.mul_pos ha hb
theorem pos_of {k a : Int} (hk : 0 < k) (h : 0 < k * a) : 0 < a := by
  rcases Int.lt_or_le 0 a with h1 | h1
  · exact h1
  · have := Int.mul_nonpos_of_nonneg_of_nonpos (Int.le_of_lt hk) h1
    omega
theorem nn_of {k a : Int} (hk : 0 < k) (h : 0 ≤ k * a) : 0 ≤ a := by
  rcases Int.lt_or_le a 0 with h1 | h1
  · have := Int.mul_neg_of_pos_of_neg hk h1
    omega
  · exact h1
theorem low_up {a : P2} (h0 : a ≠ (0, 0)) : low a = false ↔ up a := by
  obtain ⟨x, y⟩ := a
  have : x ≠ 0 ∨ y ≠ 0 := by
    by_cases e : x = 0
    · right; intro e2; exact h0 (by rw [e, e2])
    · exact .inl e
  simp only [low, up, Bool.or_eq_false_iff, Bool.and_eq_false_iff, decide_eq_false_iff_not]
  omega
theorem low_neg {a : P2} (h0 : a ≠ (0, 0)) : low (neg a) = !low a := by
  obtain ⟨x, y⟩ := a
  have : x ≠ 0 ∨ y ≠ 0 := by
    by_cases e : x = 0
    · right; intro e2; exact h0 (by rw [e, e2])
    · exact .inl e
  rcases Int.lt_trichotomy y 0 with h | h | h
  · have h1 : ¬ (-y < 0) := by omega
    have h2 : ¬ (-y = 0) := by omega
    simp [low, neg, h, h1, h2]
    omega
  · subst h
    rcases Int.lt_trichotomy x 0 with h | h | h
    · have h1 : ¬ (-x < 0) := by omega
      simp [low, neg, h, h1]
      omega
    · omega
    · have h1 : -x < 0 := by omega
      have h2 : ¬ (x < 0) := by omega
      simp [low, neg, h1, h2]
      omega
  · have h1 : -y < 0 := by omega
    have h2 : ¬ (y < 0) := by omega
    have h3 : ¬ (y = 0) := by omega
    simp [low, neg, h1, h2, h3]
    omega
theorem neg_ne {a : P2} (h0 : a ≠ (0, 0)) : neg a ≠ (0, 0) := by
  intro h
  apply h0
  obtain ⟨x, y⟩ := a
  simp only [neg, Prod.mk.injEq] at h ⊢
  omega
theorem neg_neg (a : P2) : neg (neg a) = a := by
  obtain ⟨x, y⟩ := a
  simp [neg]
theorem turn_neg_r (a b : P2) : turn a (neg b) = -turn a b := by simp only [turn, neg]; grind
theorem turn_neg_l (a b : P2) : turn (neg a) b = -turn a b := by simp only [turn, neg]; grind
theorem turn_sw (a b : P2) : turn a b = -turn b a := by simp only [turn]; grind
theorem turn_self (a : P2) : turn a a = 0 := by simp only [turn]; grind
theorem turn_add_l (a b c : P2) : turn (add a b) c = turn a c + turn b c := by simp only [turn, add]; grind
/-- in the upper half: going on -/
theorem up_trans {x y z : P2} (hx : up x) (hy : up y) (hz : up z) (h1 : 0 < turn x y) (h2 : 0 < turn y z) : 0 < turn x z := by
  have e : y.2 * turn x z = z.2 * turn x y + x.2 * turn y z := by simp only [turn]; grind
  have nx : 0 ≤ x.2 := by unfold up at hx; omega
  have nz : 0 ≤ z.2 := by unfold up at hz; omega
  have ny : 0 < y.2 := by
    rcases hy with h | ⟨h, h'⟩
    · exact h
    · have e1 : turn x y = -(x.2 * y.1) := by simp only [turn, h]; grind
      have := Int.mul_nonneg nx (Int.le_of_lt h')
      omega
  have p1 := Int.mul_nonneg nz (Int.le_of_lt h1)
  have p2 := Int.mul_nonneg nx (Int.le_of_lt h2)
  refine pos_of ny ?_
  rcases hx with h | ⟨h, h'⟩
  · have := pos_mul h h2
    omega
  · rcases hz with k | ⟨k, k'⟩
    · have := pos_mul k h1
      omega
    · have e1 : turn y z = -(y.2 * z.1) := by simp only [turn, k]; grind
      have := pos_mul ny k'
      omega
theorem up_mid {c x o : P2} (hc : up c) (ho : up o) (h : 0 < turn c o) (h1 : 0 < turn c x) (h2 : 0 < turn x o) : up x := by
  have e : turn c o * x.2 = turn x o * c.2 + turn c x * o.2 := by simp only [turn]; grind
  have nc : 0 ≤ c.2 := by unfold up at hc; omega
  have no : 0 ≤ o.2 := by unfold up at ho; omega
  have p1 := Int.mul_nonneg (Int.le_of_lt h2) nc
  have p2 := Int.mul_nonneg (Int.le_of_lt h1) no
  left
  refine pos_of h ?_
  rcases hc with k | ⟨k, k'⟩
  · have := pos_mul h2 k
    omega
  · rcases ho with q | ⟨q, q'⟩
    · have := pos_mul h1 q
      omega
    · have : turn c o = 0 := by simp only [turn, k, q]; grind
      omega
def Nz (a : P2) : Prop := a ≠ (0, 0)
instance (a : P2) : Decidable (Nz a) := inferInstanceAs (Decidable (¬ a = (0, 0)))
theorem Nz.up_or {a : P2} (h : Nz a) : (low a = false ∧ up a) ∨ (low a = true ∧ up (neg a)) := by
  cases e : low a with
  | false => exact .inl ⟨rfl, (low_up h).mp e⟩
  | true => exact .inr ⟨rfl, (low_up (neg_ne h)).mp (by rw [low_neg h, e]; rfl)⟩
theorem earl_same {a b : P2} (h : low a = low b) : earl a b = decide (0 < turn a b) := by
  unfold earl
  rw [if_neg (by simp [h])]
theorem earl_diff {a b : P2} (h : low a ≠ low b) : earl a b = low b := by
  unfold earl
  rw [if_pos h]
theorem tnn (a b : P2) : turn (neg a) (neg b) = turn a b := by rw [turn_neg_l, turn_neg_r]; omega
theorem same_trans {x y z : P2} (nx : Nz x) (ny : Nz y) (nz : Nz z) (l1 : low x = low y) (l2 : low y = low z) (h1 : 0 < turn x y) (h2 : 0 < turn y z) : 0 < turn x z := by
  rcases nx.up_or with ⟨a, a'⟩ | ⟨a, a'⟩
  · exact up_trans a' ((low_up ny).mp (by rw [← l1, a])) ((low_up nz).mp (by rw [← l2, ← l1, a])) h1 h2
  · have uy : up (neg y) := (low_up (neg_ne ny)).mp (by rw [low_neg ny, ← l1, a]; rfl)
    have uz : up (neg z) := (low_up (neg_ne nz)).mp (by rw [low_neg nz, ← l2, ← l1, a]; rfl)
    have := up_trans a' uy uz (by rw [tnn]; exact h1) (by rw [tnn]; exact h2)
    rwa [tnn] at this
theorem same_mid {c x o : P2} (nc : Nz c) (no : Nz o) (nx : Nz x) (l : low c = low o) (h : 0 < turn c o) (h1 : 0 < turn c x) (h2 : 0 < turn x o) : low x = low c := by
  rcases nc.up_or with ⟨a, a'⟩ | ⟨a, a'⟩
  · rw [a]
    exact (low_up nx).mpr (up_mid a' ((low_up no).mp (by rw [← l, a])) h h1 h2)
  · have uo : up (neg o) := (low_up (neg_ne no)).mp (by rw [low_neg no, ← l, a]; rfl)
    have := up_mid a' uo (x := neg x) (by rw [tnn]; exact h) (by rw [tnn]; exact h1) (by rw [tnn]; exact h2)
    have e := (low_up (neg_ne nx)).mpr this
    rw [low_neg nx] at e
    rw [a]
    cases hh : low x with
    | true => rfl
    | false => rw [hh] at e; cases e
theorem earl_trans {x y z : P2} (nx : Nz x) (ny : Nz y) (nz : Nz z) (h1 : earl x y = true) (h2 : earl y z = true) : earl x z = true := by
  by_cases l1 : low x = low y
  · rw [earl_same l1, decide_eq_true_eq] at h1
    by_cases l2 : low y = low z
    · rw [earl_same l2, decide_eq_true_eq] at h2
      rw [earl_same (l1.trans l2), decide_eq_true_eq]
      exact same_trans nx ny nz l1 l2 h1 h2
    · rw [earl_diff l2] at h2
      rw [earl_diff (fun e => l2 (l1.symm.trans e)), h2]
  · rw [earl_diff l1] at h1
    by_cases l2 : low y = low z
    · rw [earl_diff (fun e => l1 (e.trans l2.symm)), ← l2, h1]
    · rw [earl_diff l2] at h2
      exact absurd (h1.trans h2.symm) l2
theorem earl_irr (x : P2) : earl x x = false := by
  rw [earl_same rfl, turn_self]; rfl
/-- neighbours on the round -/
def Adj (R : List P2) (c o : P2) : Prop := (earl c o = true ∧ ∀ x ∈ R, x = c ∨ x = o ∨ earl x c = true ∨ earl o x = true) ∨ (∀ x ∈ R, (x = c ∨ earl x c = true) ∧ (x = o ∨ earl o x = true))
theorem gap_ok {R : List P2} {c o : P2} (nz : ∀ x ∈ R, Nz x) (cl : ∀ x ∈ R, neg x ∈ R) (hc : c ∈ R) (ho : o ∈ R) (ha : Adj R c o) (he : ∃ e ∈ R, turn c e ≠ 0) :
    0 < turn c o ∧ ∀ x ∈ R, ¬ (0 < turn c x ∧ 0 < turn x o) := by
  obtain ⟨e0, he0, ht0⟩ := he
  have nc := nz c hc
  have no := nz o ho
  -- one of e, -e stands in the upper half
  obtain ⟨e, heR, ht, hu⟩ : ∃ e ∈ R, turn c e ≠ 0 ∧ low e = false := by
    cases l : low e0 with
    | false => exact ⟨e0, he0, ht0, l⟩
    | true => exact ⟨neg e0, cl e0 he0, by rw [turn_neg_r]; omega, by rw [low_neg (nz e0 he0), l]; rfl⟩
  have ne := nz e heR
  have lne : low (neg e) = true := by rw [low_neg ne, hu]; rfl
  have nec : e ≠ c := fun q => ht (by rw [q, turn_self])
  have nec' : e ≠ neg c := fun q => ht (by rw [q, turn_neg_r, turn_self]; rfl)
  have nne : neg e ≠ c := fun q => nec' (by rw [← q, neg_neg])
  rcases ha with ⟨hco, hall⟩ | hall
  · by_cases l : low c = low o
    · rw [earl_same l, decide_eq_true_eq] at hco
      refine ⟨hco, fun x hx ⟨h1, h2⟩ => ?_⟩
      have lx := same_mid nc no (nz x hx) l hco h1 h2
      rcases hall x hx with q | q | q | q
      · rw [q, turn_self] at h1; omega
      · rw [q, turn_self] at h2; omega
      · rw [earl_same lx, decide_eq_true_eq, turn_sw] at q; omega
      · rw [earl_same (l.symm.trans lx.symm), decide_eq_true_eq, turn_sw] at q; omega
    · rw [earl_diff l] at hco
      have lc : low c = false := by
        cases h : low c with
        | false => rfl
        | true => rw [h, hco] at l; exact absurd rfl l
      have lnc : low (neg c) = true := by rw [low_neg nc, lc]; rfl
      have pos : 0 < turn c o := by
        rcases hall (neg c) (cl c hc) with q | q | q | q
        · rw [q, lc] at lnc; cases lnc
        · -- o = -c: then nothing else stands there
          exfalso
          have eo : e ≠ o := fun z => nec' (z.trans q.symm)
          have neo : neg e ≠ o := fun z => nec (by rw [← q] at z; have := congrArg neg z; rwa [neg_neg, neg_neg] at this)
          rcases hall e heR with z | z | z | z
          · exact nec z
          · exact eo z
          · rw [earl_same (hu.trans lc.symm), decide_eq_true_eq] at z
            rcases hall (neg e) (cl e heR) with y | y | y | y
            · exact nne y
            · exact neo y
            · rw [earl_diff (by rw [lne, lc]; decide), lc] at y; cases y
            · rw [earl_same (hco.trans lne.symm), decide_eq_true_eq, ← q, tnn, turn_sw] at y
              omega
          · rw [earl_diff (by rw [hco, hu]; decide), hu] at z; cases z
        · rw [earl_diff (by rw [lnc, lc]; decide), lc] at q; cases q
        · rw [earl_same (hco.trans lnc.symm), decide_eq_true_eq, turn_neg_r, ← turn_sw] at q
          exact q
      refine ⟨pos, fun x hx ⟨h1, h2⟩ => ?_⟩
      rcases hall x hx with q | q | q | q
      · rw [q, turn_self] at h1; omega
      · rw [q, turn_self] at h2; omega
      · by_cases lx : low x = low c
        · rw [earl_same lx, decide_eq_true_eq, turn_sw] at q; omega
        · rw [earl_diff lx, lc] at q; cases q
      · by_cases lx : low o = low x
        · rw [earl_same lx, decide_eq_true_eq, turn_sw] at q; omega
        · rw [earl_diff lx] at q
          rw [hco, q] at lx; exact lx rfl
  · have lc : low c = true := by
      cases h : low c with
      | true => rfl
      | false =>
        have lnc : low (neg c) = true := by rw [low_neg nc, h]; rfl
        rcases (hall (neg c) (cl c hc)).1 with q | q
        · rw [q, h] at lnc; cases lnc
        · rw [earl_diff (by rw [lnc, h]; decide), h] at q; cases q
    have lo : low o = false := by
      cases h : low o with
      | false => rfl
      | true =>
        have lno : low (neg o) = false := by rw [low_neg no, h]; rfl
        rcases (hall (neg o) (cl o ho)).2 with q | q
        · rw [q, h] at lno; cases lno
        · rw [earl_diff (by rw [lno, h]; decide), lno] at q; cases q
    have lnc : low (neg c) = false := by rw [low_neg nc, lc]; rfl
    refine ⟨?_, fun x hx ⟨h1, h2⟩ => ?_⟩
    · rcases (hall (neg c) (cl c hc)).2 with q | q
      · exfalso
        rcases (hall e heR).2 with z | z
        · exact nec' (z.trans q.symm)
        · rw [earl_same (lo.trans hu.symm), decide_eq_true_eq] at z
          rcases (hall (neg e) (cl e heR)).1 with y | y
          · exact nne y
          · have ec : c = neg o := by rw [← q, neg_neg]
            rw [earl_same (lne.trans lc.symm), decide_eq_true_eq, ec, tnn, turn_sw] at y
            omega
      · rw [earl_same (lo.trans lnc.symm), decide_eq_true_eq, turn_neg_r, ← turn_sw] at q
        exact q
    · cases lx : low x with
      | false =>
        rcases (hall x hx).2 with q | q
        · rw [q, turn_self] at h2; omega
        · rw [earl_same (lo.trans lx.symm), decide_eq_true_eq, turn_sw] at q; omega
      | true =>
        rcases (hall x hx).1 with q | q
        · rw [q, turn_self] at h1; omega
        · rw [earl_same (lx.trans lc.symm), decide_eq_true_eq, turn_sw] at q; omega
end L93
namespace L93
def gc (w : P2) : Int := (Nat.gcd w.1.natAbs w.2.natAbs : Nat)
def prim (w : P2) : P2 := (w.1.fdiv (gc w), w.2.fdiv (gc w))
def Pr (x : P2) : Prop := Nz x ∧ Nat.gcd x.1.natAbs x.2.natAbs = 1
theorem gc_pos {w : P2} (h : Nz w) : 0 < gc w := by
  unfold gc
  have : 0 < Nat.gcd w.1.natAbs w.2.natAbs := by
    rw [Nat.pos_iff_ne_zero]
    intro e
    have := Nat.gcd_eq_zero_iff.mp e
    apply h
    obtain ⟨x, y⟩ := w
    simp only at this
    have hx : x = 0 := by omega
    have hy : y = 0 := by omega
    rw [hx, hy]
  omega
theorem prim_spec {w : P2} (h : Nz w) : ∃ k, 0 < k ∧ w = scl k (prim w) ∧ Pr (prim w) := by
  obtain ⟨x, y⟩ := w
  have hg := gc_pos h
  have g1 : (Nat.gcd x.natAbs y.natAbs : Int) ∣ x := Int.ofNat_dvd_left.mpr (Nat.gcd_dvd_left _ _)
  have g2 : (Nat.gcd x.natAbs y.natAbs : Int) ∣ y := Int.ofNat_dvd_left.mpr (Nat.gcd_dvd_right _ _)
  obtain ⟨a, ea⟩ := g1
  obtain ⟨b, eb⟩ := g2
  have hgn : 0 < Nat.gcd x.natAbs y.natAbs := by unfold gc at hg; simp only at hg; omega
  have hG : (Nat.gcd x.natAbs y.natAbs : Int) ≠ 0 := by omega
  have e1 : x.fdiv (Nat.gcd x.natAbs y.natAbs : Int) = a := by
    have := Int.mul_fdiv_cancel_left (a := (Nat.gcd x.natAbs y.natAbs : Int)) a hG
    rwa [← ea] at this
  have e2 : y.fdiv (Nat.gcd x.natAbs y.natAbs : Int) = b := by
    have := Int.mul_fdiv_cancel_left (a := (Nat.gcd x.natAbs y.natAbs : Int)) b hG
    rwa [← eb] at this
  have ep : prim (x, y) = (a, b) := by
    show (x.fdiv (Nat.gcd x.natAbs y.natAbs : Int), y.fdiv (Nat.gcd x.natAbs y.natAbs : Int)) = _
    rw [e1, e2]
  refine ⟨(Nat.gcd x.natAbs y.natAbs : Int), by omega, ?_, ?_⟩
  · rw [ep]
    show (x, y) = (_ * a, _ * b)
    rw [← ea, ← eb]
  · rw [ep]
    have ha : x.natAbs = Nat.gcd x.natAbs y.natAbs * a.natAbs := by
      have := congrArg Int.natAbs ea
      rwa [Int.natAbs_mul, Int.natAbs_natCast] at this
    have hb : y.natAbs = Nat.gcd x.natAbs y.natAbs * b.natAbs := by
      have := congrArg Int.natAbs eb
      rwa [Int.natAbs_mul, Int.natAbs_natCast] at this
    have gg : Nat.gcd x.natAbs y.natAbs * 1 = Nat.gcd x.natAbs y.natAbs * Nat.gcd a.natAbs b.natAbs := by
      rw [← Nat.gcd_mul_left, ← ha, ← hb, Nat.mul_one]
    refine ⟨fun z => ?_, (Nat.eq_of_mul_eq_mul_left hgn gg).symm⟩
    simp only [Prod.mk.injEq] at z
    apply h
    rw [ea, eb, z.1, z.2]
    simp
theorem prim_neg {w : P2} (h : Nz w) : prim (neg w) = neg (prim w) := by
  obtain ⟨k, hk, e, -⟩ := prim_spec h
  have hg := gc_pos h
  have e0 : gc (neg w) = gc w := by
    obtain ⟨x, y⟩ := w
    simp [gc, neg]
  obtain ⟨x, y⟩ := w
  have g1 : (Nat.gcd x.natAbs y.natAbs : Int) ∣ x := Int.ofNat_dvd_left.mpr (Nat.gcd_dvd_left _ _)
  have g2 : (Nat.gcd x.natAbs y.natAbs : Int) ∣ y := Int.ofNat_dvd_left.mpr (Nat.gcd_dvd_right _ _)
  have hG : gc (x, y) ≠ 0 := by omega
  obtain ⟨a, ea⟩ := g1
  obtain ⟨b, eb⟩ := g2
  unfold prim
  rw [e0]
  have ea' : x = gc (x, y) * a := ea
  have eb' : y = gc (x, y) * b := eb
  generalize gc (x, y) = g at *
  subst ea' eb'
  show ((-(g * a)).fdiv g, (-(g * b)).fdiv g) = (-((g * a).fdiv g), -((g * b).fdiv g))
  rw [Int.mul_fdiv_cancel_left _ hG, Int.mul_fdiv_cancel_left _ hG, ← Int.mul_neg, ← Int.mul_neg, Int.mul_fdiv_cancel_left _ hG, Int.mul_fdiv_cancel_left _ hG]
theorem pr_neg {x : P2} (h : Pr x) : Pr (neg x) := ⟨neg_ne h.1, by simp only [neg, Int.natAbs_neg]; exact h.2⟩
/-- two of the same direction are the same -/
theorem pr_uniq {x y : P2} (hx : Pr x) (hy : Pr y) (ht : turn x y = 0) (hl : low x = low y) : x = y := by
  have nx := hx.1
  obtain ⟨x1, x2⟩ := x
  obtain ⟨y1, y2⟩ := y
  have e : x1 * y2 = x2 * y1 := by simp only [turn] at ht; omega
  have en : x1.natAbs * y2.natAbs = x2.natAbs * y1.natAbs := by
    have := congrArg Int.natAbs e
    rwa [Int.natAbs_mul, Int.natAbs_mul] at this
  have gx : Nat.Coprime x1.natAbs x2.natAbs := hx.2
  have gy : Nat.Coprime y1.natAbs y2.natAbs := hy.2
  have d1 : x1.natAbs ∣ y1.natAbs := gx.dvd_of_dvd_mul_left (by rw [← en]; exact Nat.dvd_mul_right _ _)
  have d2 : y1.natAbs ∣ x1.natAbs := gy.dvd_of_dvd_mul_left (by rw [Nat.mul_comm, en]; exact Nat.dvd_mul_left _ _)
  have d3 : x2.natAbs ∣ y2.natAbs := gx.symm.dvd_of_dvd_mul_left (by rw [en]; exact Nat.dvd_mul_right _ _)
  have d4 : y2.natAbs ∣ x2.natAbs := gy.symm.dvd_of_dvd_mul_left (by rw [Nat.mul_comm, ← en]; exact Nat.dvd_mul_left _ _)
  have h1 := Nat.dvd_antisymm d1 d2
  have h2 := Nat.dvd_antisymm d3 d4
  have hn : x1 ≠ 0 ∨ x2 ≠ 0 := by
    by_cases z : x1 = 0
    · right; intro z2; exact nx (by rw [z, z2])
    · exact .inl z
  have c1 : x1 = y1 ∨ x1 = -y1 := by omega
  have c2 : x2 = y2 ∨ x2 = -y2 := by omega
  have hlow : (low (x1, x2) = true ↔ low (y1, y2) = true) := by rw [hl]
  simp only [low, Bool.or_eq_true, Bool.and_eq_true, decide_eq_true_eq] at hlow
  rcases c1 with c1 | c1 <;> rcases c2 with c2 | c2
  · rw [c1, c2]
  · subst c1 c2
    have : x1 * y2 = 0 := by
      have : -y2 * x1 = -(x1 * y2) := by grind
      omega
    rcases Int.mul_eq_zero.mp this with z | z
    · rw [Prod.mk.injEq]; omega
    · rw [Prod.mk.injEq]; omega
  · subst c1 c2
    have : y1 * x2 = 0 := by
      have h1 : -y1 * x2 = -(y1 * x2) := by grind
      have h2 : x2 * y1 = y1 * x2 := by grind
      omega
    rcases Int.mul_eq_zero.mp this with z | z
    · rw [Prod.mk.injEq]; omega
    · rw [Prod.mk.injEq]; omega
  · rw [Prod.mk.injEq]; omega
theorem earl_tot {x y : P2} (hx : Pr x) (hy : Pr y) (ne : x ≠ y) (h : earl y x = false) : earl x y = true := by
  by_cases l : low x = low y
  · rw [earl_same l.symm, decide_eq_false_iff_not, turn_sw] at h
    rw [earl_same l, decide_eq_true_eq]
    rcases Int.lt_or_le 0 (turn x y) with q | q
    · exact q
    · exact absurd (pr_uniq hx hy (by omega) l) ne
  · rw [earl_diff (fun e => l e.symm)] at h
    rw [earl_diff l]
    cases hy : low y with
    | true => rfl
    | false => rw [h, hy] at l; exact absurd rfl l
def cnt (R : List P2) (w : P2) : Nat := (R.filter fun x => earl x w).length
def putW (R : List P2) (w : P2) : List P2 := if w ∈ R then R else R.take (cnt R w) ++ w :: R.drop (cnt R w)
def Srt (R : List P2) : Prop := R.Pairwise fun a b => earl a b = true
theorem split {w : P2} (hw : Nz w) : ∀ {R : List P2}, Srt R → (∀ x ∈ R, Nz x) → (∀ a ∈ R.take (cnt R w), earl a w = true) ∧ (∀ b ∈ R.drop (cnt R w), earl b w = false)
  | [], _, _ => by simp
  | x :: R, hs, hn => by
    have hs' := List.pairwise_cons.mp hs
    have ih := split hw (R := R) hs'.2 fun y hy => hn y (by simp [hy])
    cases e : earl x w with
    | true =>
      have : cnt (x :: R) w = cnt R w + 1 := by simp [cnt, e]
      rw [this]
      simp only [List.take_succ_cons, List.drop_succ_cons]
      refine ⟨fun a ha => ?_, ih.2⟩
      rcases List.mem_cons.mp ha with rfl | h
      · exact e
      · exact ih.1 a h
    | false =>
      have all : ∀ y ∈ x :: R, earl y w = false := fun y hy => by
        rcases List.mem_cons.mp hy with rfl | h
        · exact e
        · cases q : earl y w with
          | false => rfl
          | true =>
            have := earl_trans (hn x (by simp)) (hn y hy) hw (hs'.1 y h) q
            rw [e] at this; cases this
      have : cnt (x :: R) w = 0 := by
        unfold cnt
        rw [List.length_eq_zero_iff, List.filter_eq_nil_iff]
        intro y hy
        rw [all y hy]; decide
      rw [this]
      exact ⟨by simp, fun b hb => all b (by simpa using hb)⟩
theorem mem_putW {R : List P2} {w x : P2} : x ∈ putW R w ↔ x ∈ R ∨ x = w := by
  unfold putW
  split
  · rename_i h
    constructor
    · exact .inl
    · rintro (h' | rfl)
      · exact h'
      · exact h
  · rw [List.mem_append, List.mem_cons]
    constructor
    · rintro (h | h | h)
      · exact .inl (List.mem_of_mem_take h)
      · exact .inr h
      · exact .inl (List.mem_of_mem_drop h)
    · rintro (h | h)
      · rw [← List.take_append_drop (cnt R w) R, List.mem_append] at h
        rcases h with h | h
        · exact .inl h
        · exact .inr (.inr h)
      · exact .inr (.inl h)
theorem srt_putW {R : List P2} {w : P2} (hs : Srt R) (hp : ∀ x ∈ R, Pr x) (hw : Pr w) : Srt (putW R w) := by
  unfold putW
  split
  · exact hs
  · rename_i hm
    obtain ⟨s1, s2⟩ := split hw.1 hs fun x hx => (hp x hx).1
    have hs' : Srt (R.take (cnt R w) ++ R.drop (cnt R w)) := by rw [List.take_append_drop]; exact hs
    obtain ⟨p1, p2, p3⟩ := List.pairwise_append.mp hs'
    refine List.pairwise_append.mpr ⟨p1, List.pairwise_cons.mpr ⟨fun b hb => ?_, p2⟩, fun a ha b hb => ?_⟩
    · have hbR := List.mem_of_mem_drop hb
      exact earl_tot hw (hp b hbR) (fun e => hm (e ▸ hbR)) (s2 b hb)
    · rcases List.mem_cons.mp hb with rfl | hb
      · exact s1 a ha
      · exact p3 a ha b hb
def stepR (R : List P2) (w : P2) : List P2 := if w = (0, 0) then R else putW (putW R (prim w)) (prim (neg w))
def rnd (W : List P2) : List P2 := W.foldl stepR []
structure Rnd (W R : List P2) : Prop where
  srt : Srt R
  pr : ∀ x ∈ R, Pr x
  cl : ∀ x ∈ R, neg x ∈ R
  has : ∀ w ∈ W, Nz w → prim w ∈ R
  frm : ∀ x ∈ R, ∃ w ∈ W, Nz w ∧ (x = prim w ∨ x = prim (neg w))
theorem rnd_step {W R : List P2} {w : P2} (h : Rnd W R) : Rnd (W ++ [w]) (stepR R w) := by
  unfold stepR
  split
  · rename_i e
    refine ⟨h.srt, h.pr, h.cl, fun v hv nv => ?_, fun x hx => ?_⟩
    · rcases List.mem_append.mp hv with q | q
      · exact h.has v q nv
      · rw [List.mem_singleton.mp q] at nv; exact absurd e nv
    · obtain ⟨v, hv, q⟩ := h.frm x hx
      exact ⟨v, by simp [hv], q⟩
  · rename_i e
    have nw : Nz w := e
    obtain ⟨k, hk, ew, pw⟩ := prim_spec nw
    have pn : prim (neg w) = neg (prim w) := prim_neg nw
    have pw' : Pr (prim (neg w)) := by rw [pn]; exact pr_neg pw
    have mem : ∀ x, x ∈ putW (putW R (prim w)) (prim (neg w)) ↔ (x ∈ R ∨ x = prim w) ∨ x = prim (neg w) := fun x => by rw [mem_putW, mem_putW]
    have p1 : ∀ x ∈ putW R (prim w), Pr x := fun x hx => by
      rcases mem_putW.mp hx with q | q
      · exact h.pr x q
      · rw [q]; exact pw
    refine ⟨srt_putW (srt_putW h.srt h.pr pw) p1 pw', fun x hx => ?_, fun x hx => ?_, fun v hv nv => ?_, fun x hx => ?_⟩
    · rcases (mem x).mp hx with (q | q) | q
      · exact h.pr x q
      · rw [q]; exact pw
      · rw [q]; exact pw'
    · rw [mem]
      rcases (mem x).mp hx with (q | q) | q
      · exact .inl (.inl (h.cl x q))
      · rw [q, pn]; exact .inr rfl
      · rw [q, pn, neg_neg]; exact .inl (.inr rfl)
    · rw [mem]
      rcases List.mem_append.mp hv with q | q
      · exact .inl (.inl (h.has v q nv))
      · rw [List.mem_singleton.mp q]; exact .inl (.inr rfl)
    · rcases (mem x).mp hx with (q | q) | q
      · obtain ⟨v, hv, q⟩ := h.frm x q
        exact ⟨v, by simp [hv], q⟩
      · exact ⟨w, by simp, nw, .inl q⟩
      · exact ⟨w, by simp, nw, .inr q⟩
theorem rnd_all : ∀ (W V R : List P2), Rnd V R → Rnd (V ++ W) (W.foldl stepR R)
  | [], V, R, h => by simpa using h
  | w :: W, V, R, h => by
    have := rnd_all W (V ++ [w]) (stepR R w) (rnd_step h)
    simpa using this
theorem rnd_ok (W : List P2) : Rnd W (rnd W) := by
  have := rnd_all W [] [] ⟨.nil, by simp, by simp, by simp, by simp⟩
  simpa [rnd] using this
end L93
namespace L93
def many (W : List P2) (e : P2) : Nat := W.countP fun w => decide (0 ≤ turn e w)
def after (d w : P2) : Bool := decide (w = (0, 0)) || decide (0 < turn d w) || (decide (turn d w = 0) && decide (dotp d w < 0))
def fF (W : List P2) (d : P2) : Nat := W.countP (after d)
theorem after_iff {d w : P2} : after d w = true ↔ w = (0, 0) ∨ 0 < turn d w ∨ (turn d w = 0 ∧ dotp d w < 0) := by
  simp [after, or_assoc]
theorem turn_scl (k : Int) (a b : P2) : turn a (scl k b) = k * turn a b := by simp only [turn, scl]; grind
theorem turn_scl' (k : Int) (a b : P2) : turn (scl k a) b = k * turn a b := by simp only [turn, scl]; grind
theorem dot_scl (k : Int) (a b : P2) : dotp a (scl k b) = k * dotp a b := by simp only [dotp, scl]; grind
theorem dot_scl' (k : Int) (a b : P2) : dotp (scl k a) b = k * dotp a b := by simp only [dotp, scl]; grind
theorem turn_zero (a : P2) : turn a (0, 0) = 0 := by simp [turn]
theorem nn_mul {k a : Int} (hk : 0 < k) : 0 ≤ k * a ↔ 0 ≤ a := ⟨nn_of hk, fun h => Int.mul_nonneg (Int.le_of_lt hk) h⟩
theorem pp_mul {k a : Int} (hk : 0 < k) : 0 < k * a ↔ 0 < a := ⟨pos_of hk, fun h => pos_mul hk h⟩
theorem zz_mul {k a : Int} (hk : 0 < k) : k * a = 0 ↔ a = 0 := by
  rw [Int.mul_eq_zero]; omega
theorem ng_mul {k a : Int} (hk : 0 < k) : k * a < 0 ↔ a < 0 := by
  have := nn_mul (a := a) hk; omega
theorem dot_self {a : P2} (h : Nz a) : 0 < dotp a a := by
  obtain ⟨x, y⟩ := a
  show 0 < x * x + y * y
  have sx : 0 ≤ x * x := by
    rcases Int.le_total 0 x with h | h
    · exact Int.mul_nonneg h h
    · exact Int.mul_nonneg_of_nonpos_of_nonpos h h
  have sy : 0 ≤ y * y := by
    rcases Int.le_total 0 y with h | h
    · exact Int.mul_nonneg h h
    · exact Int.mul_nonneg_of_nonpos_of_nonpos h h
  rcases Int.lt_or_le 0 (x * x + y * y) with q | q
  · exact q
  · exfalso
    have e1 : x * x = 0 := by omega
    have e2 : y * y = 0 := by omega
    apply h
    rw [Prod.mk.injEq]
    rw [Int.mul_eq_zero] at e1 e2
    omega
/-- x's direction is c's or the other way: the products tell -/
theorem para {c x : P2} (hc : Pr c) (hx : Pr x) (ht : turn c x = 0) : x = c ∨ x = neg c := by
  by_cases l : low c = low x
  · exact .inl (pr_uniq hc hx ht l).symm
  · right
    have : low c = low (neg x) := by
      rw [low_neg hx.1]
      cases h1 : low c <;> cases h2 : low x <;> simp_all
    have := pr_uniq hc (pr_neg hx) (by rw [turn_neg_r]; omega) this
    rw [this, neg_neg]
theorem low_ne_neg {c : P2} (h : Nz c) : c ≠ neg c := fun e => by
  have := low_neg h
  rw [← e] at this
  cases h : low c <;> simp [h] at this
theorem Srt.nodup {R : List P2} (h : Srt R) : R.Nodup := h.imp fun {a b} q e => by rw [e, earl_irr] at q; cases q
/-- two directions only -/
theorem two_iff {W R : List P2} (r : Rnd W R) {c : P2} (hc : c ∈ R) : R.length = 2 ↔ ∀ e ∈ R, turn c e = 0 := by
  have pc := r.pr c hc
  have nd := r.srt.nodup
  have two : [c, neg c].Nodup := by simp [low_ne_neg pc.1]
  constructor
  · intro hl e he
    match R, hl with
    | [a, b], _ =>
      have h2 := r.cl c hc
      have ne := low_ne_neg pc.1
      simp only [List.mem_cons, List.not_mem_nil, or_false] at hc h2 he
      have : e = c ∨ e = neg c := by
        rcases hc with rfl | rfl <;> rcases h2 with q | q <;> rcases he with rfl | rfl
        all_goals first | exact .inl rfl | exact .inr q.symm | exact absurd q.symm ne
      rcases this with rfl | rfl
      · exact turn_self _
      · rw [turn_neg_r, turn_self]; rfl
  · intro h
    have : R.Perm [c, neg c] := (List.perm_ext_iff_of_nodup nd two).mpr fun a => by
      simp only [List.mem_cons, List.not_mem_nil, or_false]
      constructor
      · intro ha; exact para pc (r.pr a ha) (h a ha)
      · rintro (rfl | rfl)
        · exact hc
        · exact r.cl c hc
    rw [this.length_eq]; rfl
def gapd (R : List P2) (c o : P2) : P2 := if R.length = 2 then (-c.2, c.1) else add c o
theorem gap_many {W R : List P2} (r : Rnd W R) {c o : P2} (hc : c ∈ R) (ho : o ∈ R) (ha : Adj R c o) : many W (gapd R c o) = fF W c := by
  unfold many fF
  refine List.countP_congr fun w hw => ?_
  rw [decide_eq_true_eq, after_iff]
  by_cases hz : w = (0, 0)
  · rw [hz, turn_zero]; simp
  · have nw : Nz w := hz
    obtain ⟨k, hk, ew, pw⟩ := prim_spec nw
    have hx := r.has w hw nw
    generalize hxx : prim w = x at *
    have e0 : (w = (0, 0)) = False := by simp [hz]
    rw [e0, false_or, ew, turn_scl, turn_scl, dot_scl, nn_mul hk, pp_mul hk, zz_mul hk, ng_mul hk]
    unfold gapd
    by_cases h2 : R.length = 2
    · rw [if_pos h2]
      have t0 := (two_iff r hc).mp h2 x hx
      have e1 : turn (-c.2, c.1) x = -dotp c x := by simp only [turn, dotp]; grind
      have nd : dotp c x ≠ 0 := by
        rcases para (r.pr c hc) pw t0 with q | q
        · rw [q]; have := dot_self (r.pr c hc).1; omega
        · rw [q]
          have := dot_self (r.pr c hc).1
          have e2 : dotp c (neg c) = -dotp c c := by simp only [dotp, neg]; grind
          omega
      rw [e1]; omega
    · rw [if_neg h2]
      have he : ∃ e ∈ R, turn c e ≠ 0 := by
        refine Classical.byContradiction fun z => h2 ((two_iff r hc).mpr fun e he => Classical.byContradiction fun y => z ⟨e, he, y⟩)
      obtain ⟨g1, g2⟩ := gap_ok (fun x hx => (r.pr x hx).1) r.cl hc ho ha he
      rw [turn_add_l]
      constructor
      · intro h
        rcases Int.lt_trichotomy (turn c x) 0 with q | q | q
        · exfalso
          have := g2 (neg x) (r.cl x hx)
          rw [turn_neg_r, turn_neg_l, turn_sw x o] at this
          omega
        · right
          refine ⟨q, ?_⟩
          rcases para (r.pr c hc) pw q with z | z
          · exfalso
            rw [z, turn_self, turn_sw o c] at h; omega
          · rw [z]
            have := dot_self (r.pr c hc).1
            have e2 : dotp c (neg c) = -dotp c c := by simp only [dotp, neg]; grind
            omega
        · exact .inl q
      · rintro (q | ⟨q, q'⟩)
        · have := g2 x hx
          have e2 := turn_sw x o
          omega
        · rcases para (r.pr c hc) pw q with z | z
          · exfalso
            rw [z] at q'
            have := dot_self (r.pr c hc).1; omega
          · rw [q, z, turn_neg_r, turn_sw o c]; omega
/-- neighbours in the list -/
theorem adj_zip {R : List P2} (hs : Srt R) {h : P2} {t : List P2} (e : R = h :: t) : ∀ p ∈ R.zip (t ++ [h]), p.1 ∈ R ∧ p.2 ∈ R ∧ Adj R p.1 p.2 := by
  intro p hp
  obtain ⟨i, hi, ep⟩ := List.getElem_of_mem hp
  rw [List.getElem_zip] at ep
  have li : i < R.length := by rw [List.length_zip] at hi; omega
  have lt : R.length = t.length + 1 := by rw [e]; rfl
  have pw := List.pairwise_iff_getElem.mp hs
  have e1 : p.1 = R[i] := by rw [← ep]
  by_cases last : i < t.length
  · have e2 : p.2 = R[i + 1]'(by omega) := by
      rw [← ep]
      simp only [List.getElem_append_left last, e, List.getElem_cons_succ]
    refine ⟨by rw [e1]; exact List.getElem_mem _, by rw [e2]; exact List.getElem_mem _, .inl ⟨?_, fun x hx => ?_⟩⟩
    · rw [e1, e2]; exact pw _ _ _ _ (by omega)
    · obtain ⟨j, hj, ex⟩ := List.getElem_of_mem hx
      rw [← ex, e1, e2]
      rcases Nat.lt_trichotomy j i with q | q | q
      · exact .inr (.inr (.inl (pw _ _ _ _ q)))
      · subst q; exact .inl rfl
      · by_cases q2 : j = i + 1
        · subst q2; exact .inr (.inl rfl)
        · exact .inr (.inr (.inr (pw _ _ _ _ (by omega))))
  · have ie : i = t.length := by omega
    have e2 : p.2 = R[0]'(by omega) := by
      have q : (t ++ [h])[i]? = some h := by rw [ie]; simp
      rw [List.getElem?_eq_getElem (by simp; omega)] at q
      have q' := Option.some.inj q
      rw [← ep]
      refine Eq.trans q' ?_
      simp only [e, List.getElem_cons_zero]
    refine ⟨by rw [e1]; exact List.getElem_mem _, by rw [e2]; exact List.getElem_mem _, .inr fun x hx => ?_⟩
    obtain ⟨j, hj, ex⟩ := List.getElem_of_mem hx
    rw [← ex, e1, e2]
    constructor
    · rcases Nat.lt_trichotomy j i with q | q | q
      · exact .inr (pw _ _ _ _ q)
      · subst q; exact .inl rfl
      · omega
    · rcases Nat.eq_zero_or_pos j with q | q
      · subst q; exact .inl rfl
      · exact .inr (pw _ _ _ _ q)
/-- the depth -/
structure IsDepth (W : List P2) (m : Nat) : Prop where
  le : ∀ w ∈ W, Nz w → m ≤ fF W w ∧ m ≤ fF W (neg w)
  ex : (∃ w ∈ W, Nz w ∧ (m = fF W w ∨ m = fF W (neg w))) ∨ ((∀ w ∈ W, w = (0, 0)) ∧ m = W.length)
theorem IsDepth.uniq {W : List P2} {m n : Nat} (h : IsDepth W m) (h' : IsDepth W n) : m = n := by
  have key : ∀ {m n : Nat}, IsDepth W m → IsDepth W n → m ≤ n := fun {m n} h h' => by
    rcases h'.ex with ⟨w, hw, nw, q⟩ | ⟨q, q'⟩
    · have := h.le w hw nw
      omega
    · rcases h.ex with ⟨w, hw, nw, _⟩ | ⟨_, z⟩
      · exact absurd (q w hw) nw
      · omega
  have := key h h'
  have := key h' h
  omega
theorem fF_scl {W : List P2} {k : Int} (hk : 0 < k) (d : P2) : fF W (scl k d) = fF W d := by
  unfold fF
  refine List.countP_congr fun w hw => ?_
  rw [after_iff, after_iff, turn_scl', dot_scl', pp_mul hk, zz_mul hk, ng_mul hk]
theorem scl_zero {g : Int} (hg : 0 < g) {w : P2} : scl g w = (0, 0) ↔ w = (0, 0) := by
  obtain ⟨x, y⟩ := w
  simp only [scl, Prod.mk.injEq, zz_mul hg]
theorem fF_map {W : List P2} {g : Int} (hg : 0 < g) (d : P2) : fF (W.map (scl g)) d = fF W d := by
  unfold fF
  rw [List.countP_map]
  refine List.countP_congr fun w hw => ?_
  simp only [Function.comp_apply]
  rw [after_iff, after_iff, turn_scl, dot_scl, scl_zero hg, pp_mul hg, zz_mul hg, ng_mul hg]
theorem many_map {W : List P2} {g : Int} (hg : 0 < g) (d : P2) : many (W.map (scl g)) d = many W d := by
  unfold many
  rw [List.countP_map]
  refine List.countP_congr fun w hw => ?_
  simp only [Function.comp_apply, decide_eq_true_eq]
  rw [turn_scl, nn_mul hg]
theorem scl_neg (k : Int) (w : P2) : scl k (neg w) = neg (scl k w) := by simp only [scl, neg]; grind
/-- what the round gives -/
theorem depth_rnd {W R : List P2} (r : Rnd W R) {m : Nat} (hR : R ≠ []) (le : ∀ c ∈ R, m ≤ fF W c) (ex : ∃ c ∈ R, m = fF W c) : IsDepth W m := by
  refine ⟨fun w hw nw => ?_, ?_⟩
  · obtain ⟨k, hk, ew, pw⟩ := prim_spec nw
    have hx := r.has w hw nw
    have e1 : fF W w = fF W (prim w) := by
      have := fF_scl (W := W) hk (prim w)
      rwa [← ew] at this
    have e2 : fF W (neg w) = fF W (neg (prim w)) := by
      have := fF_scl (W := W) hk (neg (prim w))
      rwa [scl_neg, ← ew] at this
    rw [e1, e2]
    exact ⟨le _ hx, le _ (r.cl _ hx)⟩
  · left
    obtain ⟨c, hc, em⟩ := ex
    obtain ⟨w, hw, nw, q⟩ := r.frm c hc
    obtain ⟨k, hk, ew, pw⟩ := prim_spec nw
    refine ⟨w, hw, nw, ?_⟩
    rcases q with q | q
    · left
      rw [em, q]
      have := fF_scl (W := W) hk (prim w)
      rw [← ew] at this
      exact this.symm
    · right
      rw [em, q, prim_neg nw]
      have := fF_scl (W := W) hk (neg (prim w))
      rw [scl_neg, ← ew] at this
      exact this.symm
theorem depth_zero {W R : List P2} (r : Rnd W R) (hR : R = []) : (∀ w ∈ W, w = (0, 0)) ∧ IsDepth W W.length := by
  have h0 : ∀ w ∈ W, w = (0, 0) := fun w hw => Classical.byContradiction fun nw => by
    have := r.has w hw nw
    rw [hR] at this; cases this
  exact ⟨h0, fun w hw nw => absurd (h0 w hw) nw, .inr ⟨h0, rfl⟩⟩
/-- the last direction before e -/
theorem last_before {e : P2} (ne : Nz e) : ∀ (S : List P2), (∀ x ∈ S, Nz x ∧ (0 < turn x e ∨ (turn x e = 0 ∧ 0 < dotp x e))) → S ≠ [] → ∃ d ∈ S, ∀ x ∈ S, turn d x ≤ 0
  | [], _, h => absurd rfl h
  | [a], _, _ => ⟨a, by simp, fun x hx => by rw [List.mem_singleton.mp hx, turn_self]; omega⟩
  | a :: b :: S, h, _ => by
    obtain ⟨d, hd, hm⟩ := last_before ne (b :: S) (fun x hx => h x (List.mem_cons_of_mem _ hx)) (by simp)
    obtain ⟨na, ha⟩ := h a (by simp)
    obtain ⟨nd, hdd⟩ := h d (List.mem_cons_of_mem _ hd)
    have pe := dot_self ne
    rcases Int.lt_or_le 0 (turn d a) with q | q
    · refine ⟨a, by simp, fun x hx => ?_⟩
      rcases List.mem_cons.mp hx with rfl | hx
      · rw [turn_self]; omega
      · have h1 := hm x hx
        obtain ⟨nx, hxx⟩ := h x (List.mem_cons_of_mem _ hx)
        -- turn a x > 0 would make turn d x > 0
        rcases Int.lt_or_le 0 (turn a x) with z | z
        · exfalso
          have i1 : turn a e * turn d x = turn d e * turn a x + turn x e * turn d a := by simp only [turn]; grind
          have i2 : dotp e e * turn d x = turn d e * dotp x e - turn x e * dotp d e := by simp only [turn, dotp]; grind
          have i3 : dotp e e * turn d a = turn d e * dotp a e - turn a e * dotp d e := by simp only [turn, dotp]; grind
          have i4 : dotp e e * turn a x = turn a e * dotp x e - turn x e * dotp a e := by simp only [turn, dotp]; grind
          have hd0 : 0 ≤ turn d e := by omega
          have hx0 : 0 ≤ turn x e := by omega
          have ha0 : 0 ≤ turn a e := by omega
          rcases ha with a1 | ⟨a1, a2⟩
          · have p1 := Int.mul_nonneg hd0 (Int.le_of_lt z)
            have p2 := Int.mul_nonneg hx0 (Int.le_of_lt q)
            have p3 : 0 < turn d e * turn a x + turn x e * turn d a := by
              rcases hdd with d1 | ⟨d1, d2⟩
              · have := pos_mul d1 z; omega
              · rcases hxx with x1 | ⟨x1, x2⟩
                · have := pos_mul x1 q; omega
                · exfalso
                  have n1 := Int.mul_nonneg ha0 (Int.le_of_lt d2)
                  have n2 := pos_mul pe q
                  rw [i3, d1] at n2
                  omega
            rw [← i1] at p3
            have := pos_of a1 p3
            omega
          · -- a in e's own direction: nothing stands between a and e
            have n2 := pos_mul pe z
            rw [i4, a1] at n2
            have n1 := Int.mul_nonneg hx0 (Int.le_of_lt a2)
            omega
        · exact z
    · refine ⟨d, List.mem_cons_of_mem _ hd, fun x hx => ?_⟩
      rcases List.mem_cons.mp hx with rfl | hx
      · exact q
      · exact hm x hx
theorem depth_le {W : List P2} {m : Nat} (h : IsDepth W m) {e : P2} (ne : Nz e) : m ≤ many W e := by
  rcases h.ex with ⟨w0, hw0, nw0, _⟩ | ⟨h0, hm⟩
  · obtain ⟨S, hS⟩ : ∃ S, S = (W ++ W.map neg).filter fun x => decide (Nz x ∧ (0 < turn x e ∨ (turn x e = 0 ∧ 0 < dotp x e))) := ⟨_, rfl⟩
    have memS : ∀ x, x ∈ S ↔ (x ∈ W ∨ ∃ w ∈ W, neg w = x) ∧ (Nz x ∧ (0 < turn x e ∨ (turn x e = 0 ∧ 0 < dotp x e))) := fun x => by
      rw [hS, List.mem_filter, List.mem_append, List.mem_map, decide_eq_true_eq]
    have one : ∀ w ∈ W, Nz w → w ∈ S ∨ neg w ∈ S := fun w hw nw => by
      have pe := dot_self ne
      have i1 : dotp w w * dotp e e = turn w e * turn w e + dotp w e * dotp w e := by simp only [turn, dotp]; grind
      have e2 : dotp (neg w) e = -dotp w e := by simp only [dotp, neg]; grind
      rcases Int.lt_trichotomy (turn w e) 0 with q | q | q
      · right
        exact (memS _).mpr ⟨.inr ⟨w, hw, rfl⟩, neg_ne nw, .inl (by rw [turn_neg_l]; omega)⟩
      · rcases Int.lt_trichotomy (dotp w e) 0 with z | z | z
        · right
          exact (memS _).mpr ⟨.inr ⟨w, hw, rfl⟩, neg_ne nw, .inr ⟨by rw [turn_neg_l]; omega, by omega⟩⟩
        · exfalso
          have := pos_mul (dot_self nw) pe
          rw [i1, q, z] at this
          omega
        · left; exact (memS _).mpr ⟨.inl hw, nw, .inr ⟨q, z⟩⟩
      · left; exact (memS _).mpr ⟨.inl hw, nw, .inl q⟩
    have nS : S ≠ [] := fun z => by
      rcases one w0 hw0 nw0 with q | q <;> rw [z] at q <;> cases q
    obtain ⟨d, hd, hmax⟩ := last_before ne S (fun x hx => ((memS x).mp hx).2) nS
    obtain ⟨hdW, nd, hde⟩ := (memS d).mp hd
    have le1 : m ≤ fF W d := by
      rcases hdW with q | ⟨w, hw, rfl⟩
      · exact (h.le d q nd).1
      · have nw : Nz w := fun z => nd (by rw [z]; rfl)
        exact (h.le w hw nw).2
    refine Nat.le_trans le1 (List.countP_mono_left fun w hw hq => ?_)
    rw [after_iff] at hq
    rw [decide_eq_true_eq]
    by_cases z : w = (0, 0)
    · rw [z, turn_zero]; omega
    · have nw : Nz w := z
      rcases hq with q | q | ⟨q, q'⟩
      · exact absurd q z
      · rcases Int.lt_or_le (turn e w) 0 with y | y
        · exfalso
          have : w ∈ S := (memS w).mpr ⟨.inl hw, nw, .inl (by rw [turn_sw]; omega)⟩
          have := hmax w this
          omega
        · exact y
      · -- w against d
        have i1 : dotp d d * turn e w = (-dotp d w) * turn d e + turn d w * dotp d e := by simp only [turn, dotp]; grind
        have p1 : 0 ≤ (-dotp d w) * turn d e := Int.mul_nonneg (by omega) (by omega)
        refine nn_of (dot_self nd) ?_
        rw [i1, q]
        omega
  · rw [hm]
    have : many W e = W.length := by
      unfold many
      rw [List.countP_eq_length]
      intro w hw
      rw [h0 w hw, turn_zero]; decide
    omega
theorem many_both (W : List P2) (e : P2) : W.length ≤ many W e + many W (neg e) := by
  unfold many
  induction W with
  | nil => simp
  | cons w W ih =>
    simp only [List.length_cons, List.countP_cons, decide_eq_true_eq]
    rw [turn_neg_l]
    split <;> split <;> omega
end L93
namespace L93
open PySem hiding ret
open Py L2
def Bd (x : Int) : Prop := x.natAbs < 2^1000
theorem mulB {x y : Int} (hx : Bd x) (hy : Bd y) : mulOk x y = true := by
  have h : ∀ z : Int, Bd z → z.natAbs.log2 < 1001 := by
    intro z hz
    by_cases h0 : z.natAbs = 0
    · rw [h0]; decide
    · exact Nat.lt_succ_of_lt ((Nat.log2_lt h0).mpr hz)
  have a := h x hx
  have b := h y hy
  simp only [mulOk, decide_eq_true_eq]; omega
theorem divB {x y : Int} (hy : Bd y) (h0 : y ≠ 0) : divOk x y = true := by
  have : y.natAbs.log2 < 1000 := (Nat.log2_lt (by omega)).mpr hy
  simp only [divOk, decide_eq_true_eq]; exact ⟨h0, by omega⟩
theorem ixN_nat {n i : Nat} (h : i < n) : ixN n (i : Int) = some i := by
  unfold ixN
  simp [h]
theorem atI_nat {α : Type} {xs : List α} {i : Nat} {x : α} (h : xs[i]? = some x) : L2.atI xs (i : Int) = some x := by
  have hi : i < xs.length := (List.getElem?_eq_some_iff.mp h).1
  unfold L2.atI
  rw [ixN_nat hi]; exact h
theorem rangeD_succ (lo : Nat) (m : Nat) : rangeD lo (m + 1) = .int lo :: rangeD (lo + 1 : Nat) m := by
  simp only [rangeD, List.range_succ_eq_map, List.map_cons, List.map_map]
  congr 1
  simp
  intro a _; omega
theorem forW_cons (tg : D → Py.Env → M Py.Env) (body : Py.Env → M Out) (d : D) (ds : List D) (ρ : Py.Env) : forW tg body (d :: ds) ρ = bnd (tg d ρ) fun ρ' => bnd (body ρ') fun o => oLoop o (forW tg body ds) := rfl
theorem getD_some {α : Type} {xs : List α} {k : Nat} {d : α} (h : k < xs.length) : xs[k]? = some (xs.getD k d) := by
  rw [List.getD_eq_getElem?_getD, List.getElem?_eq_getElem h]; rfl
theorem eqv_int (a b : Int) : PyData.eqv (.int a) (.int b) = decide (a = b) := by
  by_cases h : a = b <;> simp [PyData.eqv, h]
theorem shp_int (a : Int) : shp (.int a) = true := rfl
theorem canLayAll_ints : ∀ xs : List Int, PyData.canLayAll0 (dInts xs) = true
  | [] => by simp [dInts, PyData.canLayAll0]
  | x :: xs => by
    show PyData.canLayAll0 (.int x :: dInts xs) = true
    simp [PyData.canLayAll0, PyData.canLay0, canLayAll_ints xs]
theorem depthAll_ints : ∀ xs : List Int, PyData.depthAll (dInts xs) = 0
  | [] => by simp [dInts, PyData.depthAll]
  | x :: xs => by
    show PyData.depthAll (.int x :: dInts xs) = 0
    simp [PyData.depthAll, PyData.depth, depthAll_ints xs]
theorem shp_ints (xs : List Int) : shp (.list (dInts xs)) = true := by
  show SeqAt.shaped _ = true
  simp [SeqAt.shaped, PyData.canLay0, PyData.depth, canLayAll_ints, depthAll_ints]
theorem shp_intsT (xs : List Int) : shp (tupI xs) = true := by
  show SeqAt.shaped (.tuple (dInts xs)) = true
  simp [SeqAt.shaped, PyData.canLay0, PyData.depth, canLayAll_ints, depthAll_ints]
theorem shp_nil : shp (.list []) = true := rfl
theorem eqv_ints_nil (xs : List D) : PyData.eqv (.list xs) (.list []) = xs.isEmpty := by
  cases xs <;> simp [PyData.eqv, PyData.eqvAll]
def B (n : Nat) (x : Int) : Prop := x.natAbs ≤ 2 ^ n
theorem B.mono {n m : Nat} {x : Int} (h : B n x) (hm : n ≤ m) : B m x := Nat.le_trans h (Nat.pow_le_pow_right (by decide) hm)
theorem B.mul {n m : Nat} {x y : Int} (hx : B n x) (hy : B m y) : B (n + m) (x * y) := by
  unfold B at *
  rw [Int.natAbs_mul, Nat.pow_add]
  exact Nat.mul_le_mul hx hy
theorem B.sub {n : Nat} {x y : Int} (hx : B n x) (hy : B n y) : B (n + 1) (x - y) := by
  unfold B at *
  rw [Nat.pow_succ]; omega
theorem B.add {n : Nat} {x y : Int} (hx : B n x) (hy : B n y) : B (n + 1) (x + y) := by
  unfold B at *
  rw [Nat.pow_succ]; omega
theorem B.bd {n : Nat} {x : Int} (hx : B n x) (hn : n < 1000) : Bd x := Nat.lt_of_le_of_lt hx (Nat.pow_lt_pow_right (by decide) hn)
theorem B.neg {n : Nat} {x : Int} (hx : B n x) : B n (-x) := by unfold B at *; omega
theorem cutD_from {ds : List D} {j : Nat} (h : j ≤ ds.length) : cutD ds (some (j : Int)) none = ds.drop j := by
  unfold cutD
  rw [HT.sIx_nat, HT.sIx_none, Nat.min_eq_left h]
  exact List.take_of_length_le (by simp)
theorem cutD_to {ds : List D} {j : Nat} (h : j ≤ ds.length) : cutD ds none (some (j : Int)) = ds.take j := by
  unfold cutD
  rw [HT.sIx_nat, HT.sIx_none, Nat.min_eq_left h]
  simp
theorem eCall_2 (F : List D → M D) {f : Py.Env → M (List D)} {ρ : Py.Env} {x y : D} (h : f ρ = ret [x, y]) : eCall 2 F f ρ = F [x, y] := by
  rw [x_eCall, h, bnd_ret', if_pos (by simp)]
theorem args_2 {i j : Nat} {ρ : Py.Env} {x y : D} (hx : ρ[i]? = some (some x)) (hy : ρ[j]? = some (some y)) : (aCons (eVar i) (aCons (eVar j) aNil)) ρ = ret [x, y] := by
  simp only [x_aCons, x_aNil, x_eVar, hx, hy, Option.getD_some, optM_some, bnd_ret']
theorem cAll_map {α : Type} (l : List α) (p : α → Bool) : cAll [.list (l.map fun a => .bool (p a))] = ret (.bool (l.all p)) := by
  have := cAll_bools (l.map p)
  rw [List.map_map] at this
  rw [show (l.map fun a => PyData.bool (p a)) = l.map (PyData.bool ∘ p) from rfl, this]
  congr 2
  rw [List.all_map]; rfl
theorem cAny_map {α : Type} (l : List α) (p : α → Bool) : cAny [.list (l.map fun a => .bool (p a))] = ret (.bool (l.any p)) := by
  have := cAny_bools (l.map p)
  rw [List.map_map] at this
  rw [show (l.map fun a => PyData.bool (p a)) = l.map (PyData.bool ∘ p) from rfl, this]
  congr 2
  rw [List.any_map]; rfl
theorem layD {k : Nat} : ∀ {ds : List D}, (∀ d ∈ ds, d.canLay0 = true ∧ d.depth ≤ k) → PyData.canLayAll0 ds = true ∧ PyData.depthAll ds ≤ k
  | [], _ => ⟨rfl, Nat.zero_le _⟩
  | d :: ds, h => by
    obtain ⟨h1, h2⟩ := layD fun x hx => h x (List.mem_cons_of_mem _ hx)
    obtain ⟨h3, h4⟩ := h d (by simp)
    refine ⟨?_, Nat.max_le.mpr ⟨h4, h2⟩⟩
    show (d.canLay0 && PyData.canLayAll0 ds) = true
    rw [h3, h1]; rfl
theorem shp_of {d : D} (h1 : d.canLay0 = true) (h2 : d.depth ≤ 64) : shp d = true := by
  show (d.canLay0 && decide (d.depth ≤ 64)) = true
  rw [h1, decide_eq_true h2]; rfl
theorem lay_ints (xs : List Int) : (tupI xs).canLay0 = true ∧ (tupI xs).depth ≤ 1 := by
  show PyData.canLay0 (.tuple (dInts xs)) = true ∧ PyData.depth (.tuple (dInts xs)) ≤ 1
  simp [PyData.canLay0, PyData.depth, canLayAll_ints, depthAll_ints]
theorem minD_mem : ∀ (ds : List D) (d : D), W.minD d ds ∈ d :: ds
  | [], d => by simp [W.minD]
  | e :: ds, d => by
    show W.minD (if W.dataLt e d then e else d) ds ∈ _
    have := minD_mem ds (if W.dataLt e d then e else d)
    rcases List.mem_cons.mp this with h | h
    · rw [h]; split <;> simp
    · exact List.mem_cons_of_mem _ (List.mem_cons_of_mem _ h)
def wholeB : D → Bool
  | .int _ => true
  | _ => false
theorem eCall_1 (F : List D → M D) {f : Py.Env → M (List D)} {ρ : Py.Env} {x : D} (h : f ρ = ret [x]) : eCall 1 F f ρ = F [x] := by
  rw [x_eCall, h, bnd_ret', if_pos (by simp)]
theorem args_1 {i : Nat} {ρ : Py.Env} {x : D} (hx : ρ[i]? = some (some x)) : (aCons (eVar i) aNil) ρ = ret [x] := by
  simp only [x_aCons, x_aNil, x_eVar, hx, Option.getD_some, optM_some, bnd_ret']
def isTup : D → Bool
  | .tuple _ => true
  | _ => false
theorem isi_tup (d : D) : gIsi "tuple" d = ret (.bool (isTup d)) := by cases d <;> rfl
theorem len1 {x : D} : (if lenOk (List.length [x]) = true then ret (PyData.tuple [x]) else (stuck : M D)) = ret (.tuple [x]) := if_pos rfl
theorem eTup_1 {a : Py.Env → M D} {ρ : Py.Env} {x : D} (h : a ρ = ret x) : eTup (aCons a aNil) ρ = ret (.tuple [x]) := by
  rw [x_eTup, x_aCons, h, bnd_ret', x_aNil, bnd_ret', bnd_ret', if_pos (show lenOk (List.length [x]) = true from by simp [lenOk])]
theorem eTup_2 {a b : Py.Env → M D} {ρ : Py.Env} {x y : D} (h : a ρ = ret x) (h' : b ρ = ret y) : eTup (aCons a (aCons b aNil)) ρ = ret (.tuple [x, y]) := by
  rw [x_eTup, x_aCons, h, bnd_ret', x_aCons, h', bnd_ret', x_aNil, bnd_ret', bnd_ret', bnd_ret', if_pos (show lenOk (List.length [x, y]) = true from by simp [lenOk])]
theorem pick_c {s : Nat} {m : Int} {e : Py.Env → M D} {ρ : Py.Env} {P : D → Prop} (h1 : ρ[s]? = some (some .none)) (he : e ρ = ret (.int m)) (h2 : 2 ≤ m) (h3 : m < 1073741824) (k : ∀ j : Int, 0 ≤ j → j < m → P (.int j)) : eCallS s 1 F__law_pick (aCons e aNil) ρ P := by
  have e1 : eCallS s 1 F__law_pick (aCons e aNil) ρ = anyBelow m := by
    rw [eCallS, x_eVar, h1]
    show bnd (ret PyData.none) _ = _
    rw [bnd_ret', eCall_1 (x := .int m) _ (by rw [x_aCons, he, bnd_ret', x_aNil, bnd_ret'])]
    show (if m < 2 then ret (PyData.int 0) else if m < 1073741824 then anyBelow m else stuck) = _
    rw [if_neg (by omega), if_pos h3]
  rw [e1]
  exact k
theorem bnd_app {α β : Type} (m : M α) (f : α → M β) (P : β → Prop) : bnd m f P = m (fun a => f a P) := rfl
end L93
namespace L93
open PySem hiding ret
open Py L2
theorem fn_rt {m : Nat} {b : Py.Env → M Out} {ds : List D} {env : Py.Env} {r : D} (he : ds.map some ++ List.replicate m none = env) (h : b env = ret (.rt r)) : fnD m b ds = ret r := by
  rw [x_fnD, he, h, bnd_ret', outD_rt]
theorem fdiv_i (i j : Int) : gFdiv (.int i) (.int j) = if divOk i j = true then ret (.int (i.fdiv j)) else stuck := rfl
def vD (w : P2) : D := .tuple [.int w.1, .int w.2]
def plD (p : P2 × P2) : D := .tuple [vD p.1, vD p.2]
theorem ix0 (w : P2) : gIx (vD w) (.int 0) = ret (.int w.1) := gIx_t (atI_nat (i := 0) rfl)
theorem ix1 (w : P2) : gIx (vD w) (.int 1) = ret (.int w.2) := gIx_t (atI_nat (i := 1) rfl)
theorem px0 (p : P2 × P2) : gIx (plD p) (.int 0) = ret (vD p.1) := gIx_t (atI_nat (i := 0) rfl)
theorem px1 (p : P2 × P2) : gIx (plD p) (.int 1) = ret (vD p.2) := gIx_t (atI_nat (i := 1) rfl)
theorem eqv_v (a b : P2) : PyData.eqv (vD a) (vD b) = decide (a = b) := by
  obtain ⟨x, y⟩ := a
  obtain ⟨z, w⟩ := b
  simp only [vD, PyData.eqv, PyData.eqvAll, Prod.mk.injEq]
  by_cases h1 : x = z <;> by_cases h2 : y = w <;> simp [h1, h2]
theorem shp_v (a : P2) : shp (vD a) = true := shp_intsT [a.1, a.2]
theorem lay_v (a : P2) : (vD a).canLay0 = true ∧ (vD a).depth ≤ 1 := lay_ints [a.1, a.2]
theorem layAll_v (W : List P2) : PyData.canLayAll0 (W.map vD) = true ∧ PyData.depthAll (W.map vD) ≤ 1 := layD fun d hd => by
  obtain ⟨a, _, rfl⟩ := List.mem_map.mp hd
  exact lay_v a
theorem shp_vs (W : List P2) : shp (.list (W.map vD)) = true := shp_of (by simpa [PyData.canLay0] using (layAll_v W).1) (by have := (layAll_v W).2; simp only [PyData.depth]; omega)
theorem args_3 {i j k : Nat} {ρ : Py.Env} {x y z : D} (hx : ρ[i]? = some (some x)) (hy : ρ[j]? = some (some y)) (hz : ρ[k]? = some (some z)) : (aCons (eVar i) (aCons (eVar j) (aCons (eVar k) aNil))) ρ = ret [x, y, z] := by
  simp only [x_aCons, x_aNil, x_eVar, hx, hy, hz, Option.getD_some, optM_some, bnd_ret']
theorem eCall_3 (F : List D → M D) {f : Py.Env → M (List D)} {ρ : Py.Env} {x y z : D} (h : f ρ = ret [x, y, z]) : eCall 3 F f ρ = F [x, y, z] := by
  rw [x_eCall, h, bnd_ret', if_pos (by simp)]
theorem eCall_4 (F : List D → M D) {f : Py.Env → M (List D)} {ρ : Py.Env} {x y z w : D} (h : f ρ = ret [x, y, z, w]) : eCall 4 F f ρ = F [x, y, z, w] := by
  rw [x_eCall, h, bnd_ret', if_pos (by simp)]
/-- bounds of pairs -/
def Bp (n : Nat) (w : P2) : Prop := B n w.1 ∧ B n w.2
theorem mulq {n m : Nat} {x y : Int} (hx : B n x) (hy : B m y) (h1 : n < 1000 := by decide) (h2 : m < 1000 := by decide) : mulOk x y = true := mulB (hx.bd h1) (hy.bd h2)
theorem told_eq {w : P2} {a b : Int} (hw : Bp 40 w) (ha : B 40 a) (hb : B 40 b) : F_told_by [vD w, .int a, .int b] = ret (.int (a * w.1 + b * w.2)) := by
  show fnD 0 b_told_by [vD w, .int a, .int b] = _
  rw [x_fnD]
  simp only [b_told_by, List.map_cons, List.map_nil, List.replicate, List.cons_append, List.nil_append, x_sRet, x_bin, x_eVar, x_eC, List.getElem?_cons_succ, List.getElem?_cons_zero, Option.getD_some, optM_some, bnd_ret', ix0, ix1, x_gMulX_i, mulq ha hw.1, mulq hb hw.2, if_true, x_gAdd_i, outD_rt]
theorem many_eq {W : List P2} {a b : Int} (hW : ∀ w ∈ W, Bp 40 w) (ha : B 40 a) (hb : B 40 b) : F_many_on_side [.list (W.map vD), .int a, .int b] = ret (.int (many W (b, -a) : Nat)) := by
  refine fn_rt (env := [some (.list (W.map vD)), some (.int a), some (.int b), none]) rfl ?_
  rw [b_many_on_side, x_sRet, x_cal, x_aCons]
  rw [comp_map (ρ := [some (.list (W.map vD)), some (.int a), some (.int b), none]) vD (fun w => decide (0 ≤ turn (b, -a) w)) vD W (by rfl) ?_]
  · rw [bnd_ret', x_aNil, bnd_ret', bnd_ret', x_cLen_l, bnd_ret', List.length_map, many, List.countP_eq_length_filter]
  · intro w hw
    refine ⟨_, rfl, ?_, fun _ => rfl⟩
    have e : turn (b, -a) w = a * w.1 + b * w.2 := by simp only [turn]; grind
    rw [x_tst, x_bin, eCall_3 (x := vD w) (y := .int a) (z := .int b) _ (args_3 rfl rfl rfl), told_eq (hW w hw) ha hb, bnd_ret', x_eC, bnd_ret', e]
    rfl
/-- the ways from a place -/
def byP (p : P2 × P2) : Int := (p.1.2 * p.2.2).fdiv (Nat.gcd p.1.2.natAbs p.2.2.natAbs : Nat)
def waysP (L : List P2) (p : P2 × P2) : List P2 := L.map fun a => (a.1 * byP p - p.1.1 * (byP p).fdiv p.1.2, a.2 * byP p - p.2.1 * (byP p).fdiv p.2.2)
structure PlOk (p : P2 × P2) : Prop where
  t0 : 0 < p.1.2
  t1 : p.1.2 ≤ 10
  v0 : 0 < p.2.2
  v1 : p.2.2 ≤ 10
  s : B 12 p.1.1
  u : B 12 p.2.1
/-- what the divisor does -/
theorem by_spec {p : P2 × P2} (h : PlOk p) : ∃ g t v : Int, 0 < g ∧ 0 < t ∧ 0 < v ∧ p.1.2 = g * t ∧ p.2.2 = g * v ∧ byP p = g * t * v ∧ (byP p).fdiv p.1.2 = v ∧ (byP p).fdiv p.2.2 = t ∧ ((Nat.gcd p.1.2.natAbs p.2.2.natAbs : Nat) : Int) = g := by
  obtain ⟨⟨s, t⟩, ⟨u, v⟩⟩ := p
  have t0 := h.t0
  have v0 := h.v0
  simp only at t0 v0
  have g1 : (Nat.gcd t.natAbs v.natAbs : Int) ∣ t := Int.ofNat_dvd_left.mpr (Nat.gcd_dvd_left _ _)
  have g2 : (Nat.gcd t.natAbs v.natAbs : Int) ∣ v := Int.ofNat_dvd_left.mpr (Nat.gcd_dvd_right _ _)
  have hg : 0 < (Nat.gcd t.natAbs v.natAbs : Int) := by
    have : 0 < Nat.gcd t.natAbs v.natAbs := Nat.gcd_pos_of_pos_left _ (by omega)
    omega
  show ∃ g t' v' : Int, 0 < g ∧ 0 < t' ∧ 0 < v' ∧ t = g * t' ∧ v = g * v' ∧ (t * v).fdiv (Nat.gcd t.natAbs v.natAbs : Nat) = g * t' * v' ∧ ((t * v).fdiv (Nat.gcd t.natAbs v.natAbs : Nat)).fdiv t = v' ∧ ((t * v).fdiv (Nat.gcd t.natAbs v.natAbs : Nat)).fdiv v = t' ∧ ((Nat.gcd t.natAbs v.natAbs : Nat) : Int) = g
  generalize ((Nat.gcd t.natAbs v.natAbs : Nat) : Int) = g at *
  obtain ⟨a, ea⟩ := g1
  obtain ⟨b, eb⟩ := g2
  have pa : 0 < a := pos_of hg (by rw [← ea]; exact t0)
  have pb : 0 < b := pos_of hg (by rw [← eb]; exact v0)
  have e1 : (t * v).fdiv g = g * a * b := by
    have : t * v = g * (g * a * b) := by rw [ea, eb]; grind
    rw [this, Int.mul_fdiv_cancel_left _ (by omega)]
  have ta : g * a ≠ 0 := by rw [← ea]; omega
  have tb : g * b ≠ 0 := by rw [← eb]; omega
  refine ⟨g, a, b, hg, pa, pb, ea, eb, e1, ?_, ?_, rfl⟩
  · rw [e1, ea, Int.mul_fdiv_cancel_left _ ta]
  · rw [e1, eb]
    have : g * a * b = g * b * a := by grind
    rw [this, Int.mul_fdiv_cancel_left _ tb]
theorem B_of {n : Nat} {x : Int} (h : x.natAbs ≤ 2 ^ n) : B n x := h
theorem shared_eq {p : P2 × P2} (h : PlOk p) : F_shared_bottom [plD p] = ret (.int (byP p)) := by
  show fnD 0 b_shared_bottom [plD p] = _
  obtain ⟨g, t, v, hg, ht, hv, e1, e2, e3, e4, e5, e6⟩ := by_spec h
  have bt : B 4 p.1.2 := by have := h.t0; have := h.t1; unfold B; omega
  have bv : B 4 p.2.2 := by have := h.v0; have := h.v1; unfold B; omega
  have g10 : B 4 g := by
    have := h.t1
    have := h.t0
    have : g * 1 ≤ g * t := Int.mul_le_mul_of_nonneg_left (by omega) (by omega)
    unfold B; omega
  rw [x_fnD]
  simp only [b_shared_bottom, List.map_cons, List.map_nil, List.replicate, List.cons_append, List.nil_append, x_sRet, x_bin, x_cal, x_aCons, x_aNil, x_eVar, x_eC, List.getElem?_cons_succ, List.getElem?_cons_zero, Option.getD_some, optM_some, bnd_ret', px0, px1, ix1, x_gMulX_i, mulq bt bv, if_true]
  show bnd (bnd (gFdiv (.int (p.1.2 * p.2.2)) (.int ((Nat.gcd p.1.2.natAbs p.2.2.natAbs : Nat) : Int))) fun d => ret (Out.rt d)) outD = _
  rw [fdiv_i, if_pos (divB (by rw [e6]; exact g10.bd (by decide)) (by rw [e6]; omega)), bnd_ret', bnd_ret', outD_rt]
  rfl
theorem by_B {p : P2 × P2} (h : PlOk p) : 0 < byP p ∧ byP p ≤ 100 ∧ 0 < (byP p).fdiv p.1.2 ∧ (byP p).fdiv p.1.2 ≤ 10 ∧ 0 < (byP p).fdiv p.2.2 ∧ (byP p).fdiv p.2.2 ≤ 10 := by
  obtain ⟨g, t, v, hg, ht, hv, e1, e2, e3, e4, e5, e6⟩ := by_spec h
  have h1 := h.t1
  have h2 := h.v1
  have a1 : g * t * v ≤ 10 * 10 := by
    have v10 : v ≤ 10 := by
      have : 1 * v ≤ g * v := Int.mul_le_mul_of_nonneg_right (by omega) (by omega)
      omega
    have : g * t * v ≤ 10 * v := Int.mul_le_mul_of_nonneg_right (by omega) (by omega)
    omega
  have a2 : 0 < g * t * v := pos_mul (pos_mul hg ht) hv
  have a3 : 1 * t ≤ g * t := Int.mul_le_mul_of_nonneg_right (by omega) (by omega)
  have a4 : 1 * v ≤ g * v := Int.mul_le_mul_of_nonneg_right (by omega) (by omega)
  rw [e4, e5, e3]
  omega
theorem ways_eq {L : List P2} {p : P2 × P2} (h : PlOk p) (hL : ∀ a ∈ L, Bp 10 a) : F_ways_from [.tuple (L.map vD), plD p] = ret (.list ((waysP L p).map vD)) := by
  show fnD 5 b_ways_from [.tuple (L.map vD), plD p] = _
  obtain ⟨b1, b2, b3, b4, b5, b6⟩ := by_B h
  have bt : B 4 p.1.2 := by have := h.t0; have := h.t1; unfold B; omega
  have bv : B 4 p.2.2 := by have := h.v0; have := h.v1; unfold B; omega
  have bb : B 7 (byP p) := by unfold B; omega
  have bx : B 4 ((byP p).fdiv p.1.2) := by unfold B; omega
  have by' : B 4 ((byP p).fdiv p.2.2) := by unfold B; omega
  have d1 : divOk (byP p) p.1.2 = true := divB (bt.bd (by decide)) (by have := h.t0; omega)
  have d2 : divOk (byP p) p.2.2 = true := divB (bv.bd (by decide)) (by have := h.v0; omega)
  have m1 := mulq h.s bx
  have m2 := mulq h.u by'
  have cs : eCall 1 F_shared_bottom (aCons (eVar 1) aNil) ([some (.tuple (L.map vD)), some (plD p), none, none, none, none, none] : Py.Env) = ret (.int (byP p)) := (eCall_1 _ (args_1 rfl)).trans (shared_eq h)
  rw [x_fnD]
  show bnd (b_ways_from [some (.tuple (L.map vD)), some (plD p), none, none, none, none, none]) outD = _
  rw [b_ways_from, asg_nx cs]
  rw [seq_nx (ρ' := [some (.tuple (L.map vD)), some (plD p), some (.int (byP p)), some (.int (p.1.1 * (byP p).fdiv p.1.2)), some (.int (p.2.1 * (byP p).fdiv p.2.2)), none, none])]
  · rw [x_sRet, comp_all vD (fun a => vD (a.1 * byP p - p.1.1 * (byP p).fdiv p.1.2, a.2 * byP p - p.2.1 * (byP p).fdiv p.2.2)) L (by rfl) ?_, bnd_ret', bnd_ret', outD_rt, waysP, List.map_map]
    · rfl
    · intro a ha
      refine ⟨_, rfl, ?_⟩
      have n1 := mulq (hL a ha).1 bb
      have n2 := mulq (hL a ha).2 bb
      refine eTup_2 ?_ ?_
      · simp only [x_bin, x_eVar, x_wipeD_cons, x_wipeD_nil, List.set_cons_succ, List.set_cons_zero, List.getElem?_cons_succ, List.getElem?_cons_zero, Option.getD_some, optM_some, bnd_ret', x_gMulX_i, n1, if_true, x_gI_i]
      · simp only [x_bin, x_eVar, x_wipeD_cons, x_wipeD_nil, List.set_cons_succ, List.set_cons_zero, List.getElem?_cons_succ, List.getElem?_cons_zero, Option.getD_some, optM_some, bnd_ret', x_gMulX_i, n2, if_true, x_gI_i]
  · rw [x_sTgt, eTup_2 (x := .int (p.1.1 * (byP p).fdiv p.1.2)) (y := .int (p.2.1 * (byP p).fdiv p.2.2))]
    · rfl
    · simp only [x_bin, x_eVar, x_eC, List.set_cons_succ, List.set_cons_zero, List.getElem?_cons_succ, List.getElem?_cons_zero, Option.getD_some, optM_some, bnd_ret', px0, ix0, ix1, x_gIc_i, d1, if_true, x_gMulX_i, m1]
    · simp only [x_bin, x_eVar, x_eC, List.set_cons_succ, List.set_cons_zero, List.getElem?_cons_succ, List.getElem?_cons_zero, Option.getD_some, optM_some, bnd_ret', px1, ix0, ix1, x_gIc_i, d2, if_true, x_gMulX_i, m2]
theorem gc_B {w : P2} (hn : Nz w) (h : Bp 40 w) : B 41 (gc w) := by
  obtain ⟨x, y⟩ := w
  obtain ⟨h1, h2⟩ := h
  unfold B at *
  simp only at h1 h2
  show ((Nat.gcd x.natAbs y.natAbs : Nat) : Int).natAbs ≤ 2 ^ 41
  rw [Int.natAbs_natCast]
  by_cases z : x = 0
  · subst z
    have : Nat.gcd (Int.natAbs 0) y.natAbs = y.natAbs := by simp
    omega
  · have := Nat.gcd_le_left (m := x.natAbs) y.natAbs (by omega)
    omega
theorem lowest_eq {w : P2} (hn : Nz w) (h : Bp 40 w) : F_lowest_way [vD w] = ret (vD (prim w)) := by
  have hg := gc_pos hn
  have d : ∀ x, divOk x (gc w) = true := fun x => divB ((gc_B hn h).bd (by decide)) (by omega)
  refine fn_rt (env := [some (vD w), none]) rfl ?_
  have e0 : bin gIx (eVar 0) (eC (.int 0)) ([some (vD w), none] : Py.Env) = ret (.int w.1) := ix0 w
  have e1 : bin gIx (eVar 0) (eC (.int 1)) ([some (vD w), none] : Py.Env) = ret (.int w.2) := ix1 w
  have cg : cal cGcd (aCons (bin gIx (eVar 0) (eC (.int 0))) (aCons (bin gIx (eVar 0) (eC (.int 1))) aNil)) ([some (vD w), none] : Py.Env) = ret (.int (gc w)) := by
    rw [x_cal, x_aCons, e0, bnd_ret', x_aCons, e1, bnd_ret', x_aNil, bnd_ret', bnd_ret', bnd_ret']
    rfl
  rw [b_lowest_way, asg_nx cg, x_sRet, eTup_2 (x := .int (w.1.fdiv (gc w))) (y := .int (w.2.fdiv (gc w)))]
  · rfl
  · show gFdiv (.int w.1) (.int (gc w)) = _
    rw [fdiv_i, if_pos (d _)]
  · show gFdiv (.int w.2) (.int (gc w)) = _
    rw [fdiv_i, if_pos (d _)]
theorem lower_eq (w : P2) : F_is_lower [vD w] = ret (.bool (low w)) := by
  refine fn_rt (env := [some (vD w)]) rfl ?_
  have e0 : bin gIx (eVar 0) (eC (.int 0)) ([some (vD w)] : Py.Env) = ret (.int w.1) := ix0 w
  have e1 : bin gIx (eVar 0) (eC (.int 1)) ([some (vD w)] : Py.Env) = ret (.int w.2) := ix1 w
  have c1 : bin gLt (bin gIx (eVar 0) (eC (.int 1))) (eC (.int 0)) ([some (vD w)] : Py.Env) = ret (.bool (decide (w.2 < 0))) := by rw [x_bin, e1, bnd_ret', x_eC, bnd_ret']; rfl
  have c2 : bin gLt (bin gIx (eVar 0) (eC (.int 0))) (eC (.int 0)) ([some (vD w)] : Py.Env) = ret (.bool (decide (w.1 < 0))) := by rw [x_bin, e0, bnd_ret', x_eC, bnd_ret']; rfl
  have c3 : bin gEq (bin gIx (eVar 0) (eC (.int 1))) (eC (.int 0)) ([some (vD w)] : Py.Env) = ret (.bool (decide (w.2 = 0))) := by
    rw [x_bin, e1, bnd_ret', x_eC, bnd_ret']
    simp only [gEq, shp_int, Bool.and_self, if_true, eqv_int]
  rw [b_is_lower, x_sRet, x_eOr, tst_b c1, bnd_ret', x_eAnd, tst_b c3, bnd_ret', c2, low]
  by_cases h1 : w.2 < 0
  · simp [h1]
  · by_cases h2 : w.2 = 0 <;> simp [h1, h2]
theorem turn_eq {a b : P2} (ha : Bp 40 a) (hb : Bp 40 b) : F_turn_between [vD a, vD b] = ret (.int (turn a b)) := by
  refine fn_rt (env := [some (vD a), some (vD b)]) rfl ?_
  have m1 := mulq ha.1 hb.2
  have m2 := mulq ha.2 hb.1
  simp only [b_turn_between, x_sRet, x_bin, x_eVar, x_eC, List.getElem?_cons_succ, List.getElem?_cons_zero, Option.getD_some, optM_some, bnd_ret', ix0, ix1, x_gMulX_i, m1, m2, if_true, x_gI_i]
  rfl
theorem earl_eq {a b : P2} (ha : Bp 40 a) (hb : Bp 40 b) : F_is_earlier_way [vD a, vD b] = ret (.bool (earl a b)) := by
  refine fn_rt (env := [some (vD a), some (vD b)]) rfl ?_
  have l1 : eCall 1 F_is_lower (aCons (eVar 0) aNil) ([some (vD a), some (vD b)] : Py.Env) = ret (.bool (low a)) := (eCall_1 _ (args_1 rfl)).trans (lower_eq a)
  have l2 : eCall 1 F_is_lower (aCons (eVar 1) aNil) ([some (vD a), some (vD b)] : Py.Env) = ret (.bool (low b)) := (eCall_1 _ (args_1 rfl)).trans (lower_eq b)
  have tb : eCall 2 F_turn_between (aCons (eVar 0) (aCons (eVar 1) aNil)) ([some (vD a), some (vD b)] : Py.Env) = ret (.int (turn a b)) := (eCall_2 _ (args_2 rfl rfl)).trans (turn_eq ha hb)
  have ne : bin gNe (eCall 1 F_is_lower (aCons (eVar 0) aNil)) (eCall 1 F_is_lower (aCons (eVar 1) aNil)) ([some (vD a), some (vD b)] : Py.Env) = ret (.bool (!decide (low a = low b))) := by
    rw [x_bin, l1, bnd_ret', l2, bnd_ret']
    generalize low a = x
    generalize low b = y
    cases x <;> cases y <;> rfl
  rw [b_is_earlier_way, x_sSeq, x_sIf, tst_b ne, bnd_ret']
  by_cases h : low a = low b
  · rw [decide_eq_true h, if_neg (by decide), x_sNx, bnd_ret', oThen_nx, x_sRet, x_bin, tb, bnd_ret', x_eC, bnd_ret', earl_same h]
    rfl
  · rw [decide_eq_false h, if_pos (show (!false) = true from rfl), x_sRet, l2, bnd_ret', bnd_ret', oThen_rt, earl_diff h]
theorem in_v (w : P2) (R : List P2) : gIn false (vD w) (.list (R.map vD)) = ret (.bool (decide (w ∈ R))) := by
  show (if (shp (vD w) && PyData.canLayAll0 (R.map vD)) = true then ret (PyData.bool (xor false ((R.map vD).any fun z => PyData.eqv z (vD w)))) else stuck) = _
  rw [shp_v, (layAll_v R).1, Bool.and_self, if_pos rfl, List.any_map, Bool.false_xor]
  congr 2
  rw [Bool.eq_iff_iff, List.any_eq_true, decide_eq_true_eq]
  simp only [Function.comp_apply, eqv_v, decide_eq_true_eq]
  exact ⟨fun ⟨x, h, e⟩ => e ▸ h, fun h => ⟨w, h, rfl⟩⟩
theorem cut_to {ds : List D} {j : Nat} (h : j ≤ ds.length) : cutD ds none (some (j : Int)) = ds.take j := cutD_to h
theorem put_eq {R : List P2} {w : P2} (hR : ∀ x ∈ R, Bp 40 x) (hw : Bp 40 w) (hl : R.length ≤ 1000) : F_put_way [.list (R.map vD), vD w] = ret (.list ((putW R w).map vD)) := by
  refine fn_rt (env := [some (.list (R.map vD)), some (vD w), none, none]) rfl ?_
  have c0 : bin (gIn false) (eVar 1) (eVar 0) ([some (.list (R.map vD)), some (vD w), none, none] : Py.Env) = ret (.bool (decide (w ∈ R))) := in_v w R
  rw [b_put_way, x_sSeq, x_sIf, tst_b c0, bnd_ret']
  by_cases h : w ∈ R
  · rw [decide_eq_true h, if_pos rfl, putW, if_pos h]
    rfl
  · rw [decide_eq_false h, if_neg (by decide), x_sNx, bnd_ret', oThen_nx, putW, if_neg h]
    have cc : mkL (eLc (itSeq (eVar 0)) (tgN 3) (tst (eCall 2 F_is_earlier_way (aCons (eVar 3) (aCons (eVar 1) aNil)))) (eVar 3) [3]) ([some (.list (R.map vD)), some (vD w), none, none] : Py.Env) = ret (.list ((R.filter fun x => earl x w).map vD)) :=
      comp_map vD (fun x => earl x w) vD R (by rfl) fun x hx => ⟨_, rfl, tst_b ((eCall_2 _ (args_2 rfl rfl)).trans (earl_eq (hR x hx) hw)), fun _ => rfl⟩
    have cl : cal cLen (aCons (mkL (eLc (itSeq (eVar 0)) (tgN 3) (tst (eCall 2 F_is_earlier_way (aCons (eVar 3) (aCons (eVar 1) aNil)))) (eVar 3) [3])) aNil) ([some (.list (R.map vD)), some (vD w), none, none] : Py.Env) = ret (.int (cnt R w : Nat)) := by
      rw [x_cal, x_aCons, cc, bnd_ret', x_aNil, bnd_ret', bnd_ret', x_cLen_l, List.length_map]
      rfl
    have hc : cnt R w ≤ R.length := List.length_filter_le _ _
    rw [asg_nx cl, x_sRet, x_mkL, x_lDisp, x_aStar]
    have e1 : eSl (eVar 0) oNo (oPart (eVar 2)) ([some (.list (R.map vD)), some (vD w), none, none].set 2 (some (.int (cnt R w : Nat))) : Py.Env) = ret (.list ((R.take (cnt R w)).map vD)) := by
      show ret (PyData.list (cutD (R.map vD) none (some ((cnt R w : Nat) : Int)))) = _
      rw [cutD_to (by rw [List.length_map]; exact hc), List.map_take]
    have e2 : eSl (eVar 0) (oPart (eVar 2)) oNo ([some (.list (R.map vD)), some (vD w), none, none].set 2 (some (.int (cnt R w : Nat))) : Py.Env) = ret (.list ((R.drop (cnt R w)).map vD)) := by
      show ret (PyData.list (cutD (R.map vD) (some ((cnt R w : Nat) : Int)) none)) = _
      rw [cutD_from (by rw [List.length_map]; exact hc), List.map_drop]
    rw [e1, bnd_ret', x_seqD_l, bnd_ret', x_aCons, show eVar 1 ([some (.list (R.map vD)), some (vD w), none, none].set 2 (some (.int (cnt R w : Nat))) : Py.Env) = ret (vD w) from rfl, bnd_ret', x_aStar, e2, bnd_ret', x_seqD_l, bnd_ret', x_aNil, bnd_ret', bnd_ret', bnd_ret', bnd_ret']
    rw [if_pos (by simp [lenOk]; omega), bnd_ret', bnd_ret']
    simp
theorem putW_len (R : List P2) (w : P2) : (putW R w).length ≤ R.length + 1 := by
  unfold putW
  split
  · omega
  · simp; omega
theorem prim_B {w : P2} (hn : Nz w) (h : Bp 40 w) : Bp 40 (prim w) := by
  obtain ⟨k, hk, e, -⟩ := prim_spec hn
  have e1 : w.1 = k * (prim w).1 := congrArg Prod.fst e
  have e2 : w.2 = k * (prim w).2 := congrArg Prod.snd e
  obtain ⟨h1, h2⟩ := h
  unfold B at h1 h2
  rw [e1, Int.natAbs_mul] at h1
  rw [e2, Int.natAbs_mul] at h2
  have : 1 ≤ k.natAbs := by omega
  have a1 : 1 * (prim w).1.natAbs ≤ k.natAbs * (prim w).1.natAbs := Nat.mul_le_mul_right _ this
  have a2 : 1 * (prim w).2.natAbs ≤ k.natAbs * (prim w).2.natAbs := Nat.mul_le_mul_right _ this
  exact ⟨by unfold B; omega, by unfold B; omega⟩
theorem neg_B {n : Nat} {w : P2} (h : Bp n w) : Bp n (neg w) := ⟨h.1.neg, h.2.neg⟩
def rB : Py.Env → M Out := (sIf (tst (bin gNe (eVar 2) (eTup (aCons (eC (.int 0)) (aCons (eC (.int 0)) aNil))))) (sSeq (sAsg 1 (eCall 2 F_put_way (aCons (eVar 1) (aCons (eCall 1 F_lowest_way (aCons (eVar 2) aNil)) aNil))))
  (sAsg 1 (eCall 2 F_put_way (aCons (eVar 1) (aCons (eCall 1 F_lowest_way (aCons (eTup (aCons (una gNeg (bin gIx (eVar 2) (eC (.int 0)))) (aCons (una gNeg (bin gIx (eVar 2) (eC (.int 1)))) aNil))) aNil)) aNil))))) sNx)
theorem gNe_v (a b : P2) : gNe (vD a) (vD b) = ret (.bool (!decide (a = b))) := by
  show (if (Py.shp (vD a) && Py.shp (vD b)) = true then ret (PyData.bool (!PyData.eqv (vD a) (vD b))) else stuck) = _
  rw [shp_v, shp_v, Bool.and_self, if_pos rfl, eqv_v]
theorem gEq_v (a b : P2) : gEq (vD a) (vD b) = ret (.bool (decide (a = b))) := by
  show (if (Py.shp (vD a) && Py.shp (vD b)) = true then ret (PyData.bool (PyData.eqv (vD a) (vD b))) else stuck) = _
  rw [shp_v, shp_v, Bool.and_self, if_pos rfl, eqv_v]
theorem args_c {i : Nat} {ρ : Py.Env} {x y : D} {e : Py.Env → M D} (hx : ρ[i]? = some (some x)) (hy : e ρ = ret y) : (aCons (eVar i) (aCons e aNil)) ρ = ret [x, y] := by
  simp only [x_aCons, x_aNil, x_eVar, hx, hy, Option.getD_some, optM_some, bnd_ret']
theorem args_e {ρ : Py.Env} {x : D} {e : Py.Env → M D} (hx : e ρ = ret x) : (aCons e aNil) ρ = ret [x] := by
  simp only [x_aCons, x_aNil, hx, bnd_ret']
theorem rB_eq {R : List P2} {w : P2} {ws : Option D} (hR : ∀ x ∈ R, Bp 40 x) (hw : Bp 40 w) (hl : R.length ≤ 900) : rB [ws, some (.list (R.map vD)), some (vD w)] = ret (.nx [ws, some (.list ((stepR R w).map vD)), some (vD w)]) := by
  have t0 : bin gNe (eVar 2) (eTup (aCons (eC (.int 0)) (aCons (eC (.int 0)) aNil))) ([ws, some (.list (R.map vD)), some (vD w)] : Py.Env) = ret (.bool (!decide (w = (0, 0)))) := gNe_v w (0, 0)
  rw [rB, x_sIf, tst_b t0, bnd_ret']
  by_cases h : w = (0, 0)
  · rw [decide_eq_true h, if_neg (by decide), x_sNx, stepR, if_pos h]
  · have nw : Nz w := h
    rw [decide_eq_false h, if_pos (show (!false) = true from rfl), stepR, if_neg h]
    have pb := prim_B nw hw
    have nb := prim_B (neg_ne nw) (neg_B hw)
    have c1 : eCall 2 F_put_way (aCons (eVar 1) (aCons (eCall 1 F_lowest_way (aCons (eVar 2) aNil)) aNil)) ([ws, some (.list (R.map vD)), some (vD w)] : Py.Env) = ret (.list ((putW R (prim w)).map vD)) :=
      (eCall_2 _ (args_c rfl ((eCall_1 _ (args_1 rfl)).trans (lowest_eq nw hw)))).trans (put_eq hR pb (by omega))
    have hR1 : ∀ x ∈ putW R (prim w), Bp 40 x := fun x hx => by
      rcases mem_putW.mp hx with q | q
      · exact hR x q
      · rw [q]; exact pb
    have l1 := putW_len R (prim w)
    have en : eTup (aCons (una gNeg (bin gIx (eVar 2) (eC (.int 0)))) (aCons (una gNeg (bin gIx (eVar 2) (eC (.int 1)))) aNil)) ([ws, some (.list ((putW R (prim w)).map vD)), some (vD w)] : Py.Env) = ret (vD (neg w)) := by
      refine eTup_2 (x := .int (-w.1)) (y := .int (-w.2)) ?_ ?_
      · show bnd (gIx (vD w) (.int 0)) gNeg = _
        rw [ix0, bnd_ret', x_gNeg_i]
      · show bnd (gIx (vD w) (.int 1)) gNeg = _
        rw [ix1, bnd_ret', x_gNeg_i]
    have c2 : eCall 2 F_put_way (aCons (eVar 1) (aCons (eCall 1 F_lowest_way (aCons (eTup (aCons (una gNeg (bin gIx (eVar 2) (eC (.int 0)))) (aCons (una gNeg (bin gIx (eVar 2) (eC (.int 1)))) aNil))) aNil)) aNil)) ([ws, some (.list ((putW R (prim w)).map vD)), some (vD w)] : Py.Env) = ret (.list ((putW (putW R (prim w)) (prim (neg w))).map vD)) :=
      (eCall_2 _ (args_c rfl ((eCall_1 _ (args_e en)).trans (lowest_eq (neg_ne nw) (neg_B hw))))).trans (put_eq hR1 nb (by omega))
    rw [asg_nx c1]
    show sAsg 1 _ [ws, some (.list ((putW R (prim w)).map vD)), some (vD w)] = _
    rw [x_sAsg, c2, bnd_ret']
    rfl
theorem stepR_len (R : List P2) (w : P2) : (stepR R w).length ≤ R.length + 2 := by
  unfold stepR
  split
  · omega
  · have := putW_len R (prim w)
    have := putW_len (putW R (prim w)) (prim (neg w))
    omega
theorem stepR_B {R : List P2} {w : P2} (hR : ∀ x ∈ R, Bp 40 x) (hw : Bp 40 w) : ∀ x ∈ stepR R w, Bp 40 x := by
  unfold stepR
  split
  · exact hR
  · rename_i h
    have nw : Nz w := h
    intro x hx
    rcases mem_putW.mp hx with q | q
    · rcases mem_putW.mp q with q | q
      · exact hR x q
      · rw [q]; exact prim_B nw hw
    · rw [q]; exact prim_B (neg_ne nw) (neg_B hw)
theorem round_loop {ws : Option D} : ∀ (W R : List P2) (v : Option D), (∀ x ∈ R, Bp 40 x) → (∀ w ∈ W, Bp 40 w) → R.length + 2 * W.length ≤ 900 → ∃ v', forW (tgN 2) rB (W.map vD) [ws, some (.list (R.map vD)), v] = ret (.nx [ws, some (.list ((W.foldl stepR R).map vD)), v'])
  | [], R, v, _, _, _ => ⟨v, rfl⟩
  | w :: W, R, v, hR, hW, hl => by
    rw [List.length_cons] at hl
    obtain ⟨v', h⟩ := round_loop (ws := ws) W (stepR R w) (some (vD w)) (stepR_B hR (hW w (by simp))) (fun x hx => hW x (List.mem_cons_of_mem _ hx)) (by have := stepR_len R w; omega)
    refine ⟨v', ?_⟩
    rw [List.map_cons, forW_cons, x_tgN, bnd_ret']
    show bnd (rB [ws, some (.list (R.map vD)), some (vD w)]) _ = _
    rw [rB_eq hR (hW w (by simp)) (by omega), bnd_ret', oLoop_nx, h]
    rfl
theorem round_eq {W : List P2} (hW : ∀ w ∈ W, Bp 40 w) (hl : W.length ≤ 400) : F_round_of_ways [.list (W.map vD)] = ret (.list ((rnd W).map vD)) := by
  refine fn_rt (env := [some (.list (W.map vD)), none, none]) rfl ?_
  obtain ⟨v', h⟩ := round_loop (ws := some (.list (W.map vD))) W [] none (by simp) hW (by simp; omega)
  rw [b_round_of_ways, asg_nx (d := .list []) (by rfl)]
  rw [seq_nx (ρ' := [some (.list (W.map vD)), some (.list ((W.foldl stepR []).map vD)), v'])]
  · rfl
  · rw [x_sFor]
    exact h
theorem gap_nz {W R : List P2} (r : Rnd W R) {c o : P2} (hc : c ∈ R) (ho : o ∈ R) (ha : Adj R c o) : Nz (gapd R c o) := by
  unfold gapd
  by_cases h2 : R.length = 2
  · rw [if_pos h2]
    intro e
    apply (r.pr c hc).1
    obtain ⟨x, y⟩ := c
    simp only [Prod.mk.injEq] at e ⊢
    omega
  · rw [if_neg h2]
    have he : ∃ e ∈ R, turn c e ≠ 0 := by
      refine Classical.byContradiction fun z => h2 ((two_iff r hc).mpr fun e he => Classical.byContradiction fun y => z ⟨e, he, y⟩)
    obtain ⟨g1, -⟩ := gap_ok (fun x hx => (r.pr x hx).1) r.cl hc ho ha he
    intro e
    have : turn c (add c o) = turn c o := by simp only [turn, add]; grind
    rw [e, turn_zero] at this
    omega
def gapsR (R : List P2) : List P2 := match R with
  | [] => [(0, -1)]
  | h :: t => ((h :: t).zip (t ++ [h])).map fun p => gapd (h :: t) p.1 p.2
theorem zipD_v : ∀ a b : List P2, zipD (a.map vD) (b.map vD) = (a.zip b).map fun p => .tuple [vD p.1, vD p.2]
  | [], b => by cases b <;> rfl
  | a :: as, [] => rfl
  | a :: as, b :: bs => by
    show .tuple [vD a, vD b] :: zipD (as.map vD) (bs.map vD) = _
    rw [zipD_v as bs]; rfl
def wB : Py.Env → M Out := (sSeq (sAsg 5 (bin gEq (cal cLen (aCons (eVar 1) aNil)) (eC (.int 2))))
  (sApp 2 (eIf (tru (eVar 5)) (eTup (aCons (una gNeg (bin gIx (eVar 3) (eC (.int 1)))) (aCons (bin gIx (eVar 3) (eC (.int 0))) aNil))) (eTup (aCons (bin gAdd (bin gIx (eVar 3) (eC (.int 0))) (bin gIx (eVar 4) (eC (.int 0)))) (aCons (bin gAdd (bin gIx (eVar 3) (eC (.int 1))) (bin gIx (eVar 4) (eC (.int 1)))) aNil))))))
theorem wB_eq {R S : List P2} {c o : P2} {ws x5 : Option D} (hl : S.length ≤ 1000) : wB [ws, some (.list (R.map vD)), some (.list (S.map vD)), some (vD c), some (vD o), x5] = ret (.nx [ws, some (.list (R.map vD)), some (.list ((S ++ [gapd R c o]).map vD)), some (vD c), some (vD o), some (.bool (decide (R.length = 2)))]) := by
  have c0 : bin gEq (cal cLen (aCons (eVar 1) aNil)) (eC (.int 2)) ([ws, some (.list (R.map vD)), some (.list (S.map vD)), some (vD c), some (vD o), x5] : Py.Env) = ret (.bool (decide (R.length = 2))) := by
    show gEq (.int ((R.map vD).length : Nat)) (.int 2) = _
    rw [List.length_map]
    simp only [gEq, shp_int, Bool.and_self, if_true, eqv_int]
    congr 2
    simp only [decide_eq_decide]
    omega
  rw [wB, asg_nx c0]
  show sApp 2 _ [ws, some (.list (R.map vD)), some (.list (S.map vD)), some (vD c), some (vD o), some (.bool (decide (R.length = 2)))] = _
  have e : (eIf (tru (eVar 5)) (eTup (aCons (una gNeg (bin gIx (eVar 3) (eC (.int 1)))) (aCons (bin gIx (eVar 3) (eC (.int 0))) aNil))) (eTup (aCons (bin gAdd (bin gIx (eVar 3) (eC (.int 0))) (bin gIx (eVar 4) (eC (.int 0)))) (aCons (bin gAdd (bin gIx (eVar 3) (eC (.int 1))) (bin gIx (eVar 4) (eC (.int 1)))) aNil)))) ([ws, some (.list (R.map vD)), some (.list (S.map vD)), some (vD c), some (vD o), some (.bool (decide (R.length = 2)))] : Py.Env) = ret (vD (gapd R c o)) := by
    rw [x_eIf, x_tru, var_eq (d := .bool (decide (R.length = 2))) rfl, bnd_ret']
    show bnd (ret (decide (R.length = 2))) _ = _
    rw [bnd_ret']
    unfold gapd
    by_cases h : R.length = 2
    · rw [if_pos (by simpa using h), if_pos h]
      refine eTup_2 (x := .int (-c.2)) (y := .int c.1) ?_ ?_
      · show bnd (gIx (vD c) (.int 1)) gNeg = _
        rw [ix1, bnd_ret', x_gNeg_i]
      · exact ix0 c
    · rw [if_neg (by simpa using h), if_neg h]
      refine eTup_2 (x := .int (c.1 + o.1)) (y := .int (c.2 + o.2)) ?_ ?_
      · show bnd (gIx (vD c) (.int 0)) (fun x => bnd (gIx (vD o) (.int 0)) fun y => gAdd x y) = _
        rw [ix0, bnd_ret', ix0, bnd_ret', x_gAdd_i]
      · show bnd (gIx (vD c) (.int 1)) (fun x => bnd (gIx (vD o) (.int 1)) fun y => gAdd x y) = _
        rw [ix1, bnd_ret', ix1, bnd_ret', x_gAdd_i]
  show bnd (ret (PyData.list (S.map vD))) _ = _
  rw [bnd_ret', e, bnd_ret']
  show (if lenOk ((S.map vD).length + 1) = true then ret (Out.nx [ws, some (.list (R.map vD)), some (.list (S.map vD ++ [vD (gapd R c o)])), some (vD c), some (vD o), some (.bool (decide (R.length = 2)))]) else stuck) = _
  rw [if_pos (by simp [lenOk]; omega), List.map_append]
  rfl
theorem w_loop {R : List P2} {ws : Option D} : ∀ (G : List (P2 × P2)) (S : List P2) (a b x5 : Option D), S.length + G.length ≤ 1000 → ∃ a' b' x', forW (tgTup 2 (tgsCons (tgN 3) (tgsCons (tgN 4) tgsNil))) wB (G.map fun p => .tuple [vD p.1, vD p.2]) [ws, some (.list (R.map vD)), some (.list (S.map vD)), a, b, x5] = ret (.nx [ws, some (.list (R.map vD)), some (.list ((S ++ G.map fun p => gapd R p.1 p.2).map vD)), a', b', x'])
  | [], S, a, b, x5, _ => ⟨a, b, x5, by simp; rfl⟩
  | g :: G, S, a, b, x5, hl => by
    rw [List.length_cons] at hl
    obtain ⟨a', b', x', h⟩ := w_loop (R := R) (ws := ws) G (S ++ [gapd R g.1 g.2]) (some (vD g.1)) (some (vD g.2)) (some (.bool (decide (R.length = 2)))) (by simp; omega)
    refine ⟨a', b', x', ?_⟩
    rw [List.map_cons, forW_cons]
    show bnd (ret [ws, some (.list (R.map vD)), some (.list (S.map vD)), some (vD g.1), some (vD g.2), x5]) _ = _
    rw [bnd_ret', wB_eq (by omega), bnd_ret', oLoop_nx, h]
    simp
theorem between_eq {W : List P2} (hW : ∀ w ∈ W, Bp 40 w) (hl : W.length ≤ 100) : F_ways_between [.list (W.map vD)] = ret (.list ((gapsR (rnd W)).map vD)) := by
  refine fn_rt (env := [some (.list (W.map vD)), none, none, none, none, none]) rfl ?_
  have hlen : (rnd W).length ≤ 200 := by
    have : ∀ (V R : List P2), (V.foldl stepR R).length ≤ R.length + 2 * V.length := by
      intro V
      induction V with
      | nil => intro R; simp
      | cons v V ih =>
        intro R
        have := ih (stepR R v)
        have := stepR_len R v
        simp only [List.foldl_cons, List.length_cons]
        omega
    have := this W []
    simp only [List.length_nil] at this
    unfold rnd
    omega
  have c0 : eCall 1 F_round_of_ways (aCons (eVar 0) aNil) ([some (.list (W.map vD)), none, none, none, none, none] : Py.Env) = ret (.list ((rnd W).map vD)) := (eCall_1 _ (args_1 rfl)).trans (round_eq hW (by omega))
  rw [b_ways_between, asg_nx c0]
  obtain ⟨R, hR⟩ : ∃ R, R = rnd W := ⟨_, rfl⟩
  rw [← hR] at hlen ⊢
  show (sSeq (sIf _ _ sNx) _) [some (.list (W.map vD)), some (.list (R.map vD)), none, none, none, none] = _
  have c1 : bin gEq (eVar 1) (mkL (lDisp aNil)) ([some (.list (W.map vD)), some (.list (R.map vD)), none, none, none, none] : Py.Env) = ret (.bool R.isEmpty) := by
    show (if (Py.shp (.list (R.map vD)) && Py.shp (.list [])) = true then ret (PyData.bool (PyData.eqv (.list (R.map vD)) (.list []))) else stuck) = _
    rw [shp_vs, shp_nil, Bool.and_self, if_pos rfl, eqv_ints_nil]
    cases R <;> rfl
  cases R with
  | nil =>
    rw [x_sSeq, x_sIf, tst_b c1, bnd_ret']
    rfl
  | cons h t =>
    rw [if_no (tst_b c1)]
    rw [seq_nx (ρ' := [some (.list (W.map vD)), some (.list ((h :: t).map vD)), some (.list (([] : List P2).map vD)), none, none, none]) (by rfl)]
    obtain ⟨a', b', x', hh⟩ := w_loop (R := h :: t) (ws := some (.list (W.map vD))) ((h :: t).zip (t ++ [h])) [] none none none (by rw [List.length_zip]; simp at hlen ⊢; omega)
    rw [seq_nx (ρ' := [some (.list (W.map vD)), some (.list ((h :: t).map vD)), some (.list ((([] : List P2) ++ ((h :: t).zip (t ++ [h])).map fun p : P2 × P2 => gapd (h :: t) p.1 p.2).map vD)), a', b', x'])]
    · rfl
    · rw [x_sFor]
      have z : (itZip (aCons (eVar 1) (aCons (mkL (lDisp (aStar (eSl (eVar 1) (oPart (eC (.int 1))) oNo) (aCons (bin gIx (eVar 1) (eC (.int 0))) aNil)))) aNil))) ([some (.list (W.map vD)), some (.list ((h :: t).map vD)), some (.list (([] : List P2).map vD)), none, none, none] : Py.Env) = ret (((h :: t).zip (t ++ [h])).map fun p => .tuple [vD p.1, vD p.2]) := by
        have e1 : eSl (eVar 1) (oPart (eC (.int 1))) oNo ([some (.list (W.map vD)), some (.list ((h :: t).map vD)), some (.list (([] : List P2).map vD)), none, none, none] : Py.Env) = ret (.list (t.map vD)) := by
          show ret (PyData.list (cutD ((h :: t).map vD) (some ((1 : Nat) : Int)) none)) = _
          rw [cutD_from (by simp)]
          rfl
        have e2 : bin gIx (eVar 1) (eC (.int 0)) ([some (.list (W.map vD)), some (.list ((h :: t).map vD)), some (.list (([] : List P2).map vD)), none, none, none] : Py.Env) = ret (vD h) := gIx_l (atI_nat (i := 0) rfl)
        rw [x_itZip, x_aCons, var_eq (d := .list ((h :: t).map vD)) rfl, bnd_ret', x_aCons, x_mkL, x_lDisp, x_aStar, e1, bnd_ret', x_seqD_l, bnd_ret', x_aCons, e2, bnd_ret', x_aNil, bnd_ret', bnd_ret', bnd_ret', if_pos (by simp at hlen; simp [lenOk]; omega), bnd_ret', bnd_ret', bnd_ret', bnd_ret', bnd_ret', zip2_2, x_seqD_l, bnd_ret', x_seqD_l, bnd_ret']
        rw [show t.map vD ++ [vD h] = (t ++ [h]).map vD by simp, zipD_v]
      rw [z, bnd_ret']
      exact hh
def sideD (W : List P2) (g : P2) : D := .tuple [.int (many W g : Nat), .int (-g.2), .int g.1]
def sB : Py.Env → M Out := (sApp 3 (eTup (aCons (eCall 3 F_many_on_side (aCons (eVar 2) (aCons (una gNeg (eVar 5)) (aCons (eVar 4) aNil)))) (aCons (una gNeg (eVar 5)) (aCons (eVar 4) aNil)))))
theorem sB_eq {W : List P2} {S : List D} {g : P2} {x0 x1 : Option D} (hW : ∀ w ∈ W, Bp 40 w) (hg : Bp 40 g) (hl : S.length ≤ 1000) : sB [x0, x1, some (.list (W.map vD)), some (.list S), some (.int g.1), some (.int g.2)] = ret (.nx [x0, x1, some (.list (W.map vD)), some (.list (S ++ [sideD W g])), some (.int g.1), some (.int g.2)]) := by
  have en : una gNeg (eVar 5) ([x0, x1, some (.list (W.map vD)), some (.list S), some (.int g.1), some (.int g.2)] : Py.Env) = ret (.int (-g.2)) := by
    rw [x_una, var_eq (d := .int g.2) rfl, bnd_ret', x_gNeg_i]
  have em : eCall 3 F_many_on_side (aCons (eVar 2) (aCons (una gNeg (eVar 5)) (aCons (eVar 4) aNil))) ([x0, x1, some (.list (W.map vD)), some (.list S), some (.int g.1), some (.int g.2)] : Py.Env) = ret (.int (many W g : Nat)) := by
    refine (eCall_3 (x := .list (W.map vD)) (y := .int (-g.2)) (z := .int g.1) _ ?_).trans ?_
    · rw [x_aCons, var_eq (d := .list (W.map vD)) rfl, bnd_ret', x_aCons, en, bnd_ret', x_aCons, var_eq (d := .int g.1) rfl, bnd_ret', x_aNil, bnd_ret', bnd_ret', bnd_ret']
    · rw [many_eq hW hg.2.neg hg.1, Int.neg_neg]
  have e : eTup (aCons (eCall 3 F_many_on_side (aCons (eVar 2) (aCons (una gNeg (eVar 5)) (aCons (eVar 4) aNil)))) (aCons (una gNeg (eVar 5)) (aCons (eVar 4) aNil))) ([x0, x1, some (.list (W.map vD)), some (.list S), some (.int g.1), some (.int g.2)] : Py.Env) = ret (sideD W g) := by
    rw [x_eTup, x_aCons, em, bnd_ret', x_aCons, en, bnd_ret', x_aCons, var_eq (d := .int g.1) rfl, bnd_ret', x_aNil, bnd_ret', bnd_ret', bnd_ret', bnd_ret', if_pos (by simp [lenOk])]
    rfl
  rw [sB]
  show bnd (ret (PyData.list S)) _ = _
  rw [bnd_ret', e, bnd_ret']
  show (if lenOk (S.length + 1) = true then _ else _) = _
  rw [if_pos (by simp [lenOk]; omega)]
  rfl
theorem s_loop {W : List P2} {x0 x1 : Option D} (hW : ∀ w ∈ W, Bp 40 w) : ∀ (G : List P2) (S : List D) (a b : Option D), (∀ g ∈ G, Bp 40 g) → S.length + G.length ≤ 1000 → ∃ a' b', forW (tgTup 2 (tgsCons (tgN 4) (tgsCons (tgN 5) tgsNil))) sB (G.map vD) [x0, x1, some (.list (W.map vD)), some (.list S), a, b] = ret (.nx [x0, x1, some (.list (W.map vD)), some (.list (S ++ G.map (sideD W))), a', b'])
  | [], S, a, b, _, _ => ⟨a, b, by simp; rfl⟩
  | g :: G, S, a, b, hG, hl => by
    rw [List.length_cons] at hl
    obtain ⟨a', b', h⟩ := s_loop (W := W) (x0 := x0) (x1 := x1) hW G (S ++ [sideD W g]) (some (.int g.1)) (some (.int g.2)) (fun x hx => hG x (List.mem_cons_of_mem _ hx)) (by simp; omega)
    refine ⟨a', b', ?_⟩
    rw [List.map_cons, forW_cons]
    show bnd (ret [x0, x1, some (.list (W.map vD)), some (.list S), some (.int g.1), some (.int g.2)]) _ = _
    rw [bnd_ret', sB_eq hW (hG g (by simp)) (by omega), bnd_ret', oLoop_nx, h]
    simp
theorem rnd_B : ∀ (W R : List P2), (∀ x ∈ R, Bp 30 x) → (∀ w ∈ W, Bp 30 w) → ∀ x ∈ W.foldl stepR R, Bp 30 x := by
  have step : ∀ {R : List P2} {w : P2}, (∀ x ∈ R, Bp 30 x) → Bp 30 w → ∀ x ∈ stepR R w, Bp 30 x := by
    intro R w hR hw
    have pB : ∀ {w : P2}, Nz w → Bp 30 w → Bp 30 (prim w) := by
      intro w hn h
      obtain ⟨k, hk, e, -⟩ := prim_spec hn
      have e1 : w.1 = k * (prim w).1 := congrArg Prod.fst e
      have e2 : w.2 = k * (prim w).2 := congrArg Prod.snd e
      obtain ⟨h1, h2⟩ := h
      unfold B at h1 h2
      rw [e1, Int.natAbs_mul] at h1
      rw [e2, Int.natAbs_mul] at h2
      have : 1 ≤ k.natAbs := by omega
      have a1 : 1 * (prim w).1.natAbs ≤ k.natAbs * (prim w).1.natAbs := Nat.mul_le_mul_right _ this
      have a2 : 1 * (prim w).2.natAbs ≤ k.natAbs * (prim w).2.natAbs := Nat.mul_le_mul_right _ this
      exact ⟨by unfold B; omega, by unfold B; omega⟩
    unfold stepR
    split
    · exact hR
    · rename_i h
      have nw : Nz w := h
      intro x hx
      rcases mem_putW.mp hx with q | q
      · rcases mem_putW.mp q with q | q
        · exact hR x q
        · rw [q]; exact pB nw hw
      · rw [q]; exact pB (neg_ne nw) (neg_B hw)
  intro W
  induction W with
  | nil => intro R hR _; exact hR
  | cons w W ih => intro R hR hW; exact ih _ (step hR (hW w (by simp))) fun x hx => hW x (List.mem_cons_of_mem _ hx)
theorem gaps_facts {W : List P2} (hW : ∀ w ∈ W, Bp 30 w) : (∀ g ∈ gapsR (rnd W), Bp 31 g ∧ Nz g) ∧ (gapsR (rnd W)).length = max 1 (rnd W).length := by
  have r := rnd_ok W
  have hB : ∀ x ∈ rnd W, Bp 30 x := rnd_B W [] (by simp) hW
  cases hR : rnd W with
  | nil => simp [gapsR, Bp, B, Nz]
  | cons h t =>
    rw [hR] at hB r
    refine ⟨fun g hg => ?_, by simp [gapsR] <;> omega⟩
    obtain ⟨p, hp, rfl⟩ := List.mem_map.mp hg
    obtain ⟨a1, a2, a3⟩ := adj_zip r.srt rfl p hp
    refine ⟨?_, gap_nz r a1 a2 a3⟩
    obtain ⟨b1, b2⟩ := hB p.1 a1
    obtain ⟨b3, b4⟩ := hB p.2 a2
    unfold gapd
    split
    · exact ⟨b2.neg.mono (by decide), b1.mono (by decide)⟩
    · exact ⟨b1.add b3, b2.add b4⟩
theorem sides_eq {L : List P2} {p : P2 × P2} (h : PlOk p) (hL : ∀ a ∈ L, Bp 10 a) (hW : ∀ w ∈ waysP L p, Bp 30 w) (hl : L.length ≤ 100) : F_sides_told [.tuple (L.map vD), plD p] = ret (.list ((gapsR (rnd (waysP L p))).map (sideD (waysP L p)))) := by
  refine fn_rt (env := [some (.tuple (L.map vD)), some (plD p), none, none, none, none]) rfl ?_
  have W40 : ∀ w ∈ waysP L p, Bp 40 w := fun w hw => ⟨(hW w hw).1.mono (by decide), (hW w hw).2.mono (by decide)⟩
  have wl : (waysP L p).length = L.length := by simp [waysP]
  obtain ⟨gf, gl⟩ := gaps_facts hW
  have rl : (rnd (waysP L p)).length ≤ 2 * (waysP L p).length := by
    have : ∀ (V R : List P2), (V.foldl stepR R).length ≤ R.length + 2 * V.length := by
      intro V
      induction V with
      | nil => intro R; simp
      | cons v V ih =>
        intro R
        have := ih (stepR R v)
        have := stepR_len R v
        simp only [List.foldl_cons, List.length_cons]
        omega
    have := this (waysP L p) []
    simpa [rnd] using this
  have c0 : eCall 2 F_ways_from (aCons (eVar 0) (aCons (eVar 1) aNil)) ([some (.tuple (L.map vD)), some (plD p), none, none, none, none] : Py.Env) = ret (.list ((waysP L p).map vD)) := (eCall_2 _ (args_2 rfl rfl)).trans (ways_eq h hL)
  rw [b_sides_told, seq_nx (ρ' := [some (.tuple (L.map vD)), some (plD p), some (.list ((waysP L p).map vD)), some (.list []), none, none])]
  · obtain ⟨a', b', hh⟩ := s_loop (W := waysP L p) (x0 := some (.tuple (L.map vD))) (x1 := some (plD p)) W40 (gapsR (rnd (waysP L p))) [] none none (fun g hg => ⟨(gf g hg).1.1.mono (by decide), (gf g hg).1.2.mono (by decide)⟩) (by rw [gl]; simp only [List.length_nil]; omega)
    rw [seq_nx (ρ' := [some (.tuple (L.map vD)), some (plD p), some (.list ((waysP L p).map vD)), some (.list ([] ++ (gapsR (rnd (waysP L p))).map (sideD (waysP L p)))), a', b'])]
    · rfl
    · rw [x_sFor, x_itSeq, (eCall_1 (ρ := [some (.tuple (L.map vD)), some (plD p), some (.list ((waysP L p).map vD)), some (.list []), none, none]) F_ways_between (args_1 rfl)).trans (between_eq W40 (by omega)), bnd_ret', x_seqD_l, bnd_ret']
      exact hh
  · show bnd (eCall 2 F_ways_from (aCons (eVar 0) (aCons (eVar 1) aNil)) ([some (.tuple (L.map vD)), some (plD p), none, none, none, none] : Py.Env)) _ = _
    rw [c0, bnd_ret']
    rfl
def mD (W : List P2) (g : P2) : D := .int (many W g : Nat)
theorem minD_gen {f : P2 → D} {W : List P2} (lt : ∀ a b : P2, many W a ≠ many W b → PySem.W.dataLt (f a) (f b) = decide (many W a < many W b)) : ∀ (S : List P2) (g : P2), ∃ g' ∈ g :: S, PySem.W.minD (f g) (S.map f) = f g' ∧ ∀ x ∈ g :: S, many W g' ≤ many W x
  | [], g => ⟨g, by simp, rfl, fun x hx => by rw [List.mem_singleton.mp hx]; omega⟩
  | y :: S, g => by
    have key : PySem.W.minD (f g) ((y :: S).map f) = PySem.W.minD (if PySem.W.dataLt (f y) (f g) then f y else f g) (S.map f) := rfl
    by_cases e : many W y = many W g
    · by_cases t : PySem.W.dataLt (f y) (f g) = true
      · obtain ⟨g', h1, h2, h3⟩ := minD_gen lt S y
        refine ⟨g', List.mem_cons_of_mem _ h1, by rw [key, if_pos t, h2], fun x hx => ?_⟩
        rcases List.mem_cons.mp hx with rfl | hx
        · have := h3 y (by simp); omega
        · exact h3 x hx
      · obtain ⟨g', h1, h2, h3⟩ := minD_gen lt S g
        refine ⟨g', ?_, by rw [key, if_neg t, h2], fun x hx => ?_⟩
        · rcases List.mem_cons.mp h1 with q | q
          · rw [q]; simp
          · simp [q]
        · rcases List.mem_cons.mp hx with rfl | hx
          · exact h3 x (by simp)
          · rcases List.mem_cons.mp hx with rfl | hx
            · have := h3 g (by simp); omega
            · exact h3 x (by simp [hx])
    · have l := lt y g e
      by_cases t : many W y < many W g
      · obtain ⟨g', h1, h2, h3⟩ := minD_gen lt S y
        refine ⟨g', List.mem_cons_of_mem _ h1, by rw [key, if_pos (by rw [l]; simpa using t), h2], fun x hx => ?_⟩
        rcases List.mem_cons.mp hx with rfl | hx
        · have := h3 y (by simp); omega
        · exact h3 x hx
      · obtain ⟨g', h1, h2, h3⟩ := minD_gen lt S g
        refine ⟨g', ?_, by rw [key, if_neg (by rw [l]; simpa using t), h2], fun x hx => ?_⟩
        · rcases List.mem_cons.mp h1 with q | q
          · rw [q]; simp
          · simp [q]
        · rcases List.mem_cons.mp hx with rfl | hx
          · exact h3 x (by simp)
          · rcases List.mem_cons.mp hx with rfl | hx
            · have := h3 g (by simp); omega
            · exact h3 x (by simp [hx])
theorem lt_m {W : List P2} (a b : P2) (h : many W a ≠ many W b) : PySem.W.dataLt (mD W a) (mD W b) = decide (many W a < many W b) := by
  rw [mD, mD, PySem.W.dataLt_int]
  simp
theorem lt_side {W : List P2} (a b : P2) (h : many W a ≠ many W b) : PySem.W.dataLt (sideD W a) (sideD W b) = decide (many W a < many W b) := by
  rw [sideD, sideD, PySem.W.dataLt_tuple, PySem.W.dataLt_all_no (by rfl) (by rw [eqv_int]; simp; omega), PySem.W.dataLt_int]
  simp
theorem alls_of' {f : P2 → D} {G : List P2} (h1 : ∀ g, shp (f g) = true) (h2 : ∀ g, isNonD (f g) = false) (h3 : ∀ a b, PySem.W.alike (f a) (f b) = true) : alls (G.map f) = true := by
  unfold alls
  rw [List.all_eq_true]
  intro x hx
  obtain ⟨a, ha, rfl⟩ := List.mem_map.mp hx
  rw [h1, h2, Bool.not_false, Bool.true_and, Bool.true_and]
  exact List.all_eq_true.mpr fun y hy => by
    obtain ⟨b, hb, rfl⟩ := List.mem_map.mp hy
    exact h3 a b
theorem alls_m (W G : List P2) : alls (G.map (mD W)) = true := alls_of' (fun g => shp_int _) (fun g => rfl) fun a b => rfl
theorem alls_side (W G : List P2) : alls (G.map (sideD W)) = true := alls_of' (fun g => shp_intsT [_, _, _]) (fun g => rfl) fun a b => by
  show PySem.W.alike (.tuple _) (.tuple _) = true
  simp [PySem.W.alike, PySem.W.alikeAll]
theorem tg3 {i j k : Nat} {a b c : D} {ρ : Py.Env} : tgTup 3 (tgsCons (tgN i) (tgsCons (tgN j) (tgsCons (tgN k) tgsNil))) (.tuple [a, b, c]) ρ = ret (((ρ.set i (some a)).set j (some b)).set k (some c)) := rfl
/-- the least of the gaps' numbers is the depth -/
theorem gaps_depth {W : List P2} {g' : P2} (hg : g' ∈ gapsR (rnd W)) (hm : ∀ x ∈ gapsR (rnd W), many W g' ≤ many W x) : IsDepth W (many W g') := by
  have r := rnd_ok W
  cases hR : rnd W with
  | nil =>
    rw [hR] at hg r
    obtain ⟨h0, hd⟩ := depth_zero r rfl
    have : many W g' = W.length := by
      unfold many
      rw [List.countP_eq_length]
      intro w hw
      rw [h0 w hw, turn_zero]; decide
    rw [this]; exact hd
  | cons h t =>
    rw [hR] at hg hm r
    have adj := adj_zip r.srt rfl
    have zl : ((h :: t).zip (t ++ [h])).map (·.1) = h :: t := by
      rw [List.map_fst_zip]
      simp
    have val : ∀ p ∈ (h :: t).zip (t ++ [h]), many W (gapd (h :: t) p.1 p.2) = fF W p.1 := fun p hp => by
      obtain ⟨a1, a2, a3⟩ := adj p hp
      exact gap_many r a1 a2 a3
    obtain ⟨p, hp, rfl⟩ := List.mem_map.mp hg
    refine depth_rnd r (by simp) (fun c hc => ?_) ⟨p.1, (adj p hp).1, val p hp⟩
    rw [← zl] at hc
    obtain ⟨q, hq, rfl⟩ := List.mem_map.mp hc
    rw [← val q hq]
    exact hm _ (List.mem_map.mpr ⟨q, hq, rfl⟩)
theorem ways_B {L : List P2} {p : P2 × P2} (h : PlOk p) (hL : ∀ a ∈ L, Bp 10 a) : ∀ w ∈ waysP L p, Bp 30 w := by
  intro w hw
  obtain ⟨a, ha, rfl⟩ := List.mem_map.mp hw
  obtain ⟨b1, b2, b3, b4, b5, b6⟩ := by_B h
  have bb : B 7 (byP p) := by unfold B; omega
  have bx : B 4 ((byP p).fdiv p.1.2) := by unfold B; omega
  have by' : B 4 ((byP p).fdiv p.2.2) := by unfold B; omega
  have h1 := ((hL a ha).1.mul bb).mono (m := 17) (by decide)
  have h2 := ((hL a ha).2.mul bb).mono (m := 17) (by decide)
  have h3 := (h.s.mul bx).mono (m := 17) (by decide)
  have h4 := (h.u.mul by').mono (m := 17) (by decide)
  exact ⟨(h1.sub h3).mono (by decide), (h2.sub h4).mono (by decide)⟩
theorem depth_fns {L : List P2} {p : P2 × P2} (h : PlOk p) (hL : ∀ a ∈ L, Bp 10 a) (hl : L.length ≤ 100) : ∃ (m : Nat) (s : P2), IsDepth (waysP L p) m ∧ F_depth_of [.tuple (L.map vD), plD p] = ret (.int (m : Nat)) ∧ F_least_side [.tuple (L.map vD), plD p] = ret (vD s) ∧ Nz s ∧ Bp 31 s ∧ many (waysP L p) (s.2, -s.1) = m := by
  have hW := ways_B h hL
  have se := sides_eq h hL hW hl
  obtain ⟨gf, gl⟩ := gaps_facts hW
  obtain ⟨W, eW⟩ : ∃ W, W = waysP L p := ⟨_, rfl⟩
  rw [← eW] at se hW gf gl ⊢
  obtain ⟨G, eG⟩ : ∃ G, G = gapsR (rnd W) := ⟨_, rfl⟩
  have gd : ∀ {g' : P2}, g' ∈ G → (∀ x ∈ G, many W g' ≤ many W x) → IsDepth W (many W g') := fun a b => gaps_depth (eG ▸ a) (eG ▸ b)
  rw [← eG] at se gf gl
  cases G with
  | nil => rw [List.length_nil] at gl; omega
  | cons g S =>
    obtain ⟨g1, a1, a2, a3⟩ := minD_gen (f := mD W) lt_m S g
    obtain ⟨g2, b1, b2, b3⟩ := minD_gen (f := sideD W) lt_side S g
    have d1 := gd a1 a3
    have d2 := gd b1 b3
    have eq := d2.uniq d1
    refine ⟨many W g1, (-g2.2, g2.1), d1, ?_, ?_, ?_, ⟨(gf g2 b1).1.2.neg, (gf g2 b1).1.1⟩, ?_⟩
    · refine fn_rt (env := [some (.tuple (L.map vD)), some (plD p), none, none, none]) rfl ?_
      have cs : eCall 2 F_sides_told (aCons (eVar 0) (aCons (eVar 1) aNil)) ([some (.tuple (L.map vD)), some (plD p), none, none, none] : Py.Env) = ret (.list ((g :: S).map (sideD W))) := (eCall_2 _ (args_2 rfl rfl)).trans se
      rw [b_depth_of, x_sRet, x_cal, x_aCons, comp_all (sideD W) (mD W) (g :: S) (by rw [x_itSeq, cs, bnd_ret', x_seqD_l]) (fun x hx => ⟨_, tg3, rfl⟩), bnd_ret', x_aNil, bnd_ret', bnd_ret']
      have : cBest PySem.W.minD [.list ((g :: S).map (mD W))] = ret (mD W g1) := by
        show (if alls (mD W g :: S.map (mD W)) = true then ret (PySem.W.minD (mD W g) (S.map (mD W))) else stuck) = _
        have al : alls (mD W g :: S.map (mD W)) = true := alls_m W (g :: S)
        rw [if_pos al, a2]
      rw [this, bnd_ret']
      rfl
    · refine fn_rt (env := [some (.tuple (L.map vD)), some (plD p), none, none, none]) rfl ?_
      have cs : eCall 2 F_sides_told (aCons (eVar 0) (aCons (eVar 1) aNil)) ([some (.tuple (L.map vD)), some (plD p), none, none, none] : Py.Env) = ret (.list ((g :: S).map (sideD W))) := (eCall_2 _ (args_2 rfl rfl)).trans se
      have : cBest PySem.W.minD [.list ((g :: S).map (sideD W))] = ret (sideD W g2) := by
        show (if alls (sideD W g :: S.map (sideD W)) = true then ret (PySem.W.minD (sideD W g) (S.map (sideD W))) else stuck) = _
        have al : alls (sideD W g :: S.map (sideD W)) = true := alls_side W (g :: S)
        rw [if_pos al, b2]
      rw [b_least_side, x_sSeq, x_sTgt, x_cal, x_aCons, cs, bnd_ret', x_aNil, bnd_ret', bnd_ret', this, bnd_ret', sideD, tg3, bnd_ret', bnd_ret', oThen_nx, x_sRet, eTup_2 (x := .int (-g2.2)) (y := .int g2.1) rfl rfl, bnd_ret']
      rfl
    · intro e
      apply (gf g2 b1).2
      rw [Prod.mk.injEq] at e
      obtain ⟨x, y⟩ := g2
      simp only at e
      rw [Prod.mk.injEq]; omega
    · show many W (g2.1, - -g2.2) = many W g1
      rw [Int.neg_neg, ← eq]
end L93
namespace L93
open PySem hiding ret
open Py L2
theorem tg2' {i j : Nat} {w : P2} {ρ : Py.Env} : tgTup 2 (tgsCons (tgN i) (tgsCons (tgN j) tgsNil)) (vD w) ρ = ret ((ρ.set i (some (.int w.1))).set j (some (.int w.2))) := rfl
theorem gGt0 (i j : Int) : gGt (.int i) (.int j) = ret (.bool (decide (i > j))) := rfl
/-! ### lowest terms -/
def lowB : Py.Env → M Out := (sPar 2 3 (aCons (eVar 3) (aCons (bin gMod (cal cInt (aCons (eVar 2) aNil)) (eVar 3)) aNil)))
def lowT : Py.Env → M Bool := (tst (bin gGt (eVar 3) (eC (.int 0))))
theorem low_loop {x0 x1 : Option D} {q : Int} (hq : 0 < q) : ∀ (n fuel : Nat) (a b : Int), 0 ≤ b → b ≤ n → n < fuel → b ≤ q → (b = 0 → 0 < a ∧ a ≤ q) → ∃ a', 0 < a' ∧ a' ≤ q ∧ whW lowT lowB fuel [x0, x1, some (.int a), some (.int b)] = ret (.nx [x0, x1, some (.int a'), some (.int 0)])
  | n, 0, a, b, _, _, h, _, _ => absurd h (by omega)
  | n, fuel + 1, a, b, hb, hn, hf, hbq, ha => by
    have t : lowT [x0, x1, some (.int a), some (.int b)] = ret (decide (b > 0)) := tst_b (by rw [x_bin, var_eq (d := .int b) rfl, bnd_ret', x_eC, bnd_ret', gGt0])
    show ∃ a', _ ∧ _ ∧ bnd (lowT [x0, x1, some (.int a), some (.int b)]) (fun z => if z = true then bnd (lowB [x0, x1, some (.int a), some (.int b)]) fun o => oLoop o (whW lowT lowB fuel) else ret (.nx [x0, x1, some (.int a), some (.int b)])) = _
    rw [t, bnd_ret']
    by_cases h : b > 0
    · have md : modOk a b = true := by simp [modOk]; omega
      have e : lowB [x0, x1, some (.int a), some (.int b)] = ret (.nx [x0, x1, some (.int b), some (.int (a.fmod b))]) := by
        have em : bin gMod (cal cInt (aCons (eVar 2) aNil)) (eVar 3) ([x0, x1, some (.int a), some (.int b)] : Py.Env) = ret (.int (a.fmod b)) := by
          show gMod (.int a) (.int b) = _
          show (if modOk a b = true then ret (PyData.int (a.fmod b)) else stuck) = _
          rw [if_pos md]
        rw [lowB, x_sPar, x_aCons, var_eq (d := .int b) rfl, bnd_ret', x_aCons, em, bnd_ret', x_aNil, bnd_ret', bnd_ret', bnd_ret', par2_2]
        rfl
      have m1 : 0 ≤ a.fmod b := by rw [Int.fmod_eq_emod_of_nonneg _ (by omega)]; exact Int.emod_nonneg _ (by omega)
      have m2 : a.fmod b < b := Int.fmod_lt_of_pos _ h
      obtain ⟨a', h1, h2, h3⟩ := low_loop (x0 := x0) (x1 := x1) hq (n - 1) fuel b (a.fmod b) m1 (by omega) (by omega) (by omega) (fun _ => ⟨h, hbq⟩)
      refine ⟨a', h1, h2, ?_⟩
      rw [decide_eq_true h, if_pos rfl, e, bnd_ret', oLoop_nx, h3]
    · have b0 : b = 0 := by omega
      obtain ⟨a1, a2⟩ := ha b0
      refine ⟨a, a1, a2, ?_⟩
      rw [decide_eq_false h, if_neg (by decide), b0]
theorem lawlow_eq {p q : Int} (hp : B 10 p) (h0 : 0 < q) (h1 : q ≤ 10) : ∃ s t : Int, 0 < t ∧ t ≤ 10 ∧ B 12 s ∧ F__law_low [.int p, .int q] = ret (vD (s, t)) := by
  have ap : 0 ≤ (if p < 0 then -p else p) := by split <;> omega
  obtain ⟨a, a1, a2, e⟩ := low_loop (x0 := some (.int p)) (x1 := some (.int q)) h0 10 200 (if p < 0 then -p else p) q (by omega) (by omega) (by decide) (by omega) (fun z => by omega)
  have ba : B 5 a := by unfold B; omega
  have dv : ∀ x, divOk x a = true := fun x => divB (ba.bd (by decide)) (by omega)
  have e1 : ∀ x : Int, x.fdiv a = x / a := fun x => Int.fdiv_eq_ediv_of_nonneg _ (by omega)
  refine ⟨p.fdiv a, q.fdiv a, ?_, ?_, ?_, ?_⟩
  · rw [e1]
    have := (Int.le_ediv_iff_mul_le (a := 1) (b := q) (c := a) a1).mpr (by omega)
    omega
  · rw [e1]
    have := Int.ediv_le_self (a := q) a (by omega)
    omega
  · rw [e1]
    have := Int.natAbs_ediv_le_natAbs p a
    unfold B at *
    omega
  · refine fn_rt (env := [some (.int p), some (.int q), none, none]) rfl ?_
    rw [b__law_low, seq_nx (ρ' := [some (.int p), some (.int q), some (.int (if p < 0 then -p else p)), some (.int q)])]
    · refine Eq.trans (seq_nx (f := sWhile (fun _ => 200) lowT lowB) (ρ' := [some (.int p), some (.int q), some (.int a), some (.int 0)]) e) ?_
      rw [x_sRet, x_eIf, tst_b (b := true), bnd_ret', if_pos rfl, eTup_2 (x := .int (p.fdiv a)) (y := .int (q.fdiv a)), bnd_ret']
      · rfl
      · show gFdiv (.int p) (.int a) = _
        rw [fdiv_i, if_pos (dv _)]
      · show gFdiv (.int q) (.int a) = _
        rw [fdiv_i, if_pos (dv _)]
      · show gGt (.int q) (.int 0) = _
        rw [gGt0, decide_eq_true h0]
    · have ab : ∀ (x : Int) (i : Nat), ([some (.int p), some (.int q), none, none] : Py.Env)[i]? = some (some (.int x)) → cal cAbs (aCons (eVar i) aNil) ([some (.int p), some (.int q), none, none] : Py.Env) = ret (.int (if x < 0 then -x else x)) := fun x i h => by
        rw [x_cal, args_1 h, bnd_ret', x_cAbs_i]
      rw [x_sPar, x_aCons, ab p 0 rfl, bnd_ret', x_aCons, ab q 1 rfl, bnd_ret', x_aNil, bnd_ret', bnd_ret', bnd_ret', par2_2, if_neg (show ¬ q < 0 by omega)]
      rfl
/-! ### the law's ways, depth and count -/
theorem scale_of {p : P2 × P2} (h : PlOk p) : ∃ g : Int, 0 < g ∧ g ≤ 10 ∧ ∀ L : List P2, (waysP L p).map (scl g) = L.map fun a => (a.1 * p.1.2 * p.2.2 - p.1.1 * p.2.2, a.2 * p.1.2 * p.2.2 - p.2.1 * p.1.2) := by
  obtain ⟨g, t, v, hg, ht, hv, e1, e2, e3, e4, e5, e6⟩ := by_spec h
  refine ⟨g, hg, ?_, fun L => ?_⟩
  · have := h.t1
    have : g * 1 ≤ g * t := Int.mul_le_mul_of_nonneg_left (by omega) (by omega)
    omega
  · rw [waysP, List.map_map]
    apply List.map_congr_left
    intro a _
    simp only [Function.comp_apply, scl]
    rw [e4, e5, e3, e1, e2]
    rw [Prod.mk.injEq]
    constructor <;> grind
theorem lways_eq {L : List P2} {p : P2 × P2} (h : PlOk p) (hL : ∀ a ∈ L, Bp 10 a) : F__law_ways [.tuple (L.map vD), plD p] = ret (.list ((L.map fun a => (a.1 * p.1.2 * p.2.2 - p.1.1 * p.2.2, a.2 * p.1.2 * p.2.2 - p.2.1 * p.1.2)).map vD)) := by
  refine fn_rt (env := [some (.tuple (L.map vD)), some (plD p), none, none, none, none, none, none]) rfl ?_
  have bt : B 4 p.1.2 := by have := h.t0; have := h.t1; unfold B; omega
  have bv : B 4 p.2.2 := by have := h.v0; have := h.v1; unfold B; omega
  rw [b__law_ways, seq_nx (ρ' := [some (.tuple (L.map vD)), some (plD p), some (.int p.1.1), some (.int p.1.2), some (.int p.2.1), some (.int p.2.2), none, none]) (by rfl)]
  rw [x_sRet, comp_all vD (fun a => vD (a.1 * p.1.2 * p.2.2 - p.1.1 * p.2.2, a.2 * p.1.2 * p.2.2 - p.2.1 * p.1.2)) L (by rfl) ?_, bnd_ret', List.map_map]
  · rfl
  · intro a ha
    refine ⟨_, tg2', ?_⟩
    obtain ⟨b1, b2⟩ := hL a ha
    have m1 := mulq b1 bt
    have m2 := mulq (b1.mul bt) bv
    have m3 := mulq h.s bv
    have m4 := mulq b2 bt
    have m5 := mulq (b2.mul bt) bv
    have m6 := mulq h.u bt
    refine eTup_2 ?_ ?_
    · simp only [x_bin, x_eVar, x_wipeD_cons, x_wipeD_nil, List.set_cons_succ, List.set_cons_zero, List.getElem?_cons_succ, List.getElem?_cons_zero, Option.getD_some, optM_some, bnd_ret', x_gMulX_i, m1, m2, m3, if_true, x_gI_i]
    · simp only [x_bin, x_eVar, x_wipeD_cons, x_wipeD_nil, List.set_cons_succ, List.set_cons_zero, List.getElem?_cons_succ, List.getElem?_cons_zero, Option.getD_some, optM_some, bnd_ret', x_gMulX_i, m4, m5, m6, if_true, x_gI_i]
theorem fF_split (W : List P2) (d : P2) : W.length = W.countP (fun w => decide (w = (0, 0))) + (W.filter fun w => !decide (w = (0, 0))).length ∧ fF W d = W.countP (fun w => decide (w = (0, 0))) + ((W.filter fun w => !decide (w = (0, 0))).filter fun w => decide (0 < turn d w)).length + ((W.filter fun w => !decide (w = (0, 0))).filter fun w => (decide (turn d w = 0) && decide (dotp d w < 0))).length := by
  unfold fF
  induction W with
  | nil => simp
  | cons w W ih =>
    obtain ⟨i1, i2⟩ := ih
    by_cases z : w = (0, 0)
    · have a1 : after d w = true := after_iff.mpr (.inl z)
      refine ⟨by simp [z]; omega, ?_⟩
      rw [List.countP_cons, List.countP_cons, a1, i2]
      simp only [z, decide_true, if_true, Bool.not_true, List.filter_cons, Bool.false_eq_true, if_false]
      omega
    · refine ⟨by simp [z]; omega, ?_⟩
      rw [List.countP_cons, List.countP_cons, i2]
      simp only [z, decide_false, Bool.false_eq_true, if_false, Bool.not_false, List.filter_cons, if_true]
      by_cases t : 0 < turn d w
      · have a1 : after d w = true := after_iff.mpr (.inr (.inl t))
        have t0 : ¬ turn d w = 0 := by omega
        simp only [a1, t, t0, decide_true, decide_false, Bool.false_and, if_true, Bool.false_eq_true, if_false, List.length_cons]
        omega
      · by_cases q : turn d w = 0 ∧ dotp d w < 0
        · have a1 : after d w = true := after_iff.mpr (.inr (.inr q))
          simp only [a1, t, q.1, q.2, decide_true, decide_false, Bool.and_self, if_true, Bool.false_eq_true, if_false, List.length_cons]
          simp
          omega
        · have a1 : after d w = false := by
            rw [Bool.eq_false_iff]
            intro h
            rcases after_iff.mp h with h | h | h
            · exact z h
            · exact t h
            · exact q h
          have q' : (decide (turn d w = 0) && decide (dotp d w < 0)) = false := by
            rw [Bool.and_eq_false_iff]
            by_cases h : turn d w = 0
            · right; exact decide_eq_false fun h2 => q ⟨h, h2⟩
            · left; exact decide_eq_false h
          simp only [a1, t, q', decide_false, Bool.false_eq_true, if_false]
          omega
def dB : Py.Env → M Out := (sSeq (sAsg 7 (cal cLen (aCons (mkL (eLc (itSeq (eVar 2)) (tgTup 2 (tgsCons (tgN 10) (tgsCons (tgN 11) tgsNil))) (tst (bin gGt (bin gSub (bin gMulX (eVar 5) (eVar 11)) (bin gMulX (eVar 6) (eVar 10))) (eC (.int 0)))) (eC (.int 1)) [10, 11])) aNil)))
  (sSeq (sAsg 8 (cal cLen (aCons (mkL (eLc (itSeq (eVar 2)) (tgTup 2 (tgsCons (tgN 10) (tgsCons (tgN 11) tgsNil))) (bAnd (tst (bin gEq (bin gSub (bin gMulX (eVar 5) (eVar 11)) (bin gMulX (eVar 6) (eVar 10))) (eC (.int 0)))) (tst (bin gLt (bin gAdd (bin gMulX (eVar 5) (eVar 10)) (bin gMulX (eVar 6) (eVar 11))) (eC (.int 0))))) (eC (.int 1)) [10, 11])) aNil)))
  (sAsg 4 (cal cMin2 (aCons (eVar 4) (aCons (bin gAdd (bin gAdd (eVar 3) (eVar 7)) (eVar 8)) aNil))))))
theorem dB_eq {W : List P2} {d : P2} {z b : Nat} {x0 x1 x7 x8 x9 : Option D} (hW : ∀ w ∈ W, Bp 40 w) (hd : Bp 40 d) : dB [x0, x1, some (.list (W.map vD)), some (.int (z : Nat)), some (.int (b : Nat)), some (.int d.1), some (.int d.2), x7, x8, x9, none, none] = ret (.nx [x0, x1, some (.list (W.map vD)), some (.int (z : Nat)), some (.int (min b (z + (W.filter fun w => decide (0 < turn d w)).length + (W.filter fun w => (decide (turn d w = 0) && decide (dotp d w < 0))).length) : Nat)), some (.int d.1), some (.int d.2), some (.int ((W.filter fun w => decide (0 < turn d w)).length : Nat)), some (.int ((W.filter fun w => (decide (turn d w = 0) && decide (dotp d w < 0))).length : Nat)), x9, none, none]) := by
  have c1 : cal cLen (aCons (mkL (eLc (itSeq (eVar 2)) (tgTup 2 (tgsCons (tgN 10) (tgsCons (tgN 11) tgsNil))) (tst (bin gGt (bin gSub (bin gMulX (eVar 5) (eVar 11)) (bin gMulX (eVar 6) (eVar 10))) (eC (.int 0)))) (eC (.int 1)) [10, 11])) aNil) ([x0, x1, some (.list (W.map vD)), some (.int (z : Nat)), some (.int (b : Nat)), some (.int d.1), some (.int d.2), x7, x8, x9, none, none] : Py.Env) = ret (.int ((W.filter fun w => decide (0 < turn d w)).length : Nat)) := by
    rw [x_cal, x_aCons, comp_map vD (fun w => decide (0 < turn d w)) (fun _ => .int 1) W (by rfl) ?_, bnd_ret', x_aNil, bnd_ret', bnd_ret', x_cLen_l, List.length_map]
    intro w hw
    refine ⟨_, tg2', ?_, fun _ => rfl⟩
    obtain ⟨w1, w2⟩ := hW w hw
    have m1 := mulq hd.1 w2
    have m2 := mulq hd.2 w1
    refine tst_b ?_
    simp only [x_bin, x_eVar, x_eC, x_wipeD_cons, x_wipeD_nil, List.set_cons_succ, List.set_cons_zero, List.getElem?_cons_succ, List.getElem?_cons_zero, Option.getD_some, optM_some, bnd_ret', x_gMulX_i, m1, m2, if_true, x_gI_i]
    rfl
  have c2 : cal cLen (aCons (mkL (eLc (itSeq (eVar 2)) (tgTup 2 (tgsCons (tgN 10) (tgsCons (tgN 11) tgsNil))) (bAnd (tst (bin gEq (bin gSub (bin gMulX (eVar 5) (eVar 11)) (bin gMulX (eVar 6) (eVar 10))) (eC (.int 0)))) (tst (bin gLt (bin gAdd (bin gMulX (eVar 5) (eVar 10)) (bin gMulX (eVar 6) (eVar 11))) (eC (.int 0))))) (eC (.int 1)) [10, 11])) aNil) ([x0, x1, some (.list (W.map vD)), some (.int (z : Nat)), some (.int (b : Nat)), some (.int d.1), some (.int d.2), some (.int ((W.filter fun w => decide (0 < turn d w)).length : Nat)), x8, x9, none, none] : Py.Env) = ret (.int ((W.filter fun w => (decide (turn d w = 0) && decide (dotp d w < 0))).length : Nat)) := by
    rw [x_cal, x_aCons, comp_map vD (fun w => (decide (turn d w = 0) && decide (dotp d w < 0))) (fun _ => .int 1) W (by rfl) ?_, bnd_ret', x_aNil, bnd_ret', bnd_ret', x_cLen_l, List.length_map]
    intro w hw
    refine ⟨_, tg2', ?_, fun _ => rfl⟩
    obtain ⟨w1, w2⟩ := hW w hw
    have m1 := mulq hd.1 w2
    have m2 := mulq hd.2 w1
    have m3 := mulq hd.1 w1
    have m4 := mulq hd.2 w2
    have t1 : bin gEq (bin gSub (bin gMulX (eVar 5) (eVar 11)) (bin gMulX (eVar 6) (eVar 10))) (eC (.int 0)) ([x0, x1, some (.list (W.map vD)), some (.int (z : Nat)), some (.int (b : Nat)), some (.int d.1), some (.int d.2), some (.int ((W.filter fun w => decide (0 < turn d w)).length : Nat)), x8, x9, some (.int w.1), some (.int w.2)] : Py.Env) = ret (.bool (decide (turn d w = 0))) := by
      simp only [x_bin, x_eVar, x_eC, List.getElem?_cons_succ, List.getElem?_cons_zero, Option.getD_some, optM_some, bnd_ret', x_gMulX_i, m1, m2, if_true, x_gI_i]
      simp only [gEq, shp_int, Bool.and_self, if_true, eqv_int]
      rfl
    have t2 : bin gLt (bin gAdd (bin gMulX (eVar 5) (eVar 10)) (bin gMulX (eVar 6) (eVar 11))) (eC (.int 0)) ([x0, x1, some (.list (W.map vD)), some (.int (z : Nat)), some (.int (b : Nat)), some (.int d.1), some (.int d.2), some (.int ((W.filter fun w => decide (0 < turn d w)).length : Nat)), x8, x9, some (.int w.1), some (.int w.2)] : Py.Env) = ret (.bool (decide (dotp d w < 0))) := by
      simp only [x_bin, x_eVar, x_eC, List.getElem?_cons_succ, List.getElem?_cons_zero, Option.getD_some, optM_some, bnd_ret', x_gMulX_i, m3, m4, if_true, x_gAdd_i]
      rfl
    show bAnd _ _ ([x0, x1, some (.list (W.map vD)), some (.int (z : Nat)), some (.int (b : Nat)), some (.int d.1), some (.int d.2), some (.int ((W.filter fun w => decide (0 < turn d w)).length : Nat)), x8, x9, some (.int w.1), some (.int w.2)] : Py.Env) = _
    rw [x_bAnd, tst_b t1, bnd_ret', tst_b t2]
    cases decide (turn d w = 0) <;> rfl
  rw [dB, asg_nx c1]
  show (sSeq (sAsg 8 _) _) [x0, x1, some (.list (W.map vD)), some (.int (z : Nat)), some (.int (b : Nat)), some (.int d.1), some (.int d.2), some (.int ((W.filter fun w => decide (0 < turn d w)).length : Nat)), x8, x9, none, none] = _
  rw [asg_nx c2]
  generalize (W.filter fun w => decide (0 < turn d w)).length = l
  generalize (W.filter fun w => (decide (turn d w = 0) && decide (dotp d w < 0))).length = h
  show ret (Out.nx [x0, x1, some (.list (W.map vD)), some (.int (z : Nat)), some (.int (if (z : Int) + (l : Nat) + (h : Nat) < (b : Nat) then (z : Int) + (l : Nat) + (h : Nat) else (b : Nat))), some (.int d.1), some (.int d.2), some (.int (l : Nat)), some (.int (h : Nat)), x9, none, none]) = _
  have : (if (z : Int) + (l : Nat) + (h : Nat) < (b : Nat) then (z : Int) + (l : Nat) + (h : Nat) else ((b : Nat) : Int)) = ((min b (z + l + h) : Nat) : Int) := by
    split <;> omega
  rw [this]
theorem gSub_i (i j : Int) : gSub (.int i) (.int j) = ret (.int (i - j)) := rfl
def nzs (W : List P2) : List P2 := W.filter fun w => !decide (w = (0, 0))
def zs (W : List P2) : Nat := W.countP fun w => decide (w = (0, 0))
theorem d_loop {W : List P2} {x0 x1 : Option D} (hW : ∀ w ∈ nzs W, Bp 40 w) : ∀ (S : List P2) (b : Nat) (x5 x6 x7 x8 x9 : Option D), (∀ d ∈ S, Bp 40 d) →
    ∃ y5 y6 y7 y8, forW (tgTup 2 (tgsCons (tgN 5) (tgsCons (tgN 6) tgsNil))) dB (S.map vD) [x0, x1, some (.list ((nzs W).map vD)), some (.int (zs W : Nat)), some (.int (b : Nat)), x5, x6, x7, x8, x9, none, none] = ret (.nx [x0, x1, some (.list ((nzs W).map vD)), some (.int (zs W : Nat)), some (.int ((S.foldl (fun b d => min b (fF W d)) b) : Nat)), y5, y6, y7, y8, x9, none, none])
  | [], b, x5, x6, x7, x8, x9, _ => ⟨x5, x6, x7, x8, rfl⟩
  | d :: S, b, x5, x6, x7, x8, x9, hS => by
    obtain ⟨y5, y6, y7, y8, h⟩ := d_loop (x0 := x0) (x1 := x1) hW S (min b (fF W d)) (some (.int d.1)) (some (.int d.2)) (some (.int (((nzs W).filter fun w => decide (0 < turn d w)).length : Nat))) (some (.int (((nzs W).filter fun w => (decide (turn d w = 0) && decide (dotp d w < 0))).length : Nat))) x9 fun y hy => hS y (List.mem_cons_of_mem _ hy)
    refine ⟨y5, y6, y7, y8, ?_⟩
    rw [List.map_cons, forW_cons, tg2', bnd_ret']
    show bnd (dB [x0, x1, some (.list ((nzs W).map vD)), some (.int (zs W : Nat)), some (.int (b : Nat)), some (.int d.1), some (.int d.2), x7, x8, x9, none, none]) _ = _
    rw [dB_eq hW (hS d (by simp)), bnd_ret', oLoop_nx]
    have e := (fF_split W d).2
    rw [List.foldl_cons]
    rw [show zs W + ((nzs W).filter fun w => decide (0 < turn d w)).length + ((nzs W).filter fun w => (decide (turn d w = 0) && decide (dotp d w < 0))).length = fF W d from e.symm]
    exact h
theorem fold_min {f : P2 → Nat} : ∀ (S : List P2) (b : Nat), (S.foldl (fun b d => min b (f d)) b ≤ b) ∧ (∀ d ∈ S, S.foldl (fun b d => min b (f d)) b ≤ f d) ∧ (S.foldl (fun b d => min b (f d)) b = b ∨ ∃ d ∈ S, S.foldl (fun b d => min b (f d)) b = f d)
  | [], b => ⟨Nat.le_refl _, by simp, .inl rfl⟩
  | d :: S, b => by
    obtain ⟨h1, h2, h3⟩ := fold_min (f := f) S (min b (f d))
    simp only [List.foldl_cons]
    refine ⟨by omega, fun x hx => ?_, ?_⟩
    · rcases List.mem_cons.mp hx with rfl | hx
      · omega
      · exact h2 x hx
    · rcases h3 with h3 | ⟨x, hx, h3⟩
      · by_cases q : b ≤ f d
        · left; omega
        · right; exact ⟨d, by simp, by omega⟩
      · right; exact ⟨x, List.mem_cons_of_mem _ hx, h3⟩
theorem ldepth_is (W : List P2) : IsDepth W ((nzs W ++ (nzs W).map neg).foldl (fun b d => min b (fF W d)) W.length) := by
  obtain ⟨h1, h2, h3⟩ := fold_min (f := fF W) (nzs W ++ (nzs W).map neg) W.length
  have mem : ∀ w, w ∈ nzs W ↔ w ∈ W ∧ Nz w := fun w => by
    unfold nzs
    rw [List.mem_filter]
    simp [Nz]
  generalize (nzs W ++ (nzs W).map neg).foldl (fun b d => min b (fF W d)) W.length = m at *
  refine ⟨fun w hw nw => ⟨h2 w (List.mem_append_left _ ((mem w).mpr ⟨hw, nw⟩)), h2 (neg w) (List.mem_append_right _ (List.mem_map.mpr ⟨w, (mem w).mpr ⟨hw, nw⟩, rfl⟩))⟩, ?_⟩
  by_cases e : nzs W = []
  · right
    rw [e] at h3
    refine ⟨fun w hw => Classical.byContradiction fun nw => ?_, ?_⟩
    · have := (mem w).mpr ⟨hw, nw⟩
      rw [e] at this; cases this
    · rcases h3 with h3 | ⟨d, hd, _⟩
      · exact h3
      · simp at hd
  · left
    obtain ⟨w0, h0⟩ := List.exists_mem_of_ne_nil _ e
    rcases h3 with h3 | ⟨d, hd, h3⟩
    · obtain ⟨a, b⟩ := (mem w0).mp h0
      refine ⟨w0, a, b, .inl ?_⟩
      have := h2 w0 (List.mem_append_left _ h0)
      have : fF W w0 ≤ W.length := List.countP_le_length
      omega
    · rcases List.mem_append.mp hd with q | q
      · obtain ⟨a, b⟩ := (mem d).mp q
        exact ⟨d, a, b, .inl h3⟩
      · obtain ⟨w, hw, rfl⟩ := List.mem_map.mp q
        obtain ⟨a, b⟩ := (mem w).mp hw
        exact ⟨w, a, b, .inr h3⟩
theorem depth_unmap {W : List P2} {g : Int} (hg : 0 < g) {m : Nat} (h : IsDepth (W.map (scl g)) m) : IsDepth W m := by
  have e1 : ∀ w, fF (W.map (scl g)) (scl g w) = fF W w := fun w => by rw [fF_map hg, fF_scl hg]
  have e2 : ∀ w, fF (W.map (scl g)) (neg (scl g w)) = fF W (neg w) := fun w => by rw [← scl_neg, fF_map hg, fF_scl hg]
  have nz : ∀ w, Nz (scl g w) ↔ Nz w := fun w => not_congr (scl_zero hg)
  refine ⟨fun w hw nw => ?_, ?_⟩
  · have := h.le (scl g w) (List.mem_map.mpr ⟨w, hw, rfl⟩) ((nz w).mpr nw)
    rwa [e1, e2] at this
  · rcases h.ex with ⟨v, hv, nv, q⟩ | ⟨q, q'⟩
    · obtain ⟨w, hw, rfl⟩ := List.mem_map.mp hv
      rw [e1, e2] at q
      exact .inl ⟨w, hw, (nz w).mp nv, q⟩
    · right
      refine ⟨fun w hw => (scl_zero hg).mp (q _ (List.mem_map.mpr ⟨w, hw, rfl⟩)), ?_⟩
      rw [q', List.length_map]
def lawW (L : List P2) (p : P2 × P2) : List P2 := L.map fun a => (a.1 * p.1.2 * p.2.2 - p.1.1 * p.2.2, a.2 * p.1.2 * p.2.2 - p.2.1 * p.1.2)
theorem lawW_B {L : List P2} {p : P2 × P2} (h : PlOk p) (hL : ∀ a ∈ L, Bp 10 a) : ∀ w ∈ lawW L p, Bp 30 w := by
  intro w hw
  obtain ⟨a, ha, rfl⟩ := List.mem_map.mp hw
  have bt : B 4 p.1.2 := by have := h.t0; have := h.t1; unfold B; omega
  have bv : B 4 p.2.2 := by have := h.v0; have := h.v1; unfold B; omega
  obtain ⟨b1, b2⟩ := hL a ha
  have h1 := ((b1.mul bt).mul bv).mono (m := 18) (by decide)
  have h2 := ((b2.mul bt).mul bv).mono (m := 18) (by decide)
  have h3 := (h.s.mul bv).mono (m := 18) (by decide)
  have h4 := (h.u.mul bt).mono (m := 18) (by decide)
  exact ⟨(h1.sub h3).mono (by decide), (h2.sub h4).mono (by decide)⟩
theorem ldepth_eq {L : List P2} {p : P2 × P2} (h : PlOk p) (hL : ∀ a ∈ L, Bp 10 a) (hl : L.length ≤ 100) : ∃ m : Nat, IsDepth (waysP L p) m ∧ F__law_depth [.tuple (L.map vD), plD p] = ret (.int (m : Nat)) := by
  obtain ⟨g, hg, _, hs⟩ := scale_of h
  have eW : (waysP L p).map (scl g) = lawW L p := hs L
  have hB := lawW_B h hL
  have wl : (lawW L p).length = L.length := by simp [lawW]
  have lw := lways_eq h hL
  rw [show (L.map fun a => (a.1 * p.1.2 * p.2.2 - p.1.1 * p.2.2, a.2 * p.1.2 * p.2.2 - p.2.1 * p.1.2)) = lawW L p from rfl] at lw
  refine ⟨(nzs (lawW L p) ++ (nzs (lawW L p)).map neg).foldl (fun b d => min b (fF (lawW L p) d)) (lawW L p).length, depth_unmap hg (by rw [eW]; exact ldepth_is _), ?_⟩
  generalize lawW L p = W at *
  have hn : ∀ w ∈ nzs W, Bp 40 w := fun w hw => by
    have := hB w (List.mem_filter.mp hw).1
    exact ⟨this.1.mono (by decide), this.2.mono (by decide)⟩
  refine fn_rt (env := [some (.tuple (L.map vD)), some (plD p), none, none, none, none, none, none, none, none, none, none]) rfl ?_
  have cw : eCall 2 F__law_ways (aCons (eVar 0) (aCons (eVar 1) aNil)) ([some (.tuple (L.map vD)), some (plD p), none, none, none, none, none, none, none, none, none, none] : Py.Env) = ret (.list (W.map vD)) := (eCall_2 _ (args_2 rfl rfl)).trans lw
  have c2 : mkL (eLc (itSeq (eCall 2 F__law_ways (aCons (eVar 0) (aCons (eVar 1) aNil)))) (tgN 9) (tst (bin gNe (eVar 9) (eTup (aCons (eC (.int 0)) (aCons (eC (.int 0)) aNil))))) (eVar 9) [9]) ([some (.tuple (L.map vD)), some (plD p), none, none, none, none, none, none, none, none, none, none] : Py.Env) = ret (.list ((nzs W).map vD)) :=
    comp_map vD (fun w => !decide (w = (0, 0))) vD W (by rw [x_itSeq, cw, bnd_ret', x_seqD_l]) fun w hw => ⟨_, rfl, tst_b (gNe_v w (0, 0)), fun _ => rfl⟩
  have lsplit := (fF_split W (0, 0)).1
  rw [b__law_depth, asg_nx c2]
  rw [seq_nx (ρ' := [some (.tuple (L.map vD)), some (plD p), some (.list ((nzs W).map vD)), some (.int (zs W : Nat)), some (.int (W.length : Nat)), none, none, none, none, none, none, none])]
  · obtain ⟨y5, y6, y7, y8, hh⟩ := d_loop (W := W) (x0 := some (.tuple (L.map vD))) (x1 := some (plD p)) hn (nzs W ++ (nzs W).map neg) W.length none none none none none (fun d hd => by
      rcases List.mem_append.mp hd with q | q
      · exact hn d q
      · obtain ⟨w, hw, rfl⟩ := List.mem_map.mp q
        exact neg_B (hn w hw))
    refine Eq.trans (seq_nx (f := sFor _ _ dB) (ρ' := [some (.tuple (L.map vD)), some (plD p), some (.list ((nzs W).map vD)), some (.int (zs W : Nat)), some (.int (((nzs W ++ (nzs W).map neg).foldl (fun b d => min b (fF W d)) W.length : Nat) : Int)), y5, y6, y7, y8, none, none, none]) ?_) (by rfl)
    have cn : mkL (eLc (itSeq (eVar 2)) (tgTup 2 (tgsCons (tgN 5) (tgsCons (tgN 6) tgsNil))) cYes (eTup (aCons (bin gSub (eC (.int 0)) (eVar 5)) (aCons (bin gSub (eC (.int 0)) (eVar 6)) aNil))) [5, 6]) ([some (.tuple (L.map vD)), some (plD p), some (.list ((nzs W).map vD)), some (.int (zs W : Nat)), some (.int (W.length : Nat)), none, none, none, none, none, none, none] : Py.Env) = ret (.list (((nzs W).map neg).map vD)) := by
      rw [comp_all vD (fun w => vD (neg w)) (nzs W) (by rfl) fun w hw => ⟨_, tg2', by
        refine (eTup_2 (x := .int (0 - w.1)) (y := .int (0 - w.2)) rfl rfl).trans ?_
        rw [Int.zero_sub, Int.zero_sub]
        rfl⟩, List.map_map]
      rfl
    rw [x_sFor, x_itSeq, x_bin, var_eq (d := .list ((nzs W).map vD)) rfl, bnd_ret', cn, bnd_ret', x_gAdd_l, if_pos, bnd_ret', x_seqD_l, bnd_ret', ← List.map_append]
    · exact hh
    · have : (nzs W).length ≤ W.length := List.length_filter_le _ _
      simp [lenOk]; omega
  · have q1 : cal cLen (aCons (eVar 0) aNil) (([some (.tuple (L.map vD)), some (plD p), none, none, none, none, none, none, none, none, none, none] : Py.Env).set 2 (some (.list ((nzs W).map vD)))) = ret (.int (W.length : Nat)) := by
      rw [x_cal, args_1 (x := .tuple (L.map vD)) rfl, bnd_ret', x_cLen_t, List.length_map, wl]
    have q2 : cal cLen (aCons (eVar 2) aNil) (([some (.tuple (L.map vD)), some (plD p), none, none, none, none, none, none, none, none, none, none] : Py.Env).set 2 (some (.list ((nzs W).map vD)))) = ret (.int ((nzs W).length : Nat)) := by
      rw [x_cal, args_1 (x := .list ((nzs W).map vD)) rfl, bnd_ret', x_cLen_l, List.length_map]
    rw [x_sPar, x_aCons, x_bin, q1, bnd_ret', q2, bnd_ret', gSub_i, bnd_ret', x_aCons, q1, bnd_ret', x_aNil, bnd_ret', bnd_ret', bnd_ret', par2_2]
    have : ((W.length : Nat) : Int) - ((nzs W).length : Nat) = (zs W : Nat) := by
      have e : W.length = zs W + (nzs W).length := lsplit
      omega
    rw [this]
    rfl
/-! ### counts -/
theorem side_eq {L : List P2} {p : P2 × P2} {a b : Int} (h : PlOk p) (hL : ∀ a ∈ L, Bp 10 a) (ha : B 40 a) (hb : B 40 b) : F_side_count [.tuple (L.map vD), plD p, .int a, .int b] = ret (.int (many (waysP L p) (b, -a) : Nat)) := by
  refine fn_rt (env := [some (.tuple (L.map vD)), some (plD p), some (.int a), some (.int b)]) rfl ?_
  have W40 : ∀ w ∈ waysP L p, Bp 40 w := fun w hw => ⟨((ways_B h hL w hw).1).mono (by decide), ((ways_B h hL w hw).2).mono (by decide)⟩
  have cw : eCall 2 F_ways_from (aCons (eVar 0) (aCons (eVar 1) aNil)) ([some (.tuple (L.map vD)), some (plD p), some (.int a), some (.int b)] : Py.Env) = ret (.list ((waysP L p).map vD)) := (eCall_2 _ (args_2 rfl rfl)).trans (ways_eq h hL)
  rw [b_side_count, x_sRet, eCall_3 (x := .list ((waysP L p).map vD)) (y := .int a) (z := .int b), many_eq W40 ha hb, bnd_ret']
  rw [x_aCons, cw, bnd_ret', args_2 (x := .int a) (y := .int b) rfl rfl, bnd_ret']
def cB : Py.Env → M Out := (sAsg 8 (bin gAdd (eVar 8) (cal cInt (aCons (bin gGe (bin gMulX (bin gMulX (bin gAdd (bin gMulX (eVar 2) (eVar 9)) (bin gMulX (eVar 3) (eVar 10))) (eVar 5)) (eVar 7)) (bin gAdd (bin gMulX (bin gMulX (eVar 2) (eVar 4)) (eVar 7)) (bin gMulX (bin gMulX (eVar 3) (eVar 6)) (eVar 5)))) aNil))))
theorem c_loop {p : P2 × P2} {a b : Int} {x0 x1 : Option D} (h : PlOk p) (ha : B 40 a) (hb : B 40 b) : ∀ (L : List P2) (k : Nat) (x9 x10 : Option D), (∀ a ∈ L, Bp 10 a) →
    ∃ y9 y10, forW (tgTup 2 (tgsCons (tgN 9) (tgsCons (tgN 10) tgsNil))) cB (L.map vD) [x0, x1, some (.int a), some (.int b), some (.int p.1.1), some (.int p.1.2), some (.int p.2.1), some (.int p.2.2), some (.int (k : Nat)), x9, x10] = ret (.nx [x0, x1, some (.int a), some (.int b), some (.int p.1.1), some (.int p.1.2), some (.int p.2.1), some (.int p.2.2), some (.int ((k + many (lawW L p) (b, -a) : Nat) : Int)), y9, y10])
  | [], k, x9, x10, _ => ⟨x9, x10, by simp [lawW, many]; rfl⟩
  | q :: L, k, x9, x10, hL => by
    have bt : B 4 p.1.2 := by have := h.t0; have := h.t1; unfold B; omega
    have bv : B 4 p.2.2 := by have := h.v0; have := h.v1; unfold B; omega
    obtain ⟨b1, b2⟩ := hL q (by simp)
    obtain ⟨y9, y10, hh⟩ := c_loop (x0 := x0) (x1 := x1) h ha hb L (k + (if 0 ≤ turn (b, -a) (q.1 * p.1.2 * p.2.2 - p.1.1 * p.2.2, q.2 * p.1.2 * p.2.2 - p.2.1 * p.1.2) then 1 else 0)) (some (.int q.1)) (some (.int q.2)) fun y hy => hL y (List.mem_cons_of_mem _ hy)
    refine ⟨y9, y10, ?_⟩
    rw [List.map_cons, forW_cons, tg2', bnd_ret']
    have m1 := mulq ha b1
    have m2 := mulq hb b2
    have m3 := mulq (((ha.mul b1).mono (m := 60) (by decide)).add ((hb.mul b2).mono (m := 60) (by decide))) bt
    have m4 := mulq ((((ha.mul b1).mono (m := 60) (by decide)).add ((hb.mul b2).mono (m := 60) (by decide))).mul bt) bv
    have m5 := mulq ha h.s
    have m6 := mulq (ha.mul h.s) bv
    have m7 := mulq hb h.u
    have m8 := mulq (hb.mul h.u) bt
    have key : cB [x0, x1, some (.int a), some (.int b), some (.int p.1.1), some (.int p.1.2), some (.int p.2.1), some (.int p.2.2), some (.int (k : Nat)), some (.int q.1), some (.int q.2)] = ret (.nx [x0, x1, some (.int a), some (.int b), some (.int p.1.1), some (.int p.1.2), some (.int p.2.1), some (.int p.2.2), some (.int ((k + (if 0 ≤ turn (b, -a) (q.1 * p.1.2 * p.2.2 - p.1.1 * p.2.2, q.2 * p.1.2 * p.2.2 - p.2.1 * p.1.2) then 1 else 0) : Nat) : Int)), some (.int q.1), some (.int q.2)]) := by
      have eg : bin gGe (bin gMulX (bin gMulX (bin gAdd (bin gMulX (eVar 2) (eVar 9)) (bin gMulX (eVar 3) (eVar 10))) (eVar 5)) (eVar 7)) (bin gAdd (bin gMulX (bin gMulX (eVar 2) (eVar 4)) (eVar 7)) (bin gMulX (bin gMulX (eVar 3) (eVar 6)) (eVar 5))) ([x0, x1, some (.int a), some (.int b), some (.int p.1.1), some (.int p.1.2), some (.int p.2.1), some (.int p.2.2), some (.int (k : Nat)), some (.int q.1), some (.int q.2)] : Py.Env) = ret (.bool (decide ((a * q.1 + b * q.2) * p.1.2 * p.2.2 ≥ a * p.1.1 * p.2.2 + b * p.2.1 * p.1.2))) := by
        simp only [x_bin, x_eVar, List.getElem?_cons_succ, List.getElem?_cons_zero, Option.getD_some, optM_some, bnd_ret', x_gMulX_i, m1, m2, m3, m4, m5, m6, m7, m8, if_true, x_gAdd_i]
        rfl
      have et : ((a * q.1 + b * q.2) * p.1.2 * p.2.2 ≥ a * p.1.1 * p.2.2 + b * p.2.1 * p.1.2) ↔ 0 ≤ turn (b, -a) (q.1 * p.1.2 * p.2.2 - p.1.1 * p.2.2, q.2 * p.1.2 * p.2.2 - p.2.1 * p.1.2) := by
        have : turn (b, -a) (q.1 * p.1.2 * p.2.2 - p.1.1 * p.2.2, q.2 * p.1.2 * p.2.2 - p.2.1 * p.1.2) = (a * q.1 + b * q.2) * p.1.2 * p.2.2 - (a * p.1.1 * p.2.2 + b * p.2.1 * p.1.2) := by simp only [turn]; grind
        omega
      rw [cB, x_sAsg, x_bin, var_eq (d := .int (k : Nat)) rfl, bnd_ret', x_cal, x_aCons, eg, bnd_ret', x_aNil, bnd_ret', bnd_ret', x_cInt_b, bnd_ret', x_gAdd_i, bnd_ret']
      by_cases z : 0 ≤ turn (b, -a) (q.1 * p.1.2 * p.2.2 - p.1.1 * p.2.2, q.2 * p.1.2 * p.2.2 - p.2.1 * p.1.2)
      · rw [decide_eq_true (et.mpr z), if_pos rfl, if_pos z]
        rfl
      · rw [decide_eq_false (fun y => z (et.mp y)), if_neg (by decide), if_neg z]
        rfl
    show bnd (cB [x0, x1, some (.int a), some (.int b), some (.int p.1.1), some (.int p.1.2), some (.int p.2.1), some (.int p.2.2), some (.int (k : Nat)), some (.int q.1), some (.int q.2)]) _ = _
    rw [key, bnd_ret', oLoop_nx, hh]
    have : k + (if 0 ≤ turn (b, -a) (q.1 * p.1.2 * p.2.2 - p.1.1 * p.2.2, q.2 * p.1.2 * p.2.2 - p.2.1 * p.1.2) then 1 else 0) + many (lawW L p) (b, -a) = k + many (lawW (q :: L) p) (b, -a) := by
      unfold many lawW
      rw [List.map_cons, List.countP_cons]
      simp only [decide_eq_true_eq]
      omega
    rw [this]
theorem lcount_eq {L : List P2} {p : P2 × P2} {a b : Int} (h : PlOk p) (hL : ∀ a ∈ L, Bp 10 a) (ha : B 40 a) (hb : B 40 b) : F__law_count [.tuple (L.map vD), plD p, .int a, .int b] = ret (.int (many (waysP L p) (b, -a) : Nat)) := by
  obtain ⟨g, hg, _, hs⟩ := scale_of h
  have eW : (waysP L p).map (scl g) = lawW L p := hs L
  refine fn_rt (env := [some (.tuple (L.map vD)), some (plD p), some (.int a), some (.int b), none, none, none, none, none, none, none]) rfl ?_
  obtain ⟨y9, y10, hh⟩ := c_loop (x0 := some (.tuple (L.map vD))) (x1 := some (plD p)) h ha hb L 0 none none hL
  rw [b__law_count, seq_nx (ρ' := [some (.tuple (L.map vD)), some (plD p), some (.int a), some (.int b), some (.int p.1.1), some (.int p.1.2), some (.int p.2.1), some (.int p.2.2), none, none, none]) (by rfl)]
  rw [asg_nx (d := .int 0) rfl]
  refine Eq.trans (seq_nx (f := sFor _ _ cB) (ρ' := [some (.tuple (L.map vD)), some (plD p), some (.int a), some (.int b), some (.int p.1.1), some (.int p.1.2), some (.int p.2.1), some (.int p.2.2), some (.int ((0 + many (lawW L p) (b, -a) : Nat) : Int)), y9, y10]) ?_) ?_
  · rw [x_sFor, x_itSeq, var_eq (d := .tuple (L.map vD)) rfl, bnd_ret', x_seqD_t, bnd_ret']
    exact hh
  · rw [← eW, many_map hg, Nat.zero_add]
    rfl
theorem pick_1 {s : Nat} {m : Int} {e : Py.Env → M D} {ρ : Py.Env} {P : D → Prop} (h1 : ρ[s]? = some (some .none)) (he : e ρ = ret (.int m)) (h2 : 1 ≤ m) (h3 : m < 1073741824) (k : ∀ j : Int, 0 ≤ j → j < m → P (.int j)) : eCallS s 1 F__law_pick (aCons e aNil) ρ P := by
  by_cases z : 2 ≤ m
  · exact pick_c h1 he z h3 k
  · have m1 : m = 1 := by omega
    have e1 : eCallS s 1 F__law_pick (aCons e aNil) ρ = ret (.int 0) := by
      rw [eCallS, x_eVar, h1]
      show bnd (ret PyData.none) _ = _
      rw [bnd_ret', eCall_1 (x := .int m) _ (by rw [x_aCons, he, bnd_ret', x_aNil, bnd_ret'])]
      show (if m < 2 then ret (PyData.int 0) else if m < 1073741824 then anyBelow m else stuck) = _
      rw [if_pos (by omega)]
    rw [e1]
    exact k 0 (by omega) (by omega)
theorem fnS_c {m : Nat} {f : Py.Env → M Out} {ds : List D} {env : Py.Env} {P : D → Prop} (he : some .none :: (ds.map some ++ List.replicate m none) = env) (h : f env (fun o => outD o P)) : fnS m f ds P := by
  rw [x_fnS, he, bnd_app]
  exact h
theorem tgAB {i j : Nat} {a b : D} {ρ : Py.Env} : tgTup 2 (tgsCons (tgN i) (tgsCons (tgN j) tgsNil)) (.tuple [a, b]) ρ = ret ((ρ.set i (some a)).set j (some b)) := rfl
theorem aCons_app (a : Py.Env → M D) (r : Py.Env → M (List D)) (ρ : Py.Env) (P : List D → Prop) : aCons a r ρ P = a ρ (fun d => r ρ (fun ds => P (d :: ds))) := rfl
theorem lcN_app (i : Nat) (elt : Py.Env → M D) (ρ : Py.Env) (d : D) (ds : List D) (P : List D → Prop) : lcW (tgN i) cYes elt ρ (d :: ds) P = elt (ρ.set i (some d)) (fun y => lcW (tgN i) cYes elt ρ ds fun ys => P (y :: ys)) := rfl
/-- one of a list or a tuple -/
theorem of_c {s : Nat} {e : Py.Env → M D} {ρ : Py.Env} {P : D → Prop} {d : D} {xs : List D} (h1 : ρ[s]? = some (some .none)) (he : e ρ = ret d) (hd : d = .list xs ∨ d = .tuple xs) (hl : 1 ≤ xs.length) (h3 : xs.length < 1000) (k : ∀ x ∈ xs, P x) : eCallS s 1 F__law_of (aCons e aNil) ρ P := by
  have e1 : eCallS s 1 F__law_of (aCons e aNil) ρ = F__law_of [d] := by
    rw [eCallS, x_eVar, h1]
    show bnd (ret PyData.none) _ = _
    rw [bnd_ret', eCall_1 (x := d) _ (by rw [x_aCons, he, bnd_ret', x_aNil, bnd_ret'])]
  rw [e1]
  show eCallS 0 1 F__law_pick (aCons (cal cLen (aCons (eVar 1) aNil)) aNil) [some .none, some d] (fun j => gIx d j P)
  have cl : cal cLen (aCons (eVar 1) aNil) ([some .none, some d] : Py.Env) = ret (.int (xs.length : Nat)) := by
    rw [x_cal, args_1 (x := d) rfl, bnd_ret']
    rcases hd with rfl | rfl <;> rfl
  refine pick_1 rfl cl (by omega) (by omega) fun j h5 h6 => ?_
  obtain ⟨m, rfl⟩ : ∃ m : Nat, j = (m : Int) := ⟨j.toNat, by omega⟩
  have lm : m < xs.length := by omega
  have g : gIx d (.int (m : Int)) = ret (xs[m]) := by
    rcases hd with rfl | rfl
    · exact gIx_l (atI_nat (List.getElem?_eq_getElem lm))
    · exact gIx_t (atI_nat (List.getElem?_eq_getElem lm))
  rw [g]
  exact k _ (List.getElem_mem lm)
theorem B_lit {n : Nat} {x : Int} (h : x.natAbs ≤ 2 ^ n) : B n x := h
/-! ### a place -/
theorem place_ok {L : List P2} {P : D → Prop} (hL : ∀ a ∈ L, Bp 9 a) (h1 : 1 ≤ L.length) (h2 : L.length < 1000) (k : ∀ p, PlOk p → P (plD p)) : F__law_place [.tuple (L.map vD)] P := by
  refine fnS_c (env := [some .none, some (.tuple (L.map vD)), none, none, none, none, none, none]) rfl ?_
  have of1 : ∀ {Q : D → Prop}, (∀ a ∈ L, Q (vD a)) → eCallS 0 1 F__law_of (aCons (eVar 1) aNil) [some .none, some (.tuple (L.map vD)), none, none, none, none, none, none] Q := fun hq => of_c rfl (var_eq rfl) (.inr rfl) (by rw [List.length_map]; exact h1) (by rw [List.length_map]; exact h2) fun x hx => by
    obtain ⟨a, ha, rfl⟩ := List.mem_map.mp hx
    exact hq a ha
  have fin : ∀ (w : Int) (a b : P2), a ∈ L → b ∈ L → (sSeq (sIf (tst (bin gLt (eVar 2) (eC (.int 2)))) (sRet (cal cTup (aCons (mkL (eLc (itZip (aCons (eVar 3) (aCons (eIf (tst (bin gEq (eVar 2) (eC (.int 0)))) (eVar 4) (eVar 3)) aNil))) (tgTup 2 (tgsCons (tgN 5) (tgsCons (tgN 6) tgsNil))) cYes (eCall 2 F__law_low (aCons (bin gAdd (eVar 5) (eVar 6)) (aCons (eC (.int 2)) aNil))) [5, 6])) aNil))) sNx)
  (sRet (cal cTup (aCons (mkL (eLc (itSeq (eTup (aCons (eC (.int 0)) (aCons (eC (.int 1)) aNil)))) (tgN 7) cYes (eCall 2 F__law_low (aCons (bin gSub (eCallS 0 1 F__law_pick (aCons (eC (.int 41)) aNil)) (eC (.int 20))) (aCons (bin gAdd (eC (.int 1)) (eCallS 0 1 F__law_pick (aCons (eC (.int 6)) aNil))) aNil))) [7])) aNil)))) [some .none, some (.tuple (L.map vD)), some (.int w), some (vD a), some (vD b), none, none, none] (fun o => outD o P) := by
    intro w a b ha hb
    have t1 : bin gLt (eVar 2) (eC (.int 2)) ([some .none, some (.tuple (L.map vD)), some (.int w), some (vD a), some (vD b), none, none, none] : Py.Env) = ret (.bool (decide (w < 2))) := rfl
    rw [x_sSeq, x_sIf, tst_b t1, bnd_ret']
    by_cases z : w < 2
    · rw [decide_eq_true z, if_pos rfl]
      obtain ⟨c, hc, ec⟩ : ∃ c, c ∈ L ∧ (eIf (tst (bin gEq (eVar 2) (eC (.int 0)))) (eVar 4) (eVar 3)) ([some .none, some (.tuple (L.map vD)), some (.int w), some (vD a), some (vD b), none, none, none] : Py.Env) = ret (vD c) := by
        have t2 : bin gEq (eVar 2) (eC (.int 0)) ([some .none, some (.tuple (L.map vD)), some (.int w), some (vD a), some (vD b), none, none, none] : Py.Env) = ret (.bool (decide (w = 0))) := by
          show gEq (.int w) (.int 0) = _
          simp only [gEq, shp_int, Bool.and_self, if_true, eqv_int]
        by_cases y : w = 0
        · exact ⟨b, hb, by rw [x_eIf, tst_b t2, bnd_ret', decide_eq_true y, if_pos rfl]; rfl⟩
        · exact ⟨a, ha, by rw [x_eIf, tst_b t2, bnd_ret', decide_eq_false y, if_neg (by decide)]; rfl⟩
      obtain ⟨s1, t1, p1, p2, p3, p4⟩ := lawlow_eq (p := a.1 + c.1) (q := 2) ((hL a ha).1.add (hL c hc).1) (by decide) (by decide)
      obtain ⟨s2, t2, q1, q2, q3, q4⟩ := lawlow_eq (p := a.2 + c.2) (q := 2) ((hL a ha).2.add (hL c hc).2) (by decide) (by decide)
      have zz : itZip (aCons (eVar 3) (aCons (eIf (tst (bin gEq (eVar 2) (eC (.int 0)))) (eVar 4) (eVar 3)) aNil)) ([some .none, some (.tuple (L.map vD)), some (.int w), some (vD a), some (vD b), none, none, none] : Py.Env) = ret ([(a.1, c.1, s1, t1), (a.2, c.2, s2, t2)].map fun q => .tuple [.int q.1, .int q.2.1]) := by
        rw [x_itZip, args_c (x := vD a) rfl ec, bnd_ret', zip2_2]
        rfl
      have cm := comp_all (its := itZip (aCons (eVar 3) (aCons (eIf (tst (bin gEq (eVar 2) (eC (.int 0)))) (eVar 4) (eVar 3)) aNil))) (tg := tgTup 2 (tgsCons (tgN 5) (tgsCons (tgN 6) tgsNil))) (vs := [5, 6]) (elt := eCall 2 F__law_low (aCons (bin gAdd (eVar 5) (eVar 6)) (aCons (eC (.int 2)) aNil))) (fun q : Int × Int × Int × Int => .tuple [.int q.1, .int q.2.1]) (fun q => vD (q.2.2.1, q.2.2.2)) [(a.1, c.1, s1, t1), (a.2, c.2, s2, t2)] zz (by
        intro q hq
        refine ⟨_, tgAB, (eCall_2 (x := .int (q.1 + q.2.1)) (y := .int 2) _ (by rfl)).trans ?_⟩
        simp only [List.mem_cons, List.not_mem_nil, or_false] at hq
        rcases hq with rfl | rfl
        · exact p4
        · exact q4)
      rw [x_sRet, x_cal, x_aCons, cm]
      exact k ((s1, t1), (s2, t2)) ⟨p1, p2, q1, q2, p3, q3⟩
    · rw [decide_eq_false z, if_neg (by decide), x_sNx, bnd_ret', oThen_nx]
      have one : ∀ {Q : D → Prop} {ρ : Py.Env}, ρ[0]? = some (some .none) → (∀ s t : Int, 0 < t → t ≤ 10 → B 12 s → Q (vD (s, t))) → eCall 2 F__law_low (aCons (bin gSub (eCallS 0 1 F__law_pick (aCons (eC (.int 41)) aNil)) (eC (.int 20))) (aCons (bin gAdd (eC (.int 1)) (eCallS 0 1 F__law_pick (aCons (eC (.int 6)) aNil))) aNil)) ρ Q := by
        intro Q ρ h0 hq
        show eCallS 0 1 F__law_pick (aCons (eC (.int 41)) aNil) ρ (fun x => gSub x (.int 20) fun y => eCallS 0 1 F__law_pick (aCons (eC (.int 6)) aNil) ρ fun u => gAdd (.int 1) u fun v => F__law_low [y, v] Q)
        refine pick_c h0 rfl (by decide) (by decide) fun j j0 j1 => ?_
        show eCallS 0 1 F__law_pick (aCons (eC (.int 6)) aNil) ρ fun u => gAdd (.int 1) u fun v => F__law_low [.int (j - 20), v] Q
        refine pick_c h0 rfl (by decide) (by decide) fun i i0 i1 => ?_
        show F__law_low [.int (j - 20), .int (1 + i)] Q
        obtain ⟨s, t, p1, p2, p3, p4⟩ := lawlow_eq (p := j - 20) (q := 1 + i) (by unfold B; omega) (by omega) (by omega)
        rw [p4]
        exact hq s t p1 p2 p3
      show lcW (tgN 7) cYes (eCall 2 F__law_low (aCons (bin gSub (eCallS 0 1 F__law_pick (aCons (eC (.int 41)) aNil)) (eC (.int 20))) (aCons (bin gAdd (eC (.int 1)) (eCallS 0 1 F__law_pick (aCons (eC (.int 6)) aNil))) aNil))) [some .none, some (.tuple (L.map vD)), some (.int w), some (vD a), some (vD b), none, none, none] [.int 0, .int 1] (fun ds => P (.tuple ds))
      rw [lcN_app]
      refine one rfl fun s1 t1 p1 p2 p3 => ?_
      rw [lcN_app]
      refine one rfl fun s2 t2 q1 q2 q3 => ?_
      exact k ((s1, t1), (s2, t2)) ⟨p1, p2, q1, q2, p3, q3⟩
  rw [b__law_place, x_sSeq, bnd_app, x_sPar3, bnd_app]
  rw [aCons_app]
  refine pick_c rfl rfl (by decide) (by decide) fun j j0 j1 => ?_
  rw [aCons_app]
  refine of1 fun a ha => ?_
  rw [aCons_app]
  refine of1 fun b hb => ?_
  exact fin j a b ha hb
end L93
namespace L93
open PySem hiding ret
open Py L2
def o1 : Py.Env → M Out := (sParD 3 4 5 (bin gAdd (eVar 1) (eCallS 0 1 F__law_pick (aCons (bin gAdd (bin gSub (eVar 2) (eVar 1)) (eC (.int 1))) aNil))) (eCallS 0 1 F__law_pick (aCons (eC (.int 4)) aNil)))
def o2 : Py.Env → M Out := (sAsg 6 (eCallS 0 1 F__law_of (aCons (mkL (lDisp (aCons (eC (.int 3)) (aCons (eC (.int 6)) (aCons (eC (.int 20)) aNil))))) aNil)))
def o3 : Py.Env → M Out := (sAsg 7 (mkL (lDisp (aCons (eTup (aCons (eC (.int 0)) (aCons (eC (.int 5)) aNil))) (aCons (eTup (aCons (eC (.int 5)) (aCons (eC (.int 0)) aNil))) (aCons (eTup (aCons (eC (.int 3)) (aCons (eC (.int 4)) aNil))) (aCons (eTup (aCons (eC (.int 4)) (aCons (eC (.int 3)) aNil))) (aCons (eTup (aCons (una gNeg (eC (.int 3))) (aCons (eC (.int 4)) aNil))) (aCons (eTup (aCons (una gNeg (eC (.int 4))) (aCons (eC (.int 3)) aNil))) (aCons (eTup (aCons (eC (.int 3)) (aCons (una gNeg (eC (.int 4))) aNil))) (aCons (eTup (aCons (eC (.int 0)) (aCons (una gNeg (eC (.int 5))) aNil))) (aCons (eTup (aCons (una gNeg (eC (.int 5))) (aCons (eC (.int 0)) aNil))) (aCons (eTup (aCons (eC (.int 0)) (aCons (eC (.int 0)) aNil))) aNil)))))))))))))
def o4f1 : Py.Env → M Out := (sPar 9 10 (aCons (bin gSub (eCallS 0 1 F__law_pick (aCons (bin gAdd (bin gMulX (eC (.int 2)) (eVar 6)) (eC (.int 1))) aNil)) (eVar 6)) (aCons (bin gSub (eCallS 0 1 F__law_pick (aCons (bin gAdd (bin gMulX (eC (.int 2)) (eVar 6)) (eC (.int 1))) aNil)) (eVar 6)) aNil)))
def o4f2a : Py.Env → M Out := (sAsg 10 (eCallS 0 1 F__law_of (aCons (mkL (lDisp (aCons (eC (.int 0)) (aCons (eVar 9) (aCons (eC (.int 2)) aNil))))) aNil)))
def o4f2 : Py.Env → M Out := (sIf (tst (bin gEq (eVar 4) (eC (.int 1)))) o4f2a sNx)
def o4f3a : Py.Env → M Out := (sTgt (eCallS 0 1 F__law_of (aCons (eVar 7) aNil)) (tgTup 2 (tgsCons (tgN 9) (tgsCons (tgN 10) tgsNil))))
def o4f3 : Py.Env → M Out := (sIf (tst (bin gEq (eVar 4) (eC (.int 2)))) o4f3a sNx)
def o4f4a : Py.Env → M Out := (sDSet 5 (eTup (aCons (eVar 9) (aCons (eVar 10) aNil))) (eC (.int 0)))
def o4f4 : Py.Env → M Out := (sIf (tst (bin gLt (cal cLen (aCons (eVar 5) aNil)) (eVar 3))) o4f4a sNx)
def o4f : Py.Env → M Out := (sSeq o4f1 (sSeq o4f2 (sSeq o4f3 o4f4)))
def o4 : Py.Env → M Out := (sFor (itRng1 (aCons (bin gMulX (eC (.int 4)) (eVar 3)) aNil)) (tgN 8) o4f)
def o5fa : Py.Env → M Out := (sDSet 5 (eTup (aCons (bin gAdd (eC (.int 30)) (eVar 11)) (aCons (bin gFdiv (bin gMulX (eVar 11) (bin gAdd (eVar 11) (eC (.int 1)))) (eC (.int 2))) aNil))) (eC (.int 0)))
def o5f : Py.Env → M Out := (sIf (tst (bin gLt (cal cLen (aCons (eVar 5) aNil)) (eVar 3))) o5fa sNx)
def o5 : Py.Env → M Out := (sFor (itRng1 (aCons (eVar 3) aNil)) (tgN 11) o5f)
theorem b__law_lot_eq : b__law_lot = (sSeq o1 (sSeq o2 (sSeq o3 (sSeq o4 (sSeq o5 (sRet (cal cTup (aCons (mkL (eSrtD 5)) aNil)))))))) := rfl
/-- what stands in the dict: points -/
structure Pts (n : Nat) (K : List P2) : Prop where
  len : K.length ≤ n
  bd : ∀ a ∈ K, Bp 9 a
theorem putT_v (K : List P2) (x y : Int) : putT (K.map vD) [x, y] = (if (x, y) ∈ K then K else K ++ [(x, y)]).map vD := by
  unfold putT
  have e : ((K.map vD).any fun d => PyData.eqv d (.tuple ([x, y].map .int))) = decide ((x, y) ∈ K) := by
    rw [List.any_map, Bool.eq_iff_iff, List.any_eq_true, decide_eq_true_eq]
    have : ∀ a : P2, ((fun d => PyData.eqv d (.tuple ([x, y].map .int))) ∘ vD) a = decide (a = (x, y)) := fun a => eqv_v a (x, y)
    simp only [this, decide_eq_true_eq]
    exact ⟨fun ⟨a, h, e⟩ => e ▸ h, fun h => ⟨_, h, rfl⟩⟩
  rw [e]
  by_cases h : (x, y) ∈ K
  · rw [if_pos (decide_eq_true h), if_pos h]
  · rw [if_neg (by simpa using h), if_neg h, List.map_append]
    rfl
/-- found[x, y] = 0, if there is room -/
theorem put_pts {n : Nat} {K : List P2} (h : Pts n K) {x y : Int} (hl : K.length < n) (hx : B 9 x) (hy : B 9 y) : ∃ K', Pts n K' ∧ K.length ≤ K'.length ∧ 1 ≤ K'.length ∧ putT (K.map vD) [x, y] = K'.map vD := by
  rw [putT_v]
  by_cases z : (x, y) ∈ K
  · rw [if_pos z]
    refine ⟨K, h, Nat.le_refl _, ?_, rfl⟩
    cases K with
    | nil => cases z
    | cons a K => simp
  · rw [if_neg z]
    refine ⟨K ++ [(x, y)], ⟨by simp; omega, fun a ha => ?_⟩, by simp, by simp, rfl⟩
    rcases List.mem_append.mp ha with q | q
    · exact h.bd a q
    · rw [List.mem_singleton.mp q]; exact ⟨hx, hy⟩
theorem iff_set {ρ : Py.Env} {n : Nat} {K : List P2} {ke : Py.Env → M D} {x y : Int} (hρ : ρ.length = 12) (h5 : ρ[5]? = some (some (.list (K.map vD)))) (h3 : ρ[3]? = some (some (.int (n : Nat)))) (hk : ke ρ = ret (vD (x, y))) (h : Pts n K) (n10 : n ≤ 1000) (hx : B 9 x) (hy : B 9 y) : ∃ K', Pts n K' ∧ K.length ≤ K'.length ∧ (1 ≤ n → 1 ≤ K'.length) ∧ sIf (tst (bin gLt (cal cLen (aCons (eVar 5) aNil)) (eVar 3))) (sDSet 5 ke (eC (.int 0))) sNx ρ = ret (.nx (ρ.set 5 (some (.list (K'.map vD))))) := by
  have t : bin gLt (cal cLen (aCons (eVar 5) aNil)) (eVar 3) ρ = ret (.bool (decide (K.length < n))) := by
    rw [x_bin, x_cal, args_1 h5, bnd_ret', x_cLen_l, bnd_ret', var_eq h3, bnd_ret', List.length_map]
    show ret (PyData.bool (decide (((K.length : Nat) : Int) < (n : Nat)))) = _
    congr 2
    simp
  rw [x_sIf, tst_b t, bnd_ret']
  by_cases z : K.length < n
  · obtain ⟨K', k1, k2, k3, k4⟩ := put_pts h z hx hy
    refine ⟨K', k1, k2, fun _ => k3, ?_⟩
    rw [decide_eq_true z, if_pos rfl]
    have : sDSet 5 ke (eC (.int 0)) ρ = bnd (eVar 5 ρ) fun l => bnd (ke ρ) fun x => match l, x with
        | .list ds, .tuple es => (match intsD es with | some is => if lenOk (ds.length + 1) = true then ret (Out.nx (ρ.set 5 (some (.list (putT ds is))))) else stuck | none => stuck)
        | _, _ => stuck := rfl
    rw [this, var_eq h5, bnd_ret', hk, bnd_ret']
    show (if lenOk ((K.map vD).length + 1) = true then ret (Out.nx (ρ.set 5 (some (.list (putT (K.map vD) [x, y]))))) else stuck) = _
    rw [if_pos (by have := h.len; simp [lenOk]; omega), k4]
  · refine ⟨K, h, Nat.le_refl _, fun _ => by omega, ?_⟩
    rw [decide_eq_false z, if_neg (by decide), x_sNx]
    congr 2
    apply List.ext_getElem?
    intro j
    by_cases e : 5 = j
    · subst e; rw [List.getElem?_set_self (by omega), h5]
    · rw [List.getElem?_set_ne e]
/-- the state of the loops -/
structure Ls (n : Nat) (far : Int) (w : Int) (K : List P2) (ρ : Py.Env) : Prop where
  len : ρ.length = 12
  src : ρ[0]? = some (some .none)
  e3 : ρ[3]? = some (some (.int (n : Nat)))
  e4 : ρ[4]? = some (some (.int w))
  e5 : ρ[5]? = some (some (.list (K.map vD)))
  e6 : ρ[6]? = some (some (.int far))
  e7 : ∃ R : List P2, (∀ a ∈ R, Bp 5 a) ∧ R.length = 10 ∧ ρ[7]? = some (some (.list (R.map vD)))
  pts : Pts n K
theorem Ls.set {n : Nat} {far w : Int} {K : List P2} {ρ : Py.Env} (s : Ls n far w K ρ) {i : Nat} {v : Option D} (hi : 8 ≤ i) : Ls n far w K (ρ.set i v) := by
  have g : ∀ j, j < 8 → (ρ.set i v)[j]? = ρ[j]? := fun j hj => List.getElem?_set_ne (by omega)
  exact ⟨by rw [List.length_set, s.len], by rw [g 0 (by decide), s.src], by rw [g 3 (by decide), s.e3], by rw [g 4 (by decide), s.e4], by rw [g 5 (by decide), s.e5], by rw [g 6 (by decide), s.e6], by rw [g 7 (by decide)]; exact s.e7, s.pts⟩
theorem Ls.put {n : Nat} {far w : Int} {K K' : List P2} {ρ : Py.Env} (s : Ls n far w K ρ) (h : Pts n K') : Ls n far w K' (ρ.set 5 (some (.list (K'.map vD)))) := by
  have g : ∀ j, j ≠ 5 → (ρ.set 5 (some (.list (K'.map vD))))[j]? = ρ[j]? := fun j hj => List.getElem?_set_ne (by omega)
  exact ⟨by rw [List.length_set, s.len], by rw [g 0 (by decide), s.src], by rw [g 3 (by decide), s.e3], by rw [g 4 (by decide), s.e4], by rw [List.getElem?_set_self (by rw [s.len]; decide)], by rw [g 6 (by decide), s.e6], by rw [g 7 (by decide)]; exact s.e7, h⟩
theorem gEq_i (i j : Int) : gEq (.int i) (.int j) = ret (.bool (decide (i = j))) := by simp only [gEq, shp_int, Bool.and_self, if_true, eqv_int]
/-- one lap -/
theorem lap_ok {n : Nat} {far w : Int} {K : List P2} {ρ : Py.Env} {P : Out → Prop} (s : Ls n far w K ρ) (n1 : 1 ≤ n) (n10 : n ≤ 10) (f1 : 1 ≤ far) (f2 : far ≤ 20) (k : ∀ K' ρ', Ls n far w K' ρ' → 1 ≤ K'.length → P (.nx ρ')) : o4f ρ P := by
  -- the two numbers
  have draw : ∀ {ρ : Py.Env} {Q : D → Prop}, Ls n far w K ρ → (∀ x : Int, B 8 x → Q (.int x)) → bin gSub (eCallS 0 1 F__law_pick (aCons (bin gAdd (bin gMulX (eC (.int 2)) (eVar 6)) (eC (.int 1))) aNil)) (eVar 6) ρ Q := by
    intro ρ Q s hq
    have e : bin gAdd (bin gMulX (eC (.int 2)) (eVar 6)) (eC (.int 1)) ρ = ret (.int (2 * far + 1)) := by
      rw [x_bin, x_bin, x_eC, bnd_ret', var_eq s.e6, bnd_ret', x_gMulX_i, if_pos (mulq (n := 2) (m := 8) (by unfold B; decide) (by unfold B; omega)), bnd_ret', x_eC, bnd_ret', x_gAdd_i]
    rw [x_bin, bnd_app]
    refine pick_c s.src e (by omega) (by omega) fun j j0 j1 => ?_
    rw [var_eq s.e6, bnd_ret']
    show Q (.int (j - far))
    exact hq _ (by unfold B; omega)
  -- the end of the lap
  have fin : ∀ (ρ : Py.Env) (x y : Int), Ls n far w K ρ → ρ[9]? = some (some (.int x)) → ρ[10]? = some (some (.int y)) → B 8 x → B 8 y → o4f4 ρ P := by
    intro ρ x y s h9 h10 hx hy
    obtain ⟨K', k1, k2, k3, e⟩ := iff_set (ke := eTup (aCons (eVar 9) (aCons (eVar 10) aNil))) s.len s.e5 s.e3 (eTup_2 (var_eq h9) (var_eq h10)) s.pts (by omega) (hx.mono (by decide)) (hy.mono (by decide))
    have e' : o4f4 ρ = _ := e
    rw [e']
    exact k K' _ (s.put k1) (k3 n1)
  have third : ∀ (ρ : Py.Env) (x y : Int), Ls n far w K ρ → ρ[9]? = some (some (.int x)) → ρ[10]? = some (some (.int y)) → B 8 x → B 8 y → (sSeq o4f3 o4f4) ρ P := by
    intro ρ x y s h9 h10 hx hy
    have t : bin gEq (eVar 4) (eC (.int 2)) ρ = ret (.bool (decide (w = 2))) := by rw [x_bin, var_eq s.e4, bnd_ret', x_eC, bnd_ret', gEq_i]
    rw [x_sSeq, bnd_app, o4f3, x_sIf, tst_b t, bnd_ret']
    by_cases z : w = 2
    · rw [decide_eq_true z, if_pos rfl, o4f3a, x_sTgt, bnd_app]
      obtain ⟨R, r1, r2, r3⟩ := s.e7
      refine of_c s.src (var_eq r3) (.inl rfl) (by rw [List.length_map]; omega) (by rw [List.length_map]; omega) fun d hd => ?_
      obtain ⟨a, ha, rfl⟩ := List.mem_map.mp hd
      rw [tg2', bnd_ret']
      show oThen (.nx _) o4f4 P
      rw [oThen_nx]
      refine fin _ a.1 a.2 ((s.set (by decide)).set (by decide)) ?_ ?_ ((r1 a ha).1.mono (by decide)) ((r1 a ha).2.mono (by decide))
      · rw [List.getElem?_set_ne (by decide), List.getElem?_set_self (by rw [s.len]; decide)]
      · rw [List.getElem?_set_self (by rw [List.length_set, s.len]; decide)]
    · rw [decide_eq_false z, if_neg (by decide), x_sNx]
      show oThen (.nx ρ) o4f4 P
      rw [oThen_nx]
      exact fin ρ x y s h9 h10 hx hy
  have second : ∀ (ρ : Py.Env) (x y : Int), Ls n far w K ρ → ρ[9]? = some (some (.int x)) → ρ[10]? = some (some (.int y)) → B 8 x → B 8 y → (sSeq o4f2 (sSeq o4f3 o4f4)) ρ P := by
    intro ρ x y s h9 h10 hx hy
    have t : bin gEq (eVar 4) (eC (.int 1)) ρ = ret (.bool (decide (w = 1))) := by rw [x_bin, var_eq s.e4, bnd_ret', x_eC, bnd_ret', gEq_i]
    rw [x_sSeq, bnd_app, o4f2, x_sIf, tst_b t, bnd_ret']
    by_cases z : w = 1
    · rw [decide_eq_true z, if_pos rfl, o4f2a, x_sAsg, bnd_app]
      have el : mkL (lDisp (aCons (eC (.int 0)) (aCons (eVar 9) (aCons (eC (.int 2)) aNil)))) ρ = ret (.list [.int 0, .int x, .int 2]) := by
        rw [x_mkL, x_lDisp, x_aCons, x_eC, bnd_ret', x_aCons, var_eq h9, bnd_ret', x_aCons, x_eC, bnd_ret', x_aNil, bnd_ret', bnd_ret', bnd_ret', bnd_ret', if_pos (by simp [lenOk]), bnd_ret']
      refine of_c s.src el (.inl rfl) (by simp) (by simp) fun d hd => ?_
      obtain ⟨y', hy', rfl⟩ : ∃ y' : Int, B 8 y' ∧ d = .int y' := by
        simp only [List.mem_cons, List.not_mem_nil, or_false] at hd
        rcases hd with rfl | rfl | rfl
        · exact ⟨0, by unfold B; decide, rfl⟩
        · exact ⟨x, hx, rfl⟩
        · exact ⟨2, by unfold B; decide, rfl⟩
      show oThen (.nx (ρ.set 10 (some (.int y')))) (sSeq o4f3 o4f4) P
      rw [oThen_nx]
      refine third _ x y' (s.set (by decide)) ?_ ?_ hx hy'
      · rw [List.getElem?_set_ne (by decide), h9]
      · rw [List.getElem?_set_self (by rw [s.len]; decide)]
    · rw [decide_eq_false z, if_neg (by decide), x_sNx]
      show oThen (.nx ρ) (sSeq o4f3 o4f4) P
      rw [oThen_nx]
      exact third ρ x y s h9 h10 hx hy
  rw [o4f, x_sSeq, bnd_app, o4f1, x_sPar, bnd_app, aCons_app]
  refine draw s fun x hx => ?_
  rw [aCons_app]
  refine draw s fun y hy => ?_
  show oThen (.nx ((ρ.set 9 (some (.int x))).set 10 (some (.int y)))) (sSeq o4f2 (sSeq o4f3 o4f4)) P
  rw [oThen_nx]
  refine second _ x y ((s.set (by decide)).set (by decide)) ?_ ?_ hx hy
  · rw [List.getElem?_set_ne (by decide), List.getElem?_set_self (by rw [s.len]; decide)]
  · rw [List.getElem?_set_self (by rw [List.length_set, s.len]; decide)]
theorem laps_ok {n : Nat} {far w : Int} {P : Out → Prop} (n1 : 1 ≤ n) (n10 : n ≤ 10) (f1 : 1 ≤ far) (f2 : far ≤ 20) : ∀ (ds : List D) (K : List P2) (ρ : Py.Env), Ls n far w K ρ → (ds = [] → 1 ≤ K.length) → (∀ K' ρ', Ls n far w K' ρ' → 1 ≤ K'.length → P (.nx ρ')) → forW (tgN 8) o4f ds ρ P
  | [], K, ρ, s, h0, k => k K ρ s (h0 rfl)
  | d :: ds, K, ρ, s, h0, k => by
    rw [forW_cons, x_tgN, bnd_ret', bnd_app]
    refine lap_ok (s.set (by decide)) n1 n10 f1 f2 fun K' ρ' s' hk => ?_
    rw [oLoop_nx]
    exact laps_ok n1 n10 f1 f2 ds K' ρ' s' (fun _ => hk) k
theorem fill_ok {n : Nat} {far w : Int} {P : Out → Prop} (n10 : n ≤ 10) : ∀ (m i : Nat) (K : List P2) (ρ : Py.Env), i + m ≤ 10 → Ls n far w K ρ → 1 ≤ K.length → (∀ K' ρ', Ls n far w K' ρ' → 1 ≤ K'.length → P (.nx ρ')) → forW (tgN 11) o5f (rangeD (i : Nat) m) ρ P
  | 0, i, K, ρ, _, s, h0, k => k K ρ s h0
  | m + 1, i, K, ρ, hi, s, h0, k => by
    rw [rangeD_succ, forW_cons, x_tgN, bnd_ret', bnd_app]
    have s' : Ls n far w K (ρ.set 11 (some (.int (i : Nat)))) := s.set (by decide)
    have h11 : (ρ.set 11 (some (.int (i : Nat))))[11]? = some (some (.int (i : Nat))) := List.getElem?_set_self (by rw [s.len]; decide)
    have bi : B 5 ((i : Nat) : Int) := by unfold B; omega
    have bi1 : B 5 (((i : Nat) : Int) + 1) := by unfold B; omega
    have ek : (eTup (aCons (bin gAdd (eC (.int 30)) (eVar 11)) (aCons (bin gFdiv (bin gMulX (eVar 11) (bin gAdd (eVar 11) (eC (.int 1)))) (eC (.int 2))) aNil))) (ρ.set 11 (some (.int (i : Nat)))) = ret (vD (30 + (i : Nat), (((i : Nat) : Int) * ((i : Nat) + 1)).fdiv 2)) := by
      refine eTup_2 ?_ ?_
      · rw [x_bin, x_eC, bnd_ret', var_eq h11, bnd_ret', x_gAdd_i]
      · rw [x_bin, x_bin, var_eq h11, bnd_ret', x_bin, var_eq h11, bnd_ret', x_eC, bnd_ret', x_gAdd_i, bnd_ret', x_gMulX_i, if_pos (mulq bi bi1), bnd_ret', x_eC, bnd_ret', fdiv_i, if_pos (by rfl)]
    have b2 : B 9 ((((i : Nat) : Int) * ((i : Nat) + 1)).fdiv 2) := by
      rw [Int.fdiv_eq_ediv_of_nonneg _ (by decide)]
      have h1 := Int.natAbs_ediv_le_natAbs (((i : Nat) : Int) * ((i : Nat) + 1)) 2
      have h2 : (((i : Nat) : Int) * ((i : Nat) + 1)).natAbs ≤ 10 * 11 := by
        rw [Int.natAbs_mul]
        exact Nat.mul_le_mul (by omega) (by omega)
      unfold B; omega
    obtain ⟨K', k1, k2, k3, e⟩ := iff_set s'.len s'.e5 s'.e3 ek s'.pts (by omega) (by unfold B; omega) b2
    have e' : o5f (ρ.set 11 (some (.int (i : Nat)))) = _ := e
    rw [e']
    show oLoop (.nx _) (forW (tgN 11) o5f (rangeD ((i + 1 : Nat) : Int) m)) P
    rw [oLoop_nx]
    exact fill_ok n10 m (i + 1) K' _ (by omega) (s'.put k1) (by omega) k
theorem alls_v (K : List P2) : alls (K.map vD) = true := alls_of' shp_v (fun g => rfl) fun a b => by
  show PySem.W.alike (.tuple _) (.tuple _) = true
  simp [PySem.W.alike, PySem.W.alikeAll]
theorem srt_v {ρ : Py.Env} {K : List P2} (h5 : ρ[5]? = some (some (.list (K.map vD)))) (hl : K.length ≤ 1000) : ∃ K' : List P2, K'.length = K.length ∧ (∀ a ∈ K', a ∈ K) ∧ eSrtD 5 ρ = ret (K'.map vD) := by
  refine ⟨K.mergeSort fun a b => leD (vD a) (vD b), List.length_mergeSort _, fun a ha => List.mem_mergeSort.mp ha, ?_⟩
  have ok : srtOk (K.map vD) = true := by
    unfold srtOk
    rw [alls_v, Bool.true_and]
    have : (K.map vD).all isTup1 = true := by
      rw [List.all_eq_true]
      intro d hd
      obtain ⟨a, _, rfl⟩ := List.mem_map.mp hd
      rfl
    rw [this, Bool.true_or, Bool.true_or]
  have e : eSrtD 5 ρ = bnd (eVar 5 ρ) fun d => match d with
      | .list ds => if (srtOk ds && lenOk ds.length) = true then ret (ds.mergeSort leD) else stuck
      | _ => stuck := rfl
  rw [e, var_eq h5, bnd_ret']
  show (if (srtOk (K.map vD) && lenOk (K.map vD).length) = true then ret ((K.map vD).mergeSort leD) else stuck) = _
  rw [if_pos (by rw [ok]; simp [lenOk]; omega)]
  congr 1
  exact (List.map_mergeSort (r := fun a b => leD (vD a) (vD b)) (s := leD) (f := vD) (l := K) (fun a _ b _ => rfl)).symm
theorem sParD_app (i j l : Nat) (e f : Py.Env → M D) (ρ : Py.Env) (P : Out → Prop) : sParD i j l e f ρ P = e ρ (fun a => f ρ (fun b => P (.nx (((ρ.set i (some a)).set j (some b)).set l (some (.list [])))))) := rfl
def ring : List P2 := [(0, 5), (5, 0), (3, 4), (4, 3), (-3, 4), (-4, 3), (3, -4), (0, -5), (-5, 0), (0, 0)]
theorem pt_e {a b : Py.Env → M D} {ρ : Py.Env} {x y : Int} (h : a ρ = ret (.int x)) (h' : b ρ = ret (.int y)) : eTup (aCons a (aCons b aNil)) ρ = ret (vD (x, y)) := eTup_2 h h'
theorem ng_e {x : Int} {ρ : Py.Env} : una gNeg (eC (.int x)) ρ = ret (.int (-x)) := by rw [x_una, x_eC, bnd_ret', x_gNeg_i]
theorem ct_e {x : Int} {ρ : Py.Env} : eC (.int x) ρ = ret (.int x) := x_eC _ _
theorem o3_eq {ρ : Py.Env} : o3 ρ = ret (.nx (ρ.set 7 (some (.list (ring.map vD))))) := by
  rw [o3, x_sAsg, x_mkL, x_lDisp]
  simp only [x_aCons, x_aNil, pt_e ct_e ct_e, pt_e ng_e ct_e, pt_e ct_e ng_e, bnd_ret', List.length_cons, List.length_nil, lenOk_def]
  rw [if_pos (by decide), bnd_ret', bnd_ret', ring]
  simp only [List.map_cons, List.map_nil]
theorem lot_ok {most : Int} {P : D → Prop} (m1 : 1 ≤ most) (m10 : most ≤ 10) (k : ∀ L : List P2, 1 ≤ L.length → L.length ≤ 10 → (∀ a ∈ L, Bp 9 a) → P (.tuple (L.map vD))) : F__law_lot [.int 1, .int most] P := by
  refine fnS_c (env := [some .none, some (.int 1), some (.int most), none, none, none, none, none, none, none, none, none]) rfl ?_
  rw [b__law_lot_eq, x_sSeq, bnd_app]
  rw [o1, sParD_app, x_bin, var_eq (d := .int 1) rfl, bnd_ret', bnd_app]
  have e1 : (bin gAdd (bin gSub (eVar 2) (eVar 1)) (eC (.int 1))) ([some .none, some (.int 1), some (.int most), none, none, none, none, none, none, none, none, none] : Py.Env) = ret (.int (most - 1 + 1)) := by
    rw [x_bin, x_bin, var_eq (d := .int most) rfl, bnd_ret', var_eq (d := .int 1) rfl, bnd_ret', gSub_i, bnd_ret', x_eC, bnd_ret', x_gAdd_i]
  refine pick_1 (m := most - 1 + 1) rfl e1 (by omega) (by omega) fun j j0 j1 => ?_
  rw [x_gAdd_i, ret_app]
  refine pick_c rfl (x_eC _ _) (by decide) (by decide) fun w w0 w1 => ?_
  obtain ⟨n, hn⟩ : ∃ n : Nat, 1 + j = (n : Int) := ⟨(1 + j).toNat, by omega⟩
  rw [hn, oThen_nx, x_sSeq, bnd_app, o2, x_sAsg, bnd_app]
  simp only [List.set_cons_succ, List.set_cons_zero]
  have el : mkL (lDisp (aCons (eC (.int 3)) (aCons (eC (.int 6)) (aCons (eC (.int 20)) aNil)))) ([some .none, some (.int 1), some (.int most), some (.int (n : Nat)), some (.int w), some (.list []), none, none, none, none, none, none] : Py.Env) = ret (.list [.int 3, .int 6, .int 20]) := by
    rw [x_mkL, x_lDisp, x_aCons, x_eC, bnd_ret', x_aCons, x_eC, bnd_ret', x_aCons, x_eC, bnd_ret', x_aNil, bnd_ret', bnd_ret', bnd_ret', bnd_ret', if_pos (by simp [lenOk]), bnd_ret']
  refine of_c rfl el (.inl rfl) (by simp) (by simp) fun d hd => ?_
  obtain ⟨far, f1, f2, rfl⟩ : ∃ far : Int, 1 ≤ far ∧ far ≤ 20 ∧ d = .int far := by
    simp only [List.mem_cons, List.not_mem_nil, or_false] at hd
    rcases hd with rfl | rfl | rfl
    · exact ⟨3, by decide, by decide, rfl⟩
    · exact ⟨6, by decide, by decide, rfl⟩
    · exact ⟨20, by decide, by decide, rfl⟩
  have n1 : 1 ≤ n := by omega
  have n10 : n ≤ 10 := by omega
  have fin : ∀ ρ : Py.Env, Ls n far w [] ρ → (sSeq o4 (sSeq o5 (sRet (cal cTup (aCons (mkL (eSrtD 5)) aNil))))) ρ (fun o => outD o P) := by
    intro ρ s0
    have i4 : itRng1 (aCons (bin gMulX (eC (.int 4)) (eVar 3)) aNil) ρ = ret (rangeD 0 (4 * n)) := by
      rw [x_itRng1, x_aCons, x_bin, x_eC, bnd_ret', var_eq s0.e3, bnd_ret', x_gMulX_i, if_pos (mulq (n := 3) (m := 4) (by unfold B; decide) (by unfold B; omega)), bnd_ret', x_aNil, bnd_ret', bnd_ret', rng1_i, if_pos (by simp [rngOk]; omega)]
      congr 2
    rw [x_sSeq, o4, x_sFor, i4, bnd_ret', bnd_app]
    refine laps_ok n1 n10 f1 f2 _ [] ρ s0 (fun z => by
      have := congrArg List.length z
      simp [rangeD] at this <;> omega) fun K ρ1 s1 k1 => ?_
    rw [oThen_nx, x_sSeq, o5, x_sFor, x_itRng1, args_1 s1.e3, bnd_ret', rng1_i, if_pos (by simp [rngOk]; omega), bnd_ret', Int.toNat_natCast, bnd_app]
    refine fill_ok n10 n 0 K ρ1 (by omega) s1 k1 fun K2 ρ2 s2 k2 => ?_
    obtain ⟨K3, l3, m3, e3⟩ := srt_v s2.e5 (by have := s2.pts.len; omega)
    rw [oThen_nx, x_sRet, x_cal, x_aCons, x_mkL, e3, bnd_ret', bnd_ret', x_aNil, bnd_ret', bnd_ret', x_cTup_l, bnd_ret']
    show P (.tuple (K3.map vD))
    have := s2.pts.len
    exact k K3 (by omega) (by omega) fun a ha => s2.pts.bd a (m3 a ha)
  rw [ret_app, oThen_nx, seq_nx o3_eq]
  refine fin _ ⟨rfl, rfl, rfl, rfl, rfl, rfl, ⟨ring, ?_, rfl, rfl⟩, ⟨by simp, by simp⟩⟩
  intro a ha
  simp only [ring, List.mem_cons, List.not_mem_nil, or_false] at ha
  rcases ha with rfl | rfl | rfl | rfl | rfl | rfl | rfl | rfl | rfl | rfl <;> exact ⟨by unfold B; decide, by unfold B; decide⟩
end L93
namespace L93
open PySem hiding ret
open Py L2
open PyData (strOk)
/-! ### what repr shows, empty dicts among it -/
mutual
def szq : D → Nat
  | .none => 4
  | .bool _ => 5
  | .int i => i.natAbs.log2 + 2
  | .str x => (reprText x).length
  | .list xs => szqs xs + 3
  | .tuple xs => szqs xs + 3
  | .dict _ => 2
def szqs : List D → Nat
  | [] => 0
  | x :: xs => szq x + 2 + szqs xs
end
mutual
def ptq : D → Bool
  | .none => true
  | .bool _ => true
  | .int i => decide (i.natAbs.log2 < 1920)
  | .str x => strOk (reprText x) && strOk x
  | .list xs => ptqs xs
  | .tuple xs => ptqs xs
  | .dict kvs => kvs.isEmpty
def ptqs : List D → Bool
  | [] => true
  | x :: xs => ptq x && ptqs xs
end
mutual
theorem ptq_shown : ∀ d : D, ptq d = true → strOk d.shown = true ∧ d.shown.length ≤ szq d ∧ d.showable = true
  | .none, _ => ⟨ok_ofString _, by decide +kernel, by simp [PyData.showable]⟩
  | .bool b, _ => ⟨by cases b <;> exact ok_ofString _, by cases b <;> decide +kernel, by simp [PyData.showable]⟩
  | .int i, h => by
    have h' : ptx (.int i) = true := by simpa [ptq, ptx] using h
    obtain ⟨a, b, c, _⟩ := ptx_shown (.int i) h'
    exact ⟨a, by simpa [szq, sz] using b, c⟩
  | .str x, h => by
    have h' : ptx (.str x) = true := by simpa [ptq, ptx] using h
    obtain ⟨a, b, c, _⟩ := ptx_shown (.str x) h'
    exact ⟨a, by simpa [szq, sz] using b, c⟩
  | .list xs, h => by
    obtain ⟨h1, h2, h3⟩ := ptq_all xs (by simpa [ptq] using h)
    refine ⟨by simpa [PyData.shown] using ok_listText h1, ?_, by simpa [PyData.showable] using h3⟩
    have := listText_len_le (PyData.shownAll xs)
    simp only [PyData.shown, szq]
    omega
  | .tuple xs, h => by
    obtain ⟨h1, h2, h3⟩ := ptq_all xs (by simpa [ptq] using h)
    refine ⟨by simpa [PyData.shown] using ok_tupleText h1, ?_, by simpa [PyData.showable] using h3⟩
    have := tupleText_len_le (PyData.shownAll xs)
    simp only [PyData.shown, szq]
    omega
  | .dict kvs, h => by
    have h' : kvs = [] := by simpa [ptq] using h
    subst h'
    exact ⟨by decide +kernel, by decide +kernel, by decide +kernel⟩
theorem ptq_all : ∀ xs : List D, ptqs xs = true → (∀ t ∈ PyData.shownAll xs, strOk t = true) ∧ ((PyData.shownAll xs).map (·.length)).sum + 2 * (PyData.shownAll xs).length ≤ szqs xs ∧ PyData.showableAll xs = true
  | [], _ => ⟨by simp [PyData.shownAll], by simp [PyData.shownAll, szqs], by simp [PyData.showableAll]⟩
  | x :: xs, h => by
    have h' : ptq x = true ∧ ptqs xs = true := by simpa [ptqs] using h
    obtain ⟨a1, a2, a3⟩ := ptq_shown x h'.1
    obtain ⟨b1, b2, b3⟩ := ptq_all xs h'.2
    refine ⟨?_, ?_, by simp [PyData.showableAll, a3, b3]⟩
    · intro t ht
      rcases List.mem_cons.mp (by simpa [PyData.shownAll] using ht) with rfl | h
      · exact a1
      · exact b1 t h
    · simp only [PyData.shownAll, List.map_cons, List.sum_cons, List.length_cons, szqs]
      omega
end
/-- what repr and == of texts want -/
structure RqOk (d : D) : Prop where
  rep : cReprX [d] = ret (.str d.shown)
  shp : Py.shp (.str d.shown) = true
theorem rokq {d : D} (h : rok d) : RqOk d := ⟨by
  show (if rpOk d = true then ret (PyData.str d.shown) else if rpX d = true then ret (.str d.shown) else stuck) = _
  rw [if_pos h.rp], h.shp⟩
theorem rq_td {d : D} (h : ptq d = true) (t : onTD d = true) (hd : d.depth ≤ 64) (hs : szq d ≤ 16777216) : RqOk d := by
  obtain ⟨a1, a2, a3⟩ := ptq_shown d h
  have rx : rpX d = true := by
    unfold rpX
    simp only [Bool.and_eq_true, decide_eq_true_eq, a3, t, hd]
    exact ⟨by simp, Nat.le_trans a2 (Nat.le_trans hs (by decide))⟩
  refine ⟨?_, ?_⟩
  · show (if rpOk d = true then ret (PyData.str d.shown) else if rpX d = true then ret (.str d.shown) else stuck) = _
    by_cases z : rpOk d = true
    · rw [if_pos z]
    · rw [if_neg z, if_pos rx]
  · show SeqAt.shaped _ = true
    unfold SeqAt.shaped
    simp [PyData.canLay0, a1, PyData.depth]
theorem neX_self {x : Str} (h : Py.shp (.str x) = true) : gNeX (.str x) (.str x) = ret (.bool false) := by
  show (if (Py.shp (.str x) && Py.shp (.str x)) = true then ret (PyData.bool (!PyData.eqv (.str x) (.str x))) else _) = _
  rw [h, Bool.and_self, if_pos rfl]
  simp [PyData.eqv]
/-! ### the values that are judged -/
def oddC : List D := [.none, .bool true, .int 0, .int 1, .int (-1), .str "deep", .str "side", .tuple [], .tuple [.int 0], .tuple [.int 0, .int 1], .list [], .dict [], .int (10 ^ ((20 : Int).toNat))]
def Pl (x : D) : Prop := (∃ i : Int, x = .int i ∧ B 70 i) ∨ x = .str "deep" ∨ x = .str "side" ∨ x = .bool true
def It (x : D) : Prop := Pl x ∨ x ∈ oddC
inductive Vl : D → Prop
  | it {d : D} : It d → Vl d
  | tup1 {pre post : List D} {y : D} : (∀ x ∈ pre, Pl x) → (∀ x ∈ post, Pl x) → It y → pre.length + post.length ≤ 6 → Vl (.tuple (pre ++ y :: post))
  | tup0 {xs : List D} : (∀ x ∈ xs, Pl x) → xs.length ≤ 7 → Vl (.tuple xs)
  | lst {xs : List D} : (∀ x ∈ xs, Pl x) → xs.length ≤ 7 → Vl (.list xs)
/-- both sorts of facts about one value -/
structure Fq (m s : Nat) (d : D) : Prop where
  q : ptq d = true
  dep : d.depth ≤ m
  size : szq d ≤ s
theorem pl_fq {x : D} (h : Pl x) : Fq 0 80 x ∧ rk 0 80 x ∧ onTD x = true := by
  rcases h with ⟨i, rfl, b⟩ | rfl | rfl | rfl
  · have r : rk 0 73 (.int i) := rk_int b (by decide)
    obtain ⟨r1, r2, r3⟩ := r
    have e : szq (.int i) = sz (.int i) := by simp [szq, sz]
    exact ⟨⟨by simpa [ptq, ptx] using r1, r2, by omega⟩, ⟨r1, r2, by omega⟩, by simp [onTD]⟩
  · exact ⟨⟨by decide +kernel, by decide +kernel, by decide +kernel⟩, by unfold rk; decide +kernel, by decide +kernel⟩
  · exact ⟨⟨by decide +kernel, by decide +kernel, by decide +kernel⟩, by unfold rk; decide +kernel, by decide +kernel⟩
  · exact ⟨⟨by decide +kernel, by decide +kernel, by decide +kernel⟩, by unfold rk; decide +kernel, by decide +kernel⟩
theorem odd_fq : ∀ x ∈ oddC, (ptq x = true ∧ x.depth ≤ 1 ∧ szq x ≤ 80) ∧ ((ptx x = true ∧ sz x ≤ 80) ∨ onTD x = true) := by decide +kernel
theorem it_fq {x : D} (h : It x) : Fq 1 80 x ∧ (rk 1 80 x ∨ onTD x = true) := by
  rcases h with h | h
  · obtain ⟨a, b, c⟩ := pl_fq h
    exact ⟨⟨a.q, Nat.le_trans a.dep (by decide), a.size⟩, .inr c⟩
  · obtain ⟨⟨a1, a2, a3⟩, a4⟩ := odd_fq x h
    exact ⟨⟨a1, a2, a3⟩, a4.imp (fun z => ⟨z.1, a2, z.2⟩) id⟩
theorem fqs {m s : Nat} : ∀ {ds : List D}, (∀ d ∈ ds, Fq m s d) → ptqs ds = true ∧ PyData.depthAll ds ≤ m ∧ szqs ds ≤ ds.length * (s + 2)
  | [], _ => ⟨by simp [ptqs], by simp [PyData.depthAll], by simp [szqs]⟩
  | d :: ds, h => by
    obtain ⟨a1, a2, a3⟩ := h d (by simp)
    obtain ⟨b1, b2, b3⟩ := fqs (ds := ds) fun x hx => h x (List.mem_cons_of_mem _ hx)
    refine ⟨by simp [ptqs, a1, b1], by simp only [PyData.depthAll]; omega, ?_⟩
    simp only [szqs, List.length_cons, Nat.succ_mul]; omega
theorem fq_tuple {m s n : Nat} {ds : List D} (h : ∀ d ∈ ds, Fq m s d) (hn : ds.length ≤ n) : Fq (m + 1) (n * (s + 2) + 3) (.tuple ds) := by
  obtain ⟨b1, b2, b3⟩ := fqs h
  have := Nat.mul_le_mul_right (s + 2) hn
  exact ⟨by simpa [ptq] using b1, by simp only [PyData.depth]; omega, by simp only [szq]; omega⟩
theorem onTDs_of : ∀ {ds : List D}, (∀ d ∈ ds, onTD d = true) → onTDs ds = true
  | [], _ => by simp [onTDs]
  | d :: ds, h => by simp [onTDs, h d (by simp), onTDs_of (ds := ds) fun x hx => h x (List.mem_cons_of_mem _ hx)]
theorem Fq.rq {m s : Nat} {d : D} (h : Fq m s d) (t : onTD d = true) (hm : m ≤ 64 := by decide) (hs : s ≤ 16777216 := by decide) : RqOk d := rq_td h.q t (Nat.le_trans h.dep hm) (Nat.le_trans h.size hs)
theorem vl_rq {d : D} (h : Vl d) : RqOk d := by
  cases h with
  | it h =>
    obtain ⟨a, b⟩ := it_fq h
    rcases b with b | b
    · exact rokq b.ok
    · exact a.rq b
  | @tup1 pre post y h1 h2 hy hl =>
    obtain ⟨a, b⟩ := it_fq hy
    have len : (pre ++ y :: post).length ≤ 7 := by simp; omega
    rcases b with b | b
    · have : rk 2 (7 * (80 + 2) + 3) (.tuple (pre ++ y :: post)) := rk_tuple (fun x hx => by
        rcases List.mem_append.mp hx with q | q
        · exact (pl_fq (h1 x q)).2.1.mono (by decide) (by decide)
        · rcases List.mem_cons.mp q with rfl | q
          · exact b
          · exact (pl_fq (h2 x q)).2.1.mono (by decide) (by decide)) len
      exact rokq this.ok
    · have : Fq 2 (7 * (80 + 2) + 3) (.tuple (pre ++ y :: post)) := fq_tuple (m := 1) (fun x hx => by
        rcases List.mem_append.mp hx with q | q
        · have := (pl_fq (h1 x q)).1
          exact ⟨this.q, Nat.le_trans this.dep (by decide), this.size⟩
        · rcases List.mem_cons.mp q with rfl | q
          · exact a
          · have := (pl_fq (h2 x q)).1
            exact ⟨this.q, Nat.le_trans this.dep (by decide), this.size⟩) len
      refine this.rq ?_
      have : onTDs (pre ++ y :: post) = true := onTDs_of fun x hx => by
        rcases List.mem_append.mp hx with q | q
        · exact (pl_fq (h1 x q)).2.2
        · rcases List.mem_cons.mp q with rfl | q
          · exact b
          · exact (pl_fq (h2 x q)).2.2
      simpa [onTD] using this
  | @tup0 xs h1 hl =>
    have : rk 1 (7 * (80 + 2) + 3) (.tuple xs) := rk_tuple (fun x hx => (pl_fq (h1 x hx)).2.1) hl
    exact rokq this.ok
  | @lst xs h1 hl =>
    have : rk 1 (7 * (80 + 2) + 3) (.list xs) := rk_list (fun x hx => (pl_fq (h1 x hx)).2.1) hl
    exact rokq this.ok
/-! ### == of such values -/
theorem eqX_nil (xs : List D) : gEqX (.tuple xs) (.tuple []) = ret (.bool xs.isEmpty) := by
  unfold gEqX
  split
  · cases xs with
    | nil => simp [PyData.eqv, PyData.eqvAll]
    | cons _ _ => simp [PyData.eqv, PyData.eqvAll]
  · rename_i z
    cases xs with
    | nil => exact absurd (by decide +kernel) z
    | cons x xs =>
      show (if preT (x :: xs) [] = true then ret (PyData.bool false) else stuck) = _
      rw [if_pos (by simp [preT])]
      rfl
theorem neX_nilL (xs : List D) : gNeX (.list xs) (.list []) = ret (.bool (!xs.isEmpty)) := by
  unfold gNeX
  split
  · cases xs with
    | nil => simp [PyData.eqv, PyData.eqvAll]
    | cons _ _ => simp [PyData.eqv, PyData.eqvAll]
  · rename_i z
    cases xs with
    | nil => exact absurd (by decide +kernel) z
    | cons x xs =>
      show (if decide ((x :: xs).length ≠ ([] : List D).length) = true then ret (PyData.bool true) else stuck) = _
      rw [if_pos (by simp)]
      rfl
theorem shp_deep : shp (.str "deep") = true := by decide +kernel
theorem shp_side : shp (.str "side") = true := by decide +kernel
theorem eqX_deep {s : Str} (hs : shp (.str s) = true) (rest : List D) : gEqX (.tuple (.str s :: rest)) (.tuple [.str "deep"]) = ret (.bool (decide (s = "deep") && rest.isEmpty)) := by
  unfold gEqX
  split
  · cases rest with
    | nil =>
      simp only [PyData.eqv, PyData.eqvAll, List.isEmpty_nil, Bool.and_true]
      congr 2
    | cons _ _ => simp [PyData.eqv, PyData.eqvAll]
  · rename_i z
    cases rest with
    | nil =>
      exfalso
      apply z
      have e1 : shp (.tuple [.str s]) = true := by
        have := layD (k := 0) (ds := [.str s]) fun d hd => by rw [List.mem_singleton.mp hd]; exact ⟨shp_lay hs, by simp [PyData.depth]⟩
        exact shp_of (by simpa [PyData.canLay0] using this.1) (by simp only [PyData.depth]; omega)
      have e2 : shp (.tuple [.str "deep"]) = true := by decide +kernel
      rw [e1, e2]; rfl
    | cons r rest =>
      show (if preT (.str s :: r :: rest) [.str "deep"] = true then ret (PyData.bool false) else stuck) = _
      rw [if_pos (by simp [preT, hs, shp_deep])]
      simp
theorem eqX_s {a b : Str} (ha : shp (.str a) = true) (hb : shp (.str b) = true) : gEqX (.str a) (.str b) = ret (.bool (decide (a = b))) := by
  show (if (Py.shp (.str a) && Py.shp (.str b)) = true then ret (PyData.bool (PyData.eqv (.str a) (.str b))) else _) = _
  rw [ha, hb, Bool.and_self, if_pos rfl]
  congr 2
theorem neX_s {a b : Str} (ha : shp (.str a) = true) (hb : shp (.str b) = true) : gNeX (.str a) (.str b) = ret (.bool (!decide (a = b))) := by
  show (if (Py.shp (.str a) && Py.shp (.str b)) = true then ret (PyData.bool (!PyData.eqv (.str a) (.str b))) else _) = _
  rw [ha, hb, Bool.and_self, if_pos rfl]
  congr 2
theorem eqX_i (a b : Int) : gEqX (.int a) (.int b) = ret (.bool (decide (a = b))) := by
  show (if (Py.shp (.int a) && Py.shp (.int b)) = true then ret (PyData.bool (PyData.eqv (.int a) (.int b))) else _) = _
  rw [shp_int, shp_int, Bool.and_self, if_pos rfl, eqv_int]
theorem neX_i (a b : Int) : gNeX (.int a) (.int b) = ret (.bool (!decide (a = b))) := by
  show (if (Py.shp (.int a) && Py.shp (.int b)) = true then ret (PyData.bool (!PyData.eqv (.int a) (.int b))) else _) = _
  rw [shp_int, shp_int, Bool.and_self, if_pos rfl, eqv_int]
theorem eqX_v (a b : P2) : gEqX (vD a) (vD b) = ret (.bool (decide (a = b))) := by
  show (if (Py.shp (vD a) && Py.shp (vD b)) = true then ret (PyData.bool (PyData.eqv (vD a) (vD b))) else _) = _
  rw [shp_v, shp_v, Bool.and_self, if_pos rfl, eqv_v]
end L93
namespace L93
open PySem hiding ret
open Py L2
theorem told_eqB {w : P2} {a b : Int} (hw : Bp 40 w) (ha : B 70 a) (hb : B 70 b) : F_told_by [vD w, .int a, .int b] = ret (.int (a * w.1 + b * w.2)) := by
  show fnD 0 b_told_by [vD w, .int a, .int b] = _
  rw [x_fnD]
  simp only [b_told_by, List.map_cons, List.map_nil, List.replicate, List.cons_append, List.nil_append, x_sRet, x_bin, x_eVar, x_eC, List.getElem?_cons_succ, List.getElem?_cons_zero, Option.getD_some, optM_some, bnd_ret', ix0, ix1, x_gMulX_i, mulq ha hw.1, mulq hb hw.2, if_true, x_gAdd_i, outD_rt]
theorem many_eqB {W : List P2} {a b : Int} (hW : ∀ w ∈ W, Bp 40 w) (ha : B 70 a) (hb : B 70 b) : F_many_on_side [.list (W.map vD), .int a, .int b] = ret (.int (many W (b, -a) : Nat)) := by
  refine fn_rt (env := [some (.list (W.map vD)), some (.int a), some (.int b), none]) rfl ?_
  rw [b_many_on_side, x_sRet, x_cal, x_aCons]
  rw [comp_map (ρ := [some (.list (W.map vD)), some (.int a), some (.int b), none]) vD (fun w => decide (0 ≤ turn (b, -a) w)) vD W (by rfl) ?_]
  · rw [bnd_ret', x_aNil, bnd_ret', bnd_ret', x_cLen_l, bnd_ret', List.length_map, many, List.countP_eq_length_filter]
  · intro w hw
    refine ⟨_, rfl, ?_, fun _ => rfl⟩
    have e : turn (b, -a) w = a * w.1 + b * w.2 := by simp only [turn]; grind
    rw [x_tst, x_bin, eCall_3 (x := vD w) (y := .int a) (z := .int b) _ (args_3 rfl rfl rfl), told_eqB (hW w hw) ha hb, bnd_ret', x_eC, bnd_ret', e]
    rfl
theorem side_eqB {L : List P2} {p : P2 × P2} {a b : Int} (h : PlOk p) (hL : ∀ a ∈ L, Bp 10 a) (ha : B 70 a) (hb : B 70 b) : F_side_count [.tuple (L.map vD), plD p, .int a, .int b] = ret (.int (many (waysP L p) (b, -a) : Nat)) := by
  refine fn_rt (env := [some (.tuple (L.map vD)), some (plD p), some (.int a), some (.int b)]) rfl ?_
  have W40 : ∀ w ∈ waysP L p, Bp 40 w := fun w hw => ⟨((ways_B h hL w hw).1).mono (by decide), ((ways_B h hL w hw).2).mono (by decide)⟩
  have cw : eCall 2 F_ways_from (aCons (eVar 0) (aCons (eVar 1) aNil)) ([some (.tuple (L.map vD)), some (plD p), some (.int a), some (.int b)] : Py.Env) = ret (.list ((waysP L p).map vD)) := (eCall_2 _ (args_2 rfl rfl)).trans (ways_eq h hL)
  rw [b_side_count, x_sRet, eCall_3 (x := .list ((waysP L p).map vD)) (y := .int a) (z := .int b), many_eqB W40 ha hb, bnd_ret']
  rw [x_aCons, cw, bnd_ret', args_2 (x := .int a) (y := .int b) rfl rfl, bnd_ret']
theorem c_loopB {p : P2 × P2} {a b : Int} {x0 x1 : Option D} (h : PlOk p) (ha : B 70 a) (hb : B 70 b) : ∀ (L : List P2) (k : Nat) (x9 x10 : Option D), (∀ a ∈ L, Bp 10 a) →
    ∃ y9 y10, forW (tgTup 2 (tgsCons (tgN 9) (tgsCons (tgN 10) tgsNil))) cB (L.map vD) [x0, x1, some (.int a), some (.int b), some (.int p.1.1), some (.int p.1.2), some (.int p.2.1), some (.int p.2.2), some (.int (k : Nat)), x9, x10] = ret (.nx [x0, x1, some (.int a), some (.int b), some (.int p.1.1), some (.int p.1.2), some (.int p.2.1), some (.int p.2.2), some (.int ((k + many (lawW L p) (b, -a) : Nat) : Int)), y9, y10])
  | [], k, x9, x10, _ => ⟨x9, x10, by simp [lawW, many]; rfl⟩
  | q :: L, k, x9, x10, hL => by
    have bt : B 4 p.1.2 := by have := h.t0; have := h.t1; unfold B; omega
    have bv : B 4 p.2.2 := by have := h.v0; have := h.v1; unfold B; omega
    obtain ⟨b1, b2⟩ := hL q (by simp)
    obtain ⟨y9, y10, hh⟩ := c_loopB (x0 := x0) (x1 := x1) h ha hb L (k + (if 0 ≤ turn (b, -a) (q.1 * p.1.2 * p.2.2 - p.1.1 * p.2.2, q.2 * p.1.2 * p.2.2 - p.2.1 * p.1.2) then 1 else 0)) (some (.int q.1)) (some (.int q.2)) fun y hy => hL y (List.mem_cons_of_mem _ hy)
    refine ⟨y9, y10, ?_⟩
    rw [List.map_cons, forW_cons, tg2', bnd_ret']
    have m1 := mulq ha b1
    have m2 := mulq hb b2
    have m3 := mulq (((ha.mul b1).mono (m := 90) (by decide)).add ((hb.mul b2).mono (m := 90) (by decide))) bt
    have m4 := mulq ((((ha.mul b1).mono (m := 90) (by decide)).add ((hb.mul b2).mono (m := 90) (by decide))).mul bt) bv
    have m5 := mulq ha h.s
    have m6 := mulq (ha.mul h.s) bv
    have m7 := mulq hb h.u
    have m8 := mulq (hb.mul h.u) bt
    have key : cB [x0, x1, some (.int a), some (.int b), some (.int p.1.1), some (.int p.1.2), some (.int p.2.1), some (.int p.2.2), some (.int (k : Nat)), some (.int q.1), some (.int q.2)] = ret (.nx [x0, x1, some (.int a), some (.int b), some (.int p.1.1), some (.int p.1.2), some (.int p.2.1), some (.int p.2.2), some (.int ((k + (if 0 ≤ turn (b, -a) (q.1 * p.1.2 * p.2.2 - p.1.1 * p.2.2, q.2 * p.1.2 * p.2.2 - p.2.1 * p.1.2) then 1 else 0) : Nat) : Int)), some (.int q.1), some (.int q.2)]) := by
      have eg : bin gGe (bin gMulX (bin gMulX (bin gAdd (bin gMulX (eVar 2) (eVar 9)) (bin gMulX (eVar 3) (eVar 10))) (eVar 5)) (eVar 7)) (bin gAdd (bin gMulX (bin gMulX (eVar 2) (eVar 4)) (eVar 7)) (bin gMulX (bin gMulX (eVar 3) (eVar 6)) (eVar 5))) ([x0, x1, some (.int a), some (.int b), some (.int p.1.1), some (.int p.1.2), some (.int p.2.1), some (.int p.2.2), some (.int (k : Nat)), some (.int q.1), some (.int q.2)] : Py.Env) = ret (.bool (decide ((a * q.1 + b * q.2) * p.1.2 * p.2.2 ≥ a * p.1.1 * p.2.2 + b * p.2.1 * p.1.2))) := by
        simp only [x_bin, x_eVar, List.getElem?_cons_succ, List.getElem?_cons_zero, Option.getD_some, optM_some, bnd_ret', x_gMulX_i, m1, m2, m3, m4, m5, m6, m7, m8, if_true, x_gAdd_i]
        rfl
      have et : ((a * q.1 + b * q.2) * p.1.2 * p.2.2 ≥ a * p.1.1 * p.2.2 + b * p.2.1 * p.1.2) ↔ 0 ≤ turn (b, -a) (q.1 * p.1.2 * p.2.2 - p.1.1 * p.2.2, q.2 * p.1.2 * p.2.2 - p.2.1 * p.1.2) := by
        have : turn (b, -a) (q.1 * p.1.2 * p.2.2 - p.1.1 * p.2.2, q.2 * p.1.2 * p.2.2 - p.2.1 * p.1.2) = (a * q.1 + b * q.2) * p.1.2 * p.2.2 - (a * p.1.1 * p.2.2 + b * p.2.1 * p.1.2) := by simp only [turn]; grind
        omega
      rw [cB, x_sAsg, x_bin, var_eq (d := .int (k : Nat)) rfl, bnd_ret', x_cal, x_aCons, eg, bnd_ret', x_aNil, bnd_ret', bnd_ret', x_cInt_b, bnd_ret', x_gAdd_i, bnd_ret']
      by_cases z : 0 ≤ turn (b, -a) (q.1 * p.1.2 * p.2.2 - p.1.1 * p.2.2, q.2 * p.1.2 * p.2.2 - p.2.1 * p.1.2)
      · rw [decide_eq_true (et.mpr z), if_pos rfl, if_pos z]
        rfl
      · rw [decide_eq_false (fun y => z (et.mp y)), if_neg (by decide), if_neg z]
        rfl
    show bnd (cB [x0, x1, some (.int a), some (.int b), some (.int p.1.1), some (.int p.1.2), some (.int p.2.1), some (.int p.2.2), some (.int (k : Nat)), some (.int q.1), some (.int q.2)]) _ = _
    rw [key, bnd_ret', oLoop_nx, hh]
    have : k + (if 0 ≤ turn (b, -a) (q.1 * p.1.2 * p.2.2 - p.1.1 * p.2.2, q.2 * p.1.2 * p.2.2 - p.2.1 * p.1.2) then 1 else 0) + many (lawW L p) (b, -a) = k + many (lawW (q :: L) p) (b, -a) := by
      unfold many lawW
      rw [List.map_cons, List.countP_cons]
      simp only [decide_eq_true_eq]
      omega
    rw [this]
theorem lcount_eqB {L : List P2} {p : P2 × P2} {a b : Int} (h : PlOk p) (hL : ∀ a ∈ L, Bp 10 a) (ha : B 70 a) (hb : B 70 b) : F__law_count [.tuple (L.map vD), plD p, .int a, .int b] = ret (.int (many (waysP L p) (b, -a) : Nat)) := by
  obtain ⟨g, hg, _, hs⟩ := scale_of h
  have eW : (waysP L p).map (scl g) = lawW L p := hs L
  refine fn_rt (env := [some (.tuple (L.map vD)), some (plD p), some (.int a), some (.int b), none, none, none, none, none, none, none]) rfl ?_
  obtain ⟨y9, y10, hh⟩ := c_loopB (x0 := some (.tuple (L.map vD))) (x1 := some (plD p)) h ha hb L 0 none none hL
  rw [b__law_count, seq_nx (ρ' := [some (.tuple (L.map vD)), some (plD p), some (.int a), some (.int b), some (.int p.1.1), some (.int p.1.2), some (.int p.2.1), some (.int p.2.2), none, none, none]) (by rfl)]
  rw [asg_nx (d := .int 0) rfl]
  refine Eq.trans (seq_nx (f := sFor _ _ cB) (ρ' := [some (.tuple (L.map vD)), some (plD p), some (.int a), some (.int b), some (.int p.1.1), some (.int p.1.2), some (.int p.2.1), some (.int p.2.2), some (.int ((0 + many (lawW L p) (b, -a) : Nat) : Int)), y9, y10]) ?_) ?_
  · rw [x_sFor, x_itSeq, var_eq (d := .tuple (L.map vD)) rfl, bnd_ret', x_seqD_t, bnd_ret']
    exact hh
  · rw [← eW, many_map hg, Nat.zero_add]
    rfl
def isStr : D → Bool
  | .str _ => true
  | _ => false
theorem isi_str (d : D) : gIsi "str" d = ret (.bool (isStr d)) := by cases d <;> rfl
theorem isint_all (d : D) : F__law_is_int [d] = ret (.bool (wholeB d)) := by cases d <;> rfl
def formD : D := .tuple [.str "form"]
theorem it_str {s : Str} (h : It (.str s)) : s = "deep" ∨ s = "side" := by
  rcases h with (⟨i, e, _⟩ | e | e | e) | h
  · cases e
  · injection e with e; exact .inl e
  · injection e with e; exact .inr e
  · cases e
  · simp only [oddC, List.mem_cons, List.not_mem_nil, or_false, reduceCtorEq, false_or, or_self, PyData.str.injEq] at h
    rcases h with h | h
    · exact .inl h
    · exact .inr h
theorem vl_items {xs : List D} (h : Vl (.tuple xs)) : xs.length ≤ 7 ∧ ∀ x ∈ xs, It x := by
  generalize e : PyData.tuple xs = d at h
  cases h with
  | it h =>
    subst e
    rcases h with (⟨i, e, _⟩ | e | e | e) | h
    · cases e
    · cases e
    · cases e
    · cases e
    · simp only [oddC, List.mem_cons, List.not_mem_nil, or_false, reduceCtorEq, false_or, or_self, PyData.tuple.injEq] at h
      rcases h with rfl | rfl | rfl
      · exact ⟨by simp, by simp⟩
      · exact ⟨by simp, fun x hx => by rw [List.mem_singleton.mp hx]; exact .inl (.inl ⟨0, rfl, by unfold B; decide⟩)⟩
      · refine ⟨by simp, fun x hx => ?_⟩
        simp only [List.mem_cons, List.not_mem_nil, or_false] at hx
        rcases hx with rfl | rfl
        · exact .inl (.inl ⟨0, rfl, by unfold B; decide⟩)
        · exact .inl (.inl ⟨1, rfl, by unfold B; decide⟩)
  | @tup1 pre post y h1 h2 hy hl =>
    injection e with e
    subst e
    refine ⟨by simp; omega, fun x hx => ?_⟩
    rcases List.mem_append.mp hx with q | q
    · exact .inl (h1 x q)
    · rcases List.mem_cons.mp q with rfl | q
      · exact hy
      · exact .inl (h2 x q)
  | tup0 h1 hl =>
    injection e with e
    subst e
    exact ⟨hl, fun x hx => .inl (h1 x hx)⟩
  | lst h1 hl => cases e
theorem whole_eq (xs : List D) : F_are_whole_numbers [.tuple xs] = ret (.bool (xs.all wholeB)) := by
  refine fn_rt (env := [some (.tuple xs), none]) rfl ?_
  rw [b_are_whole_numbers, x_sRet, x_cal, x_aCons, comp_all (fun d : D => d) (fun d => .bool (wholeB d)) xs (by rw [x_itSeq, var_eq (d := .tuple xs) rfl, bnd_ret', x_seqD_t]; simp) ?_, bnd_ret', x_aNil, bnd_ret', bnd_ret', cAll_map, bnd_ret']
  intro d hd
  exact ⟨_, rfl, by cases d <;> rfl⟩
def depthV (k : Int) (m : Nat) (W : List P2) : D → D
  | .tuple [.str s] => if s = "deep" then (if (m : Int) < k then .tuple [.str "depth", .int (m : Nat)] else .none) else formD
  | .tuple [.str s, .int a, .int b] => if s = "side" then (if (a, b) = ((0, 0) : P2) then formD else if k ≤ (many W (b, -a) : Nat) then .tuple [.str "many", .int (many W (b, -a) : Nat)] else .none) else formD
  | _ => formD
theorem depthV_form {k : Int} {m : Nat} {W : List P2} {d : D} (h1 : ∀ s, d ≠ .tuple [.str s]) (h2 : ∀ s a b, d ≠ .tuple [.str s, .int a, .int b]) : depthV k m W d = formD := by
  unfold depthV
  split
  · exact absurd rfl (h1 _)
  · exact absurd rfl (h2 _ _ _)
  · rfl
theorem ds_ne : ("deep" : Str) ≠ "side" := by decide +kernel
theorem depthV_side {k : Int} {m : Nat} {W : List P2} {xs : List D} (h : xs.length ≠ 2) : depthV k m W (.tuple (.str "side" :: xs)) = formD := by
  by_cases e : xs = []
  · rw [e]
    show (if ("side" : Str) = "deep" then (if (m : Int) < k then PyData.tuple [.str "depth", .int (m : Nat)] else .none) else formD) = formD
    rw [if_neg (fun e => ds_ne e.symm)]
  · refine depthV_form (fun s q => ?_) fun s a b q => ?_
    · simp only [PyData.tuple.injEq, List.cons.injEq] at q
      exact e q.2
    · simp only [PyData.tuple.injEq, List.cons.injEq] at q
      rw [q.2] at h
      exact h rfl
theorem depthV_other {k : Int} {m : Nat} {W : List P2} {s : Str} {xs : List D} (h : s ≠ "side") (h2 : ¬ (decide (s = "deep") && xs.isEmpty) = true) : depthV k m W (.tuple (.str s :: xs)) = formD := by
  by_cases e : xs = []
  · rw [e]
    show (if s = "deep" then (if (m : Int) < k then PyData.tuple [.str "depth", .int (m : Nat)] else .none) else formD) = formD
    rw [if_neg]
    intro z
    rw [z, e] at h2
    exact h2 (by decide)
  · by_cases q : ∃ a b, xs = [.int a, .int b]
    · obtain ⟨a, b, rfl⟩ := q
      show (if s = "side" then _ else formD) = formD
      rw [if_neg h]
    · refine depthV_form (fun s q => ?_) fun s a b z => ?_
      · simp only [PyData.tuple.injEq, List.cons.injEq] at q
        exact e q.2
      · simp only [PyData.tuple.injEq, List.cons.injEq] at z
        exact q ⟨a, b, z.2⟩
theorem ix_h (x : D) (xs : List D) : gIx (.tuple (x :: xs)) (.int 0) = ret x := gIx_t (atI_nat (i := 0) rfl)
theorem ix_1 (x y : D) (xs : List D) : gIx (.tuple (x :: y :: xs)) (.int 1) = ret y := gIx_t (atI_nat (i := 1) rfl)
theorem ix_2 (x y z : D) (xs : List D) : gIx (.tuple (x :: y :: z :: xs)) (.int 2) = ret z := gIx_t (atI_nat (i := 2) rfl)
theorem form_e {ρ : Py.Env} : eTup (aCons (eC (.str "form")) aNil) ρ = ret formD := eTup_1 (x_eC _ _)
section
variable {L : List P2} {p : P2 × P2} {k : Int} {m : Nat}
/-- the shape of a told value: what both judges ask first -/
inductive Hd : D → Prop
  | no {d : D} : isTup d = false → Hd d
  | nil : Hd (.tuple [])
  | odd {x : D} {xs : List D} : isStr x = false → It x → Hd (.tuple (x :: xs))
  | str {s : Str} {xs : List D} : (s = "deep" ∨ s = "side") → (∀ x ∈ xs, It x) → xs.length ≤ 6 → Hd (.tuple (.str s :: xs))
theorem hd_of {d : D} (h : Vl d) : Hd d := by
  cases d with
  | tuple xs =>
    obtain ⟨h1, h2⟩ := vl_items h
    cases xs with
    | nil => exact .nil
    | cons x xs =>
      cases e : isStr x with
      | false => exact .odd e (h2 x (by simp))
      | true =>
        cases x with
        | str s => exact .str (it_str (h2 _ (by simp))) (fun x hx => h2 x (List.mem_cons_of_mem _ hx)) (by rw [List.length_cons] at h1; omega)
        | _ => cases e
  | _ => exact .no rfl
theorem depthV_odd {W : List P2} {x : D} {xs : List D} (h : isStr x = false) : depthV k m W (.tuple (x :: xs)) = formD := by
  cases x with
  | str s => cases h
  | _ => rfl
theorem depthV_no {W : List P2} {d : D} (h : isTup d = false) : depthV k m W d = formD := by
  cases d with
  | tuple _ => cases h
  | _ => rfl
theorem int_bd {i : Int} (h : It (.int i)) : B 70 i := by
  rcases h with (⟨j, e, b⟩ | e | e | e) | h
  · injection e with e; rw [e]; exact b
  · cases e
  · cases e
  · cases e
  · simp only [oddC, List.mem_cons, List.not_mem_nil, or_false, reduceCtorEq, false_or, or_self, PyData.int.injEq] at h
    rcases h with rfl | rfl | rfl | rfl <;> (unfold B; decide +kernel)
def g1E : Py.Env → M Bool := (bOr (bNot (tst (una (gIsi "tuple") (eVar 3)))) (bOr (tst (bin gEqX (eVar 3) (eTup aNil))) (bNot (tst (una (gIsi "str") (bin gIx (eVar 3) (eC (.int 0))))))))
theorem g1_no {ρ : Py.Env} {d : D} (hv : ρ[3]? = some (some d)) (h : isTup d = false) : g1E ρ = ret true := by
  rw [g1E, x_bOr, x_bNot, tst_b (b := false) (by rw [x_una, var_eq hv, bnd_ret', isi_tup, h]), bnd_ret', bnd_ret']
  rfl
theorem g1_tup {ρ : Py.Env} {xs : List D} (hv : ρ[3]? = some (some (.tuple xs))) : g1E ρ = if xs.isEmpty = true then ret true else (bNot (tst (una (gIsi "str") (bin gIx (eVar 3) (eC (.int 0)))))) ρ := by
  have e0 : eTup aNil ρ = ret (.tuple []) := by rw [x_eTup, x_aNil, bnd_ret', if_pos (by decide)]
  rw [g1E, x_bOr, x_bNot, tst_b (b := true) (by rw [x_una, var_eq hv, bnd_ret', isi_tup]; rfl), bnd_ret', bnd_ret', if_neg (by decide), x_bOr, tst_b (b := xs.isEmpty) (by rw [x_bin, var_eq hv, bnd_ret', e0, bnd_ret', eqX_nil]), bnd_ret']
theorem g1_cons {ρ : Py.Env} {x : D} {xs : List D} (hv : ρ[3]? = some (some (.tuple (x :: xs)))) : g1E ρ = ret (!isStr x) := by
  rw [g1_tup hv, List.isEmpty_cons, if_neg (by decide), x_bNot, tst_b (b := isStr x) (by rw [x_una, x_bin, var_eq hv, bnd_ret', x_eC, bnd_ret', ix_h, bnd_ret', isi_str]), bnd_ret']
def mE : Py.Env → M Out := (sSeq (sAsg 5 (eCall 4 F_side_count (aCons (eVar 0) (aCons (eVar 1) (aCons (bin gIx (eVar 3) (eC (.int 1))) (aCons (bin gIx (eVar 3) (eC (.int 2))) aNil))))))
  (sRet (eIf (tst (bin gGe (eVar 5) (eVar 2))) (eTup (aCons (eC (.str "many")) (aCons (eVar 5) aNil))) (eC .none))))
theorem judge_eq {d : D} (h : PlOk p) (hL : ∀ a ∈ L, Bp 9 a) (hl : L.length ≤ 10) (hm : IsDepth (waysP L p) m) (hv : Vl d) : F_judge_depth [.tuple (L.map vD), plD p, .int k, d] = ret (depthV k m (waysP L p) d) := by
  have hL10 : ∀ a ∈ L, Bp 10 a := fun a ha => ⟨(hL a ha).1.mono (by decide), (hL a ha).2.mono (by decide)⟩
  refine fn_rt (env := [some (.tuple (L.map vD)), some (plD p), some (.int k), some d, none, none]) rfl ?_
  rw [b_judge_depth, x_sSeq, x_sIf]
  show bnd (bnd (g1E _) _) _ = _
  cases hd_of hv with
  | no hd => rw [g1_no rfl hd, bnd_ret', if_pos rfl, x_sRet, form_e, bnd_ret', bnd_ret', oThen_rt, depthV_no hd]
  | nil =>
    rw [g1_tup rfl, List.isEmpty_nil, if_pos rfl, bnd_ret', if_pos rfl, x_sRet, form_e, bnd_ret', bnd_ret', oThen_rt]
    rfl
  | @odd x xs hx _ =>
    rw [g1_cons rfl, hx, bnd_ret', if_pos (show (!false) = true from rfl), x_sRet, form_e, bnd_ret', bnd_ret', oThen_rt, depthV_odd hx]
  | @str s xs hs hi hlen =>
    have shs : shp (.str s) = true := by rcases hs with rfl | rfl; exact shp_deep; exact shp_side
    rw [g1_cons rfl, show isStr (.str s) = true from rfl, bnd_ret', if_neg (show ¬ (!true) = true by decide), x_sNx, bnd_ret', oThen_nx]
    have c2 : bin gEqX (eVar 3) (eTup (aCons (eC (.str "deep")) aNil)) ([some (.tuple (L.map vD)), some (plD p), some (.int k), some (.tuple (.str s :: xs)), none, none] : Py.Env) = ret (.bool (decide (s = "deep") && xs.isEmpty)) := by
      rw [x_bin, var_eq (d := .tuple (.str s :: xs)) rfl, bnd_ret', eTup_1 (x_eC _ _), bnd_ret', eqX_deep shs]
    rw [x_sSeq, x_sIf, tst_b c2, bnd_ret']
    by_cases z : (decide (s = "deep") && xs.isEmpty) = true
    · rw [if_pos z]
      obtain ⟨z1, z2⟩ : s = "deep" ∧ xs = [] := by simpa using z
      subst z1 z2
      obtain ⟨m', _, hd, e1, _⟩ := depth_fns h hL10 (by omega)
      have em : m' = m := hd.uniq hm
      rw [em] at e1
      rw [asg_nx ((eCall_2 _ (args_2 rfl rfl)).trans e1), x_sRet, x_eIf, tst_b (b := decide ((m : Int) < k)) rfl, bnd_ret']
      by_cases q : (m : Int) < k
      · rw [decide_eq_true q, if_pos rfl, eTup_2 (x := .str "depth") (y := .int (m : Nat)) rfl rfl, bnd_ret', bnd_ret', oThen_rt]
        show _ = ret (Out.rt (if ("deep" : Str) = "deep" then (if (m : Int) < k then PyData.tuple [.str "depth", .int (m : Nat)] else .none) else formD))
        rw [if_pos rfl, if_pos q]
      · rw [decide_eq_false q, if_neg (by decide), x_eC, bnd_ret', bnd_ret', oThen_rt]
        show _ = ret (Out.rt (if ("deep" : Str) = "deep" then (if (m : Int) < k then PyData.tuple [.str "depth", .int (m : Nat)] else .none) else formD))
        rw [if_pos rfl, if_neg q]
    · rw [if_neg z, x_sNx, bnd_ret', oThen_nx, x_sSeq, x_sIf]
      have n1 : bin gNeX (bin gIx (eVar 3) (eC (.int 0))) (eC (.str "side")) ([some (.tuple (L.map vD)), some (plD p), some (.int k), some (.tuple (.str s :: xs)), none, none] : Py.Env) = ret (.bool (!decide (s = "side"))) := by
        rw [x_bin, x_bin, var_eq (d := .tuple (.str s :: xs)) rfl, bnd_ret', x_eC, bnd_ret', ix_h, bnd_ret', x_eC, bnd_ret', neX_s shs shp_side]
      have n2 : bin gNeX (cal cLen (aCons (eVar 3) aNil)) (eC (.int 3)) ([some (.tuple (L.map vD)), some (plD p), some (.int k), some (.tuple (.str s :: xs)), none, none] : Py.Env) = ret (.bool (!decide (xs.length = 2))) := by
        rw [x_bin, x_cal, args_1 (x := .tuple (.str s :: xs)) rfl, bnd_ret', x_cLen_t, bnd_ret', x_eC, bnd_ret', neX_i]
        congr 2
        rw [List.length_cons]
        congr 1
        rw [decide_eq_decide]
        omega
      have sl : eSl (eVar 3) (oPart (eC (.int 1))) oNo ([some (.tuple (L.map vD)), some (plD p), some (.int k), some (.tuple (.str s :: xs)), none, none] : Py.Env) = ret (.tuple xs) := by
        show ret (PyData.tuple (cutD (.str s :: xs) (some ((1 : Nat) : Int)) none)) = _
        rw [cutD_from (by simp)]
        rfl
      have n3 : tst (eCall 1 F_are_whole_numbers (aCons (eSl (eVar 3) (oPart (eC (.int 1))) oNo) aNil)) ([some (.tuple (L.map vD)), some (plD p), some (.int k), some (.tuple (.str s :: xs)), none, none] : Py.Env) = ret (xs.all wholeB) := tst_b ((eCall_1 _ (args_e sl)).trans (whole_eq xs))
      have form : ∀ c : Py.Env → M Bool, c ([some (.tuple (L.map vD)), some (plD p), some (.int k), some (.tuple (.str s :: xs)), none, none] : Py.Env) = ret true → depthV k m (waysP L p) (.tuple (.str s :: xs)) = formD → (bnd (bnd (c ([some (.tuple (L.map vD)), some (plD p), some (.int k), some (.tuple (.str s :: xs)), none, none] : Py.Env)) fun b => if b = true then (sRet (eTup (aCons (eC (.str "form")) aNil))) ([some (.tuple (L.map vD)), some (plD p), some (.int k), some (.tuple (.str s :: xs)), none, none] : Py.Env) else sNx ([some (.tuple (L.map vD)), some (plD p), some (.int k), some (.tuple (.str s :: xs)), none, none] : Py.Env)) fun o => oThen o mE) = ret (Out.rt (depthV k m (waysP L p) (.tuple (.str s :: xs)))) := by
        intro c hc hf
        rw [hc, bnd_ret', if_pos rfl, x_sRet, form_e, bnd_ret', bnd_ret', oThen_rt, hf]
      by_cases s1 : s = "side"
      · subst s1
        by_cases l2 : xs.length = 2
        · obtain ⟨y, w, rfl⟩ : ∃ y w, xs = [y, w] := by
            match xs, l2 with
            | [y, w], _ => exact ⟨y, w, rfl⟩
          by_cases wh : ([y, w].all wholeB) = true
          · obtain ⟨a, b, rfl, rfl⟩ : ∃ a b, y = .int a ∧ w = .int b := by
              simp only [List.all_cons, List.all_nil, Bool.and_true, Bool.and_eq_true] at wh
              cases y with
              | int a => cases w with
                | int b => exact ⟨a, b, rfl, rfl⟩
                | _ => cases wh.2
              | _ => cases wh.1
            have n4 : tst (bin gEqX (eSl (eVar 3) (oPart (eC (.int 1))) oNo) (eTup (aCons (eC (.int 0)) (aCons (eC (.int 0)) aNil)))) ([some (.tuple (L.map vD)), some (plD p), some (.int k), some (.tuple [.str "side", .int a, .int b]), none, none] : Py.Env) = ret (decide ((a, b) = ((0, 0) : P2))) := by
              refine tst_b ?_
              rw [x_bin, sl, bnd_ret', pt_e ct_e ct_e, bnd_ret']
              exact eqX_v (a, b) (0, 0)
            have cc : (bOr (tst (bin gNeX (bin gIx (eVar 3) (eC (.int 0))) (eC (.str "side")))) (bOr (tst (bin gNeX (cal cLen (aCons (eVar 3) aNil)) (eC (.int 3)))) (bOr (bNot (tst (eCall 1 F_are_whole_numbers (aCons (eSl (eVar 3) (oPart (eC (.int 1))) oNo) aNil)))) (tst (bin gEqX (eSl (eVar 3) (oPart (eC (.int 1))) oNo) (eTup (aCons (eC (.int 0)) (aCons (eC (.int 0)) aNil)))))))) ([some (.tuple (L.map vD)), some (plD p), some (.int k), some (.tuple [.str "side", .int a, .int b]), none, none] : Py.Env) = ret (decide ((a, b) = ((0, 0) : P2))) := by
              rw [x_bOr, tst_b n1, bnd_ret', if_neg (by simp), x_bOr, tst_b n2, bnd_ret', if_neg (by simp), x_bOr, x_bNot, n3, bnd_ret', bnd_ret', if_neg (by rw [wh]; decide), n4]
            by_cases z0 : (a, b) = ((0, 0) : P2)
            · rw [decide_eq_true z0] at cc
              refine form _ cc ?_
              show (if ("side" : Str) = "side" then (if (a, b) = ((0, 0) : P2) then formD else _) else formD) = formD
              rw [if_pos rfl, if_pos z0]
            · rw [decide_eq_false z0] at cc
              rw [cc, bnd_ret', if_neg (by decide), x_sNx, bnd_ret', oThen_nx]
              have ba := (int_bd (hi (.int a) (by simp)))
              have bb := (int_bd (hi (.int b) (by simp)))
              have c1 : eCall 4 F_side_count (aCons (eVar 0) (aCons (eVar 1) (aCons (bin gIx (eVar 3) (eC (.int 1))) (aCons (bin gIx (eVar 3) (eC (.int 2))) aNil)))) ([some (.tuple (L.map vD)), some (plD p), some (.int k), some (.tuple [.str "side", .int a, .int b]), none, none] : Py.Env) = ret (.int (many (waysP L p) (b, -a) : Nat)) := by
                refine (eCall_4 (x := .tuple (L.map vD)) (y := plD p) (z := .int a) (w := .int b) _ ?_).trans (side_eqB h hL10 ba bb)
                rw [x_aCons, var_eq (d := .tuple (L.map vD)) rfl, bnd_ret', x_aCons, var_eq (d := plD p) rfl, bnd_ret', x_aCons, x_bin, var_eq (d := .tuple [.str "side", .int a, .int b]) rfl, bnd_ret', x_eC, bnd_ret', ix_1, bnd_ret', x_aCons, x_bin, var_eq (d := .tuple [.str "side", .int a, .int b]) rfl, bnd_ret', x_eC, bnd_ret', ix_2, bnd_ret', x_aNil, bnd_ret', bnd_ret', bnd_ret', bnd_ret']
              rw [asg_nx c1, x_sRet, x_eIf, tst_b (b := decide (((many (waysP L p) (b, -a) : Nat) : Int) ≥ k)) rfl, bnd_ret']
              show _ = ret (Out.rt (if ("side" : Str) = "side" then (if (a, b) = ((0, 0) : P2) then formD else if k ≤ (many (waysP L p) (b, -a) : Nat) then PyData.tuple [.str "many", .int (many (waysP L p) (b, -a) : Nat)] else .none) else formD))
              rw [if_pos rfl, if_neg z0]
              by_cases q : k ≤ (many (waysP L p) (b, -a) : Nat)
              · rw [decide_eq_true q, if_pos rfl, eTup_2 (x := .str "many") (y := .int (many (waysP L p) (b, -a) : Nat)) rfl rfl, bnd_ret', if_pos q]
              · rw [decide_eq_false q, if_neg (by decide), x_eC, bnd_ret', if_neg q]
          · refine form _ ?_ ?_
            · rw [x_bOr, tst_b n1, bnd_ret', if_neg (by simp), x_bOr, tst_b n2, bnd_ret', if_neg (by simp), x_bOr, x_bNot, n3, bnd_ret', bnd_ret', if_pos (by rw [Bool.eq_false_iff.mpr wh]; rfl)]
            · refine depthV_form (fun s e => by simp at e) fun s a b e => ?_
              simp only [PyData.tuple.injEq, List.cons.injEq, and_true] at e
              rw [e.2.1, e.2.2] at wh
              exact wh rfl
        · refine form _ ?_ ?_
          · rw [x_bOr, tst_b n1, bnd_ret', if_neg (by simp), x_bOr, tst_b n2, bnd_ret', if_pos (by simpa using l2)]
          · exact depthV_side l2
      · refine form _ ?_ ?_
        · rw [x_bOr, tst_b n1, bnd_ret', if_pos (by simpa using s1)]
        · exact depthV_other s1 z
end
end L93
namespace L93
open PySem hiding ret
open Py L2
def tA : Str := "('deep',)"
def tB : Str := "('side',)"
theorem txt_int (i : Int) : tA ≠ (PyData.tuple [.int i]).shown ∧ tB ≠ (PyData.tuple [.int i]).shown := by
  have free : 39 ∉ (PyData.tuple [.int i]).shown.cps.toList := by
    have e : (PyData.tuple [.int i]).shown = (("(" : Str) ++ (Str.ofString (toString i))) ++ (",)" : Str) := by
      simp only [PyData.shown, PyData.shownAll]
      rfl
    have e2 : (PyData.tuple [.int i]).shown.cps.toList = ("(" : Str).cps.toList ++ (Str.ofString (toString i)).cps.toList ++ (",)" : Str).cps.toList := by
      rw [e]
      show (((("(" : Str).cps ++ (Str.ofString (toString i)).cps) ++ (",)" : Str).cps)).toList = _
      rw [Array.toList_append, Array.toList_append]
    rw [e2]
    intro h
    rcases List.mem_append.mp h with h | h
    · rcases List.mem_append.mp h with h | h
      · exact absurd h (by decide +kernel)
      · exact PyProof.Rows.int_text_free 39 (by decide) i h
    · exact absurd h (by decide +kernel)
  constructor
  · intro e
    rw [← e] at free
    exact free (by decide +kernel)
  · intro e
    rw [← e] at free
    exact free (by decide +kernel)
def noInt : D → Bool
  | .int _ => false
  | _ => true
theorem txt_odd : ∀ x ∈ oddC, noInt x = true → (decide (tA = (PyData.tuple [x]).shown) || decide (tB = (PyData.tuple [x]).shown)) = isStr x := by decide +kernel
theorem txt {x : D} (h : It x) : (decide (tA = (PyData.tuple [x]).shown) || decide (tB = (PyData.tuple [x]).shown)) = isStr x := by
  by_cases q : ∃ i, x = .int i
  · obtain ⟨i, rfl⟩ := q
    obtain ⟨a, b⟩ := txt_int i
    rw [decide_eq_false a, decide_eq_false b]
    rfl
  · have n : noInt x = true := by
      cases x with
      | int i => exact absurd ⟨i, rfl⟩ q
      | _ => rfl
    have ho : x ∈ oddC := by
      rcases h with (⟨i, e, _⟩ | rfl | rfl | rfl) | h
      · exact absurd ⟨i, e⟩ q
      · simp [oddC]
      · simp [oddC]
      · simp [oddC]
      · exact h
    exact txt_odd x ho n
theorem in_AB {t : Str} (h : shp (.str t) = true) : gIn true (.str t) (.tuple [.str "('deep',)", .str "('side',)"]) = ret (.bool (!(decide (tA = t) || decide (tB = t)))) := by
  show (if (shp (.str t) && PyData.canLayAll0 [.str tA, .str tB]) = true then ret (PyData.bool (xor true ([PyData.str tA, .str tB].any fun z => PyData.eqv z (.str t)))) else stuck) = _
  rw [h, show PyData.canLayAll0 [.str tA, .str tB] = true from by decide +kernel, if_pos (show (true && true) = true from rfl)]
  simp only [List.any_cons, List.any_nil, PyData.eqv, Bool.or_false, Bool.true_xor]
  congr 2
theorem AB_e {ρ : Py.Env} : eTup (aCons (eC (.str "('deep',)")) (aCons (eC (.str "('side',)")) aNil)) ρ = ret (.tuple [.str "('deep',)", .str "('side',)"]) := eTup_2 (x_eC _ _) (x_eC _ _)
section
variable {L : List P2} {p : P2 × P2} {k : Int} {m : Nat}
def h1E : Py.Env → M Bool := (bOr (bNot (tst (una (gIsi "tuple") (eVar 3)))) (tst (bin (gIn true) (cal cReprX (aCons (eSl (eVar 3) oNo (oPart (eC (.int 1)))) aNil)) (eTup (aCons (eC (.str "('deep',)")) (aCons (eC (.str "('side',)")) aNil))))))
theorem h1_no {ρ : Py.Env} {d : D} (hv : ρ[3]? = some (some d)) (h : isTup d = false) : h1E ρ = ret true := by
  rw [h1E, x_bOr, x_bNot, tst_b (b := false) (by rw [x_una, var_eq hv, bnd_ret', isi_tup, h]), bnd_ret', bnd_ret']
  rfl
theorem h1_tup {ρ : Py.Env} {xs : List D} {b : Bool} (hv : ρ[3]? = some (some (.tuple xs))) (rq : RqOk (.tuple (xs.take 1))) (hb : (decide (tA = (PyData.tuple (xs.take 1)).shown) || decide (tB = (PyData.tuple (xs.take 1)).shown)) = b) : h1E ρ = ret (!b) := by
  have sl : eSl (eVar 3) oNo (oPart (eC (.int 1))) ρ = ret (.tuple (xs.take 1)) := by
    rw [x_eSl, var_eq hv, bnd_ret', x_oNo, bnd_ret', x_oPart, x_eC, bnd_ret', toI_i, bnd_ret']
    show ret (PyData.tuple (cutD xs none (some ((1 : Nat) : Int)))) = _
    by_cases z : 1 ≤ xs.length
    · rw [cutD_to z]
    · have : xs = [] := List.length_eq_zero_iff.mp (by omega)
      subst this
      rfl
  rw [h1E, x_bOr, x_bNot, tst_b (b := true) (by rw [x_una, var_eq hv, bnd_ret', isi_tup]; rfl), bnd_ret', bnd_ret', if_neg (by decide), tst_b (b := !b)]
  rw [x_bin, x_cal, args_e sl, bnd_ret', rq.rep, bnd_ret', AB_e, bnd_ret', in_AB rq.shp, hb]
theorem rq1 {x : D} (h : It x) : RqOk (.tuple [x]) := by
  have := vl_rq (.tup1 (pre := []) (post := []) (y := x) (by simp) (by simp) h (by simp))
  exact this
theorem h1_cons {ρ : Py.Env} {x : D} {xs : List D} (hv : ρ[3]? = some (some (.tuple (x :: xs)))) (h : It x) : h1E ρ = ret (!isStr x) :=
  h1_tup (xs := x :: xs) (b := isStr x) hv (rq1 h) (txt h)
theorem h1_nil {ρ : Py.Env} (hv : ρ[3]? = some (some (.tuple []))) : h1E ρ = ret true :=
  h1_tup (xs := []) (b := false) hv (vl_rq (.tup0 (by simp) (by simp))) (by decide +kernel)
theorem fault_eq {d : D} (h : PlOk p) (hL : ∀ a ∈ L, Bp 9 a) (hl : L.length ≤ 10) (hm : IsDepth (waysP L p) m) (hv : Vl d) : F__law_fault [.tuple (L.map vD), plD p, .int k, d] = ret (depthV k m (waysP L p) d) := by
  have hL10 : ∀ a ∈ L, Bp 10 a := fun a ha => ⟨(hL a ha).1.mono (by decide), (hL a ha).2.mono (by decide)⟩
  refine fn_rt (env := [some (.tuple (L.map vD)), some (plD p), some (.int k), some d, none, none]) rfl ?_
  rw [b__law_fault, x_sSeq, x_sIf]
  show bnd (bnd (h1E _) _) _ = _
  cases hd_of hv with
  | no hd => rw [h1_no rfl hd, bnd_ret', if_pos rfl, x_sRet, form_e, bnd_ret', bnd_ret', oThen_rt, depthV_no hd]
  | nil =>
    rw [h1_nil rfl, bnd_ret', if_pos rfl, x_sRet, form_e, bnd_ret', bnd_ret', oThen_rt]
    rfl
  | @odd x xs hx hi =>
    rw [h1_cons rfl hi, hx, bnd_ret', if_pos (show (!false) = true from rfl), x_sRet, form_e, bnd_ret', bnd_ret', oThen_rt, depthV_odd hx]
  | @str s xs hs hi hlen =>
    have shs : shp (.str s) = true := by rcases hs with rfl | rfl; exact shp_deep; exact shp_side
    have its : It (.str s) := by rcases hs with rfl | rfl; exact .inl (.inr (.inl rfl)); exact .inl (.inr (.inr (.inl rfl)))
    rw [h1_cons rfl its, show isStr (.str s) = true from rfl, bnd_ret', if_neg (show ¬ (!true) = true by decide), x_sNx, bnd_ret', oThen_nx]
    have c2 : bin gEqX (bin gIx (eVar 3) (eC (.int 0))) (eC (.str "deep")) ([some (.tuple (L.map vD)), some (plD p), some (.int k), some (.tuple (.str s :: xs)), none, none] : Py.Env) = ret (.bool (decide (s = "deep"))) := by
      rw [x_bin, x_bin, var_eq (d := .tuple (.str s :: xs)) rfl, bnd_ret', x_eC, bnd_ret', ix_h, bnd_ret', x_eC, bnd_ret', eqX_s shs shp_deep]
    rw [x_sSeq, x_sIf, tst_b c2, bnd_ret']
    by_cases z : s = "deep"
    · subst z
      rw [decide_eq_true rfl, if_pos rfl]
      obtain ⟨m', hd, e1⟩ := ldepth_eq h hL10 (by omega)
      have em : m' = m := hd.uniq hm
      rw [em] at e1
      rw [asg_nx ((eCall_2 _ (args_2 rfl rfl)).trans e1), x_sRet, x_eIf]
      have c3 : bin gGt (cal cLen (aCons (eVar 3) aNil)) (eC (.int 1)) (([some (.tuple (L.map vD)), some (plD p), some (.int k), some (.tuple (.str "deep" :: xs)), none, none] : Py.Env).set 4 (some (.int (m : Nat)))) = ret (.bool (decide (0 < xs.length))) := by
        rw [x_bin, x_cal, args_1 (x := .tuple (.str "deep" :: xs)) rfl, bnd_ret', x_cLen_t, bnd_ret', x_eC, bnd_ret', gGt0]
        congr 2
        rw [decide_eq_decide, List.length_cons]
        omega
      rw [tst_b c3, bnd_ret']
      by_cases e : xs = []
      · subst e
        rw [if_neg (by simp), x_eIf, tst_b (b := decide ((m : Int) < k)) rfl, bnd_ret']
        by_cases q : (m : Int) < k
        · rw [decide_eq_true q, if_pos rfl, eTup_2 (x := .str "depth") (y := .int (m : Nat)) rfl rfl, bnd_ret', bnd_ret', oThen_rt]
          show _ = ret (Out.rt (if ("deep" : Str) = "deep" then (if (m : Int) < k then PyData.tuple [.str "depth", .int (m : Nat)] else .none) else formD))
          rw [if_pos rfl, if_pos q]
        · rw [decide_eq_false q, if_neg (by decide), x_eC, bnd_ret', bnd_ret', oThen_rt]
          show _ = ret (Out.rt (if ("deep" : Str) = "deep" then (if (m : Int) < k then PyData.tuple [.str "depth", .int (m : Nat)] else .none) else formD))
          rw [if_pos rfl, if_neg q]
      · have e0 : 0 < xs.length := Nat.pos_of_ne_zero fun z => e (List.length_eq_zero_iff.mp z)
        rw [decide_eq_true e0, if_pos rfl, form_e, bnd_ret', bnd_ret', oThen_rt, depthV_other ds_ne]
        intro w
        rw [Bool.and_eq_true] at w
        exact e (List.isEmpty_iff.mp w.2)
    · rw [decide_eq_false z, if_neg (by decide), x_sNx, bnd_ret', oThen_nx, x_sSeq, x_sIf]
      have s1 : s = "side" := hs.resolve_left z
      subst s1
      have n2 : bin gNeX (cal cLen (aCons (eVar 3) aNil)) (eC (.int 3)) ([some (.tuple (L.map vD)), some (plD p), some (.int k), some (.tuple (.str "side" :: xs)), none, none] : Py.Env) = ret (.bool (!decide (xs.length = 2))) := by
        rw [x_bin, x_cal, args_1 (x := .tuple (.str "side" :: xs)) rfl, bnd_ret', x_cLen_t, bnd_ret', x_eC, bnd_ret', neX_i]
        congr 2
        rw [List.length_cons]
        congr 1
        rw [decide_eq_decide]
        omega
      by_cases l2 : xs.length = 2
      · obtain ⟨y, w, rfl⟩ : ∃ y w, xs = [y, w] := by
          match xs, l2 with
          | [y, w], _ => exact ⟨y, w, rfl⟩
        have v1 : bin gIx (eVar 3) (eC (.int 1)) ([some (.tuple (L.map vD)), some (plD p), some (.int k), some (.tuple [.str "side", y, w]), none, none] : Py.Env) = ret y := by
          rw [x_bin, var_eq (d := .tuple [.str "side", y, w]) rfl, bnd_ret', x_eC, bnd_ret', ix_1]
        have v2 : bin gIx (eVar 3) (eC (.int 2)) ([some (.tuple (L.map vD)), some (plD p), some (.int k), some (.tuple [.str "side", y, w]), none, none] : Py.Env) = ret w := by
          rw [x_bin, var_eq (d := .tuple [.str "side", y, w]) rfl, bnd_ret', x_eC, bnd_ret', ix_2]
        have w1 := tst_b ((eCall_1 F__law_is_int (args_e v1)).trans (isint_all y))
        have w2 := tst_b ((eCall_1 F__law_is_int (args_e v2)).trans (isint_all w))
        by_cases q : ∃ a b, y = .int a ∧ w = .int b
        · obtain ⟨a, b, rfl, rfl⟩ := q
          have e1 : bin gEqX (bin gIx (eVar 3) (eC (.int 1))) (eC (.int 0)) ([some (.tuple (L.map vD)), some (plD p), some (.int k), some (.tuple [.str "side", .int a, .int b]), none, none] : Py.Env) = ret (.bool (decide (a = 0))) := by rw [x_bin, v1, bnd_ret', x_eC, bnd_ret', eqX_i]
          have e2 : bin gEqX (bin gIx (eVar 3) (eC (.int 2))) (eC (.int 0)) ([some (.tuple (L.map vD)), some (plD p), some (.int k), some (.tuple [.str "side", .int a, .int b]), none, none] : Py.Env) = ret (.bool (decide (b = 0))) := by rw [x_bin, v2, bnd_ret', x_eC, bnd_ret', eqX_i]
          rw [x_bOr, tst_b n2, bnd_ret', if_neg (by simp), x_bOr, x_bNot, w1, bnd_ret', bnd_ret', if_neg (by simp [wholeB]), x_bOr, x_bNot, w2, bnd_ret', bnd_ret', if_neg (by simp [wholeB]), x_bAnd, tst_b e1, bnd_ret', tst_b e2]
          show _ = ret (Out.rt (if ("side" : Str) = "side" then (if (a, b) = ((0, 0) : P2) then formD else if k ≤ (many (waysP L p) (b, -a) : Nat) then PyData.tuple [.str "many", .int (many (waysP L p) (b, -a) : Nat)] else .none) else formD))
          rw [if_pos rfl]
          have cc : (if decide (a = 0) = true then ret (decide (b = 0)) else ret false : M Bool) = ret (decide ((a, b) = ((0, 0) : P2))) := by
            by_cases z1 : a = 0 <;> by_cases z2 : b = 0 <;> simp [z1, z2]
          rw [cc, bnd_ret']
          by_cases z0 : (a, b) = ((0, 0) : P2)
          · rw [decide_eq_true z0, if_pos rfl, x_sRet, form_e, bnd_ret', bnd_ret', oThen_rt, if_pos z0]
          · rw [decide_eq_false z0, if_neg (by decide), x_sNx, bnd_ret', oThen_nx, if_neg z0]
            have ba := (int_bd (hi (.int a) (by simp)))
            have bb := (int_bd (hi (.int b) (by simp)))
            have c1 : eCall 4 F__law_count (aCons (eVar 0) (aCons (eVar 1) (aCons (bin gIx (eVar 3) (eC (.int 1))) (aCons (bin gIx (eVar 3) (eC (.int 2))) aNil)))) ([some (.tuple (L.map vD)), some (plD p), some (.int k), some (.tuple [.str "side", .int a, .int b]), none, none] : Py.Env) = ret (.int (many (waysP L p) (b, -a) : Nat)) := by
              refine (eCall_4 (x := .tuple (L.map vD)) (y := plD p) (z := .int a) (w := .int b) _ ?_).trans (lcount_eqB h hL10 ba bb)
              rw [x_aCons, var_eq (d := .tuple (L.map vD)) rfl, bnd_ret', x_aCons, var_eq (d := plD p) rfl, bnd_ret', x_aCons, v1, bnd_ret', x_aCons, v2, bnd_ret', x_aNil, bnd_ret', bnd_ret', bnd_ret', bnd_ret']
            rw [asg_nx c1, x_sRet, x_eIf, tst_b (b := decide (((many (waysP L p) (b, -a) : Nat) : Int) ≥ k)) rfl, bnd_ret']
            by_cases q : k ≤ (many (waysP L p) (b, -a) : Nat)
            · rw [decide_eq_true q, if_pos rfl, eTup_2 (x := .str "many") (y := .int (many (waysP L p) (b, -a) : Nat)) rfl rfl, bnd_ret', if_pos q]
            · rw [decide_eq_false q, if_neg (by decide), x_eC, bnd_ret', if_neg q]
        · have hf : depthV k m (waysP L p) (.tuple [.str "side", y, w]) = formD := depthV_form (fun s e => by simp at e) fun s a b e => by
            simp only [PyData.tuple.injEq, List.cons.injEq, and_true] at e
            exact q ⟨a, b, e.2.1, e.2.2⟩
          have wn : wholeB y = false ∨ wholeB w = false := by
            by_cases wy : wholeB y = true
            · right
              cases y with
              | int a => cases w with
                | int b => exact absurd ⟨a, b, rfl, rfl⟩ q
                | _ => rfl
              | _ => cases wy
            · left; simpa using wy
          have cc : ∀ r : Py.Env → M Bool, (bOr (tst (bin gNeX (cal cLen (aCons (eVar 3) aNil)) (eC (.int 3)))) (bOr (bNot (tst (eCall 1 F__law_is_int (aCons (bin gIx (eVar 3) (eC (.int 1))) aNil)))) (bOr (bNot (tst (eCall 1 F__law_is_int (aCons (bin gIx (eVar 3) (eC (.int 2))) aNil)))) r))) ([some (.tuple (L.map vD)), some (plD p), some (.int k), some (.tuple [.str "side", y, w]), none, none] : Py.Env) = ret true := by
            intro r
            rw [x_bOr, tst_b n2, bnd_ret', if_neg (by simp), x_bOr, x_bNot, w1, bnd_ret', bnd_ret']
            by_cases wy : wholeB y = true
            · rw [if_neg (by rw [wy]; decide), x_bOr, x_bNot, w2, bnd_ret', bnd_ret', if_pos]
              rcases wn with e | e
              · rw [e] at wy; cases wy
              · rw [e]; rfl
            · rw [if_pos (by rw [Bool.eq_false_iff.mpr wy]; rfl)]
          rw [cc, bnd_ret', if_pos rfl, x_sRet, form_e, bnd_ret', bnd_ret', oThen_rt, hf]
      · rw [x_bOr, tst_b n2, bnd_ret', if_pos (by simpa using l2), bnd_ret', if_pos rfl, x_sRet, form_e, bnd_ret', bnd_ret', oThen_rt, depthV_side l2]
end
end L93
namespace L93
open PySem hiding ret
open Py L2
def moreN (L : List P2) (a b c : Int) : Nat := L.countP fun w => decide (a * w.1 + b * w.2 > c)
def lessN (L : List P2) (a b c : Int) : Nat := L.countP fun w => decide (a * w.1 + b * w.2 < c)
def lotT (L : List P2) : D := .tuple (L.map vD)
def line3 (a b c : Int) : D := .tuple [.int a, .int b, .int c]
theorem tg3i {i j k : Nat} {a b c : Int} {ρ : Py.Env} : tgTup 3 (tgsCons (tgN i) (tgsCons (tgN j) (tgsCons (tgN k) tgsNil))) (line3 a b c) ρ = ret (((ρ.set i (some (.int a))).set j (some (.int b))).set k (some (.int c))) := rfl
theorem more_eq {L : List P2} {a b c : Int} (hL : ∀ w ∈ L, Bp 9 w) (ha : B 70 a) (hb : B 70 b) : F_many_more [lotT L, line3 a b c] = ret (.int (moreN L a b c : Nat)) := by
  refine fn_rt (env := [some (lotT L), some (line3 a b c), none, none, none, none, none]) rfl ?_
  rw [b_many_more, seq_nx (ρ' := [some (lotT L), some (line3 a b c), some (.int a), some (.int b), some (.int c), none, none]) (by rw [x_sTgt, var_eq (d := line3 a b c) rfl, bnd_ret', tg3i, bnd_ret']; rfl)]
  rw [x_sRet, x_cal, x_aCons, comp_map vD (fun w => decide (a * w.1 + b * w.2 > c)) (fun _ => .int 1) L (by rfl) ?_, bnd_ret', x_aNil, bnd_ret', bnd_ret', x_cLen_l, List.length_map, bnd_ret', moreN, List.countP_eq_length_filter]
  intro w hw
  obtain ⟨w1, w2⟩ := hL w hw
  have m1 := mulq ha w1
  have m2 := mulq hb w2
  refine ⟨_, tg2', tst_b ?_, fun _ => rfl⟩
  simp only [x_bin, x_eVar, x_wipeD_cons, x_wipeD_nil, List.set_cons_succ, List.set_cons_zero, List.getElem?_cons_succ, List.getElem?_cons_zero, Option.getD_some, optM_some, bnd_ret', x_gMulX_i, m1, m2, if_true, x_gAdd_i]
  rfl
theorem less_eq {L : List P2} {a b c : Int} (hL : ∀ w ∈ L, Bp 9 w) (ha : B 70 a) (hb : B 70 b) : F_many_less [lotT L, line3 a b c] = ret (.int (lessN L a b c : Nat)) := by
  refine fn_rt (env := [some (lotT L), some (line3 a b c), none, none, none, none, none]) rfl ?_
  rw [b_many_less, seq_nx (ρ' := [some (lotT L), some (line3 a b c), some (.int a), some (.int b), some (.int c), none, none]) (by rw [x_sTgt, var_eq (d := line3 a b c) rfl, bnd_ret', tg3i, bnd_ret']; rfl)]
  rw [x_sRet, x_cal, x_aCons, comp_map vD (fun w => decide (a * w.1 + b * w.2 < c)) (fun _ => .int 1) L (by rfl) ?_, bnd_ret', x_aNil, bnd_ret', bnd_ret', x_cLen_l, List.length_map, bnd_ret', lessN, List.countP_eq_length_filter]
  intro w hw
  obtain ⟨w1, w2⟩ := hL w hw
  have m1 := mulq ha w1
  have m2 := mulq hb w2
  refine ⟨_, tg2', tst_b ?_, fun _ => rfl⟩
  simp only [x_bin, x_eVar, x_wipeD_cons, x_wipeD_nil, List.set_cons_succ, List.set_cons_zero, List.getElem?_cons_succ, List.getElem?_cons_zero, Option.getD_some, optM_some, bnd_ret', x_gMulX_i, m1, m2, if_true, x_gAdd_i]
  rfl
/-- what one lot says of a line -/
def oneV (i : Int) (L : List P2) (a b c : Int) : Option D :=
  if L.length < 2 * moreN L a b c then some (.tuple [.str "more", .int i]) else if L.length < 2 * lessN L a b c then some (.tuple [.str "less", .int i]) else none
def lineV (one other : List P2) : D → D
  | .tuple [.int a, .int b, .int c] => if (a, b) = ((0, 0) : P2) then formD else match oneV 0 one a b c with
    | some d => d
    | none => match oneV 1 other a b c with
      | some d => d
      | none => .none
  | _ => formD
theorem lineV_form {one other : List P2} {d : D} (h : ∀ a b c, d ≠ .tuple [.int a, .int b, .int c]) : lineV one other d = formD := by
  unfold lineV
  split
  · exact absurd rfl (h _ _ _)
  · rfl
/-- a statement on one lot, said by both -/
theorem one_stm {i : Int} {L : List P2} {a b c : Int} {ρ : Py.Env} {e1 e2 el ei : Py.Env → M D} (h1 : e1 ρ = ret (.int (moreN L a b c : Nat))) (h2 : e2 ρ = ret (.int (lessN L a b c : Nat))) (hl : el ρ = ret (.int (L.length : Nat))) (hi : ei ρ = ret (.int i)) (bl : L.length ≤ 1000) :
    (sSeq (sIf (tst (bin gGt (bin gMulX (eC (.int 2)) e1) el)) (sRet (eTup (aCons (eC (.str "more")) (aCons ei aNil)))) sNx) (sIf (tst (bin gGt (bin gMulX (eC (.int 2)) e2) el)) (sRet (eTup (aCons (eC (.str "less")) (aCons ei aNil)))) sNx)) ρ = ret (match oneV i L a b c with | some d => .rt d | none => .nx ρ) := by
  have hm : moreN L a b c ≤ L.length := List.countP_le_length
  have hn : lessN L a b c ≤ L.length := List.countP_le_length
  have b2 : B 2 2 := by unfold B; decide
  have q1 : mulOk 2 (moreN L a b c : Nat) = true := mulq b2 (show B 10 _ by unfold B; omega)
  have q2 : mulOk 2 (lessN L a b c : Nat) = true := mulq b2 (show B 10 _ by unfold B; omega)
  have t1 : bin gGt (bin gMulX (eC (.int 2)) e1) el ρ = ret (.bool (decide (L.length < 2 * moreN L a b c))) := by
    rw [x_bin, x_bin, x_eC, bnd_ret', h1, bnd_ret', x_gMulX_i, if_pos q1, bnd_ret', hl, bnd_ret', gGt0]
    congr 2
    rw [decide_eq_decide]; omega
  have t2 : bin gGt (bin gMulX (eC (.int 2)) e2) el ρ = ret (.bool (decide (L.length < 2 * lessN L a b c))) := by
    rw [x_bin, x_bin, x_eC, bnd_ret', h2, bnd_ret', x_gMulX_i, if_pos q2, bnd_ret', hl, bnd_ret', gGt0]
    congr 2
    rw [decide_eq_decide]; omega
  rw [x_sSeq, x_sIf, tst_b t1, bnd_ret', oneV]
  by_cases z : L.length < 2 * moreN L a b c
  · rw [decide_eq_true z, if_pos rfl, x_sRet, eTup_2 (x_eC _ _) hi, bnd_ret', bnd_ret', oThen_rt, if_pos z]
  · rw [decide_eq_false z, if_neg (by decide), x_sNx, bnd_ret', oThen_nx, x_sIf, tst_b t2, bnd_ret', if_neg z]
    by_cases y : L.length < 2 * lessN L a b c
    · rw [decide_eq_true y, if_pos rfl, x_sRet, eTup_2 (x_eC _ _) hi, bnd_ret', if_pos y]
    · rw [decide_eq_false y, if_neg (by decide), x_sNx, if_neg y]
section
variable {one other : List P2}
theorem int3 {xs : List D} (h : xs.length = 3) (w : xs.all wholeB = true) : ∃ a b c, xs = [.int a, .int b, .int c] := by
  match xs, h with
  | [x, y, z], _ =>
    simp only [List.all_cons, List.all_nil, Bool.and_true, Bool.and_eq_true] at w
    cases x with
    | int a => cases y with
      | int b => cases z with
        | int c => exact ⟨a, b, c, rfl⟩
        | _ => cases w.2.2
      | _ => cases w.2.1
    | _ => cases w.1
theorem len3 {x : D} (xs : List D) : PyData.int ((xs.length : Nat) : Int) = .int ((xs.length : Nat) : Int) := rfl
def jB : Py.Env → M Out := (sSeq (sIf (tst (bin gGt (bin gMulX (eC (.int 2)) (eCall 2 F_many_more (aCons (eVar 4) (aCons (eVar 2) aNil)))) (cal cLen (aCons (eVar 4) aNil)))) (sRet (eTup (aCons (eC (.str "more")) (aCons (eVar 3) aNil)))) sNx)
  (sIf (tst (bin gGt (bin gMulX (eC (.int 2)) (eCall 2 F_many_less (aCons (eVar 4) (aCons (eVar 2) aNil)))) (cal cLen (aCons (eVar 4) aNil)))) (sRet (eTup (aCons (eC (.str "less")) (aCons (eVar 3) aNil)))) sNx))
theorem jB_eq {i : Int} {L : List P2} {a b c : Int} {x0 x1 : Option D} (hL : ∀ w ∈ L, Bp 9 w) (bl : L.length ≤ 1000) (ha : B 70 a) (hb : B 70 b) : jB [x0, x1, some (line3 a b c), some (.int i), some (lotT L)] = ret (match oneV i L a b c with | some d => .rt d | none => .nx [x0, x1, some (line3 a b c), some (.int i), some (lotT L)]) :=
  one_stm ((eCall_2 _ (args_2 rfl rfl)).trans (more_eq hL ha hb)) ((eCall_2 _ (args_2 rfl rfl)).trans (less_eq hL ha hb)) (by rw [x_cal, args_1 (x := lotT L) rfl, bnd_ret', lotT, x_cLen_t, List.length_map]) (var_eq rfl) bl
theorem whole_len {xs : List D} {ρ : Py.Env} {i : Nat} (h : ρ[i]? = some (some (.tuple xs))) : bin gNe (cal cLen (aCons (eVar i) aNil)) (eC (.int 3)) ρ = ret (.bool (!decide (xs.length = 3))) := by
  rw [x_bin, x_cal, args_1 h, bnd_ret', x_cLen_t, bnd_ret', x_eC, bnd_ret']
  simp only [gNe, shp_int, Bool.and_self, if_true, eqv_int]
  congr 3
  rw [decide_eq_decide]; omega
theorem judge_line {d : D} (h1 : ∀ w ∈ one, Bp 9 w) (h2 : ∀ w ∈ other, Bp 9 w) (l1 : one.length ≤ 1000) (l2 : other.length ≤ 1000) (hv : Vl d) : F_judge_halving [lotT one, lotT other, d] = ret (lineV one other d) := by
  refine fn_rt (env := [some (lotT one), some (lotT other), some d, none, none]) rfl ?_
  have form : ∀ c : Py.Env → M Bool, ∀ r : Py.Env → M Out, c ([some (lotT one), some (lotT other), some d, none, none] : Py.Env) = ret true → lineV one other d = formD → (sSeq (sIf c (sRet (eTup (aCons (eC (.str "form")) aNil))) sNx) r) ([some (lotT one), some (lotT other), some d, none, none] : Py.Env) = ret (Out.rt (lineV one other d)) := by
    intro c r hc hf
    rw [x_sSeq, x_sIf, hc, bnd_ret', if_pos rfl, x_sRet, form_e, bnd_ret', bnd_ret', oThen_rt, hf]
  by_cases ht : isTup d = true
  · obtain ⟨xs, rfl⟩ : ∃ xs, d = .tuple xs := by
      cases d with
      | tuple xs => exact ⟨xs, rfl⟩
      | _ => cases ht
    have t0 : bNot (tst (una (gIsi "tuple") (eVar 2))) ([some (lotT one), some (lotT other), some (.tuple xs), none, none] : Py.Env) = ret false := by
      rw [x_bNot, tst_b (b := true) (by rw [x_una, var_eq (d := .tuple xs) rfl, bnd_ret', isi_tup]; rfl), bnd_ret']
      rfl
    by_cases hl : xs.length = 3
    · by_cases hw : xs.all wholeB = true
      · obtain ⟨a, b, c, rfl⟩ := int3 hl hw
        obtain ⟨_, hi⟩ := vl_items hv
        have ba := int_bd (hi (.int a) (by simp))
        have bb := int_bd (hi (.int b) (by simp))
        have t3 : tst (eCall 1 F_are_whole_numbers (aCons (eVar 2) aNil)) ([some (lotT one), some (lotT other), some (.tuple [.int a, .int b, .int c]), none, none] : Py.Env) = ret true := tst_b ((eCall_1 _ (args_1 rfl)).trans (whole_eq _))
        have t4 : tst (bin gEq (eSl (eVar 2) oNo (oPart (eC (.int 2)))) (eTup (aCons (eC (.int 0)) (aCons (eC (.int 0)) aNil)))) ([some (lotT one), some (lotT other), some (.tuple [.int a, .int b, .int c]), none, none] : Py.Env) = ret (decide ((a, b) = ((0, 0) : P2))) := by
          refine tst_b ?_
          rw [x_bin, show eSl (eVar 2) oNo (oPart (eC (.int 2))) ([some (lotT one), some (lotT other), some (.tuple [.int a, .int b, .int c]), none, none] : Py.Env) = ret (vD (a, b)) from rfl, bnd_ret', pt_e ct_e ct_e, bnd_ret', gEq_v]
        rw [b_judge_halving]
        have cc : (bOr (bNot (tst (una (gIsi "tuple") (eVar 2)))) (bOr (tst (bin gNe (cal cLen (aCons (eVar 2) aNil)) (eC (.int 3)))) (bOr (bNot (tst (eCall 1 F_are_whole_numbers (aCons (eVar 2) aNil)))) (tst (bin gEq (eSl (eVar 2) oNo (oPart (eC (.int 2)))) (eTup (aCons (eC (.int 0)) (aCons (eC (.int 0)) aNil)))))))) ([some (lotT one), some (lotT other), some (.tuple [.int a, .int b, .int c]), none, none] : Py.Env) = ret (decide ((a, b) = ((0, 0) : P2))) := by
          rw [x_bOr, t0, bnd_ret', if_neg (by decide), x_bOr, tst_b (whole_len (xs := [.int a, .int b, .int c]) rfl), bnd_ret', if_neg (by simp), x_bOr, x_bNot, t3, bnd_ret', bnd_ret', if_neg (by decide), t4]
        by_cases z : (a, b) = ((0, 0) : P2)
        · rw [decide_eq_true z] at cc
          refine form _ _ cc ?_
          show (if (a, b) = ((0, 0) : P2) then formD else _) = formD
          rw [if_pos z]
        · rw [decide_eq_false z] at cc
          rw [if_no cc]
          have lv : lineV one other (.tuple [.int a, .int b, .int c]) = (match oneV 0 one a b c with | some d => d | none => match oneV 1 other a b c with | some d => d | none => .none) := by
            show (if (a, b) = ((0, 0) : P2) then formD else _) = _
            rw [if_neg z]
          rw [lv]
          have it : itEnum (aCons (eTup (aCons (eVar 0) (aCons (eVar 1) aNil))) aNil) ([some (lotT one), some (lotT other), some (.tuple [.int a, .int b, .int c]), none, none] : Py.Env) = ret [.tuple [.int 0, lotT one], .tuple [.int 1, lotT other]] := by
            rw [x_itEnum, args_e (eTup_2 (x := lotT one) (y := lotT other) rfl rfl), bnd_ret', enum1_1, x_seqD_t, bnd_ret']
            rfl
          rw [x_sSeq, x_sFor, it, bnd_ret', forW_cons, tgAB, bnd_ret']
          show bnd (bnd (jB [some (lotT one), some (lotT other), some (line3 a b c), some (.int 0), some (lotT one)]) _) _ = _
          rw [jB_eq h1 l1 ba bb, bnd_ret']
          cases oneV 0 one a b c with
          | some d => rfl
          | none =>
            show bnd (oLoop (.nx [some (lotT one), some (lotT other), some (line3 a b c), some (.int 0), some (lotT one)]) _) _ = _
            rw [oLoop_nx, forW_cons, tgAB, bnd_ret']
            show bnd (bnd (jB [some (lotT one), some (lotT other), some (line3 a b c), some (.int 1), some (lotT other)]) _) _ = _
            rw [jB_eq h2 l2 ba bb, bnd_ret']
            cases oneV 1 other a b c with
            | some d => rfl
            | none => rfl
      · have t3 : tst (eCall 1 F_are_whole_numbers (aCons (eVar 2) aNil)) ([some (lotT one), some (lotT other), some (.tuple xs), none, none] : Py.Env) = ret false := tst_b ((eCall_1 _ (args_1 rfl)).trans (by rw [whole_eq, Bool.eq_false_iff.mpr hw]))
        refine form _ _ ?_ (lineV_form fun a b c e => ?_)
        · rw [x_bOr, t0, bnd_ret', if_neg (by decide), x_bOr, tst_b (whole_len (xs := xs) rfl), bnd_ret', if_neg (by rw [decide_eq_true hl]; decide), x_bOr, x_bNot, t3, bnd_ret', bnd_ret', if_pos (show (!false) = true from rfl)]
        · injection e with e
          rw [e] at hw
          exact hw rfl
    · refine form _ _ ?_ (lineV_form fun a b c e => ?_)
      · rw [x_bOr, t0, bnd_ret', if_neg (by decide), x_bOr, tst_b (whole_len (xs := xs) rfl), bnd_ret', if_pos (by rw [decide_eq_false hl]; rfl)]
      · injection e with e
        rw [e] at hl
        exact hl rfl
  · have hf : isTup d = false := by simpa using ht
    refine form _ _ ?_ (lineV_form fun a b c e => ?_)
    · rw [x_bOr, x_bNot, tst_b (b := false) (by rw [x_una, var_eq (d := d) rfl, bnd_ret', isi_tup, hf]), bnd_ret', bnd_ret']
      rfl
    · rw [e] at hf; cases hf
end
end L93
namespace L93
open PySem hiding ret
open Py L2
section
variable {one other : List P2}
def fB : Py.Env → M Out := (sSeq (sIf (tst (bin gGt (bin gMulX (eC (.int 2)) (cal cLen (aCons (mkL (eLc (itSeq (eVar 7)) (tgTup 2 (tgsCons (tgN 8) (tgsCons (tgN 9) tgsNil))) (tst (bin gGt (bin gAdd (bin gMulX (eVar 3) (eVar 8)) (bin gMulX (eVar 4) (eVar 9))) (eVar 5))) (eC (.int 1)) [8, 9])) aNil))) (cal cLen (aCons (eVar 7) aNil)))) (sRet (eTup (aCons (eC (.str "more")) (aCons (eVar 6) aNil)))) sNx)
  (sIf (tst (bin gGt (bin gMulX (eC (.int 2)) (cal cLen (aCons (mkL (eLc (itSeq (eVar 7)) (tgTup 2 (tgsCons (tgN 8) (tgsCons (tgN 9) tgsNil))) (tst (bin gLt (bin gAdd (bin gMulX (eVar 3) (eVar 8)) (bin gMulX (eVar 4) (eVar 9))) (eVar 5))) (eC (.int 1)) [8, 9])) aNil))) (cal cLen (aCons (eVar 7) aNil)))) (sRet (eTup (aCons (eC (.str "less")) (aCons (eVar 6) aNil)))) sNx))
theorem fB_eq {i : Int} {L : List P2} {a b c : Int} {x0 x1 x2 : Option D} (hL : ∀ w ∈ L, Bp 9 w) (bl : L.length ≤ 1000) (ha : B 70 a) (hb : B 70 b) : fB [x0, x1, x2, some (.int a), some (.int b), some (.int c), some (.int i), some (lotT L), none, none] = ret (match oneV i L a b c with | some d => .rt d | none => .nx [x0, x1, x2, some (.int a), some (.int b), some (.int c), some (.int i), some (lotT L), none, none]) := by
  refine one_stm (ρ := [x0, x1, x2, some (.int a), some (.int b), some (.int c), some (.int i), some (lotT L), none, none]) ?_ ?_ (by rw [x_cal, args_1 (x := lotT L) rfl, bnd_ret', lotT, x_cLen_t, List.length_map]) (var_eq rfl) bl
  · rw [x_cal, x_aCons, comp_map vD (fun w => decide (a * w.1 + b * w.2 > c)) (fun _ => .int 1) L (by rfl) ?_, bnd_ret', x_aNil, bnd_ret', bnd_ret', x_cLen_l, List.length_map, moreN, List.countP_eq_length_filter]
    intro w hw
    obtain ⟨w1, w2⟩ := hL w hw
    have m1 := mulq ha w1
    have m2 := mulq hb w2
    refine ⟨_, tg2', tst_b ?_, fun _ => rfl⟩
    simp only [x_bin, x_eVar, x_wipeD_cons, x_wipeD_nil, List.set_cons_succ, List.set_cons_zero, List.getElem?_cons_succ, List.getElem?_cons_zero, Option.getD_some, optM_some, bnd_ret', x_gMulX_i, m1, m2, if_true, x_gAdd_i]
    rfl
  · rw [x_cal, x_aCons, comp_map vD (fun w => decide (a * w.1 + b * w.2 < c)) (fun _ => .int 1) L (by rfl) ?_, bnd_ret', x_aNil, bnd_ret', bnd_ret', x_cLen_l, List.length_map, lessN, List.countP_eq_length_filter]
    intro w hw
    obtain ⟨w1, w2⟩ := hL w hw
    have m1 := mulq ha w1
    have m2 := mulq hb w2
    refine ⟨_, tg2', tst_b ?_, fun _ => rfl⟩
    simp only [x_bin, x_eVar, x_wipeD_cons, x_wipeD_nil, List.set_cons_succ, List.set_cons_zero, List.getElem?_cons_succ, List.getElem?_cons_zero, Option.getD_some, optM_some, bnd_ret', x_gMulX_i, m1, m2, if_true, x_gAdd_i]
    rfl
theorem lenX {xs : List D} {ρ : Py.Env} {i : Nat} (h : ρ[i]? = some (some (.tuple xs))) : bin gNeX (cal cLen (aCons (eVar i) aNil)) (eC (.int 3)) ρ = ret (.bool (!decide (xs.length = 3))) := by
  rw [x_bin, x_cal, args_1 h, bnd_ret', x_cLen_t, bnd_ret', x_eC, bnd_ret', neX_i]
  congr 3
  rw [decide_eq_decide]; omega
theorem lnil_e {ρ : Py.Env} : mkL (lDisp aNil) ρ = ret (.list []) := by rw [x_mkL, x_lDisp, x_aNil, bnd_ret', if_pos (by simp [lenOk]), bnd_ret']
theorem fault_line {d : D} (h1 : ∀ w ∈ one, Bp 9 w) (h2 : ∀ w ∈ other, Bp 9 w) (l1 : one.length ≤ 1000) (l2 : other.length ≤ 1000) (hv : Vl d) : F__law_line_fault [lotT one, lotT other, d] = ret (lineV one other d) := by
  refine fn_rt (env := [some (lotT one), some (lotT other), some d, none, none, none, none, none, none, none]) rfl ?_
  have form : ∀ c : Py.Env → M Bool, ∀ r : Py.Env → M Out, c ([some (lotT one), some (lotT other), some d, none, none, none, none, none, none, none] : Py.Env) = ret true → lineV one other d = formD → (sSeq (sIf c (sRet (eTup (aCons (eC (.str "form")) aNil))) sNx) r) ([some (lotT one), some (lotT other), some d, none, none, none, none, none, none, none] : Py.Env) = ret (Out.rt (lineV one other d)) := by
    intro c r hc hf
    rw [x_sSeq, x_sIf, hc, bnd_ret', if_pos rfl, x_sRet, form_e, bnd_ret', bnd_ret', oThen_rt, hf]
  by_cases ht : isTup d = true
  · obtain ⟨xs, rfl⟩ : ∃ xs, d = .tuple xs := by
      cases d with
      | tuple xs => exact ⟨xs, rfl⟩
      | _ => cases ht
    have t0 : bNot (tst (una (gIsi "tuple") (eVar 2))) ([some (lotT one), some (lotT other), some (.tuple xs), none, none, none, none, none, none, none] : Py.Env) = ret false := by
      rw [x_bNot, tst_b (b := true) (by rw [x_una, var_eq (d := .tuple xs) rfl, bnd_ret', isi_tup]; rfl), bnd_ret']
      rfl
    have t3 : bin gNeX (mkL (eLc (itSeq (eVar 2)) (tgN 8) (bNot (tst (eCall 1 F__law_is_int (aCons (eVar 8) aNil)))) (eVar 8) [8])) (mkL (lDisp aNil)) ([some (lotT one), some (lotT other), some (.tuple xs), none, none, none, none, none, none, none] : Py.Env) = ret (.bool (!(xs.filter fun x => !wholeB x).isEmpty)) := by
      rw [x_bin, comp_map (fun d : D => d) (fun x => !wholeB x) (fun d => d) xs (by rw [x_itSeq, var_eq (d := .tuple xs) rfl, bnd_ret', x_seqD_t]; simp) ?_, bnd_ret', lnil_e, bnd_ret', List.map_id', neX_nilL]
      intro x hx
      refine ⟨_, rfl, ?_, fun _ => rfl⟩
      rw [x_bNot, tst_b ((eCall_1 F__law_is_int (args_1 rfl)).trans (isint_all x)), bnd_ret']
    have emp : (xs.filter fun x => !wholeB x).isEmpty = xs.all wholeB := by
      rw [Bool.eq_iff_iff, List.isEmpty_iff, List.filter_eq_nil_iff, List.all_eq_true]
      simp
    rw [emp] at t3
    by_cases hl : xs.length = 3
    · by_cases hw : xs.all wholeB = true
      · obtain ⟨a, b, c, rfl⟩ := int3 hl hw
        obtain ⟨_, hi⟩ := vl_items hv
        have ba := int_bd (hi (.int a) (by simp))
        have bb := int_bd (hi (.int b) (by simp))
        have cc : (bOr (bNot (tst (una (gIsi "tuple") (eVar 2)))) (bOr (tst (bin gNeX (cal cLen (aCons (eVar 2) aNil)) (eC (.int 3)))) (tst (bin gNeX (mkL (eLc (itSeq (eVar 2)) (tgN 8) (bNot (tst (eCall 1 F__law_is_int (aCons (eVar 8) aNil)))) (eVar 8) [8])) (mkL (lDisp aNil)))))) ([some (lotT one), some (lotT other), some (.tuple [.int a, .int b, .int c]), none, none, none, none, none, none, none] : Py.Env) = ret false := by
          rw [x_bOr, t0, bnd_ret', if_neg (by decide), x_bOr, tst_b (lenX (xs := [.int a, .int b, .int c]) rfl), bnd_ret', if_neg (by simp), tst_b t3]
          rfl
        rw [b__law_line_fault, if_no cc]
        rw [seq_nx (ρ' := [some (lotT one), some (lotT other), some (line3 a b c), some (.int a), some (.int b), some (.int c), none, none, none, none]) (by rw [x_sTgt, var_eq (d := line3 a b c) rfl, bnd_ret', tg3i, bnd_ret']; rfl)]
        have e1 : bin gEqX (eVar 3) (eC (.int 0)) ([some (lotT one), some (lotT other), some (line3 a b c), some (.int a), some (.int b), some (.int c), none, none, none, none] : Py.Env) = ret (.bool (decide (a = 0))) := by rw [x_bin, var_eq (d := .int a) rfl, bnd_ret', x_eC, bnd_ret', eqX_i]
        have e2 : bin gEqX (eVar 4) (eC (.int 0)) ([some (lotT one), some (lotT other), some (line3 a b c), some (.int a), some (.int b), some (.int c), none, none, none, none] : Py.Env) = ret (.bool (decide (b = 0))) := by rw [x_bin, var_eq (d := .int b) rfl, bnd_ret', x_eC, bnd_ret', eqX_i]
        have c2 : (bAnd (tst (bin gEqX (eVar 3) (eC (.int 0)))) (tst (bin gEqX (eVar 4) (eC (.int 0))))) ([some (lotT one), some (lotT other), some (line3 a b c), some (.int a), some (.int b), some (.int c), none, none, none, none] : Py.Env) = ret (decide ((a, b) = ((0, 0) : P2))) := by
          rw [x_bAnd, tst_b e1, bnd_ret', tst_b e2]
          by_cases z1 : a = 0 <;> by_cases z2 : b = 0 <;> simp [z1, z2]
        by_cases z : (a, b) = ((0, 0) : P2)
        · rw [decide_eq_true z] at c2
          rw [x_sSeq, x_sIf, c2, bnd_ret', if_pos rfl, x_sRet, form_e, bnd_ret', bnd_ret', oThen_rt]
          show _ = ret (Out.rt (if (a, b) = ((0, 0) : P2) then formD else _))
          rw [if_pos z]
        · rw [decide_eq_false z] at c2
          rw [if_no c2]
          have lv : lineV one other (.tuple [.int a, .int b, .int c]) = (match oneV 0 one a b c with | some d => d | none => match oneV 1 other a b c with | some d => d | none => .none) := by
            show (if (a, b) = ((0, 0) : P2) then formD else _) = _
            exact (if_neg z).trans (by rfl)
          rw [lv]
          have it : itEnum (aCons (eTup (aCons (eVar 0) (aCons (eVar 1) aNil))) aNil) ([some (lotT one), some (lotT other), some (line3 a b c), some (.int a), some (.int b), some (.int c), none, none, none, none] : Py.Env) = ret [.tuple [.int 0, lotT one], .tuple [.int 1, lotT other]] := by
            rw [x_itEnum, args_e (eTup_2 (x := lotT one) (y := lotT other) rfl rfl), bnd_ret', enum1_1, x_seqD_t, bnd_ret']
            rfl
          rw [x_sSeq, x_sFor, it, bnd_ret', forW_cons, tgAB, bnd_ret']
          show bnd (bnd (fB [some (lotT one), some (lotT other), some (line3 a b c), some (.int a), some (.int b), some (.int c), some (.int 0), some (lotT one), none, none]) _) _ = _
          rw [fB_eq h1 l1 ba bb, bnd_ret']
          cases oneV 0 one a b c with
          | some d => rfl
          | none =>
            show bnd (oLoop (.nx [some (lotT one), some (lotT other), some (line3 a b c), some (.int a), some (.int b), some (.int c), some (.int 0), some (lotT one), none, none]) _) _ = _
            rw [oLoop_nx, forW_cons, tgAB, bnd_ret']
            show bnd (bnd (fB [some (lotT one), some (lotT other), some (line3 a b c), some (.int a), some (.int b), some (.int c), some (.int 1), some (lotT other), none, none]) _) _ = _
            rw [fB_eq h2 l2 ba bb, bnd_ret']
            cases oneV 1 other a b c with
            | some d => rfl
            | none => rfl
      · refine form _ _ ?_ (lineV_form fun a b c e => ?_)
        · rw [x_bOr, t0, bnd_ret', if_neg (by decide), x_bOr, tst_b (lenX (xs := xs) rfl), bnd_ret', if_neg (by rw [decide_eq_true hl]; decide), tst_b t3, Bool.eq_false_iff.mpr hw]
          rfl
        · injection e with e
          rw [e] at hw
          exact hw rfl
    · refine form _ _ ?_ (lineV_form fun a b c e => ?_)
      · rw [x_bOr, t0, bnd_ret', if_neg (by decide), x_bOr, tst_b (lenX (xs := xs) rfl), bnd_ret', if_pos (by rw [decide_eq_false hl]; rfl)]
      · injection e with e
        rw [e] at hl
        exact hl rfl
  · have hf : isTup d = false := by simpa using ht
    refine form _ _ ?_ (lineV_form fun a b c e => ?_)
    · rw [x_bOr, x_bNot, tst_b (b := false) (by rw [x_una, var_eq (d := d) rfl, bnd_ret', isi_tup, hf]), bnd_ret', bnd_ret']
      rfl
    · rw [e] at hf; cases hf
end
/-! ### the told paper -/
def sideP (s : P2) : D := .tuple [.str "side", .int s.1, .int s.2]
def deepP : D := .tuple [.str "deep"]
theorem paper_eq {L : List P2} {p : P2 × P2} {k : Int} (h : PlOk p) (hL : ∀ a ∈ L, Bp 9 a) (hl : L.length ≤ 10) : ∃ (m : Nat) (s : P2), IsDepth (waysP L p) m ∧ m ≤ 10 ∧ Nz s ∧ Bp 31 s ∧ many (waysP L p) (s.2, -s.1) = m ∧ F_depth_paper [lotT L, plD p, .int k] = ret (if k ≤ (m : Int) then deepP else sideP s) := by
  have hL10 : ∀ a ∈ L, Bp 10 a := fun a ha => ⟨(hL a ha).1.mono (by decide), (hL a ha).2.mono (by decide)⟩
  obtain ⟨m, s, hd, e1, e2, nz, bs, hm⟩ := depth_fns h hL10 (by omega)
  have wl : (waysP L p).length = L.length := by simp [waysP]
  have ml : m ≤ 10 := by
    rw [← hm]
    have : many (waysP L p) (s.2, -s.1) ≤ (waysP L p).length := List.countP_le_length
    omega
  refine ⟨m, s, hd, ml, nz, bs, hm, ?_⟩
  refine fn_rt (env := [some (lotT L), some (plD p), some (.int k)]) rfl ?_
  have c1 : bin gGe (eCall 2 F_depth_of (aCons (eVar 0) (aCons (eVar 1) aNil))) (eVar 2) ([some (lotT L), some (plD p), some (.int k)] : Py.Env) = ret (.bool (decide (k ≤ (m : Int)))) := by
    rw [x_bin, (eCall_2 F_depth_of (args_2 rfl rfl)).trans e1, bnd_ret', var_eq (d := .int k) rfl, bnd_ret']
    rfl
  rw [b_depth_paper, x_sRet, x_eIf, tst_b c1, bnd_ret']
  by_cases z : k ≤ (m : Int)
  · rw [decide_eq_true z, if_pos rfl, if_pos z, eTup_1 (x_eC _ _), bnd_ret']
    rfl
  · rw [decide_eq_false z, if_neg (by decide), if_neg z, x_eTup, x_aCons, x_eC, bnd_ret', x_aStar, (eCall_2 F_least_side (args_2 rfl rfl)).trans e2, bnd_ret', vD, x_seqD_t, bnd_ret', x_aNil, bnd_ret', bnd_ret', bnd_ret', if_pos (by simp [lenOk]), bnd_ret']
    rfl
end L93
namespace L93
open PySem hiding ret
open Py L2
def isPS (x : D) : Prop := (∃ i : Int, x = .int i ∧ B 60 i) ∨ x = .str "deep" ∨ x = .str "side"
theorem isPS.pl {x : D} (h : isPS x) : Pl x := by
  rcases h with ⟨i, rfl, b⟩ | rfl | rfl
  · exact .inl ⟨i, rfl, b.mono (by decide)⟩
  · exact .inr (.inl rfl)
  · exact .inr (.inr (.inl rfl))
theorem tst_app {e : Py.Env → M D} {ρ : Py.Env} {Q : Bool → Prop} : tst e ρ Q = e ρ (fun d => toB d Q) := by rw [x_tst, bnd_app]
theorem bAnd_app {a b : Py.Env → M Bool} {ρ : Py.Env} {Q : Bool → Prop} : bAnd a b ρ Q = a ρ (fun x => (if x = true then b ρ else ret false) Q) := rfl
theorem bOr_app {a b : Py.Env → M Bool} {ρ : Py.Env} {Q : Bool → Prop} : bOr a b ρ Q = a ρ (fun x => (if x = true then ret true else b ρ) Q) := rfl
theorem bent_open {n : Nat} {x : D} {P : D → Prop} (h : b__law_bent (R__law_bent n) [some .none, some x, some (.list oddC), none, none] (fun o => outD o P)) : R__law_bent (n + 1) [x, .list oddC] P := by
  show fnS 2 (b__law_bent (R__law_bent n)) [x, .list oddC] P
  exact fnS_c (env := [some .none, some x, some (.list oddC), none, none]) rfl h
theorem odd_of {x : D} {a b : Option D} {P : Out → Prop} (k : ∀ y, It y → P (.rt y)) : sRet (eCallS 0 1 F__law_of (aCons (eVar 2) aNil)) [some .none, some x, some (.list oddC), a, b] P := by
  rw [x_sRet, bnd_app]
  refine of_c rfl (var_eq rfl) (.inl rfl) (by decide) (by decide) fun y hy => ?_
  exact k y (.inr hy)
theorem bent_item {n : Nat} {x : D} {P : D → Prop} (hx : isPS x) (k : ∀ y, It y → P y) : R__law_bent (n + 1) [x, .list oddC] P := by
  refine bent_open ?_
  have ic : tst (eCall 1 F__law_is_int (aCons (eVar 1) aNil)) ([some .none, some x, some (.list oddC), none, none] : Py.Env) = ret (wholeB x) := tst_b ((eCall_1 F__law_is_int (args_1 rfl)).trans (isint_all x))
  have nt : isTup x = false := by rcases hx with ⟨i, rfl, _⟩ | rfl | rfl <;> rfl
  have rest : (sSeq (sIf (bOr (bNot (tst (una (gIsi "tuple") (eVar 1)))) (bOr (tst (bin gEq (eVar 1) (eTup aNil))) (tst (bin gEq (eCallS 0 1 F__law_pick (aCons (eC (.int 7)) aNil)) (eC (.int 0)))))) (sRet (eCallS 0 1 F__law_of (aCons (eVar 2) aNil))) sNx)
  (sSeq (sPar 3 4 (aCons (eCallS 0 1 F__law_pick (aCons (cal cLen (aCons (eVar 1) aNil)) aNil)) (aCons (eCallS 0 1 F__law_pick (aCons (eC (.int 8)) aNil)) aNil)))
  (sSeq (sIf (tst (bin gLt (eVar 4) (eC (.int 5)))) (sRet (bin gAdd (bin gAdd (eSl (eVar 1) oNo (oPart (eVar 3))) (eTup (aCons (eCallS 0 2 (R__law_bent n) (aCons (bin gIx (eVar 1) (eVar 3)) (aCons (eVar 2) aNil))) aNil))) (eSl (eVar 1) (oPart (bin gAdd (eVar 3) (eC (.int 1)))) oNo))) sNx)
  (sRet (bin gIx (mkL (lDisp (aCons (bin gAdd (eSl (eVar 1) oNo (oPart (eVar 3))) (eSl (eVar 1) (oPart (bin gAdd (eVar 3) (eC (.int 1)))) oNo)) (aCons (bin gAdd (eSl (eVar 1) oNo (oPart (bin gAdd (eVar 3) (eC (.int 1))))) (eSl (eVar 1) (oPart (eVar 3)) oNo)) (aCons (bin gAdd (eSl (eVar 1) (oPart (eVar 3)) oNo) (eSl (eVar 1) oNo (oPart (eVar 3)))) aNil))))) (bin gSub (eVar 4) (eC (.int 5)))))))) [some .none, some x, some (.list oddC), none, none] (fun o => outD o P) := by
    rw [x_sSeq, bnd_app, x_sIf, x_bOr, x_bNot, tst_b (b := false) (by rw [x_una, var_eq (d := x) rfl, bnd_ret', isi_tup, nt]), bnd_ret', bnd_ret', if_pos (show (!false) = true from rfl), bnd_ret', if_pos rfl]
    refine odd_of fun y hy => ?_
    rw [oThen_rt]
    exact k y hy
  rw [b__law_bent, x_sSeq, bnd_app, x_sIf, x_bAnd, ic, bnd_ret']
  rcases hx with ⟨i, rfl, bi⟩ | rfl | rfl
  · rw [show wholeB (.int i) = true from rfl, if_pos rfl, bnd_app, tst_app, x_bin, bnd_app]
    refine pick_c rfl (x_eC _ _) (by decide) (by decide) fun j j0 j1 => ?_
    rw [x_eC, bnd_ret', gGt0, ret_app, toB_b, ret_app]
    by_cases z : j > 0
    · rw [decide_eq_true z, if_pos rfl, x_sRet, x_bin, bnd_app, var_eq (d := .int i) rfl, bnd_ret', bnd_app]
      have el : mkL (lDisp (aCons (eC (.int 1)) (aCons (una gNeg (eC (.int 1))) (aCons (eC (.int 2)) aNil)))) ([some .none, some (.int i), some (.list oddC), none, none] : Py.Env) = ret (.list [.int 1, .int (-1), .int 2]) := by
        rw [x_mkL, x_lDisp, x_aCons, x_eC, bnd_ret', x_aCons, ng_e, bnd_ret', x_aCons, x_eC, bnd_ret', x_aNil, bnd_ret', bnd_ret', bnd_ret', bnd_ret', if_pos (by simp [lenOk]), bnd_ret']
      refine of_c rfl el (.inl rfl) (by simp) (by simp) fun y hy => ?_
      obtain ⟨e, he, rfl⟩ : ∃ e : Int, B 2 e ∧ y = .int e := by
        simp only [List.mem_cons, List.not_mem_nil, or_false] at hy
        rcases hy with rfl | rfl | rfl
        · exact ⟨1, by unfold B; decide, rfl⟩
        · exact ⟨-1, by unfold B; decide, rfl⟩
        · exact ⟨2, by unfold B; decide, rfl⟩
      rw [x_gAdd_i, ret_app]
      rw [ret_app, oThen_rt]
      exact k _ (.inl (.inl ⟨i + e, rfl, (bi.add (he.mono (by decide))).mono (by decide)⟩))
    · rw [decide_eq_false z, if_neg (by decide), x_sNx, ret_app, oThen_nx]
      exact rest
  · rw [show wholeB (.str "deep") = false from rfl, if_neg (by decide), bnd_ret', if_neg (by decide), x_sNx, ret_app, oThen_nx]
    exact rest
  · rw [show wholeB (.str "side") = false from rfl, if_neg (by decide), bnd_ret', if_neg (by decide), x_sNx, ret_app, oThen_nx]
    exact rest
theorem shp_pls {xs : List D} (h : ∀ x ∈ xs, isPS x) (hl : xs.length ≤ 7) : shp (.tuple xs) = true := by
  have r : rk 1 (7 * (80 + 2) + 3) (.tuple xs) := rk_tuple (fun x hx => (pl_fq (h x hx).pl).2.1) hl
  exact shp_of (ptx_shown _ r.1).2.2.2 (Nat.le_trans r.2.1 (by decide))
theorem tup_add {a b : List D} (h : a.length + b.length ≤ 1000) : gAdd (.tuple a) (.tuple b) = ret (.tuple (a ++ b)) := by
  rw [x_gAdd_t, if_pos (by simp [lenOk]; omega)]
theorem bent_tup {n : Nat} {xs : List D} {P : D → Prop} (hx : ∀ x ∈ xs, isPS x) (h1 : 1 ≤ xs.length) (h3 : xs.length ≤ 3) (k : ∀ y, Vl y → P y) : R__law_bent (n + 2) [.tuple xs, .list oddC] P := by
  refine bent_open ?_
  have ic : tst (eCall 1 F__law_is_int (aCons (eVar 1) aNil)) ([some .none, some (.tuple xs), some (.list oddC), none, none] : Py.Env) = ret false := tst_b ((eCall_1 F__law_is_int (args_1 rfl)).trans (isint_all _))
  have ne : xs.isEmpty = false := by cases xs with
    | nil => simp at h1
    | cons _ _ => rfl
  have t0 : bNot (tst (una (gIsi "tuple") (eVar 1))) ([some .none, some (.tuple xs), some (.list oddC), none, none] : Py.Env) = ret false := by
    rw [x_bNot, tst_b (b := true) (by rw [x_una, var_eq (d := .tuple xs) rfl, bnd_ret', isi_tup]; rfl), bnd_ret']
    rfl
  have t1 : tst (bin gEq (eVar 1) (eTup aNil)) ([some .none, some (.tuple xs), some (.list oddC), none, none] : Py.Env) = ret false := by
    refine tst_b ?_
    rw [x_bin, var_eq (d := .tuple xs) rfl, bnd_ret', x_eTup, x_aNil, bnd_ret', if_pos (by decide), bnd_ret']
    show (if (shp (.tuple xs) && shp (.tuple [])) = true then ret (PyData.bool (PyData.eqv (.tuple xs) (.tuple []))) else stuck) = _
    rw [shp_pls hx (by omega), show shp (.tuple []) = true from by decide +kernel, if_pos (show (true && true) = true from rfl)]
    cases xs with
    | nil => simp at h1
    | cons _ _ => simp [PyData.eqv, PyData.eqvAll]
  have cl : cal cLen (aCons (eVar 1) aNil) ([some .none, some (.tuple xs), some (.list oddC), none, none] : Py.Env) = ret (.int (xs.length : Nat)) := by
    rw [x_cal, args_1 (x := .tuple xs) rfl, bnd_ret', x_cLen_t]
  rw [b__law_bent, x_sSeq, bnd_app, x_sIf, x_bAnd, ic, bnd_ret', if_neg (by decide), bnd_ret', if_neg (by decide), x_sNx, ret_app, oThen_nx, x_sSeq, bnd_app, x_sIf, x_bOr, t0, bnd_ret', if_neg (by decide), x_bOr, t1, bnd_ret', if_neg (by decide), bnd_app, tst_app, x_bin, bnd_app]
  refine pick_c rfl (x_eC _ _) (by decide) (by decide) fun j j0 j1 => ?_
  have gq : gEq (.int j) (.int 0) = ret (.bool (decide (j = 0))) := by simp only [gEq, shp_int, Bool.and_self, if_true, eqv_int]
  rw [x_eC, bnd_ret', gq, ret_app, toB_b, ret_app]
  by_cases z : j = 0
  · rw [decide_eq_true z, if_pos rfl]
    refine odd_of fun y hy => ?_
    rw [oThen_rt]
    exact k y (.it hy)
  · rw [decide_eq_false z, if_neg (by decide), x_sNx, ret_app, oThen_nx, x_sSeq, bnd_app, x_sPar, bnd_app, aCons_app]
    refine pick_1 rfl cl (by omega) (by omega) fun i i0 i1 => ?_
    rw [aCons_app]
    refine pick_c rfl (x_eC _ _) (by decide) (by decide) fun w w0 w1 => ?_
    rw [x_aNil, ret_app, par2_2, ret_app, oThen_nx]
    obtain ⟨q, rfl⟩ : ∃ q : Nat, i = (q : Int) := ⟨i.toNat, by omega⟩
    have lq : q < xs.length := by omega
    have pl : ∀ {ys : List D}, (∀ y ∈ ys, y ∈ xs) → ∀ y ∈ ys, Pl y := fun h y hy => (hx y (h y hy)).pl
    have s1 : eSl (eVar 1) oNo (oPart (eVar 3)) ([some .none, some (.tuple xs), some (.list oddC), some (.int (q : Nat)), some (.int w)] : Py.Env) = ret (.tuple (xs.take q)) := by
      show ret (PyData.tuple (cutD xs none (some ((q : Nat) : Int)))) = _
      rw [cutD_to (by omega)]
    have s2 : eSl (eVar 1) (oPart (bin gAdd (eVar 3) (eC (.int 1)))) oNo ([some .none, some (.tuple xs), some (.list oddC), some (.int (q : Nat)), some (.int w)] : Py.Env) = ret (.tuple (xs.drop (q + 1))) := by
      show ret (PyData.tuple (cutD xs (some ((q + 1 : Nat) : Int)) none)) = _
      rw [cutD_from (by omega)]
    have s3 : eSl (eVar 1) oNo (oPart (bin gAdd (eVar 3) (eC (.int 1)))) ([some .none, some (.tuple xs), some (.list oddC), some (.int (q : Nat)), some (.int w)] : Py.Env) = ret (.tuple (xs.take (q + 1))) := by
      show ret (PyData.tuple (cutD xs none (some ((q + 1 : Nat) : Int)))) = _
      rw [cutD_to (by omega)]
    have s4 : eSl (eVar 1) (oPart (eVar 3)) oNo ([some .none, some (.tuple xs), some (.list oddC), some (.int (q : Nat)), some (.int w)] : Py.Env) = ret (.tuple (xs.drop q)) := by
      show ret (PyData.tuple (cutD xs (some ((q : Nat) : Int)) none)) = _
      rw [cutD_from (by omega)]
    have tw : bin gLt (eVar 4) (eC (.int 5)) ([some .none, some (.tuple xs), some (.list oddC), some (.int (q : Nat)), some (.int w)] : Py.Env) = ret (.bool (decide (w < 5))) := rfl
    show (sSeq (sIf (tst (bin gLt (eVar 4) (eC (.int 5)))) _ sNx) _) [some .none, some (.tuple xs), some (.list oddC), some (.int (q : Nat)), some (.int w)] _
    rw [x_sSeq, bnd_app, x_sIf, tst_b tw, bnd_ret']
    by_cases y5 : w < 5
    · rw [decide_eq_true y5, if_pos rfl, x_sRet, bnd_app, x_bin, bnd_app, x_bin, s1, bnd_ret', bnd_app, x_eTup, bnd_app, aCons_app]
      have vk : bin gIx (eVar 1) (eVar 3) ([some .none, some (.tuple xs), some (.list oddC), some (.int (q : Nat)), some (.int w)] : Py.Env) = ret xs[q] := by
        rw [x_bin, var_eq (d := .tuple xs) rfl, bnd_ret', var_eq (d := .int (q : Nat)) rfl, bnd_ret']
        exact gIx_t (atI_nat (List.getElem?_eq_getElem lq))
      have ea : (aCons (bin gIx (eVar 1) (eVar 3)) (aCons (eVar 2) aNil)) ([some .none, some (.tuple xs), some (.list oddC), some (.int (q : Nat)), some (.int w)] : Py.Env) = ret [xs[q], .list oddC] := by
        rw [x_aCons, vk, bnd_ret', args_1 (x := .list oddC) rfl, bnd_ret']
      rw [x_eCallS, var_eq (d := .none) rfl, bnd_ret', ea, bnd_ret', if_pos (by rfl)]
      refine bent_item (hx _ (List.getElem_mem lq)) fun y hy => ?_
      rw [x_aNil, ret_app, if_pos (by simp [lenOk]), ret_app, tup_add (by simp; omega), ret_app, s2, bnd_ret', tup_add (by simp; omega), ret_app]
      rw [ret_app, oThen_rt]
      show P _
      have : xs.take q ++ [y] ++ xs.drop (q + 1) = xs.take q ++ y :: xs.drop (q + 1) := by simp
      rw [this]
      exact k _ (.tup1 (pl fun y h => List.mem_of_mem_take h) (pl fun y h => List.mem_of_mem_drop h) hy (by simp; omega))
    · rw [decide_eq_false y5, if_neg (by decide), x_sNx, ret_app, oThen_nx]
      have sub : bin gSub (eVar 4) (eC (.int 5)) ([some .none, some (.tuple xs), some (.list oddC), some (.int (q : Nat)), some (.int w)] : Py.Env) = ret (.int (w - 5)) := rfl
      rw [x_sRet, x_bin, x_mkL, x_lDisp, x_aCons, x_bin, s1, bnd_ret', s2, bnd_ret', tup_add (by simp; omega), bnd_ret', x_aCons, x_bin, s3, bnd_ret', s4, bnd_ret', tup_add (by simp; omega), bnd_ret', x_aCons, x_bin, s4, bnd_ret', s1, bnd_ret', tup_add (by simp; omega), bnd_ret', x_aNil, bnd_ret', bnd_ret', bnd_ret', bnd_ret', if_pos (by simp [lenOk]), bnd_ret', bnd_ret', sub, bnd_ret']
      obtain ⟨r, hr, er⟩ : ∃ r, Vl r ∧ gIx (.list [.tuple (xs.take q ++ xs.drop (q + 1)), .tuple (xs.take (q + 1) ++ xs.drop q), .tuple (xs.drop q ++ xs.take q)]) (.int (w - 5)) = ret r := by
        have all : ∀ {a b : List D}, (∀ y ∈ a, y ∈ xs) → (∀ y ∈ b, y ∈ xs) → a.length + b.length ≤ 7 → Vl (.tuple (a ++ b)) := fun ha hb hl => .tup0 (pl fun y h => (List.mem_append.mp h).elim (ha y) (hb y)) (by simp; omega)
        have tk : ∀ i, ∀ y ∈ xs.take i, y ∈ xs := fun i y h => List.mem_of_mem_take h
        have dp : ∀ i, ∀ y ∈ xs.drop i, y ∈ xs := fun i y h => List.mem_of_mem_drop h
        have c : w = 5 ∨ w = 6 ∨ w = 7 := by omega
        rcases c with rfl | rfl | rfl
        · exact ⟨_, all (tk _) (dp _) (by simp; omega), gIx_l (atI_nat (i := 0) rfl)⟩
        · exact ⟨_, all (tk _) (dp _) (by simp; omega), gIx_l (atI_nat (i := 1) rfl)⟩
        · exact ⟨_, all (dp _) (tk _) (by simp; omega), gIx_l (atI_nat (i := 2) rfl)⟩
      rw [er, bnd_ret']
      exact k r hr
end L93
namespace L93
open PySem hiding ret
open Py L2
theorem alls_i (xs : List Int) : alls (dInts xs) = true := by
  unfold alls
  rw [List.all_eq_true]
  intro d hd
  obtain ⟨a, _, rfl⟩ := List.mem_map.mp hd
  rw [shp_int]
  simp only [isNonD, Bool.not_false, Bool.and_true, Bool.true_and]
  rw [List.all_eq_true]
  intro e he
  obtain ⟨b, _, rfl⟩ := List.mem_map.mp he
  rfl
theorem cSrt_i (xs : List Int) : ∃ ys : List Int, ys.length = xs.length ∧ (∀ y ∈ ys, y ∈ xs) ∧ cSrt [.list (dInts xs)] = ret (dInts ys) := by
  refine ⟨xs.mergeSort fun a b => leD (.int a) (.int b), List.length_mergeSort _, fun a ha => List.mem_mergeSort.mp ha, ?_⟩
  have ok : srtOk (dInts xs) = true := by
    unfold srtOk
    rw [alls_i, Bool.true_and]
    have : ((dInts xs).all fun d => !isTupD d) = true := by
      rw [List.all_eq_true]
      intro d hd
      obtain ⟨a, _, rfl⟩ := List.mem_map.mp hd
      rfl
    rw [this, Bool.or_true, Bool.true_or]
  show (if srtOk (dInts xs) = true then ret ((dInts xs).mergeSort leD) else stuck) = _
  rw [if_pos ok]
  congr 1
  exact (List.map_mergeSort (r := fun a b => leD (.int a) (.int b)) (s := leD) (f := PyData.int) (l := xs) (fun a _ b _ => rfl)).symm
theorem middles_eq {L : List P2} {a b : Int} (hL : ∀ w ∈ L, Bp 9 w) (l1 : 1 ≤ L.length) (l2 : L.length ≤ 1000) (ha : B 5 a) (hb : B 5 b) : ∃ lo hi : Int, B 20 lo ∧ B 20 hi ∧ F__law_middles [lotT L, .int a, .int b] = ret (.tuple [.int lo, .int hi]) := by
  obtain ⟨ys, e1, e2, e3⟩ := cSrt_i (L.map fun w => a * w.1 + b * w.2)
  rw [List.length_map] at e1
  have bd : ∀ y ∈ ys, B 20 y := by
    intro y hy
    obtain ⟨w, hw, rfl⟩ := List.mem_map.mp (e2 y hy)
    obtain ⟨w1, w2⟩ := hL w hw
    exact (((ha.mul w1).mono (m := 15) (by decide)).add ((hb.mul w2).mono (m := 15) (by decide))).mono (by decide)
  have i1 : (ys.length - 1) / 2 < ys.length := by omega
  have i2 : ys.length / 2 < ys.length := by omega
  refine ⟨ys[(ys.length - 1) / 2], ys[ys.length / 2], bd _ (List.getElem_mem i1), bd _ (List.getElem_mem i2), ?_⟩
  refine fn_rt (env := [some (lotT L), some (.int a), some (.int b), none, none, none]) rfl ?_
  have lc : mkL (eLc (itSeq (eVar 0)) (tgTup 2 (tgsCons (tgN 4) (tgsCons (tgN 5) tgsNil))) cYes (bin gAdd (bin gMulX (eVar 1) (eVar 4)) (bin gMulX (eVar 2) (eVar 5))) [4, 5]) ([some (lotT L), some (.int a), some (.int b), none, none, none] : Py.Env) = ret (.list (dInts (L.map fun w => a * w.1 + b * w.2))) := by
    rw [comp_all vD (fun w => .int (a * w.1 + b * w.2)) L (by rfl) ?_]
    · simp only [dInts, List.map_map]
      rfl
    · intro w hw
      obtain ⟨w1, w2⟩ := hL w hw
      have m1 := mulq ha w1
      have m2 := mulq hb w2
      refine ⟨_, tg2', ?_⟩
      simp only [x_bin, x_eVar, x_wipeD_cons, x_wipeD_nil, List.set_cons_succ, List.set_cons_zero, List.getElem?_cons_succ, List.getElem?_cons_zero, Option.getD_some, optM_some, bnd_ret', x_gMulX_i, m1, m2, if_true, x_gAdd_i]
  have cs : mkL (calL cSrt (aCons (mkL (eLc (itSeq (eVar 0)) (tgTup 2 (tgsCons (tgN 4) (tgsCons (tgN 5) tgsNil))) cYes (bin gAdd (bin gMulX (eVar 1) (eVar 4)) (bin gMulX (eVar 2) (eVar 5))) [4, 5])) aNil)) ([some (lotT L), some (.int a), some (.int b), none, none, none] : Py.Env) = ret (.list (dInts ys)) := by
    rw [x_mkL, x_calL, args_e lc, bnd_ret', e3, bnd_ret']
  rw [b__law_middles, asg_nx cs, x_sRet]
  have cl : cal cLen (aCons (eVar 3) aNil) (([some (lotT L), some (.int a), some (.int b), none, none, none] : Py.Env).set 3 (some (.list (dInts ys)))) = ret (.int (ys.length : Nat)) := by
    rw [x_cal, args_1 (x := .list (dInts ys)) rfl, bnd_ret', x_cLen_l, dInts_len]
  have at_ : ∀ i : Nat, (h : i < ys.length) → gIx (.list (dInts ys)) (.int (i : Nat)) = ret (.int ys[i]) := fun i h => gIx_l (atI_nat (by simp [dInts, h]))
  have f1 : bin gIx (eVar 3) (bin gFdiv (bin gSub (cal cLen (aCons (eVar 3) aNil)) (eC (.int 1))) (eC (.int 2))) (([some (lotT L), some (.int a), some (.int b), none, none, none] : Py.Env).set 3 (some (.list (dInts ys)))) = ret (.int ys[(ys.length - 1) / 2]) := by
    rw [x_bin, var_eq (d := .list (dInts ys)) rfl, bnd_ret', x_bin, x_bin, cl, bnd_ret', x_eC, bnd_ret', gSub_i, bnd_ret', x_eC, bnd_ret', fdiv_i, if_pos (by rfl), bnd_ret', ← at_ _ i1]
    congr 2
    rw [Int.fdiv_eq_ediv_of_nonneg _ (by decide)]
    omega
  have f2 : bin gIx (eVar 3) (bin gFdiv (cal cLen (aCons (eVar 3) aNil)) (eC (.int 2))) (([some (lotT L), some (.int a), some (.int b), none, none, none] : Py.Env).set 3 (some (.list (dInts ys)))) = ret (.int ys[ys.length / 2]) := by
    rw [x_bin, var_eq (d := .list (dInts ys)) rfl, bnd_ret', x_bin, cl, bnd_ret', x_eC, bnd_ret', fdiv_i, if_pos (by rfl), bnd_ret', ← at_ _ i2]
    congr 2
    rw [Int.fdiv_eq_ediv_of_nonneg _ (by decide)]
    omega
  rw [eTup_2 f1 f2, bnd_ret']
/-! ### repr of the verdicts -/
theorem rq_form : RqOk formD := rokq (show rk 1 20 formD from by unfold rk; decide +kernel).ok
theorem rq_none : RqOk .none := rokq (show rk 1 20 .none from by unfold rk; decide +kernel).ok
theorem rq_two {s : Str} {i : Int} (hs : rk 0 80 (.str s)) (hi : B 70 i) : RqOk (.tuple [.str s, .int i]) :=
  rokq (rk_tuple (m := 0) (s := 80) (n := 2) (fun d hd => by
    simp only [List.mem_cons, List.not_mem_nil, or_false] at hd
    rcases hd with rfl | rfl
    · exact hs
    · exact (rk_int hi (by decide)).mono (by decide) (by decide)) (by simp)).ok
theorem rq_depthV {k : Int} {m : Nat} {W : List P2} (hm : m ≤ 100) (hW : W.length ≤ 100) (d : D) : RqOk (depthV k m W d) := by
  unfold depthV
  split
  · split
    · split
      · exact rq_two (by unfold rk; decide +kernel) (by unfold B; omega)
      · exact rq_none
    · exact rq_form
  · rename_i a b
    have : many W (b, -a) ≤ W.length := List.countP_le_length
    split
    · split
      · exact rq_form
      · split
        · exact rq_two (by unfold rk; decide +kernel) (by unfold B; omega)
        · exact rq_none
    · exact rq_form
  · exact rq_form
theorem oneV_rq {i : Int} {L : List P2} {a b c : Int} {d : D} (hi : B 70 i) (h : oneV i L a b c = some d) : RqOk d := by
  unfold oneV at h
  split at h
  · injection h with h; subst h
    exact rq_two (by unfold rk; decide +kernel) hi
  · split at h
    · injection h with h; subst h
      exact rq_two (by unfold rk; decide +kernel) hi
    · cases h
theorem rq_lineV (one other : List P2) (d : D) : RqOk (lineV one other d) := by
  unfold lineV
  split
  · split
    · exact rq_form
    · split
      · rename_i h
        exact oneV_rq (by unfold B; decide) h
      · split
        · rename_i h
          exact oneV_rq (by unfold B; decide) h
        · exact rq_none
  · exact rq_form
/-! ### drawn bent values -/
theorem bents {s o : Nat} {ρ : Py.Env} {n : Nat} (h1 : ∀ d : D, (ρ.set 17 (some d))[1]? = some (some .none)) (h2 : ∀ d : D, (ρ.set 17 (some d))[2]? = some (some (.list oddC))) (h17 : ∀ d : D, (ρ.set 17 (some d))[17]? = some (some d)) : ∀ (ds : List D) (P : List D → Prop), (∀ d ∈ ds, ∃ xs, d = .tuple xs ∧ (∀ x ∈ xs, isPS x) ∧ 1 ≤ xs.length ∧ xs.length ≤ 3) → (∀ ys, (∀ y ∈ ys, Vl y) → ys.length = ds.length → P ys) → lcW (tgN 17) cYes (eCallS 1 2 F__law_bent (aCons (eVar 17) (aCons (eVar 2) aNil))) ρ ds P
  | [], P, _, k => k [] (by simp) rfl
  | d :: ds, P, h, k => by
    rw [lcN_app]
    obtain ⟨xs, rfl, hx, l1, l3⟩ := h d (by simp)
    rw [x_eCallS, var_eq (h1 _), bnd_ret', args_2 (h17 _) (h2 _), bnd_ret', if_pos (by rfl)]
    refine bent_tup (n := 2) hx l1 l3 fun y hy => ?_
    refine bents (s := s) (o := o) (n := n) h1 h2 h17 ds _ (fun d hd => h d (List.mem_cons_of_mem _ hd)) fun ys hys hl => ?_
    refine k (y :: ys) (fun z hz => ?_) (by simp [hl])
    rcases List.mem_cons.mp hz with rfl | hz
    · exact hy
    · exact hys z hz
end L93
namespace L93
open PySem hiding ret
open Py L2
def q1 : Py.Env → M Out := (sAsg 2 (mkL (lDisp (aCons (eC .none) (aCons (eC (.bool true)) (aCons (eC (.int 0)) (aCons (eC (.int 1)) (aCons (una gNeg (eC (.int 1))) (aCons (eC (.str "deep")) (aCons (eC (.str "side")) (aCons (eTup aNil) (aCons (eTup (aCons (eC (.int 0)) aNil)) (aCons (eTup (aCons (eC (.int 0)) (aCons (eC (.int 1)) aNil))) (aCons (mkL (lDisp aNil)) (aCons (eC (.dict [])) (aCons (eC (.int (10 ^ ((20 : Int).toNat)))) aNil))))))))))))))))
def q2f1 : Py.Env → M Out := (sPar 4 5 (aCons (eCallS 1 2 F__law_lot (aCons (eC (.int 1)) (aCons (bin gIx (mkL (lDisp (aCons (eC (.int 4)) (aCons (eC (.int 6)) (aCons (eC (.int 8)) (aCons (eC (.int 9)) aNil)))))) (eVar 3)) aNil))) (aCons (eCallS 1 2 F__law_lot (aCons (eC (.int 1)) (aCons (eC (.int 7)) aNil))) aNil)))
def q2f2 : Py.Env → M Out := (sPar3 6 7 8 (aCons (eCallS 1 1 F__law_place (aCons (eVar 4) aNil)) (aCons (bin gAdd (eC (.int 1)) (eCallS 1 1 F__law_pick (aCons (cal cLen (aCons (eVar 4) aNil)) aNil))) (aCons (cal cReprX (aCons (mkL (lDisp (aCons (eVar 4) (aCons (eVar 5) aNil)))) aNil)) aNil))))
def q2f3 : Py.Env → M Out := (sAsg 9 (eCall 3 F_depth_paper (aCons (eVar 4) (aCons (eVar 6) (aCons (eVar 7) aNil)))))
def q2f4 : Py.Env → M Out := (sIf (tst (bin gNotN (eCall 4 F__law_fault (aCons (eVar 4) (aCons (eVar 6) (aCons (eVar 7) (aCons (eVar 9) aNil))))) (eC .none))) (sRet (eC (.bool false))) sNx)
def q2f5 : Py.Env → M Out := (sPar 10 11 (aCons (bin gSub (eCallS 1 1 F__law_pick (aCons (eC (.int 9)) aNil)) (eC (.int 4))) (aCons (bin gSub (eCallS 1 1 F__law_pick (aCons (eC (.int 9)) aNil)) (eC (.int 4))) aNil)))
def q2f6 : Py.Env → M Out := (sAsg 12 (mkL (lDisp (aCons (eVar 9) (aCons (eTup (aCons (eC (.str "deep")) aNil)) (aCons (eTup (aCons (eC (.str "side")) (aCons (eVar 10) (aCons (eVar 11) aNil)))) (aCons (eTup (aCons (eC (.str "side")) (aCons (eC (.int 0)) (aCons (eC (.int 0)) aNil)))) (aCons (eTup (aCons (eC (.str "deep")) (aCons (eC (.int 0)) aNil))) (aCons (eTup (aCons (eC (.str "side")) (aCons (eVar 10) aNil))) (aCons (mkL (calL cLst (aCons (eVar 9) aNil))) (aCons (eRevT (eVar 9)) aNil)))))))))))
def q2f7f1 : Py.Env → M Out := (sPar 14 15 (aCons (cal cReprX (aCons (eVar 13) aNil)) (aCons (eCall 4 F__law_fault (aCons (eVar 4) (aCons (eVar 6) (aCons (eVar 7) (aCons (eVar 13) aNil))))) aNil)))
def q2f7f2 : Py.Env → M Out := (sIf (bOr (tst (bin gNeX (cal cReprX (aCons (eCall 4 F_judge_depth (aCons (eVar 4) (aCons (eVar 6) (aCons (eVar 7) (aCons (eVar 13) aNil))))) aNil)) (cal cReprX (aCons (eVar 15) aNil)))) (tst (bin gNeX (cal cReprX (aCons (eVar 13) aNil)) (eVar 14)))) (sRet (eC (.bool false))) sNx)
def q2f7f3 : Py.Env → M Out := (sIf (bAnd (tst (bin gIsN (eVar 15) (eC .none))) (tst (bin gNeX (bin gIx (eVar 13) (eC (.int 0))) (bin gIx (eVar 9) (eC (.int 0)))))) (sRet (eC (.bool false))) sNx)
def q2f7f : Py.Env → M Out := (sSeq q2f7f1 (sSeq q2f7f2 q2f7f3))
def q2f7 : Py.Env → M Out := (sFor (itSeq (bin gAdd (bin gAdd (eVar 12) (mkL (lDisp (aCons (eC .none) (aCons (eTup aNil) aNil))))) (mkL (eLc (itSeq (bin gAdd (eSl (eVar 12) oNo (oPart (eC (.int 3)))) (mkL (repL (mkL (lDisp (aCons (eVar 9) aNil))) (eC (.int 4)))))) (tgN 17) cYes (eCallS 1 2 F__law_bent (aCons (eVar 17) (aCons (eVar 2) aNil))) [17])))) (tgN 13) q2f7f)
def q2f8 : Py.Env → M Out := (sPar 10 11 (aCons (bin gSub (eCallS 1 1 F__law_pick (aCons (eC (.int 9)) aNil)) (eC (.int 4))) (aCons (bin gSub (eCallS 1 1 F__law_pick (aCons (eC (.int 9)) aNil)) (eC (.int 4))) aNil)))
def q2f9 : Py.Env → M Out := (sAsg 16 (eTup (aCons (eVar 10) (aCons (eVar 11) (aCons (bin gFdiv (cal cSumX (aCons (eCall 3 F__law_middles (aCons (eVar 4) (aCons (eVar 10) (aCons (eVar 11) aNil)))) aNil)) (eC (.int 2))) aNil)))))
def q2f10 : Py.Env → M Out := (sAsg 12 (mkL (lDisp (aCons (eVar 16) (aCons (eTup (aCons (eVar 10) (aCons (eVar 11) (aCons (bin gIx (eCall 3 F__law_middles (aCons (eVar 5) (aCons (eVar 10) (aCons (eVar 11) aNil)))) (eC (.int 0))) aNil)))) (aCons (eTup (aCons (eC (.int 0)) (aCons (eC (.int 0)) (aCons (eC (.int 1)) aNil)))) (aCons (eTup (aCons (eVar 10) (aCons (eVar 11) aNil))) (aCons (mkL (calL cLst (aCons (eVar 16) aNil))) (aCons (eC .none) (aCons (eTup aNil) (aCons (eTup (aCons (eVar 10) (aCons (eVar 11) (aCons (eC (.bool true)) aNil)))) aNil)))))))))))
def q2f11f1 : Py.Env → M Out := (sPar 14 15 (aCons (cal cReprX (aCons (eVar 13) aNil)) (aCons (eCall 3 F__law_line_fault (aCons (eVar 4) (aCons (eVar 5) (aCons (eVar 13) aNil)))) aNil)))
def q2f11f2 : Py.Env → M Out := (sIf (bOr (tst (bin gNeX (cal cReprX (aCons (eCall 3 F_judge_halving (aCons (eVar 4) (aCons (eVar 5) (aCons (eVar 13) aNil)))) aNil)) (cal cReprX (aCons (eVar 15) aNil)))) (tst (bin gNeX (cal cReprX (aCons (eVar 13) aNil)) (eVar 14)))) (sRet (eC (.bool false))) sNx)
def q2f11f : Py.Env → M Out := (sSeq q2f11f1 q2f11f2)
def q2f11 : Py.Env → M Out := (sFor (itSeq (bin gAdd (eVar 12) (mkL (eLc (itSeq (mkL (repL (eSl (eVar 12) oNo (oPart (eC (.int 2)))) (eC (.int 4))))) (tgN 17) cYes (eCallS 1 2 F__law_bent (aCons (eVar 17) (aCons (eVar 2) aNil))) [17])))) (tgN 13) q2f11f)
def q2f12 : Py.Env → M Out := (sIf (tst (bin gNeX (cal cReprX (aCons (mkL (lDisp (aCons (eVar 4) (aCons (eVar 5) aNil)))) aNil)) (eVar 8))) (sRet (eC (.bool false))) sNx)
def q2f : Py.Env → M Out := (sSeq q2f1 (sSeq q2f2 (sSeq q2f3 (sSeq q2f4 (sSeq q2f5 (sSeq q2f6 (sSeq q2f7 (sSeq q2f8 (sSeq q2f9 (sSeq q2f10 (sSeq q2f11 q2f12)))))))))))
def q2 : Py.Env → M Out := (sFor (itRng1 (aCons (eC (.int 4)) aNil)) (tgN 3) q2f)
def q3 : Py.Env → M Out := (sRet (bin gEqX (eCall 3 F_judge_halving (aCons (eTup (aCons (eTup (aCons (eC (.int 0)) (aCons (eC (.int 0)) aNil))) (aCons (eTup (aCons (eC (.int 2)) (aCons (eC (.int 0)) aNil))) aNil))) (aCons (eTup (aCons (eTup (aCons (eC (.int 0)) (aCons (eC (.int 2)) aNil))) (aCons (eTup (aCons (eC (.int 2)) (aCons (eC (.int 2)) aNil))) aNil))) (aCons (eTup (aCons (eC (.int 0)) (aCons (eC (.int 1)) (aCons (eC (.int 1)) aNil)))) aNil)))) (eTup (aCons (eC (.str "less")) (aCons (eC (.int 0)) aNil)))))
theorem b_law_eq : b_law = (sSeq q1 (sSeq q2 q3)) := rfl
structure St (ρ : Py.Env) : Prop where
  len : ρ.length = 18
  src : ρ[1]? = some (some .none)
  odd : ρ[2]? = some (some (.list oddC))
theorem St.set {ρ : Py.Env} (h : St ρ) {i : Nat} {v : Option D} (hi : 3 ≤ i) : St (ρ.set i v) := ⟨by rw [List.length_set, h.len], by rw [List.getElem?_set_ne (by omega), h.src], by rw [List.getElem?_set_ne (by omega), h.odd]⟩
def keptS (L O : List P2) : Str := (PyData.list [lotT L, lotT O]).shown
/-- what stands in a turn -/
structure Tn (L O : List P2) (p : P2 × P2) (k : Int) (ts : List D) (ρ : Py.Env) : Prop where
  st : St ρ
  e4 : ρ[4]? = some (some (lotT L))
  e5 : ρ[5]? = some (some (lotT O))
  e6 : ρ[6]? = some (some (plD p))
  e7 : ρ[7]? = some (some (.int k))
  e8 : ρ[8]? = some (some (.str (keptS L O)))
  e9 : ρ[9]? = some (some (.tuple ts))
theorem Tn.set {L O : List P2} {p : P2 × P2} {k : Int} {ts : List D} {ρ : Py.Env} (s : Tn L O p k ts ρ) {i : Nat} {v : Option D} (hi : 10 ≤ i) : Tn L O p k ts (ρ.set i v) := by
  have g : ∀ j, j < 10 → (ρ.set i v)[j]? = ρ[j]? := fun j hj => List.getElem?_set_ne (by omega)
  exact ⟨s.st.set (by omega), by rw [g 4 (by decide), s.e4], by rw [g 5 (by decide), s.e5], by rw [g 6 (by decide), s.e6], by rw [g 7 (by decide), s.e7], by rw [g 8 (by decide), s.e8], by rw [g 9 (by decide), s.e9]⟩
theorem args_4 {i j k l : Nat} {ρ : Py.Env} {x y z w : D} (hx : ρ[i]? = some (some x)) (hy : ρ[j]? = some (some y)) (hz : ρ[k]? = some (some z)) (hw : ρ[l]? = some (some w)) : (aCons (eVar i) (aCons (eVar j) (aCons (eVar k) (aCons (eVar l) aNil)))) ρ = ret [x, y, z, w] := by
  simp only [x_aCons, x_aNil, x_eVar, hx, hy, hz, hw, Option.getD_some, optM_some, bnd_ret']
/-- the head of a told paper, and of any that is kept -/
def hdS (k : Int) (m : Nat) : Str := if k ≤ (m : Int) then "deep" else "side"
structure Told (k : Int) (m : Nat) (W : List P2) (ts : List D) : Prop where
  ps : ∀ x ∈ ts, isPS x
  l1 : 1 ≤ ts.length
  l3 : ts.length ≤ 3
  hd : ∃ xs, ts = .str (hdS k m) :: xs
  v : depthV k m W (.tuple ts) = .none
theorem shp_hdS (k : Int) (m : Nat) : shp (.str (hdS k m)) = true := by
  unfold hdS
  split
  · exact shp_deep
  · exact shp_side
theorem none_head {k : Int} {m : Nat} {W : List P2} {d : D} (hd : IsDepth W m) (h : depthV k m W d = .none) : ∃ xs, d = .tuple (.str (hdS k m) :: xs) := by
  unfold depthV at h
  split at h
  · rename_i s
    split at h
    · rename_i e
      subst e
      split at h
      · cases h
      · refine ⟨[], ?_⟩
        rw [hdS, if_pos (by omega)]
    · cases h
  · rename_i s a b
    split at h
    · rename_i e
      subst e
      split at h
      · cases h
      · rename_i nz
        split at h
        · cases h
        · refine ⟨[.int a, .int b], ?_⟩
          have := depth_le hd (e := (b, -a)) (fun e => nz (by rw [Prod.mk.injEq] at e ⊢; omega))
          rw [hdS, if_neg (by omega)]
    · cases h
  · cases h
theorem told_of {k : Int} {m : Nat} {W : List P2} {s : P2} (nz : Nz s) (bs : Bp 31 s) (hm : many W (s.2, -s.1) = m) : ∃ ts, Told k m W ts ∧ (if k ≤ (m : Int) then deepP else sideP s) = .tuple ts := by
  by_cases z : k ≤ (m : Int)
  · refine ⟨[.str "deep"], ⟨?_, by simp, by simp, ⟨[], ?_⟩, ?_⟩, by rw [if_pos z]; rfl⟩
    · intro x hx
      rw [List.mem_singleton.mp hx]
      exact .inr (.inl rfl)
    · rw [hdS, if_pos z]
    · show (if ("deep" : Str) = "deep" then (if (m : Int) < k then PyData.tuple [.str "depth", .int (m : Nat)] else .none) else formD) = _
      rw [if_pos rfl, if_neg (by omega)]
  · refine ⟨[.str "side", .int s.1, .int s.2], ⟨?_, by simp, by simp, ⟨_, by rw [hdS, if_neg z]⟩, ?_⟩, by rw [if_neg z]; rfl⟩
    · intro x hx
      simp only [List.mem_cons, List.not_mem_nil, or_false] at hx
      rcases hx with rfl | rfl | rfl
      · exact .inr (.inr rfl)
      · exact .inl ⟨_, rfl, bs.1.mono (by decide)⟩
      · exact .inl ⟨_, rfl, bs.2.mono (by decide)⟩
    · show (if ("side" : Str) = "side" then (if (s.1, s.2) = ((0, 0) : P2) then formD else if k ≤ (many W (s.2, -s.1) : Nat) then PyData.tuple [.str "many", .int (many W (s.2, -s.1) : Nat)] else .none) else formD) = _
      rw [if_pos rfl, if_neg (fun e => nz e), if_neg (by rw [hm]; exact z)]
theorem rep_neX {a b : Py.Env → M D} {ρ : Py.Env} {d : D} (ha : a ρ = ret d) (hb : b ρ = ret d) (h : RqOk d) : bin gNeX (cal cReprX (aCons a aNil)) (cal cReprX (aCons b aNil)) ρ = ret (.bool false) := by
  rw [x_bin, x_cal, args_e ha, bnd_ret', h.rep, bnd_ret', x_cal, args_e hb, bnd_ret', h.rep, bnd_ret', neX_self h.shp]
theorem rep_held {a b : Py.Env → M D} {ρ : Py.Env} {d : D} (ha : a ρ = ret d) (hb : b ρ = ret (.str d.shown)) (h : RqOk d) : bin gNeX (cal cReprX (aCons a aNil)) b ρ = ret (.bool false) := by
  rw [x_bin, x_cal, args_e ha, bnd_ret', h.rep, bnd_ret', hb, bnd_ret', neX_self h.shp]
section
variable {L O : List P2} {p : P2 × P2} {m : Nat} {k : Int} {ts : List D}
theorem val_ok {ρ : Py.Env} {d : D} (s : Tn L O p k ts ρ) (t : Told k m (waysP L p) ts) (h : PlOk p) (hL : ∀ a ∈ L, Bp 9 a) (hl : L.length ≤ 10) (hm : IsDepth (waysP L p) m) (m10 : m ≤ 10) (h13 : ρ[13]? = some (some d)) (hv : Vl d) : ∃ ρ', Tn L O p k ts ρ' ∧ q2f7f ρ = ret (.nx ρ') := by
  have wl : (waysP L p).length = L.length := by simp [waysP]
  have e1 : cal cReprX (aCons (eVar 13) aNil) ρ = ret (.str d.shown) := by rw [x_cal, args_1 h13, bnd_ret', (vl_rq hv).rep]
  have e2 : eCall 4 F__law_fault (aCons (eVar 4) (aCons (eVar 6) (aCons (eVar 7) (aCons (eVar 13) aNil)))) ρ = ret (depthV k m (waysP L p) d) := (eCall_4 _ (args_4 s.e4 s.e6 s.e7 h13)).trans (fault_eq h hL hl hm hv)
  have f1 : q2f7f1 ρ = ret (.nx ((ρ.set 14 (some (.str d.shown))).set 15 (some (depthV k m (waysP L p) d)))) := by
    rw [q2f7f1, x_sPar, x_aCons, e1, bnd_ret', args_e e2, bnd_ret', bnd_ret', par2_2]
  have s' : Tn L O p k ts ((ρ.set 14 (some (.str d.shown))).set 15 (some (depthV k m (waysP L p) d))) := (s.set (by decide)).set (by decide)
  have g13 : ((ρ.set 14 (some (.str d.shown))).set 15 (some (depthV k m (waysP L p) d)))[13]? = some (some d) := by rw [List.getElem?_set_ne (by decide), List.getElem?_set_ne (by decide), h13]
  have g14 : ((ρ.set 14 (some (.str d.shown))).set 15 (some (depthV k m (waysP L p) d)))[14]? = some (some (.str d.shown)) := by rw [List.getElem?_set_ne (by decide), List.getElem?_set_self (by rw [s.st.len]; decide)]
  have g15 : ((ρ.set 14 (some (.str d.shown))).set 15 (some (depthV k m (waysP L p) d)))[15]? = some (some (depthV k m (waysP L p) d)) := List.getElem?_set_self (by rw [List.length_set, s.st.len]; decide)
  generalize ((ρ.set 14 (some (.str d.shown))).set 15 (some (depthV k m (waysP L p) d))) = ρ' at *
  refine ⟨ρ', s', ?_⟩
  have c1 : eCall 4 F_judge_depth (aCons (eVar 4) (aCons (eVar 6) (aCons (eVar 7) (aCons (eVar 13) aNil)))) ρ' = ret (depthV k m (waysP L p) d) := (eCall_4 _ (args_4 s'.e4 s'.e6 s'.e7 g13)).trans (judge_eq h hL hl hm hv)
  have t1 := tst_b (rep_neX c1 (var_eq g15) (rq_depthV (by omega) (by omega) d))
  have t2 := tst_b (rep_held (var_eq g13) (var_eq g14) (vl_rq hv))
  rw [q2f7f, seq_nx f1, q2f7f2, if_no (or_no t1 t2), q2f7f3, x_sIf]
  have t3 : tst (bin gIsN (eVar 15) (eC .none)) ρ' = ret (isNonD (depthV k m (waysP L p) d)) := tst_b (by rw [x_bin, var_eq g15, bnd_ret', x_eC, bnd_ret', x_gIsN_])
  have t4 : bAnd (tst (bin gIsN (eVar 15) (eC .none))) (tst (bin gNeX (bin gIx (eVar 13) (eC (.int 0))) (bin gIx (eVar 9) (eC (.int 0))))) ρ' = ret false := by
    rw [x_bAnd, t3, bnd_ret']
    by_cases z : isNonD (depthV k m (waysP L p) d) = true
    · rw [if_pos z]
      have ez : depthV k m (waysP L p) d = .none := by
        cases e : depthV k m (waysP L p) d with
        | none => rfl
        | _ => rw [e] at z; cases z
      obtain ⟨xs, rfl⟩ := none_head hm ez
      obtain ⟨ys, rfl⟩ := t.hd
      refine tst_b ?_
      rw [x_bin, x_bin, var_eq g13, bnd_ret', x_eC, bnd_ret', ix_h, bnd_ret', x_bin, var_eq s'.e9, bnd_ret', x_eC, bnd_ret', ix_h, bnd_ret', neX_self (shp_hdS k m)]
    · rw [if_neg z]
  rw [t4, bnd_ret', if_neg (by decide), x_sNx]
theorem vals_ok (t : Told k m (waysP L p) ts) (h : PlOk p) (hL : ∀ a ∈ L, Bp 9 a) (hl : L.length ≤ 10) (hm : IsDepth (waysP L p) m) (m10 : m ≤ 10) : ∀ (vs : List D) (ρ : Py.Env), (∀ v ∈ vs, Vl v) → Tn L O p k ts ρ → ∃ ρ', Tn L O p k ts ρ' ∧ forW (tgN 13) q2f7f vs ρ = ret (.nx ρ')
  | [], ρ, _, s => ⟨ρ, s, rfl⟩
  | d :: vs, ρ, hv, s => by
    obtain ⟨ρ1, s1, e1⟩ := val_ok (ρ := ρ.set 13 (some d)) (s.set (by decide)) t h hL hl hm m10 (List.getElem?_set_self (by rw [s.st.len]; decide)) (hv d (by simp))
    obtain ⟨ρ2, s2, e2⟩ := vals_ok t h hL hl hm m10 vs ρ1 (fun v hw => hv v (List.mem_cons_of_mem _ hw)) s1
    refine ⟨ρ2, s2, ?_⟩
    rw [forW_cons, x_tgN, bnd_ret', e1, bnd_ret', oLoop_nx, e2]
theorem line_ok {ρ : Py.Env} {d : D} (s : Tn L O p k ts ρ) (h1 : ∀ w ∈ L, Bp 9 w) (h2 : ∀ w ∈ O, Bp 9 w) (l1 : L.length ≤ 1000) (l2 : O.length ≤ 1000) (h13 : ρ[13]? = some (some d)) (hv : Vl d) : ∃ ρ', Tn L O p k ts ρ' ∧ q2f11f ρ = ret (.nx ρ') := by
  have e1 : cal cReprX (aCons (eVar 13) aNil) ρ = ret (.str d.shown) := by rw [x_cal, args_1 h13, bnd_ret', (vl_rq hv).rep]
  have e2 : eCall 3 F__law_line_fault (aCons (eVar 4) (aCons (eVar 5) (aCons (eVar 13) aNil))) ρ = ret (lineV L O d) := (eCall_3 _ (args_3 s.e4 s.e5 h13)).trans (fault_line h1 h2 l1 l2 hv)
  have f1 : q2f11f1 ρ = ret (.nx ((ρ.set 14 (some (.str d.shown))).set 15 (some (lineV L O d)))) := by
    rw [q2f11f1, x_sPar, x_aCons, e1, bnd_ret', args_e e2, bnd_ret', bnd_ret', par2_2]
  have s' : Tn L O p k ts ((ρ.set 14 (some (.str d.shown))).set 15 (some (lineV L O d))) := (s.set (by decide)).set (by decide)
  have g13 : ((ρ.set 14 (some (.str d.shown))).set 15 (some (lineV L O d)))[13]? = some (some d) := by rw [List.getElem?_set_ne (by decide), List.getElem?_set_ne (by decide), h13]
  have g14 : ((ρ.set 14 (some (.str d.shown))).set 15 (some (lineV L O d)))[14]? = some (some (.str d.shown)) := by rw [List.getElem?_set_ne (by decide), List.getElem?_set_self (by rw [s.st.len]; decide)]
  have g15 : ((ρ.set 14 (some (.str d.shown))).set 15 (some (lineV L O d)))[15]? = some (some (lineV L O d)) := List.getElem?_set_self (by rw [List.length_set, s.st.len]; decide)
  generalize ((ρ.set 14 (some (.str d.shown))).set 15 (some (lineV L O d))) = ρ' at *
  refine ⟨ρ', s', ?_⟩
  have c1 : eCall 3 F_judge_halving (aCons (eVar 4) (aCons (eVar 5) (aCons (eVar 13) aNil))) ρ' = ret (lineV L O d) := (eCall_3 _ (args_3 s'.e4 s'.e5 g13)).trans (judge_line h1 h2 l1 l2 hv)
  have t1 := tst_b (rep_neX c1 (var_eq g15) (rq_lineV L O d))
  have t2 := tst_b (rep_held (var_eq g13) (var_eq g14) (vl_rq hv))
  rw [q2f11f, seq_nx f1, q2f11f2, x_sIf, or_no t1 t2, bnd_ret', if_neg (by decide), x_sNx]
theorem lines_ok (h1 : ∀ w ∈ L, Bp 9 w) (h2 : ∀ w ∈ O, Bp 9 w) (l1 : L.length ≤ 1000) (l2 : O.length ≤ 1000) : ∀ (vs : List D) (ρ : Py.Env), (∀ v ∈ vs, Vl v) → Tn L O p k ts ρ → ∃ ρ', Tn L O p k ts ρ' ∧ forW (tgN 13) q2f11f vs ρ = ret (.nx ρ')
  | [], ρ, _, s => ⟨ρ, s, rfl⟩
  | d :: vs, ρ, hv, s => by
    obtain ⟨ρ1, s1, e1⟩ := line_ok (ρ := ρ.set 13 (some d)) (s.set (by decide)) h1 h2 l1 l2 (List.getElem?_set_self (by rw [s.st.len]; decide)) (hv d (by simp))
    obtain ⟨ρ2, s2, e2⟩ := lines_ok h1 h2 l1 l2 vs ρ1 (fun v hw => hv v (List.mem_cons_of_mem _ hw)) s1
    refine ⟨ρ2, s2, ?_⟩
    rw [forW_cons, x_tgN, bnd_ret', e1, bnd_ret', oLoop_nx, e2]
end
/-- base + [bent ..] -/
theorem bent_list {ρ : Py.Env} {A its : Py.Env → M D} {base src : List D} {P : List D → Prop} (s : St ρ) (hA : A ρ = ret (.list base)) (hi : its ρ = ret (.list src)) (hb : ∀ v ∈ base, Vl v) (hs : ∀ d ∈ src, ∃ xs, d = .tuple xs ∧ (∀ x ∈ xs, isPS x) ∧ 1 ≤ xs.length ∧ xs.length ≤ 3) (hl : base.length + src.length ≤ 1000) (k : ∀ vs, (∀ v ∈ vs, Vl v) → P vs) : itSeq (bin gAdd A (mkL (eLc (itSeq its) (tgN 17) cYes (eCallS 1 2 F__law_bent (aCons (eVar 17) (aCons (eVar 2) aNil))) [17]))) ρ P := by
  have hi' : itSeq its ρ = ret src := by rw [x_itSeq, hi, bnd_ret', x_seqD_l]
  rw [x_itSeq, bnd_app, x_bin, hA, bnd_ret', bnd_app, x_mkL, bnd_app, x_eLc, hi', bnd_ret', x_wipeD_cons, x_wipeD_nil]
  have l17 : ∀ v : Option D, 17 < (ρ.set 17 v).length := fun v => by rw [List.length_set, s.len]; decide
  refine bents (s := 0) (o := 0) (n := 0) (fun d => ?_) (fun d => ?_) (fun d => ?_) src _ hs fun ys hy hyl => ?_
  · rw [List.getElem?_set_ne (by decide), List.getElem?_set_ne (by decide), s.src]
  · rw [List.getElem?_set_ne (by decide), List.getElem?_set_ne (by decide), s.odd]
  · exact List.getElem?_set_self (l17 _)
  · rw [ret_app, x_gAdd_l, if_pos (by simp [lenOk]; omega), ret_app, x_seqD_l, ret_app]
    refine k _ fun v hv => ?_
    rcases List.mem_append.mp hv with q | q
    · exact hb v q
    · exact hy v q
end L93
namespace L93
open PySem hiding ret
open Py L2
theorem q1_eq {ρ : Py.Env} : q1 ρ = ret (.nx (ρ.set 2 (some (.list oddC)))) := by
  have e0 : eTup aNil ρ = ret (.tuple []) := by rw [x_eTup, x_aNil, bnd_ret', if_pos (by decide)]
  have e1 : eTup (aCons (eC (.int 0)) aNil) ρ = ret (.tuple [.int 0]) := eTup_1 (x_eC _ _)
  have e2 : eTup (aCons (eC (.int 0)) (aCons (eC (.int 1)) aNil)) ρ = ret (.tuple [.int 0, .int 1]) := eTup_2 (x_eC _ _) (x_eC _ _)
  rw [q1, x_sAsg, x_mkL, x_lDisp]
  simp only [x_aCons, x_aNil, x_eC, ng_e, e0, e1, e2, lnil_e, bnd_ret', List.length_cons, List.length_nil, lenOk_def]
  rw [if_pos (by decide), bnd_ret', bnd_ret']
  rfl
theorem lots_c {ρ : Py.Env} {P : D → Prop} {l : Int} (h1 : ρ[1]? = some (some .none)) (h2 : ρ[3]? = some (some (.int l))) (l0 : 0 ≤ l) (l5 : l < 4) (k : ∀ L : List P2, 1 ≤ L.length → L.length ≤ 10 → (∀ a ∈ L, Bp 9 a) → P (lotT L)) : eCallS 1 2 F__law_lot (aCons (eC (.int 1)) (aCons (bin gIx (mkL (lDisp (aCons (eC (.int 4)) (aCons (eC (.int 6)) (aCons (eC (.int 8)) (aCons (eC (.int 9)) aNil)))))) (eVar 3)) aNil)) ρ P := by
  have el : mkL (lDisp (aCons (eC (.int 4)) (aCons (eC (.int 6)) (aCons (eC (.int 8)) (aCons (eC (.int 9)) aNil))))) ρ = ret (.list [.int 4, .int 6, .int 8, .int 9]) := by
    rw [x_mkL, x_lDisp]
    simp only [x_aCons, x_aNil, x_eC, bnd_ret', List.length_cons, List.length_nil, lenOk_def]
    rw [if_pos (by decide), bnd_ret']
  obtain ⟨most, m1, m10, em⟩ : ∃ most : Int, 1 ≤ most ∧ most ≤ 10 ∧ gIx (.list [.int 4, .int 6, .int 8, .int 9]) (.int l) = ret (.int most) := by
    obtain ⟨n, rfl⟩ : ∃ n : Nat, l = (n : Int) := ⟨l.toNat, by omega⟩
    match n, l5 with
    | 0, _ => exact ⟨4, by decide, by decide, gIx_l (atI_nat rfl)⟩
    | 1, _ => exact ⟨6, by decide, by decide, gIx_l (atI_nat rfl)⟩
    | 2, _ => exact ⟨8, by decide, by decide, gIx_l (atI_nat rfl)⟩
    | 3, _ => exact ⟨9, by decide, by decide, gIx_l (atI_nat rfl)⟩
    | n + 4, h => exact absurd h (by omega)
  have ea : (aCons (eC (.int 1)) (aCons (bin gIx (mkL (lDisp (aCons (eC (.int 4)) (aCons (eC (.int 6)) (aCons (eC (.int 8)) (aCons (eC (.int 9)) aNil)))))) (eVar 3)) aNil)) ρ = ret [.int 1, .int most] := by
    rw [x_aCons, x_eC, bnd_ret', x_aCons, x_bin, el, bnd_ret', var_eq h2, bnd_ret', em, bnd_ret', x_aNil, bnd_ret', bnd_ret']
  rw [x_eCallS, var_eq h1, bnd_ret', ea, bnd_ret', if_pos (by rfl)]
  exact lot_ok m1 m10 k
theorem lot7_c {ρ : Py.Env} {P : D → Prop} (h1 : ρ[1]? = some (some .none)) (k : ∀ L : List P2, 1 ≤ L.length → L.length ≤ 10 → (∀ a ∈ L, Bp 9 a) → P (lotT L)) : eCallS 1 2 F__law_lot (aCons (eC (.int 1)) (aCons (eC (.int 7)) aNil)) ρ P := by
  rw [x_eCallS, var_eq h1, bnd_ret', x_aCons, x_eC, bnd_ret', x_aCons, x_eC, bnd_ret', x_aNil, bnd_ret', bnd_ret', bnd_ret', if_pos (by rfl)]
  exact lot_ok (by decide) (by decide) k
theorem place_c {ρ : Py.Env} {P : D → Prop} {L : List P2} (h1 : ρ[1]? = some (some .none)) (h4 : ρ[4]? = some (some (lotT L))) (hL : ∀ a ∈ L, Bp 9 a) (l1 : 1 ≤ L.length) (l10 : L.length ≤ 10) (k : ∀ p, PlOk p → P (plD p)) : eCallS 1 1 F__law_place (aCons (eVar 4) aNil) ρ P := by
  rw [x_eCallS, var_eq h1, bnd_ret', args_1 h4, bnd_ret', if_pos (by rfl)]
  exact place_ok hL l1 (by omega) k
theorem rk_v {n : Nat} {a : P2} (h : Bp n a) (hn : n < 1919) : rk 1 (2 * (n + 5) + 3) (vD a) :=
  rk_ints (xs := [a.1, a.2]) (n := 2) (fun x hx => by
    simp only [List.mem_cons, List.not_mem_nil, or_false] at hx
    rcases hx with rfl | rfl
    · exact h.1
    · exact h.2) hn (Nat.le_refl 2)
theorem rk_L {L : List P2} (hL : ∀ a ∈ L, Bp 9 a) (hl : L.length ≤ 10) : rk 2 (10 * ((2 * (9 + 5) + 3) + 2) + 3) (lotT L) :=
  rk_tuple (fun d hd => by
    obtain ⟨a, ha, rfl⟩ := List.mem_map.mp hd
    exact rk_v (hL a ha) (by decide)) (by rw [List.length_map]; exact hl)
theorem kept_rq {L O : List P2} (hL : ∀ a ∈ L, Bp 9 a) (hl : L.length ≤ 10) (hO : ∀ a ∈ O, Bp 9 a) (ho : O.length ≤ 10) : RqOk (.list [lotT L, lotT O]) :=
  rokq (rk_list (n := 2) (fun d hd => by
    simp only [List.mem_cons, List.not_mem_nil, or_false] at hd
    rcases hd with rfl | rfl
    · exact rk_L hL hl
    · exact rk_L hO ho) (by simp)).ok
theorem two_l {ρ : Py.Env} {i j : Nat} {x y : D} (h : ρ[i]? = some (some x)) (h' : ρ[j]? = some (some y)) : mkL (lDisp (aCons (eVar i) (aCons (eVar j) aNil))) ρ = ret (.list [x, y]) := by
  rw [x_mkL, x_lDisp, args_2 h h', bnd_ret', if_pos (by simp [lenOk]), bnd_ret']
theorem small_ps {a : Int} (h : B 20 a) : isPS (.int a) := .inl ⟨a, rfl, h.mono (by decide)⟩
theorem pl_b : Pl (.bool true) := .inr (.inr (.inr rfl))
theorem pl_n {a : Int} (h : B 20 a) : Pl (.int a) := (small_ps h).pl
theorem pl_z {a : Int} (h : a.natAbs ≤ 2 ^ 20) : Pl (.int a) := pl_n h
theorem vl_none : Vl .none := .it (.inr (by simp [oddC]))
theorem vl_nil : Vl (.tuple []) := .tup0 (by simp) (by simp)
theorem eTup_3 {a b c : Py.Env → M D} {ρ : Py.Env} {x y z : D} (ha : a ρ = ret x) (hb : b ρ = ret y) (hc : c ρ = ret z) : eTup (aCons a (aCons b (aCons c aNil))) ρ = ret (.tuple [x, y, z]) := by
  rw [x_eTup, x_aCons, ha, bnd_ret', x_aCons, hb, bnd_ret', x_aCons, hc, bnd_ret', x_aNil, bnd_ret', bnd_ret', bnd_ret', bnd_ret', if_pos (by simp [lenOk])]
section
variable {L O : List P2} {p : P2 × P2} {m : Nat} {k : Int} {ts : List D}
/-- two small numbers in 10 and 11 -/
theorem two_ok {ρ : Py.Env} {P : Out → Prop} {g : Py.Env → M Out} (s : Tn L O p k ts ρ) (kk : ∀ ρ' (a b : Int), Tn L O p k ts ρ' → ρ'[10]? = some (some (.int a)) → ρ'[11]? = some (some (.int b)) → B 5 a → B 5 b → g ρ' P) : sSeq (sPar 10 11 (aCons (bin gSub (eCallS 1 1 F__law_pick (aCons (eC (.int 9)) aNil)) (eC (.int 4))) (aCons (bin gSub (eCallS 1 1 F__law_pick (aCons (eC (.int 9)) aNil)) (eC (.int 4))) aNil))) g ρ P := by
  have dr : ∀ {Q : D → Prop}, (∀ x : Int, B 5 x → Q (.int x)) → bin gSub (eCallS 1 1 F__law_pick (aCons (eC (.int 9)) aNil)) (eC (.int 4)) ρ Q := fun {Q} hq => by
    rw [x_bin, bnd_app]
    refine pick_c s.st.src (x_eC _ _) (by decide) (by decide) fun j j0 j1 => ?_
    rw [x_eC, bnd_ret', gSub_i]
    exact hq _ (by unfold B; omega)
  rw [x_sSeq, bnd_app, x_sPar, bnd_app, aCons_app]
  refine dr fun a ha => ?_
  rw [aCons_app]
  refine dr fun b hb => ?_
  rw [x_aNil, ret_app, par2_2, ret_app, oThen_nx]
  refine kk _ a b ((s.set (by decide)).set (by decide)) ?_ ?_ ha hb
  · rw [List.getElem?_set_ne (by decide), List.getElem?_set_self (by rw [s.st.len]; decide)]
  · rw [List.getElem?_set_self (by rw [List.length_set, s.st.len]; decide)]
def vals1 (ts : List D) (a b : Int) : List D := [.tuple ts, .tuple [.str "deep"], .tuple [.str "side", .int a, .int b], .tuple [.str "side", .int 0, .int 0], .tuple [.str "deep", .int 0], .tuple [.str "side", .int a], .list ts, .tuple ts.reverse]
theorem part1 {ρ : Py.Env} {P : Out → Prop} {g : Py.Env → M Out} {a b : Int} (s : Tn L O p k ts ρ) (t : Told k m (waysP L p) ts) (h : PlOk p) (hL : ∀ a ∈ L, Bp 9 a) (hl : L.length ≤ 10) (hm : IsDepth (waysP L p) m) (m10 : m ≤ 10) (h10 : ρ[10]? = some (some (.int a))) (h11 : ρ[11]? = some (some (.int b))) (ba : B 5 a) (bb : B 5 b) (kk : ∀ ρ', Tn L O p k ts ρ' → g ρ' P) : sSeq q2f6 (sSeq q2f7 g) ρ P := by
  have ba' := ba.mono (m := 20) (by decide)
  have bb' := bb.mono (m := 20) (by decide)
  have bz : B 20 0 := by unfold B; decide
  have ps : isPS (.str "side") := .inr (.inr rfl)
  have pd : isPS (.str "deep") := .inr (.inl rfl)
  have e6 : mkL (lDisp (aCons (eVar 9) (aCons (eTup (aCons (eC (.str "deep")) aNil)) (aCons (eTup (aCons (eC (.str "side")) (aCons (eVar 10) (aCons (eVar 11) aNil)))) (aCons (eTup (aCons (eC (.str "side")) (aCons (eC (.int 0)) (aCons (eC (.int 0)) aNil)))) (aCons (eTup (aCons (eC (.str "deep")) (aCons (eC (.int 0)) aNil))) (aCons (eTup (aCons (eC (.str "side")) (aCons (eVar 10) aNil))) (aCons (mkL (calL cLst (aCons (eVar 9) aNil))) (aCons (eRevT (eVar 9)) aNil))))))))) ρ = ret (.list (vals1 ts a b)) := by
    have er : eRevT (eVar 9) ρ = ret (.tuple ts.reverse) := by
      show bnd (eVar 9 ρ) _ = _
      rw [var_eq s.e9, bnd_ret']
    have ell : mkL (calL cLst (aCons (eVar 9) aNil)) ρ = ret (.list ts) := by rw [x_mkL, x_calL, args_1 s.e9, bnd_ret', x_cLst_t, bnd_ret']
    rw [x_mkL, x_lDisp]
    simp only [x_aCons, x_aNil, var_eq s.e9, eTup_1 (x_eC _ _), eTup_3 (x_eC _ _) (var_eq h10) (var_eq h11), eTup_3 (x_eC _ _) (x_eC _ _) (x_eC _ _), eTup_2 (x_eC _ _) (x_eC _ _), eTup_2 (x_eC _ _) (var_eq h10), er, ell, bnd_ret', List.length_cons, List.length_nil, lenOk_def]
    rw [if_pos (by decide), bnd_ret']
    rfl
  rw [q2f6, asg_nx e6]
  have s' : Tn L O p k ts (ρ.set 12 (some (.list (vals1 ts a b)))) := s.set (by decide)
  have g12 : (ρ.set 12 (some (.list (vals1 ts a b))))[12]? = some (some (.list (vals1 ts a b))) := List.getElem?_set_self (by rw [s.st.len]; decide)
  generalize (ρ.set 12 (some (.list (vals1 ts a b)))) = ρ' at *
  have tp : ∀ x ∈ ts, Pl x := fun x hx => (t.ps x hx).pl
  have hA : bin gAdd (eVar 12) (mkL (lDisp (aCons (eC .none) (aCons (eTup aNil) aNil)))) ρ' = ret (.list (vals1 ts a b ++ [.none, .tuple []])) := by
    have e0 : eTup aNil ρ' = ret (.tuple []) := by rw [x_eTup, x_aNil, bnd_ret', if_pos (by decide)]
    rw [x_bin, var_eq g12, bnd_ret', x_mkL, x_lDisp, x_aCons, x_eC, bnd_ret', args_e e0, bnd_ret', bnd_ret', if_pos (by simp [lenOk]), bnd_ret', bnd_ret', x_gAdd_l, if_pos (by simp [lenOk, vals1])]
  have hi : bin gAdd (eSl (eVar 12) oNo (oPart (eC (.int 3)))) (mkL (repL (mkL (lDisp (aCons (eVar 9) aNil))) (eC (.int 4)))) ρ' = ret (.list [.tuple ts, .tuple [.str "deep"], .tuple [.str "side", .int a, .int b], .tuple ts, .tuple ts, .tuple ts, .tuple ts]) := by
    have es : eSl (eVar 12) oNo (oPart (eC (.int 3))) ρ' = ret (.list [.tuple ts, .tuple [.str "deep"], .tuple [.str "side", .int a, .int b]]) := by
      rw [x_eSl, var_eq g12, bnd_ret', x_oNo, bnd_ret', x_oPart, x_eC, bnd_ret', toI_i, bnd_ret']
      show ret (PyData.list (cutD (vals1 ts a b) none (some ((3 : Nat) : Int)))) = _
      rw [cutD_to (by simp [vals1])]
      rfl
    have e1 : mkL (lDisp (aCons (eVar 9) aNil)) ρ' = ret (.list [.tuple ts]) := by rw [x_mkL, x_lDisp, args_1 s'.e9, bnd_ret', if_pos (by simp [lenOk]), bnd_ret']
    have er : repL (mkL (lDisp (aCons (eVar 9) aNil))) (eC (.int 4)) ρ' = ret [.tuple ts, .tuple ts, .tuple ts, .tuple ts] := by
      show bnd (mkL (lDisp (aCons (eVar 9) aNil)) ρ') _ = _
      rw [e1, bnd_ret', x_eC, bnd_ret']
      rfl
    rw [x_bin, es, bnd_ret', x_mkL, er, bnd_ret', bnd_ret', x_gAdd_l, if_pos (by simp [lenOk])]
    rfl
  rw [x_sSeq, bnd_app, q2f7, x_sFor, bnd_app]
  refine bent_list s'.st hA hi ?_ ?_ (by simp [vals1]) fun vs hv => ?_
  · intro v hv
    simp only [vals1, List.cons_append, List.nil_append, List.mem_cons, List.not_mem_nil, or_false] at hv
    have pl3 : ∀ {x y z : D}, Pl x → Pl y → Pl z → Vl (.tuple [x, y, z]) := fun hx hy hz => .tup0 (by simp [hx, hy, hz]) (by simp)
    have pl2 : ∀ {x y : D}, Pl x → Pl y → Vl (.tuple [x, y]) := fun hx hy => .tup0 (by simp [hx, hy]) (by simp)
    have l3 := t.l3
    rcases hv with rfl | rfl | rfl | rfl | rfl | rfl | rfl | rfl | rfl | rfl
    · exact .tup0 tp (by omega)
    · exact .tup0 (by simp [pd.pl]) (by simp)
    · exact pl3 ps.pl (pl_n ba') (pl_n bb')
    · exact pl3 ps.pl (pl_n bz) (pl_n bz)
    · exact pl2 pd.pl (pl_n bz)
    · exact pl2 ps.pl (pl_n ba')
    · exact .lst tp (by omega)
    · exact .tup0 (fun x hx => tp x (List.mem_reverse.mp hx)) (by rw [List.length_reverse]; omega)
    · exact vl_none
    · exact vl_nil
  · intro d hd
    simp only [List.mem_cons, List.not_mem_nil, or_false] at hd
    have tt : ∃ xs, PyData.tuple ts = .tuple xs ∧ (∀ x ∈ xs, isPS x) ∧ 1 ≤ xs.length ∧ xs.length ≤ 3 := ⟨ts, rfl, t.ps, t.l1, t.l3⟩
    rcases hd with rfl | rfl | rfl | rfl | rfl | rfl | rfl
    · exact tt
    · exact ⟨_, rfl, by simp [pd], by simp, by simp⟩
    · exact ⟨_, rfl, by simp [ps, small_ps ba', small_ps bb'], by simp, by simp⟩
    · exact tt
    · exact tt
    · exact tt
    · exact tt
  · obtain ⟨ρ2, s2, e2⟩ := vals_ok t h hL hl hm m10 vs ρ' hv s'
    rw [e2, ret_app, oThen_nx]
    exact kk ρ2 s2
def vals2 (a b c e : Int) : List D := [.tuple [.int a, .int b, .int c], .tuple [.int a, .int b, .int e], .tuple [.int 0, .int 0, .int 1], .tuple [.int a, .int b], .list [.int a, .int b, .int c], .none, .tuple [], .tuple [.int a, .int b, .bool true]]
theorem part2 {ρ : Py.Env} {P : Out → Prop} {g : Py.Env → M Out} {a b : Int} (s : Tn L O p k ts ρ) (hL : ∀ a ∈ L, Bp 9 a) (l1 : 1 ≤ L.length) (hl : L.length ≤ 10) (hO : ∀ a ∈ O, Bp 9 a) (o1 : 1 ≤ O.length) (ho : O.length ≤ 10) (h10 : ρ[10]? = some (some (.int a))) (h11 : ρ[11]? = some (some (.int b))) (ba : B 5 a) (bb : B 5 b) (kk : ∀ ρ', Tn L O p k ts ρ' → g ρ' P) : sSeq q2f9 (sSeq q2f10 (sSeq q2f11 g)) ρ P := by
  have ba' := ba.mono (m := 20) (by decide)
  have bb' := bb.mono (m := 20) (by decide)
  have bz : B 20 0 := by unfold B; decide
  have b1 : B 20 1 := by unfold B; decide
  obtain ⟨lo, hi, blo, bhi, em⟩ := middles_eq hL l1 (by omega) ba bb
  obtain ⟨lo', hi', blo', bhi', em'⟩ := middles_eq hO o1 (by omega) ba bb
  have bc : B 22 ((lo + hi).fdiv 2) := by
    rw [Int.fdiv_eq_ediv_of_nonneg _ (by decide)]
    unfold B at *
    omega
  have c1 : cal cSumX (aCons (eCall 3 F__law_middles (aCons (eVar 4) (aCons (eVar 10) (aCons (eVar 11) aNil)))) aNil) ρ = ret (.int (lo + hi)) := by
    have : cSumX [.tuple [.int lo, .int hi]] = ret (.int (lo + hi)) := by
      have := cSumX_t [lo, hi]
      rw [show [lo, hi].sum = lo + hi by simp] at this
      exact this
    rw [x_cal, args_e ((eCall_3 _ (args_3 s.e4 h10 h11)).trans em), bnd_ret', this]
  have e9 : (eTup (aCons (eVar 10) (aCons (eVar 11) (aCons (bin gFdiv (cal cSumX (aCons (eCall 3 F__law_middles (aCons (eVar 4) (aCons (eVar 10) (aCons (eVar 11) aNil)))) aNil)) (eC (.int 2))) aNil)))) ρ = ret (.tuple [.int a, .int b, .int ((lo + hi).fdiv 2)]) := by
    refine eTup_3 (var_eq h10) (var_eq h11) ?_
    rw [x_bin, c1, bnd_ret', x_eC, bnd_ret', fdiv_i, if_pos (by rfl)]
  rw [q2f9, asg_nx e9]
  generalize hc : (lo + hi).fdiv 2 = c at *
  have s1 : Tn L O p k ts (ρ.set 16 (some (.tuple [.int a, .int b, .int c]))) := s.set (by decide)
  have g10 : (ρ.set 16 (some (.tuple [.int a, .int b, .int c])))[10]? = some (some (.int a)) := by rw [List.getElem?_set_ne (by decide), h10]
  have g11 : (ρ.set 16 (some (.tuple [.int a, .int b, .int c])))[11]? = some (some (.int b)) := by rw [List.getElem?_set_ne (by decide), h11]
  have g16 : (ρ.set 16 (some (.tuple [.int a, .int b, .int c])))[16]? = some (some (.tuple [.int a, .int b, .int c])) := List.getElem?_set_self (by rw [s.st.len]; decide)
  generalize (ρ.set 16 (some (.tuple [.int a, .int b, .int c]))) = ρ1 at *
  have m2 : bin gIx (eCall 3 F__law_middles (aCons (eVar 5) (aCons (eVar 10) (aCons (eVar 11) aNil)))) (eC (.int 0)) ρ1 = ret (.int lo') := by
    rw [x_bin, (eCall_3 _ (args_3 s1.e5 g10 g11)).trans em', bnd_ret', x_eC, bnd_ret', ix_h]
  have e10 : mkL (lDisp (aCons (eVar 16) (aCons (eTup (aCons (eVar 10) (aCons (eVar 11) (aCons (bin gIx (eCall 3 F__law_middles (aCons (eVar 5) (aCons (eVar 10) (aCons (eVar 11) aNil)))) (eC (.int 0))) aNil)))) (aCons (eTup (aCons (eC (.int 0)) (aCons (eC (.int 0)) (aCons (eC (.int 1)) aNil)))) (aCons (eTup (aCons (eVar 10) (aCons (eVar 11) aNil))) (aCons (mkL (calL cLst (aCons (eVar 16) aNil))) (aCons (eC .none) (aCons (eTup aNil) (aCons (eTup (aCons (eVar 10) (aCons (eVar 11) (aCons (eC (.bool true)) aNil)))) aNil))))))))) ρ1 = ret (.list (vals2 a b c lo')) := by
    have e0 : eTup aNil ρ1 = ret (.tuple []) := by rw [x_eTup, x_aNil, bnd_ret', if_pos (by decide)]
    have ell : mkL (calL cLst (aCons (eVar 16) aNil)) ρ1 = ret (.list [.int a, .int b, .int c]) := by rw [x_mkL, x_calL, args_1 g16, bnd_ret', x_cLst_t, bnd_ret']
    rw [x_mkL, x_lDisp]
    simp only [x_aCons, x_aNil, var_eq g16, eTup_3 (var_eq g10) (var_eq g11) m2, eTup_3 (x_eC _ _) (x_eC _ _) (x_eC _ _), eTup_2 (var_eq g10) (var_eq g11), ell, x_eC, e0, eTup_3 (var_eq g10) (var_eq g11) (x_eC _ _), bnd_ret', List.length_cons, List.length_nil, lenOk_def]
    rw [if_pos (by decide), bnd_ret']
    rfl
  rw [q2f10, asg_nx e10]
  have s' : Tn L O p k ts (ρ1.set 12 (some (.list (vals2 a b c lo')))) := s1.set (by decide)
  have g12 : (ρ1.set 12 (some (.list (vals2 a b c lo'))))[12]? = some (some (.list (vals2 a b c lo'))) := List.getElem?_set_self (by rw [s1.st.len]; decide)
  generalize (ρ1.set 12 (some (.list (vals2 a b c lo')))) = ρ' at *
  have hi : mkL (repL (eSl (eVar 12) oNo (oPart (eC (.int 2)))) (eC (.int 4))) ρ' = ret (.list (repD 4 [.tuple [.int a, .int b, .int c], .tuple [.int a, .int b, .int lo']])) := by
    have es : eSl (eVar 12) oNo (oPart (eC (.int 2))) ρ' = ret (.list [.tuple [.int a, .int b, .int c], .tuple [.int a, .int b, .int lo']]) := by
      rw [x_eSl, var_eq g12, bnd_ret', x_oNo, bnd_ret', x_oPart, x_eC, bnd_ret', toI_i, bnd_ret']
      show ret (PyData.list (cutD (vals2 a b c lo') none (some ((2 : Nat) : Int)))) = _
      rw [cutD_to (by simp [vals2])]
      rfl
    have er : repL (eSl (eVar 12) oNo (oPart (eC (.int 2)))) (eC (.int 4)) ρ' = ret (repD 4 [.tuple [.int a, .int b, .int c], .tuple [.int a, .int b, .int lo']]) := by
      show bnd (eSl (eVar 12) oNo (oPart (eC (.int 2))) ρ') _ = _
      rw [es, bnd_ret', x_eC, bnd_ret']
      rfl
    rw [x_mkL, er, bnd_ret']
  rw [x_sSeq, bnd_app, q2f11, x_sFor, bnd_app]
  have bc' : Pl (.int c) := .inl ⟨c, rfl, bc.mono (by decide)⟩
  refine bent_list s'.st (var_eq g12) hi ?_ ?_ (by simp [vals2, repD]) fun vs hv => ?_
  · intro v hv
    simp only [vals2, List.mem_cons, List.not_mem_nil, or_false] at hv
    have pl3 : ∀ {x y z : D}, Pl x → Pl y → Pl z → Vl (.tuple [x, y, z]) := fun hx hy hz => .tup0 (by simp [hx, hy, hz]) (by simp)
    rcases hv with rfl | rfl | rfl | rfl | rfl | rfl | rfl | rfl
    · exact pl3 (pl_n ba') (pl_n bb') bc'
    · exact pl3 (pl_n ba') (pl_n bb') (pl_n blo')
    · exact pl3 (pl_n bz) (pl_n bz) (pl_n b1)
    · exact .tup0 (by simp [pl_n ba', pl_n bb']) (by simp)
    · exact .lst (by simp [pl_n ba', pl_n bb', bc']) (by simp)
    · exact vl_none
    · exact vl_nil
    · exact pl3 (pl_n ba') (pl_n bb') pl_b
  · intro d hd
    have hd' : d = .tuple [.int a, .int b, .int c] ∨ d = .tuple [.int a, .int b, .int lo'] := by
      simp only [repD, List.cons_append, List.nil_append, List.append_nil, List.mem_cons, List.not_mem_nil, or_false] at hd
      rcases hd with h | h | h | h | h | h | h | h
      · exact .inl h
      · exact .inr h
      · exact .inl h
      · exact .inr h
      · exact .inl h
      · exact .inr h
      · exact .inl h
      · exact .inr h
    rcases hd' with rfl | rfl
    · exact ⟨_, rfl, by simp [small_ps ba', small_ps bb', (show isPS (.int c) from .inl ⟨c, rfl, bc.mono (by decide)⟩)], by simp, by simp⟩
    · exact ⟨_, rfl, by simp [small_ps ba', small_ps bb', small_ps blo'], by simp, by simp⟩
  · obtain ⟨ρ2, s2, e2⟩ := lines_ok hL hO (by omega) (by omega) vs ρ' hv s'
    rw [e2, ret_app, oThen_nx]
    exact kk ρ2 s2
theorem turn_ok {ρ : Py.Env} {P : Out → Prop} {l : Int} (s : St ρ) (h3 : ρ[3]? = some (some (.int l))) (l0 : 0 ≤ l) (l4 : l < 4) (kk : ∀ ρ', St ρ' → P (.nx ρ')) : q2f ρ P := by
  rw [q2f, x_sSeq, bnd_app, q2f1, x_sPar, bnd_app, aCons_app]
  refine lots_c s.src h3 l0 l4 fun L l1 l10 hL => ?_
  rw [aCons_app]
  refine lot7_c s.src fun O o1 o10 hO => ?_
  rw [x_aNil, ret_app, par2_2, ret_app, oThen_nx]
  have s4 : St ((ρ.set 4 (some (lotT L))).set 5 (some (lotT O))) := (s.set (by decide)).set (by decide)
  have v4 : ((ρ.set 4 (some (lotT L))).set 5 (some (lotT O)))[4]? = some (some (lotT L)) := by rw [List.getElem?_set_ne (by decide), List.getElem?_set_self (by rw [s.len]; decide)]
  have v5 : ((ρ.set 4 (some (lotT L))).set 5 (some (lotT O)))[5]? = some (some (lotT O)) := List.getElem?_set_self (by rw [List.length_set, s.len]; decide)
  generalize ((ρ.set 4 (some (lotT L))).set 5 (some (lotT O))) = ρ1 at *
  have cl : cal cLen (aCons (eVar 4) aNil) ρ1 = ret (.int (L.length : Nat)) := by rw [x_cal, args_1 v4, bnd_ret', lotT, x_cLen_t, List.length_map]
  have er : cal cReprX (aCons (mkL (lDisp (aCons (eVar 4) (aCons (eVar 5) aNil)))) aNil) ρ1 = ret (.str (keptS L O)) := by
    rw [x_cal, args_e (two_l v4 v5), bnd_ret', (kept_rq hL l10 hO o10).rep]
    rfl
  rw [x_sSeq, bnd_app, q2f2, x_sPar3, bnd_app, aCons_app]
  refine place_c s4.src v4 hL l1 l10 fun p hp => ?_
  rw [aCons_app, x_bin, x_eC, bnd_ret', bnd_app]
  refine pick_1 s4.src cl (by omega) (by omega) fun j j0 j1 => ?_
  rw [x_gAdd_i, ret_app, args_e er, ret_app, par3_3, ret_app, oThen_nx]
  have s5 : St (((ρ1.set 6 (some (plD p))).set 7 (some (.int (1 + j)))).set 8 (some (.str (keptS L O)))) := ((s4.set (by decide)).set (by decide)).set (by decide)
  have w4 : (((ρ1.set 6 (some (plD p))).set 7 (some (.int (1 + j)))).set 8 (some (.str (keptS L O))))[4]? = some (some (lotT L)) := by rw [List.getElem?_set_ne (by decide), List.getElem?_set_ne (by decide), List.getElem?_set_ne (by decide), v4]
  have w5 : (((ρ1.set 6 (some (plD p))).set 7 (some (.int (1 + j)))).set 8 (some (.str (keptS L O))))[5]? = some (some (lotT O)) := by rw [List.getElem?_set_ne (by decide), List.getElem?_set_ne (by decide), List.getElem?_set_ne (by decide), v5]
  have w6 : (((ρ1.set 6 (some (plD p))).set 7 (some (.int (1 + j)))).set 8 (some (.str (keptS L O))))[6]? = some (some (plD p)) := by rw [List.getElem?_set_ne (by decide), List.getElem?_set_ne (by decide), List.getElem?_set_self (by rw [s4.len]; decide)]
  have w7 : (((ρ1.set 6 (some (plD p))).set 7 (some (.int (1 + j)))).set 8 (some (.str (keptS L O))))[7]? = some (some (.int (1 + j))) := by rw [List.getElem?_set_ne (by decide), List.getElem?_set_self (by rw [List.length_set, s4.len]; decide)]
  have w8 : (((ρ1.set 6 (some (plD p))).set 7 (some (.int (1 + j)))).set 8 (some (.str (keptS L O))))[8]? = some (some (.str (keptS L O))) := List.getElem?_set_self (by rw [List.length_set, List.length_set, s4.len]; decide)
  generalize (((ρ1.set 6 (some (plD p))).set 7 (some (.int (1 + j)))).set 8 (some (.str (keptS L O)))) = ρ2 at *
  generalize (1 + j) = k at *
  obtain ⟨m, sd, hm, m10, nz, bs, hmany, ep⟩ := paper_eq (k := k) hp hL l10
  obtain ⟨ts, told, et⟩ := told_of (k := k) nz bs hmany
  rw [et] at ep
  rw [q2f3, asg_nx ((eCall_3 _ (args_3 w4 w6 w7)).trans ep)]
  have t0 : Tn L O p k ts (ρ2.set 9 (some (.tuple ts))) := by
    have g : ∀ j, j < 9 → (ρ2.set 9 (some (.tuple ts)))[j]? = ρ2[j]? := fun j hj => List.getElem?_set_ne (by omega)
    exact ⟨s5.set (by decide), by rw [g 4 (by decide), w4], by rw [g 5 (by decide), w5], by rw [g 6 (by decide), w6], by rw [g 7 (by decide), w7], by rw [g 8 (by decide), w8], List.getElem?_set_self (by rw [s5.len]; decide)⟩
  generalize (ρ2.set 9 (some (.tuple ts))) = ρ3 at t0
  have vt : Vl (.tuple ts) := .tup0 (fun x hx => (told.ps x hx).pl) (by have := told.l3; omega)
  have f4 : tst (bin gNotN (eCall 4 F__law_fault (aCons (eVar 4) (aCons (eVar 6) (aCons (eVar 7) (aCons (eVar 9) aNil))))) (eC .none)) ρ3 = ret false := by
    refine tst_b ?_
    rw [x_bin, (eCall_4 _ (args_4 t0.e4 t0.e6 t0.e7 t0.e9)).trans (fault_eq hp hL l10 hm vt), bnd_ret', told.v, x_eC, bnd_ret']
    rfl
  rw [q2f4, if_no f4, q2f5]
  refine two_ok t0 fun ρ4 a b t4 h10 h11 ba bb => ?_
  refine part1 t4 told hp hL l10 hm m10 h10 h11 ba bb fun ρ5 t5 => ?_
  rw [q2f8]
  refine two_ok t5 fun ρ6 a b t6 h10 h11 ba bb => ?_
  refine part2 t6 hL l1 l10 hO o1 o10 h10 h11 ba bb fun ρ7 t7 => ?_
  have f12 : tst (bin gNeX (cal cReprX (aCons (mkL (lDisp (aCons (eVar 4) (aCons (eVar 5) aNil)))) aNil)) (eVar 8)) ρ7 = ret false := tst_b (rep_held (two_l t7.e4 t7.e5) (var_eq t7.e8) (kept_rq hL l10 hO o10))
  rw [q2f12, x_sIf, f12, bnd_ret', if_neg (by decide), x_sNx]
  exact kk ρ7 t7.st
theorem turns_ok {P : Out → Prop} : ∀ (is : List Int) (ρ : Py.Env), (∀ i ∈ is, 0 ≤ i ∧ i < 4) → St ρ → (∀ ρ', St ρ' → P (.nx ρ')) → forW (tgN 3) q2f (is.map .int) ρ P
  | [], ρ, _, s, k => k ρ s
  | i :: is, ρ, hi, s, k => by
    rw [List.map_cons, forW_cons, x_tgN, bnd_ret', bnd_app]
    refine turn_ok (s.set (by decide)) (List.getElem?_set_self (by rw [s.len]; decide)) (hi i (by simp)).1 (hi i (by simp)).2 fun ρ' s' => ?_
    rw [oLoop_nx]
    exact turns_ok is ρ' (fun j hj => hi j (List.mem_cons_of_mem _ hj)) s' k
def L1 : List P2 := [(0, 0), (2, 0)]
def L2' : List P2 := [(0, 2), (2, 2)]
theorem q3_eq {ρ : Py.Env} : q3 ρ = ret (.rt (.bool true)) := by
  have B1 : ∀ a ∈ L1, Bp 9 a := by
    intro a ha
    simp only [L1, List.mem_cons, List.not_mem_nil, or_false] at ha
    rcases ha with rfl | rfl <;> exact ⟨by unfold B; decide, by unfold B; decide⟩
  have B2 : ∀ a ∈ L2', Bp 9 a := by
    intro a ha
    simp only [L2', List.mem_cons, List.not_mem_nil, or_false] at ha
    rcases ha with rfl | rfl <;> exact ⟨by unfold B; decide, by unfold B; decide⟩
  have v : Vl (line3 0 1 1) := .tup0 (by simp [pl_n (a := 0) (by unfold B; decide), pl_n (a := 1) (by unfold B; decide)]) (by simp)
  have j := judge_line B1 B2 (by decide) (by decide) v
  have e : lineV L1 L2' (line3 0 1 1) = .tuple [.str "less", .int 0] := by rfl
  rw [e] at j
  have a1 : eTup (aCons (eTup (aCons (eC (.int 0)) (aCons (eC (.int 0)) aNil))) (aCons (eTup (aCons (eC (.int 2)) (aCons (eC (.int 0)) aNil))) aNil)) ρ = ret (lotT L1) := eTup_2 (pt_e ct_e ct_e) (pt_e ct_e ct_e)
  have a2 : eTup (aCons (eTup (aCons (eC (.int 0)) (aCons (eC (.int 2)) aNil))) (aCons (eTup (aCons (eC (.int 2)) (aCons (eC (.int 2)) aNil))) aNil)) ρ = ret (lotT L2') := eTup_2 (pt_e ct_e ct_e) (pt_e ct_e ct_e)
  have a3 : eTup (aCons (eC (.int 0)) (aCons (eC (.int 1)) (aCons (eC (.int 1)) aNil))) ρ = ret (line3 0 1 1) := eTup_3 (x_eC _ _) (x_eC _ _) (x_eC _ _)
  have aa : (aCons (eTup (aCons (eTup (aCons (eC (.int 0)) (aCons (eC (.int 0)) aNil))) (aCons (eTup (aCons (eC (.int 2)) (aCons (eC (.int 0)) aNil))) aNil))) (aCons (eTup (aCons (eTup (aCons (eC (.int 0)) (aCons (eC (.int 2)) aNil))) (aCons (eTup (aCons (eC (.int 2)) (aCons (eC (.int 2)) aNil))) aNil))) (aCons (eTup (aCons (eC (.int 0)) (aCons (eC (.int 1)) (aCons (eC (.int 1)) aNil)))) aNil))) ρ = ret [lotT L1, lotT L2', line3 0 1 1] := by
    rw [x_aCons, a1, bnd_ret', x_aCons, a2, bnd_ret', args_e a3, bnd_ret', bnd_ret']
  have q : gEqX (.tuple [.str "less", .int 0]) (.tuple [.str "less", .int 0]) = ret (.bool true) := by
    have sh : shp (.tuple [.str "less", .int 0]) = true := by decide +kernel
    show (if (Py.shp (.tuple [.str "less", .int 0]) && Py.shp (.tuple [.str "less", .int 0])) = true then ret (PyData.bool (PyData.eqv (.tuple [.str "less", .int 0]) (.tuple [.str "less", .int 0]))) else _) = _
    rw [sh, Bool.and_self, if_pos rfl]
    simp [PyData.eqv, PyData.eqvAll]
  rw [q3, x_sRet, x_bin, (eCall_3 _ aa).trans j, bnd_ret', eTup_2 (x_eC _ _) (x_eC _ _), bnd_ret', q, bnd_ret']
theorem law_true : b_law (none :: some .none :: List.replicate 16 none) (fun o => o = .rt (.bool true)) := by
  have e : ∀ ρ : Py.Env, itRng1 (aCons (eC (.int 4)) aNil) ρ = ret (([0, 1, 2, 3] : List Int).map .int) := by
    intro ρ
    rw [x_itRng1, x_aCons, x_eC, bnd_ret', x_aNil, bnd_ret', bnd_ret', rng1_i, if_pos (by decide)]
    rfl
  rw [b_law_eq, seq_nx q1_eq, x_sSeq, q2, x_sFor, e, bnd_ret', bnd_app]
  refine turns_ok _ _ (by decide) ⟨rfl, rfl, rfl⟩ fun ρ s => ?_
  rw [oThen_nx, q3_eq]
  rfl
end
end L93
namespace L93
open PySem PySem.Spec PyProof.Rows L2 Py StX
def topS (i : Nat) : Stmt := PySem.Challenge.pw_cornersmet_k93_depth_papers_and_lines_ju.main.body.getD i (.Pass ⟨0, 0, 0, 0⟩)
abbrev s_shared_bottom : Stmt := topS 2
theorem sc_shared_bottom : FnScope ["p"] ["p"] (defScope s_shared_bottom) := ⟨rfl, rfl, rfl, by decide +kernel, rfl, by decide +kernel, by decide +kernel⟩
abbrev s_ways_from : Stmt := topS 3
theorem sc_ways_from : FnScope ["lot", "p", "by", "x", "y", "a", "b"] ["lot", "p"] (defScope s_ways_from) := ⟨rfl, rfl, rfl, by decide +kernel, rfl, by decide +kernel, by decide +kernel⟩
abbrev s_told_by : Stmt := topS 4
theorem sc_told_by : FnScope ["way", "a", "b"] ["way", "a", "b"] (defScope s_told_by) := ⟨rfl, rfl, rfl, by decide +kernel, rfl, by decide +kernel, by decide +kernel⟩
abbrev s_many_on_side : Stmt := topS 5
theorem sc_many_on_side : FnScope ["ways", "a", "b", "way"] ["ways", "a", "b"] (defScope s_many_on_side) := ⟨rfl, rfl, rfl, by decide +kernel, rfl, by decide +kernel, by decide +kernel⟩
abbrev s_side_count : Stmt := topS 6
theorem sc_side_count : FnScope ["lot", "p", "a", "b"] ["lot", "p", "a", "b"] (defScope s_side_count) := ⟨rfl, rfl, rfl, by decide +kernel, rfl, by decide +kernel, by decide +kernel⟩
abbrev s_lowest_way : Stmt := topS 7
theorem sc_lowest_way : FnScope ["way", "by"] ["way"] (defScope s_lowest_way) := ⟨rfl, rfl, rfl, by decide +kernel, rfl, by decide +kernel, by decide +kernel⟩
abbrev s_is_lower : Stmt := topS 8
theorem sc_is_lower : FnScope ["way"] ["way"] (defScope s_is_lower) := ⟨rfl, rfl, rfl, by decide +kernel, rfl, by decide +kernel, by decide +kernel⟩
abbrev s_turn_between : Stmt := topS 9
theorem sc_turn_between : FnScope ["one", "other"] ["one", "other"] (defScope s_turn_between) := ⟨rfl, rfl, rfl, by decide +kernel, rfl, by decide +kernel, by decide +kernel⟩
abbrev s_is_earlier_way : Stmt := topS 10
theorem sc_is_earlier_way : FnScope ["one", "other"] ["one", "other"] (defScope s_is_earlier_way) := ⟨rfl, rfl, rfl, by decide +kernel, rfl, by decide +kernel, by decide +kernel⟩
abbrev s_put_way : Stmt := topS 11
theorem sc_put_way : FnScope ["line", "way", "at", "late"] ["line", "way"] (defScope s_put_way) := ⟨rfl, rfl, rfl, by decide +kernel, rfl, by decide +kernel, by decide +kernel⟩
abbrev s_round_of_ways : Stmt := topS 12
theorem sc_round_of_ways : FnScope ["ways", "line", "way"] ["ways"] (defScope s_round_of_ways) := ⟨rfl, rfl, rfl, by decide +kernel, rfl, by decide +kernel, by decide +kernel⟩
abbrev s_ways_between : Stmt := topS 13
theorem sc_ways_between : FnScope ["ways", "line", "found", "one", "other", "is_right"] ["ways"] (defScope s_ways_between) := ⟨rfl, rfl, rfl, by decide +kernel, rfl, by decide +kernel, by decide +kernel⟩
abbrev s_sides_told : Stmt := topS 14
theorem sc_sides_told : FnScope ["lot", "p", "ways", "found", "u", "v"] ["lot", "p"] (defScope s_sides_told) := ⟨rfl, rfl, rfl, by decide +kernel, rfl, by decide +kernel, by decide +kernel⟩
abbrev s_depth_of : Stmt := topS 15
theorem sc_depth_of : FnScope ["lot", "p", "many", "a", "b"] ["lot", "p"] (defScope s_depth_of) := ⟨rfl, rfl, rfl, by decide +kernel, rfl, by decide +kernel, by decide +kernel⟩
abbrev s_least_side : Stmt := topS 16
theorem sc_least_side : FnScope ["lot", "p", "many", "a", "b"] ["lot", "p"] (defScope s_least_side) := ⟨rfl, rfl, rfl, by decide +kernel, rfl, by decide +kernel, by decide +kernel⟩
abbrev s_many_more : Stmt := topS 18
theorem sc_many_more : FnScope ["lot", "line", "a", "b", "c", "x", "y"] ["lot", "line"] (defScope s_many_more) := ⟨rfl, rfl, rfl, by decide +kernel, rfl, by decide +kernel, by decide +kernel⟩
abbrev s_many_less : Stmt := topS 19
theorem sc_many_less : FnScope ["lot", "line", "a", "b", "c", "x", "y"] ["lot", "line"] (defScope s_many_less) := ⟨rfl, rfl, rfl, by decide +kernel, rfl, by decide +kernel, by decide +kernel⟩
abbrev s_depth_paper : Stmt := topS 21
theorem sc_depth_paper : FnScope ["lot", "p", "k"] ["lot", "p", "k"] (defScope s_depth_paper) := ⟨rfl, rfl, rfl, by decide +kernel, rfl, by decide +kernel, by decide +kernel⟩
abbrev s_are_whole_numbers : Stmt := topS 22
theorem sc_are_whole_numbers : FnScope ["values", "value"] ["values"] (defScope s_are_whole_numbers) := ⟨rfl, rfl, rfl, by decide +kernel, rfl, by decide +kernel, by decide +kernel⟩
abbrev s_judge_depth : Stmt := topS 23
theorem sc_judge_depth : FnScope ["lot", "p", "k", "value", "depth", "many"] ["lot", "p", "k", "value"] (defScope s_judge_depth) := ⟨rfl, rfl, rfl, by decide +kernel, rfl, by decide +kernel, by decide +kernel⟩
abbrev s_judge_halving : Stmt := topS 24
theorem sc_judge_halving : FnScope ["one", "other", "value", "i", "lot"] ["one", "other", "value"] (defScope s_judge_halving) := ⟨rfl, rfl, rfl, by decide +kernel, rfl, by decide +kernel, by decide +kernel⟩
abbrev s__law_open_cells : Stmt := topS 26
theorem sc__law_open_cells : FnScope ["script", "stirred", "cell", "cells"] ["script"] (defScope s__law_open_cells) := ⟨rfl, rfl, rfl, by decide +kernel, rfl, by decide +kernel, by decide +kernel⟩
abbrev s__law_pick : Stmt := topS 27
theorem sc__law_pick : FnScope ["source", "most", "cells", "others", "lap", "stirred"] ["source", "most"] (defScope s__law_pick) := ⟨rfl, rfl, rfl, by decide +kernel, rfl, by decide +kernel, by decide +kernel⟩
abbrev s__law_of : Stmt := topS 28
theorem sc__law_of : FnScope ["source", "some"] ["source", "some"] (defScope s__law_of) := ⟨rfl, rfl, rfl, by decide +kernel, rfl, by decide +kernel, by decide +kernel⟩
abbrev s__law_is_int : Stmt := topS 29
theorem sc__law_is_int : FnScope ["value"] ["value"] (defScope s__law_is_int) := ⟨rfl, rfl, rfl, by decide +kernel, rfl, by decide +kernel, by decide +kernel⟩
abbrev s__law_bent : Stmt := topS 30
theorem sc__law_bent : FnScope ["source", "value", "odd", "k", "way"] ["source", "value", "odd"] (defScope s__law_bent) := ⟨rfl, rfl, rfl, by decide +kernel, rfl, by decide +kernel, by decide +kernel⟩
abbrev s__law_low : Stmt := topS 31
theorem sc__law_low : FnScope ["p", "q", "a", "b"] ["p", "q"] (defScope s__law_low) := ⟨rfl, rfl, rfl, by decide +kernel, rfl, by decide +kernel, by decide +kernel⟩
abbrev s__law_lot : Stmt := topS 32
theorem sc__law_lot : FnScope ["source", "least", "most", "n", "way", "found", "far", "ring", "lap", "x", "y", "k"] ["source", "least", "most"] (defScope s__law_lot) := ⟨rfl, rfl, rfl, by decide +kernel, rfl, by decide +kernel, by decide +kernel⟩
abbrev s__law_place : Stmt := topS 33
theorem sc__law_place : FnScope ["source", "lot", "way", "one", "other", "a", "b", "axis"] ["source", "lot"] (defScope s__law_place) := ⟨rfl, rfl, rfl, by decide +kernel, rfl, by decide +kernel, by decide +kernel⟩
abbrev s__law_count : Stmt := topS 34
theorem sc__law_count : FnScope ["lot", "p", "a", "b", "s", "t", "u", "v", "found", "x", "y"] ["lot", "p", "a", "b"] (defScope s__law_count) := ⟨rfl, rfl, rfl, by decide +kernel, rfl, by decide +kernel, by decide +kernel⟩
abbrev s__law_ways : Stmt := topS 35
theorem sc__law_ways : FnScope ["lot", "p", "s", "t", "u", "v", "x", "y"] ["lot", "p"] (defScope s__law_ways) := ⟨rfl, rfl, rfl, by decide +kernel, rfl, by decide +kernel, by decide +kernel⟩
abbrev s__law_depth : Stmt := topS 36
theorem sc__law_depth : FnScope ["lot", "p", "ways", "at", "best", "u", "v", "left", "behind", "way", "x", "y"] ["lot", "p"] (defScope s__law_depth) := ⟨rfl, rfl, rfl, by decide +kernel, rfl, by decide +kernel, by decide +kernel⟩
abbrev s__law_middles : Stmt := topS 37
theorem sc__law_middles : FnScope ["lot", "a", "b", "told", "x", "y"] ["lot", "a", "b"] (defScope s__law_middles) := ⟨rfl, rfl, rfl, by decide +kernel, rfl, by decide +kernel, by decide +kernel⟩
abbrev s__law_line_fault : Stmt := topS 38
theorem sc__law_line_fault : FnScope ["one", "other", "value", "a", "b", "c", "i", "lot", "x", "y"] ["one", "other", "value"] (defScope s__law_line_fault) := ⟨rfl, rfl, rfl, by decide +kernel, rfl, by decide +kernel, by decide +kernel⟩
abbrev s__law_fault : Stmt := topS 39
theorem sc__law_fault : FnScope ["lot", "p", "k", "value", "depth", "many"] ["lot", "p", "k", "value"] (defScope s__law_fault) := ⟨rfl, rfl, rfl, by decide +kernel, rfl, by decide +kernel, by decide +kernel⟩
abbrev s_law : Stmt := topS 40
theorem sc_law : FnScope ["script", "source", "odd", "lap", "lot", "other", "p", "k", "kept", "told", "a", "b", "some", "value", "held", "due", "line", "early"] ["script"] (defScope s_law) := ⟨rfl, rfl, rfl, by decide +kernel, rfl, by decide +kernel, by decide +kernel⟩
structure Tx (K : PySem.W.Frag) (mg : Str → Option Value) where
  m_abs : mg "abs" = none
  m_all : mg "all" = none
  m_bool : mg "bool" = none
  m_enumerate : mg "enumerate" = none
  m_int : mg "int" = none
  m_isinstance : mg "isinstance" = none
  m_len : mg "len" = none
  m_list : mg "list" = none
  m_min : mg "min" = none
  m_range : mg "range" = none
  m_repr : mg "repr" = none
  m_sorted : mg "sorted" = none
  m_str : mg "str" = none
  m_sum : mg "sum" = none
  m_tuple : mg "tuple" = none
  m_zip : mg "zip" = none
  m_gcd : mg "gcd" = some (.builtin "math.gcd")
  a_shared_bottom : Addr
  fd_shared_bottom : FuncData
  F_shared_bottom : Fun K "shared_bottom" "shared_bottom" s_shared_bottom a_shared_bottom fd_shared_bottom
  g_shared_bottom : mg "shared_bottom" = some (.ref a_shared_bottom)
  a_ways_from : Addr
  fd_ways_from : FuncData
  F_ways_from : Fun K "ways_from" "ways_from" s_ways_from a_ways_from fd_ways_from
  g_ways_from : mg "ways_from" = some (.ref a_ways_from)
  a_told_by : Addr
  fd_told_by : FuncData
  F_told_by : Fun K "told_by" "told_by" s_told_by a_told_by fd_told_by
  g_told_by : mg "told_by" = some (.ref a_told_by)
  a_many_on_side : Addr
  fd_many_on_side : FuncData
  F_many_on_side : Fun K "many_on_side" "many_on_side" s_many_on_side a_many_on_side fd_many_on_side
  g_many_on_side : mg "many_on_side" = some (.ref a_many_on_side)
  a_side_count : Addr
  fd_side_count : FuncData
  F_side_count : Fun K "side_count" "side_count" s_side_count a_side_count fd_side_count
  g_side_count : mg "side_count" = some (.ref a_side_count)
  a_lowest_way : Addr
  fd_lowest_way : FuncData
  F_lowest_way : Fun K "lowest_way" "lowest_way" s_lowest_way a_lowest_way fd_lowest_way
  g_lowest_way : mg "lowest_way" = some (.ref a_lowest_way)
  a_is_lower : Addr
  fd_is_lower : FuncData
  F_is_lower : Fun K "is_lower" "is_lower" s_is_lower a_is_lower fd_is_lower
  g_is_lower : mg "is_lower" = some (.ref a_is_lower)
  a_turn_between : Addr
  fd_turn_between : FuncData
  F_turn_between : Fun K "turn_between" "turn_between" s_turn_between a_turn_between fd_turn_between
  g_turn_between : mg "turn_between" = some (.ref a_turn_between)
  a_is_earlier_way : Addr
  fd_is_earlier_way : FuncData
  F_is_earlier_way : Fun K "is_earlier_way" "is_earlier_way" s_is_earlier_way a_is_earlier_way fd_is_earlier_way
  g_is_earlier_way : mg "is_earlier_way" = some (.ref a_is_earlier_way)
  a_put_way : Addr
  fd_put_way : FuncData
  F_put_way : Fun K "put_way" "put_way" s_put_way a_put_way fd_put_way
  g_put_way : mg "put_way" = some (.ref a_put_way)
  a_round_of_ways : Addr
  fd_round_of_ways : FuncData
  F_round_of_ways : Fun K "round_of_ways" "round_of_ways" s_round_of_ways a_round_of_ways fd_round_of_ways
  g_round_of_ways : mg "round_of_ways" = some (.ref a_round_of_ways)
  a_ways_between : Addr
  fd_ways_between : FuncData
  F_ways_between : Fun K "ways_between" "ways_between" s_ways_between a_ways_between fd_ways_between
  g_ways_between : mg "ways_between" = some (.ref a_ways_between)
  a_sides_told : Addr
  fd_sides_told : FuncData
  F_sides_told : Fun K "sides_told" "sides_told" s_sides_told a_sides_told fd_sides_told
  g_sides_told : mg "sides_told" = some (.ref a_sides_told)
  a_depth_of : Addr
  fd_depth_of : FuncData
  F_depth_of : Fun K "depth_of" "depth_of" s_depth_of a_depth_of fd_depth_of
  g_depth_of : mg "depth_of" = some (.ref a_depth_of)
  a_least_side : Addr
  fd_least_side : FuncData
  F_least_side : Fun K "least_side" "least_side" s_least_side a_least_side fd_least_side
  g_least_side : mg "least_side" = some (.ref a_least_side)
  a_many_more : Addr
  fd_many_more : FuncData
  F_many_more : Fun K "many_more" "many_more" s_many_more a_many_more fd_many_more
  g_many_more : mg "many_more" = some (.ref a_many_more)
  a_many_less : Addr
  fd_many_less : FuncData
  F_many_less : Fun K "many_less" "many_less" s_many_less a_many_less fd_many_less
  g_many_less : mg "many_less" = some (.ref a_many_less)
  a_depth_paper : Addr
  fd_depth_paper : FuncData
  F_depth_paper : Fun K "depth_paper" "depth_paper" s_depth_paper a_depth_paper fd_depth_paper
  g_depth_paper : mg "depth_paper" = some (.ref a_depth_paper)
  a_are_whole_numbers : Addr
  fd_are_whole_numbers : FuncData
  F_are_whole_numbers : Fun K "are_whole_numbers" "are_whole_numbers" s_are_whole_numbers a_are_whole_numbers fd_are_whole_numbers
  g_are_whole_numbers : mg "are_whole_numbers" = some (.ref a_are_whole_numbers)
  a_judge_depth : Addr
  fd_judge_depth : FuncData
  F_judge_depth : Fun K "judge_depth" "judge_depth" s_judge_depth a_judge_depth fd_judge_depth
  g_judge_depth : mg "judge_depth" = some (.ref a_judge_depth)
  a_judge_halving : Addr
  fd_judge_halving : FuncData
  F_judge_halving : Fun K "judge_halving" "judge_halving" s_judge_halving a_judge_halving fd_judge_halving
  g_judge_halving : mg "judge_halving" = some (.ref a_judge_halving)
  a__law_open_cells : Addr
  fd__law_open_cells : FuncData
  F__law_open_cells : Fun K "_law_open_cells" "_law_open_cells" s__law_open_cells a__law_open_cells fd__law_open_cells
  g__law_open_cells : mg "_law_open_cells" = some (.ref a__law_open_cells)
  a__law_pick : Addr
  fd__law_pick : FuncData
  F__law_pick : Fun K "_law_pick" "_law_pick" s__law_pick a__law_pick fd__law_pick
  g__law_pick : mg "_law_pick" = some (.ref a__law_pick)
  a__law_of : Addr
  fd__law_of : FuncData
  F__law_of : Fun K "_law_of" "_law_of" s__law_of a__law_of fd__law_of
  g__law_of : mg "_law_of" = some (.ref a__law_of)
  a__law_is_int : Addr
  fd__law_is_int : FuncData
  F__law_is_int : Fun K "_law_is_int" "_law_is_int" s__law_is_int a__law_is_int fd__law_is_int
  g__law_is_int : mg "_law_is_int" = some (.ref a__law_is_int)
  a__law_bent : Addr
  fd__law_bent : FuncData
  F__law_bent : Fun K "_law_bent" "_law_bent" s__law_bent a__law_bent fd__law_bent
  g__law_bent : mg "_law_bent" = some (.ref a__law_bent)
  a__law_low : Addr
  fd__law_low : FuncData
  F__law_low : Fun K "_law_low" "_law_low" s__law_low a__law_low fd__law_low
  g__law_low : mg "_law_low" = some (.ref a__law_low)
  a__law_lot : Addr
  fd__law_lot : FuncData
  F__law_lot : Fun K "_law_lot" "_law_lot" s__law_lot a__law_lot fd__law_lot
  g__law_lot : mg "_law_lot" = some (.ref a__law_lot)
  a__law_place : Addr
  fd__law_place : FuncData
  F__law_place : Fun K "_law_place" "_law_place" s__law_place a__law_place fd__law_place
  g__law_place : mg "_law_place" = some (.ref a__law_place)
  a__law_count : Addr
  fd__law_count : FuncData
  F__law_count : Fun K "_law_count" "_law_count" s__law_count a__law_count fd__law_count
  g__law_count : mg "_law_count" = some (.ref a__law_count)
  a__law_ways : Addr
  fd__law_ways : FuncData
  F__law_ways : Fun K "_law_ways" "_law_ways" s__law_ways a__law_ways fd__law_ways
  g__law_ways : mg "_law_ways" = some (.ref a__law_ways)
  a__law_depth : Addr
  fd__law_depth : FuncData
  F__law_depth : Fun K "_law_depth" "_law_depth" s__law_depth a__law_depth fd__law_depth
  g__law_depth : mg "_law_depth" = some (.ref a__law_depth)
  a__law_middles : Addr
  fd__law_middles : FuncData
  F__law_middles : Fun K "_law_middles" "_law_middles" s__law_middles a__law_middles fd__law_middles
  g__law_middles : mg "_law_middles" = some (.ref a__law_middles)
  a__law_line_fault : Addr
  fd__law_line_fault : FuncData
  F__law_line_fault : Fun K "_law_line_fault" "_law_line_fault" s__law_line_fault a__law_line_fault fd__law_line_fault
  g__law_line_fault : mg "_law_line_fault" = some (.ref a__law_line_fault)
  a__law_fault : Addr
  fd__law_fault : FuncData
  F__law_fault : Fun K "_law_fault" "_law_fault" s__law_fault a__law_fault fd__law_fault
  g__law_fault : mg "_law_fault" = some (.ref a__law_fault)
  a_law : Addr
  fd_law : FuncData
  F_law : Fun K "law" "law" s_law a_law fd_law
  g_law : mg "law" = some (.ref a_law)
section
variable {Pr : Program} {w : World} {K : PySem.W.Frag} {mg : Str → Option Value} {base : Heap}
theorem b_shared_bottom_T (T : Tx K mg) : Binds K T.fd_shared_bottom ["p"] [] := T.F_shared_bottom.binds fun _ _ _ _ _ _ us hl => match us, hl with | [_], _ => rfl
set_option maxHeartbeats 4000000 in
theorem ok_shared_bottom (T : Tx K mg) : FnG Pr w K mg base 1 T.a_shared_bottom T.fd_shared_bottom ["p"] (spP 1 F_shared_bottom) := by
  refine fn_g (k := 0) T.F_shared_bottom sc_shared_bottom (fun vs H Q E h => h.1) (fun cdv A outer s H vs Q E hgd hr h => ⟨_, (pss_one (ps_ret (pe_op op_fdivF (pe_op (kMul (K := K)) (pe_ix (kIx (K := K)) (pe_ix (kIx (K := K)) (pv 0) pe_int (fun _ _ => rfl)) pe_int (fun _ _ => rfl)) (pe_ix (kIx (K := K)) (pe_ix (kIx (K := K)) (pv 0) pe_int (fun _ _ => rfl)) pe_int (fun _ _ => rfl))) (pe_callBfun cr_gcd (by rfl) T.m_gcd (pa_cons (pe_ix (kIx (K := K)) (pe_ix (kIx (K := K)) (pv 0) pe_int (fun _ _ => rfl)) pe_int (fun _ _ => rfl)) (pa_cons (pe_ix (kIx (K := K)) (pe_ix (kIx (K := K)) (pv 0) pe_int (fun _ _ => rfl)) pe_int (fun _ _ => rfl)) pa_nil)))))), ?_⟩)
  exact body_p (n := 1) (m := 0) (Γr := []) (Γl := []) (Γ' := []) (N := ["p"]) (sem_ret (sem_op oe_fdiv ((sem_op oe_mulX ((sem_op oe_ix ((sem_op oe_ix ((sem_var (i := 0) rfl)).v (sem_int).v)).v (sem_int).v)).v ((sem_op oe_ix ((sem_op oe_ix ((sem_var (i := 0) rfl)).v (sem_int).v)).v (sem_int).v)).v)).v ((sem_cb ca_gcd (sem_vcons ((sem_op oe_ix ((sem_op oe_ix ((sem_var (i := 0) rfl)).v (sem_int).v)).v (sem_int).v)).v (sem_vcons ((sem_op oe_ix ((sem_op oe_ix ((sem_var (i := 0) rfl)).v (sem_int).v)).v (sem_int).v)).v sem_vnil)))).v)) rfl rfl h
theorem b_ways_from_T (T : Tx K mg) : Binds K T.fd_ways_from ["lot", "p"] [] := T.F_ways_from.binds fun _ _ _ _ _ _ us hl => match us, hl with | [_, _], _ => rfl
set_option maxHeartbeats 4000000 in
theorem ok_ways_from (T : Tx K mg) : FnG Pr w K mg base 2 T.a_ways_from T.fd_ways_from ["lot", "p"] (spP 2 F_ways_from) := by
  refine fn_g (k := 1) T.F_ways_from sc_ways_from (fun vs H Q E h => h.1) (fun cdv A outer s H vs Q E hgd hr h => ⟨_, (pss_cons (ps_set (i := 2) sc_ways_from.nd rfl (Or.inr rfl) (pe_callG ((ok_shared_bottom T).mono (by decide)) hgd hr (by rfl) T.g_shared_bottom T.F_shared_bottom.kp (b_shared_bottom_T T) (pa_cons (pv 1) pa_nil)))
  (pss_cons (ps_asg (pe_tup (pa_cons (pe_op (kMul (K := K)) (pe_ix (kIx (K := K)) (pe_ix (kIx (K := K)) (pv 1) pe_int (fun _ _ => rfl)) pe_int (fun _ _ => rfl)) (pe_op op_fdivF (pv 2) (pe_ix (kIx (K := K)) (pe_ix (kIx (K := K)) (pv 1) pe_int (fun _ _ => rfl)) pe_int (fun _ _ => rfl)))) (pa_cons (pe_op (kMul (K := K)) (pe_ix (kIx (K := K)) (pe_ix (kIx (K := K)) (pv 1) pe_int (fun _ _ => rfl)) pe_int (fun _ _ => rfl)) (pe_op op_fdivF (pv 2) (pe_ix (kIx (K := K)) (pe_ix (kIx (K := K)) (pv 1) pe_int (fun _ _ => rfl)) pe_int (fun _ _ => rfl)))) pa_nil))) (pgTup (K := K) (n := 2) rfl (pgs_cons (pg_name (i := 3) sc_ways_from.nd rfl (Or.inr rfl)) (pgs_cons (pg_name (i := 4) sc_ways_from.nd rfl (Or.inr rfl)) pgs_nil))))
  (pss_one (ps_ret (pe_lc (own := [("a", 5), ("b", 6)]) rfl sc_ways_from.nd  (piSeq (K := K) (pv 0)) (blkOk_by (by kernel_rfl)) (fun _ _ _ _ _ => (pgTup (K := K) (n := 2) rfl (pgs_cons (pg_name (i := 5) sc_ways_from.nd rfl (Or.inl rfl)) (pgs_cons (pg_name (i := 6) sc_ways_from.nd rfl (Or.inl rfl)) pgs_nil)))) (fun _ _ _ _ _ => pts_nil) (fun _ _ _ _ _ => (pe_tup (pa_cons (pe_op op_sub (pe_op (kMul (K := K)) (pv 5) (pv 2)) (pv 3)) (pa_cons (pe_op op_sub (pe_op (kMul (K := K)) (pv 6) (pv 2)) (pv 4)) pa_nil))))))))), ?_⟩)
  exact body_p (n := 2) (m := 5) (Γr := [.fro, .fro, .fro, .fro, .fro]) (Γl := []) (Γ' := []) (N := ["lot", "p", "by", "x", "y", "a", "b"]) (sem_seq (sem_asg (sem_call (sem_acons (sem_var (i := 1) rfl) sem_anil)) (by decide))
  (sem_seq (sem_tgt (sem_tup (sem_acons (sem_op oe_mulX ((sem_op oe_ix ((sem_op oe_ix ((sem_var (i := 1) rfl)).v (sem_int).v)).v (sem_int).v)).v ((sem_op oe_fdiv ((sem_var (i := 2) rfl)).v ((sem_op oe_ix ((sem_op oe_ix ((sem_var (i := 1) rfl)).v (sem_int).v)).v (sem_int).v)).v)).v) (sem_acons (sem_op oe_mulX ((sem_op oe_ix ((sem_op oe_ix ((sem_var (i := 1) rfl)).v (sem_int).v)).v (sem_int).v)).v ((sem_op oe_fdiv ((sem_var (i := 2) rfl)).v ((sem_op oe_ix ((sem_op oe_ix ((sem_var (i := 1) rfl)).v (sem_int).v)).v (sem_int).v)).v)).v) sem_anil))) (sem_gtup (sem_gscons (sem_gname (i := 3) rfl) (sem_gscons (sem_gname (i := 4) rfl) sem_gsnil))))
  (sem_ret ((sem_lc (semIc_seq ((sem_var (i := 0) rfl)).v) (sem_gtup (sem_gscons (sem_gname (i := 5) rfl) (sem_gscons (sem_gname (i := 6) rfl) sem_gsnil))) sem_yes (sem_tup (sem_acons (sem_op oe_sub ((sem_op oe_mulX ((sem_var (i := 5) rfl)).v ((sem_var (i := 2) rfl)).v)).v ((sem_var (i := 3) rfl)).v) (sem_acons (sem_op oe_sub ((sem_op oe_mulX ((sem_var (i := 6) rfl)).v ((sem_var (i := 2) rfl)).v)).v ((sem_var (i := 4) rfl)).v) sem_anil))) (allFro rfl) (by decide))).e))) rfl rfl h
theorem b_told_by_T (T : Tx K mg) : Binds K T.fd_told_by ["way", "a", "b"] [] := T.F_told_by.binds fun _ _ _ _ _ _ us hl => match us, hl with | [_, _, _], _ => rfl
set_option maxHeartbeats 4000000 in
theorem ok_told_by (T : Tx K mg) : FnG Pr w K mg base 1 T.a_told_by T.fd_told_by ["way", "a", "b"] (spP 3 F_told_by) := by
  refine fn_g (k := 0) T.F_told_by sc_told_by (fun vs H Q E h => h.1) (fun cdv A outer s H vs Q E hgd hr h => ⟨_, (pss_one (ps_ret (pe_op (kAdd (K := K)) (pe_op (kMul (K := K)) (pv 1) (pe_ix (kIx (K := K)) (pv 0) pe_int (fun _ _ => rfl))) (pe_op (kMul (K := K)) (pv 2) (pe_ix (kIx (K := K)) (pv 0) pe_int (fun _ _ => rfl)))))), ?_⟩)
  exact body_p (n := 3) (m := 0) (Γr := []) (Γl := []) (Γ' := []) (N := ["way", "a", "b"]) (sem_ret (sem_op oe_add ((sem_op oe_mulX ((sem_var (i := 1) rfl)).v ((sem_op oe_ix ((sem_var (i := 0) rfl)).v (sem_int).v)).v)).v ((sem_op oe_mulX ((sem_var (i := 2) rfl)).v ((sem_op oe_ix ((sem_var (i := 0) rfl)).v (sem_int).v)).v)).v)) rfl rfl h
theorem b_many_on_side_T (T : Tx K mg) : Binds K T.fd_many_on_side ["ways", "a", "b"] [] := T.F_many_on_side.binds fun _ _ _ _ _ _ us hl => match us, hl with | [_, _, _], _ => rfl
set_option maxHeartbeats 4000000 in
theorem ok_many_on_side (T : Tx K mg) : FnG Pr w K mg base 2 T.a_many_on_side T.fd_many_on_side ["ways", "a", "b"] (spP 3 F_many_on_side) := by
  refine fn_g (k := 1) T.F_many_on_side sc_many_on_side (fun vs H Q E h => h.1) (fun cdv A outer s H vs Q E hgd hr h => ⟨_, (pss_one (ps_ret (pe_callB (kLen (K := K)) (by rfl) T.m_len bt_len (pa_cons (pe_lc (own := [("way", 3)]) rfl sc_many_on_side.nd  (piSeq (K := K) (pv 0)) (blkOk_by (by kernel_rfl)) (fun _ _ _ _ _ => (pg_name (i := 3) sc_many_on_side.nd rfl (Or.inl rfl))) (fun _ _ _ _ _ => (pts_one (pt_cmpR op_ge (pe_callG ((ok_told_by T).mono (by decide)) hgd hr (by rfl) T.g_told_by T.F_told_by.kp (b_told_by_T T) (pa_cons (pv 3) (pa_cons (pv 1) (pa_cons (pv 2) pa_nil)))) pe_int (nomark _)))) (fun _ _ _ _ _ => (pv 3))) pa_nil)))), ?_⟩)
  exact body_p (n := 3) (m := 1) (Γr := [.fro]) (Γl := []) (Γ' := []) (N := ["ways", "a", "b", "way"]) (sem_ret (sem_cb ca_len (sem_vcons ((sem_lc (semIc_seq ((sem_var (i := 0) rfl)).v) (sem_gname (i := 3) rfl) (sem_test ((sem_op oe_ge ((sem_call (sem_acons (sem_var (i := 3) rfl) (sem_acons (sem_var (i := 1) rfl) (sem_acons (sem_var (i := 2) rfl) sem_anil))))).v (sem_int).v)).v) (sem_var (i := 3) rfl) (allFro rfl) (by decide))).e.v sem_vnil))) rfl rfl h
theorem b_side_count_T (T : Tx K mg) : Binds K T.fd_side_count ["lot", "p", "a", "b"] [] := T.F_side_count.binds fun _ _ _ _ _ _ us hl => match us, hl with | [_, _, _, _], _ => rfl
set_option maxHeartbeats 4000000 in
theorem ok_side_count (T : Tx K mg) : FnG Pr w K mg base 3 T.a_side_count T.fd_side_count ["lot", "p", "a", "b"] (spP 4 F_side_count) := by
  refine fn_g (k := 2) T.F_side_count sc_side_count (fun vs H Q E h => h.1) (fun cdv A outer s H vs Q E hgd hr h => ⟨_, (pss_one (ps_ret (pe_callG ((ok_many_on_side T).mono (by decide)) hgd hr (by rfl) T.g_many_on_side T.F_many_on_side.kp (b_many_on_side_T T) (pa_cons (pe_callG ((ok_ways_from T).mono (by decide)) hgd hr (by rfl) T.g_ways_from T.F_ways_from.kp (b_ways_from_T T) (pa_cons (pv 0) (pa_cons (pv 1) pa_nil))) (pa_cons (pv 2) (pa_cons (pv 3) pa_nil)))))), ?_⟩)
  exact body_p (n := 4) (m := 0) (Γr := []) (Γl := []) (Γ' := []) (N := ["lot", "p", "a", "b"]) (sem_ret (sem_call (sem_acons (sem_call (sem_acons (sem_var (i := 0) rfl) (sem_acons (sem_var (i := 1) rfl) sem_anil))) (sem_acons (sem_var (i := 2) rfl) (sem_acons (sem_var (i := 3) rfl) sem_anil))))) rfl rfl h
theorem b_lowest_way_T (T : Tx K mg) : Binds K T.fd_lowest_way ["way"] [] := T.F_lowest_way.binds fun _ _ _ _ _ _ us hl => match us, hl with | [_], _ => rfl
set_option maxHeartbeats 4000000 in
theorem ok_lowest_way (T : Tx K mg) : FnG Pr w K mg base 1 T.a_lowest_way T.fd_lowest_way ["way"] (spP 1 F_lowest_way) := by
  refine fn_g (k := 0) T.F_lowest_way sc_lowest_way (fun vs H Q E h => h.1) (fun cdv A outer s H vs Q E hgd hr h => ⟨_, (pss_cons (ps_set (i := 1) sc_lowest_way.nd rfl (Or.inl rfl) (pe_callBfun cr_gcd (by rfl) T.m_gcd (pa_cons (pe_ix (kIx (K := K)) (pv 0) pe_int (fun _ _ => rfl)) (pa_cons (pe_ix (kIx (K := K)) (pv 0) pe_int (fun _ _ => rfl)) pa_nil))))
  (pss_one (ps_ret (pe_tup (pa_cons (pe_op op_fdivF (pe_ix (kIx (K := K)) (pv 0) pe_int (fun _ _ => rfl)) (pv 1)) (pa_cons (pe_op op_fdivF (pe_ix (kIx (K := K)) (pv 0) pe_int (fun _ _ => rfl)) (pv 1)) pa_nil)))))), ?_⟩)
  exact body_p (n := 1) (m := 1) (Γr := [.fro]) (Γl := []) (Γ' := []) (N := ["way", "by"]) (sem_seq (sem_asg (sem_cb ca_gcd (sem_vcons ((sem_op oe_ix ((sem_var (i := 0) rfl)).v (sem_int).v)).v (sem_vcons ((sem_op oe_ix ((sem_var (i := 0) rfl)).v (sem_int).v)).v sem_vnil))) (by decide))
  (sem_ret (sem_tup (sem_acons (sem_op oe_fdiv ((sem_op oe_ix ((sem_var (i := 0) rfl)).v (sem_int).v)).v ((sem_var (i := 1) rfl)).v) (sem_acons (sem_op oe_fdiv ((sem_op oe_ix ((sem_var (i := 0) rfl)).v (sem_int).v)).v ((sem_var (i := 1) rfl)).v) sem_anil))))) rfl rfl h
theorem b_is_lower_T (T : Tx K mg) : Binds K T.fd_is_lower ["way"] [] := T.F_is_lower.binds fun _ _ _ _ _ _ us hl => match us, hl with | [_], _ => rfl
set_option maxHeartbeats 4000000 in
theorem ok_is_lower (T : Tx K mg) : FnG Pr w K mg base 1 T.a_is_lower T.fd_is_lower ["way"] (spP 1 F_is_lower) := by
  refine fn_g (k := 0) T.F_is_lower sc_is_lower (fun vs H Q E h => h.1) (fun cdv A outer s H vs Q E hgd hr h => ⟨_, (pss_one (ps_ret (pe_or (pe_cmpR op_lt (pe_ix (kIx (K := K)) (pv 0) pe_int (fun _ _ => rfl)) pe_int (nomark _)) (pe_one (pe_and (pe_cmpR (kEq (K := K) hr) (pe_ix (kIx (K := K)) (pv 0) pe_int (fun _ _ => rfl)) pe_int (nomark _)) (pe_one (pe_cmpR op_lt (pe_ix (kIx (K := K)) (pv 0) pe_int (fun _ _ => rfl)) pe_int (nomark _)))))))), ?_⟩)
  exact body_p (n := 1) (m := 0) (Γr := []) (Γl := []) (Γ' := []) (N := ["way"]) (sem_ret (sem_eOr ((sem_op oe_lt ((sem_op oe_ix ((sem_var (i := 0) rfl)).v (sem_int).v)).v (sem_int).v)).v (sem_eAnd ((sem_op oe_eq ((sem_op oe_ix ((sem_var (i := 0) rfl)).v (sem_int).v)).v (sem_int).v)).v (sem_op oe_lt ((sem_op oe_ix ((sem_var (i := 0) rfl)).v (sem_int).v)).v (sem_int).v)))) rfl rfl h
theorem b_turn_between_T (T : Tx K mg) : Binds K T.fd_turn_between ["one", "other"] [] := T.F_turn_between.binds fun _ _ _ _ _ _ us hl => match us, hl with | [_, _], _ => rfl
set_option maxHeartbeats 4000000 in
theorem ok_turn_between (T : Tx K mg) : FnG Pr w K mg base 1 T.a_turn_between T.fd_turn_between ["one", "other"] (spP 2 F_turn_between) := by
  refine fn_g (k := 0) T.F_turn_between sc_turn_between (fun vs H Q E h => h.1) (fun cdv A outer s H vs Q E hgd hr h => ⟨_, (pss_one (ps_ret (pe_op op_sub (pe_op (kMul (K := K)) (pe_ix (kIx (K := K)) (pv 0) pe_int (fun _ _ => rfl)) (pe_ix (kIx (K := K)) (pv 1) pe_int (fun _ _ => rfl))) (pe_op (kMul (K := K)) (pe_ix (kIx (K := K)) (pv 0) pe_int (fun _ _ => rfl)) (pe_ix (kIx (K := K)) (pv 1) pe_int (fun _ _ => rfl)))))), ?_⟩)
  exact body_p (n := 2) (m := 0) (Γr := []) (Γl := []) (Γ' := []) (N := ["one", "other"]) (sem_ret (sem_op oe_sub ((sem_op oe_mulX ((sem_op oe_ix ((sem_var (i := 0) rfl)).v (sem_int).v)).v ((sem_op oe_ix ((sem_var (i := 1) rfl)).v (sem_int).v)).v)).v ((sem_op oe_mulX ((sem_op oe_ix ((sem_var (i := 0) rfl)).v (sem_int).v)).v ((sem_op oe_ix ((sem_var (i := 1) rfl)).v (sem_int).v)).v)).v)) rfl rfl h
theorem b_is_earlier_way_T (T : Tx K mg) : Binds K T.fd_is_earlier_way ["one", "other"] [] := T.F_is_earlier_way.binds fun _ _ _ _ _ _ us hl => match us, hl with | [_, _], _ => rfl
set_option maxHeartbeats 4000000 in
theorem ok_is_earlier_way (T : Tx K mg) : FnG Pr w K mg base 2 T.a_is_earlier_way T.fd_is_earlier_way ["one", "other"] (spP 2 F_is_earlier_way) := by
  refine fn_g (k := 1) T.F_is_earlier_way sc_is_earlier_way (fun vs H Q E h => h.1) (fun cdv A outer s H vs Q E hgd hr h => ⟨_, (pss_cons (ps_if (pt_cmpR (kNe (K := K) hr) (pe_callG ((ok_is_lower T).mono (by decide)) hgd hr (by rfl) T.g_is_lower T.F_is_lower.kp (b_is_lower_T T) (pa_cons (pv 0) pa_nil)) (pe_callG ((ok_is_lower T).mono (by decide)) hgd hr (by rfl) T.g_is_lower T.F_is_lower.kp (b_is_lower_T T) (pa_cons (pv 1) pa_nil)) (nomark _)) (pss_one (ps_ret (pe_callG ((ok_is_lower T).mono (by decide)) hgd hr (by rfl) T.g_is_lower T.F_is_lower.kp (b_is_lower_T T) (pa_cons (pv 1) pa_nil)))) pss_nil)
  (pss_one (ps_ret (pe_cmpR op_gt (pe_callG ((ok_turn_between T).mono (by decide)) hgd hr (by rfl) T.g_turn_between T.F_turn_between.kp (b_turn_between_T T) (pa_cons (pv 0) (pa_cons (pv 1) pa_nil))) pe_int (nomark _))))), ?_⟩)
  exact body_p (n := 2) (m := 0) (Γr := []) (Γl := []) (Γ' := []) (N := ["one", "other"]) (sem_seq (sem_if (sem_test ((sem_op oe_ne ((sem_call (sem_acons (sem_var (i := 0) rfl) sem_anil))).v ((sem_call (sem_acons (sem_var (i := 1) rfl) sem_anil))).v)).v) (sem_ret (sem_call (sem_acons (sem_var (i := 1) rfl) sem_anil))) sem_nx)
  (sem_ret (sem_op oe_gt ((sem_call (sem_acons (sem_var (i := 0) rfl) (sem_acons (sem_var (i := 1) rfl) sem_anil)))).v (sem_int).v))) rfl rfl h
theorem b_put_way_T (T : Tx K mg) : Binds K T.fd_put_way ["line", "way"] [] := T.F_put_way.binds fun _ _ _ _ _ _ us hl => match us, hl with | [_, _], _ => rfl
set_option maxHeartbeats 4000000 in
theorem ok_put_way (T : Tx K mg) : FnG Pr w K mg base 3 T.a_put_way T.fd_put_way ["line", "way"] (spP 2 F_put_way) := by
  refine fn_g (k := 2) T.F_put_way sc_put_way (fun vs H Q E h => h.1) (fun cdv A outer s H vs Q E hgd hr h => ⟨_, (pss_cons (ps_if (pt_cmpR (kIn (K := K) hr) (pv 1) (pv 0) (by rfl)) (pss_one (ps_ret (pv 0))) pss_nil)
  (pss_cons (ps_set (i := 2) sc_put_way.nd rfl (Or.inl rfl) (pe_callB (kLen (K := K)) (by rfl) T.m_len bt_len (pa_cons (pe_lc (own := [("late", 3)]) rfl sc_put_way.nd  (piSeq (K := K) (pv 0)) (blkOk_by (by kernel_rfl)) (fun _ _ _ _ _ => (pg_name (i := 3) sc_put_way.nd rfl (Or.inl rfl))) (fun _ _ _ _ _ => (pts_one (pt_val (pe_callG ((ok_is_earlier_way T).mono (by decide)) hgd hr (by rfl) T.g_is_earlier_way T.F_is_earlier_way.kp (b_is_earlier_way_T T) (pa_cons (pv 3) (pa_cons (pv 1) pa_nil)))))) (fun _ _ _ _ _ => (pv 3))) pa_nil)))
  (pss_one (ps_ret (pe_lst (paStar (K := K) (pe_slice (kSl (K := K)) (pv 0) po_none (po_some (pv 2))) (pa_cons (pv 1) (paStar (K := K) (pe_slice (kSl (K := K)) (pv 0) (po_some (pv 2)) po_none) pa_nil)))))))), ?_⟩)
  exact body_p (n := 2) (m := 2) (Γr := [.fro, .fro]) (Γl := []) (Γ' := []) (N := ["line", "way", "at", "late"]) (sem_seq (sem_if (sem_test ((sem_op oe_in ((sem_var (i := 1) rfl)).v ((sem_var (i := 0) rfl)).v)).v) (sem_ret (sem_var (i := 0) rfl)) sem_nx)
  (sem_seq (sem_asg (sem_cb ca_len (sem_vcons ((sem_lc (semIc_seq ((sem_var (i := 0) rfl)).v) (sem_gname (i := 3) rfl) (sem_tB ((sem_call (sem_acons (sem_var (i := 3) rfl) (sem_acons (sem_var (i := 1) rfl) sem_anil)))).v) (sem_var (i := 3) rfl) (allFro rfl) (by decide))).e.v sem_vnil)) (by decide))
  (sem_ret ((sem_lst (sem_astar ((sem_sl ((sem_var (i := 0) rfl)).v sem_oNo (sem_oPart ((sem_var (i := 2) rfl)).v))).v (sem_acons (sem_var (i := 1) rfl) (sem_astar ((sem_sl ((sem_var (i := 0) rfl)).v (sem_oPart ((sem_var (i := 2) rfl)).v) sem_oNo)).v sem_anil))))).e))) rfl rfl h
theorem b_round_of_ways_T (T : Tx K mg) : Binds K T.fd_round_of_ways ["ways"] [] := T.F_round_of_ways.binds fun _ _ _ _ _ _ us hl => match us, hl with | [_], _ => rfl
set_option maxHeartbeats 4000000 in
theorem ok_round_of_ways (T : Tx K mg) : FnG Pr w K mg base 4 T.a_round_of_ways T.fd_round_of_ways ["ways"] (spP 1 F_round_of_ways) := by
  refine fn_g (k := 3) T.F_round_of_ways sc_round_of_ways (fun vs H Q E h => h.1) (fun cdv A outer s H vs Q E hgd hr h => ⟨_, (pss_cons (ps_set (i := 1) sc_round_of_ways.nd rfl (Or.inl rfl) (pe_lst pa_nil))
  (pss_cons (ps_for PassesOwn.never rfl (piSeq (K := K) (pv 0)) (pg_name (i := 2) sc_round_of_ways.nd rfl (Or.inl rfl))
  (pss_one (ps_if (pt_cmpR (kNe (K := K) hr) (pv 2) (pe_tup (pa_cons pe_int (pa_cons pe_int pa_nil))) (nomark _)) (pss_cons (ps_set (i := 1) sc_round_of_ways.nd rfl (Or.inl rfl) (pe_callG ((ok_put_way T).mono (by decide)) hgd hr (by rfl) T.g_put_way T.F_put_way.kp (b_put_way_T T) (pa_cons (pv 1) (pa_cons (pe_callG ((ok_lowest_way T).mono (by decide)) hgd hr (by rfl) T.g_lowest_way T.F_lowest_way.kp (b_lowest_way_T T) (pa_cons (pv 2) pa_nil)) pa_nil))))
  (pss_one (ps_set (i := 1) sc_round_of_ways.nd rfl (Or.inl rfl) (pe_callG ((ok_put_way T).mono (by decide)) hgd hr (by rfl) T.g_put_way T.F_put_way.kp (b_put_way_T T) (pa_cons (pv 1) (pa_cons (pe_callG ((ok_lowest_way T).mono (by decide)) hgd hr (by rfl) T.g_lowest_way T.F_lowest_way.kp (b_lowest_way_T T) (pa_cons (pe_tup (pa_cons (pe_un un_neg (pe_ix (kIx (K := K)) (pv 2) pe_int (fun _ _ => rfl))) (pa_cons (pe_un un_neg (pe_ix (kIx (K := K)) (pv 2) pe_int (fun _ _ => rfl))) pa_nil))) pa_nil)) pa_nil)))))) pss_nil)))
  (pss_one (ps_ret (pv 1))))), ?_⟩)
  exact body_p (n := 1) (m := 2) (Γr := [.fro, .fro]) (Γl := []) (Γ' := []) (N := ["ways", "line", "way"]) (sem_seq (sem_asg ((sem_lst sem_anil)).e (by decide))
  (sem_seq (sem_for (semI_seq (sem_var (i := 0) rfl)) (sem_gname (i := 2) rfl)
  (sem_if (sem_test ((sem_op oe_ne ((sem_var (i := 2) rfl)).v ((sem_tup (sem_acons sem_int (sem_acons sem_int sem_anil)))).v)).v) (sem_seq (sem_asg (sem_call (sem_acons (sem_var (i := 1) rfl) (sem_acons (sem_call (sem_acons (sem_var (i := 2) rfl) sem_anil)) sem_anil))) (by decide))
  (sem_asg (sem_call (sem_acons (sem_var (i := 1) rfl) (sem_acons (sem_call (sem_acons (sem_tup (sem_acons (sem_un oe_neg ((sem_op oe_ix ((sem_var (i := 2) rfl)).v (sem_int).v)).v) (sem_acons (sem_un oe_neg ((sem_op oe_ix ((sem_var (i := 2) rfl)).v (sem_int).v)).v) sem_anil))) sem_anil)) sem_anil))) (by decide))) sem_nx))
  (sem_ret (sem_var (i := 1) rfl)))) rfl rfl h
theorem b_ways_between_T (T : Tx K mg) : Binds K T.fd_ways_between ["ways"] [] := T.F_ways_between.binds fun _ _ _ _ _ _ us hl => match us, hl with | [_], _ => rfl
set_option maxHeartbeats 4000000 in
theorem ok_ways_between (T : Tx K mg) : FnG Pr w K mg base 5 T.a_ways_between T.fd_ways_between ["ways"] (spP 1 F_ways_between) := by
  refine fn_g (k := 4) T.F_ways_between sc_ways_between (fun vs H Q E h => h.1) (fun cdv A outer s H vs Q E hgd hr h => ⟨_, (pss_cons (ps_set (i := 1) sc_ways_between.nd rfl (Or.inl rfl) (pe_callG ((ok_round_of_ways T).mono (by decide)) hgd hr (by rfl) T.g_round_of_ways T.F_round_of_ways.kp (b_round_of_ways_T T) (pa_cons (pv 0) pa_nil)))
  (pss_cons (ps_if (pt_cmpR (kEq (K := K) hr) (pv 1) (pe_lst pa_nil) (nomark _)) (pss_one (ps_ret (pe_lst (pa_cons (pe_tup (pa_cons pe_int (pa_cons (pe_un un_neg pe_int) pa_nil))) pa_nil)))) pss_nil)
  (pss_cons (ps_set (i := 2) sc_ways_between.nd rfl (Or.inl rfl) (pe_lst pa_nil))
  (pss_cons (ps_for PassesOwn.never rfl (piZip (K := K) (by rfl) T.m_zip (pa_cons (pv 1) (pa_cons (pe_lst (paStar (K := K) (pe_slice (kSl (K := K)) (pv 1) (po_some pe_int) po_none) (pa_cons (pe_ix (kIx (K := K)) (pv 1) pe_int (fun _ _ => rfl)) pa_nil))) pa_nil))) (pgTup (K := K) (n := 2) rfl (pgs_cons (pg_name (i := 3) sc_ways_between.nd rfl (Or.inl rfl)) (pgs_cons (pg_name (i := 4) sc_ways_between.nd rfl (Or.inl rfl)) pgs_nil)))
  (pss_cons (ps_set (i := 5) sc_ways_between.nd rfl (Or.inl rfl) (pe_cmpR (kEq (K := K) hr) (pe_callB (kLen (K := K)) (by rfl) T.m_len bt_len (pa_cons (pv 1) pa_nil)) pe_int (nomark _)))
  (pss_one (ps_expr (pe_bm PySem.F.plainAttrs_list PySem.F.slot_list_append PySem.F.type_list_append mt_append (pv 2) (pa_cons (pe_ifExp (ptTru (K := K) (pv 5)) (pe_tup (pa_cons (pe_un un_neg (pe_ix (kIx (K := K)) (pv 3) pe_int (fun _ _ => rfl))) (pa_cons (pe_ix (kIx (K := K)) (pv 3) pe_int (fun _ _ => rfl)) pa_nil))) (pe_tup (pa_cons (pe_op (kAdd (K := K)) (pe_ix (kIx (K := K)) (pv 3) pe_int (fun _ _ => rfl)) (pe_ix (kIx (K := K)) (pv 4) pe_int (fun _ _ => rfl))) (pa_cons (pe_op (kAdd (K := K)) (pe_ix (kIx (K := K)) (pv 3) pe_int (fun _ _ => rfl)) (pe_ix (kIx (K := K)) (pv 4) pe_int (fun _ _ => rfl))) pa_nil)))) pa_nil))))))
  (pss_one (ps_ret (pv 2))))))), ?_⟩)
  exact body_p (n := 1) (m := 5) (Γr := [.fro, .own, .fro, .fro, .fro]) (Γl := []) (Γ' := []) (N := ["ways", "line", "found", "one", "other", "is_right"]) (sem_seq (sem_asg (sem_call (sem_acons (sem_var (i := 0) rfl) sem_anil)) (by decide))
  (sem_seq (sem_if (sem_test ((sem_op oe_eq ((sem_var (i := 1) rfl)).v ((sem_lst sem_anil)).e.v)).v) (sem_ret ((sem_lst (sem_acons (sem_tup (sem_acons sem_int (sem_acons (sem_un oe_neg (sem_int).v) sem_anil))) sem_anil))).e) sem_nx)
  (sem_seq (sem_asgOwn (sem_lst sem_anil) (by decide))
  (sem_seq (sem_for (semI_zip (sem_acons (sem_var (i := 1) rfl) (sem_acons ((sem_lst (sem_astar ((sem_sl ((sem_var (i := 1) rfl)).v (sem_oPart (sem_int).v) sem_oNo)).v (sem_acons (sem_op oe_ix ((sem_var (i := 1) rfl)).v (sem_int).v) sem_anil)))).e sem_anil))) (sem_gtup (sem_gscons (sem_gname (i := 3) rfl) (sem_gscons (sem_gname (i := 4) rfl) sem_gsnil)))
  (sem_seq (sem_asg (sem_op oe_eq ((sem_cb ca_len (sem_vcons ((sem_var (i := 1) rfl)).v sem_vnil))).v (sem_int).v) (by decide))
  (sem_app (i := 2) rfl (sem_eIf (sem_tru ((sem_var (i := 5) rfl)).v) (sem_tup (sem_acons (sem_un oe_neg ((sem_op oe_ix ((sem_var (i := 3) rfl)).v (sem_int).v)).v) (sem_acons (sem_op oe_ix ((sem_var (i := 3) rfl)).v (sem_int).v) sem_anil))) (sem_tup (sem_acons (sem_op oe_add ((sem_op oe_ix ((sem_var (i := 3) rfl)).v (sem_int).v)).v ((sem_op oe_ix ((sem_var (i := 4) rfl)).v (sem_int).v)).v) (sem_acons (sem_op oe_add ((sem_op oe_ix ((sem_var (i := 3) rfl)).v (sem_int).v)).v ((sem_op oe_ix ((sem_var (i := 4) rfl)).v (sem_int).v)).v) sem_anil)))))))
  (sem_retOwn (i := 2) rfl))))) rfl rfl h
theorem b_sides_told_T (T : Tx K mg) : Binds K T.fd_sides_told ["lot", "p"] [] := T.F_sides_told.binds fun _ _ _ _ _ _ us hl => match us, hl with | [_, _], _ => rfl
set_option maxHeartbeats 4000000 in
theorem ok_sides_told (T : Tx K mg) : FnG Pr w K mg base 6 T.a_sides_told T.fd_sides_told ["lot", "p"] (spP 2 F_sides_told) := by
  refine fn_g (k := 5) T.F_sides_told sc_sides_told (fun vs H Q E h => h.1) (fun cdv A outer s H vs Q E hgd hr h => ⟨_, (pss_cons (ps_par (i := 2) (j := 3) rfl sc_sides_told.nd rfl rfl (by decide) rfl rfl (pa_cons (pe_callG ((ok_ways_from T).mono (by decide)) hgd hr (by rfl) T.g_ways_from T.F_ways_from.kp (b_ways_from_T T) (pa_cons (pv 0) (pa_cons (pv 1) pa_nil))) (pa_cons (pe_lst pa_nil) pa_nil)) (by rfl))
  (pss_cons (ps_for PassesOwn.never rfl (piSeq (K := K) (pe_callG ((ok_ways_between T).mono (by decide)) hgd hr (by rfl) T.g_ways_between T.F_ways_between.kp (b_ways_between_T T) (pa_cons (pv 2) pa_nil))) (pgTup (K := K) (n := 2) rfl (pgs_cons (pg_name (i := 4) sc_sides_told.nd rfl (Or.inl rfl)) (pgs_cons (pg_name (i := 5) sc_sides_told.nd rfl (Or.inl rfl)) pgs_nil)))
  (pss_one (ps_expr (pe_bm PySem.F.plainAttrs_list PySem.F.slot_list_append PySem.F.type_list_append mt_append (pv 3) (pa_cons (pe_tup (pa_cons (pe_callG ((ok_many_on_side T).mono (by decide)) hgd hr (by rfl) T.g_many_on_side T.F_many_on_side.kp (b_many_on_side_T T) (pa_cons (pv 2) (pa_cons (pe_un un_neg (pv 5)) (pa_cons (pv 4) pa_nil)))) (pa_cons (pe_un un_neg (pv 5)) (pa_cons (pv 4) pa_nil)))) pa_nil)))))
  (pss_one (ps_ret (pv 3))))), ?_⟩)
  exact body_p (n := 2) (m := 4) (Γr := [.fro, .own, .fro, .fro]) (Γl := []) (Γ' := []) (N := ["lot", "p", "ways", "found", "u", "v"]) (sem_seq (sem_parO (sem_call (sem_acons (sem_var (i := 0) rfl) (sem_acons (sem_var (i := 1) rfl) sem_anil))) (sem_lst sem_anil) rfl (by decide))
  (sem_seq (sem_for (semI_seq (sem_call (sem_acons (sem_var (i := 2) rfl) sem_anil))) (sem_gtup (sem_gscons (sem_gname (i := 4) rfl) (sem_gscons (sem_gname (i := 5) rfl) sem_gsnil)))
  (sem_app (i := 3) rfl (sem_tup (sem_acons (sem_call (sem_acons (sem_var (i := 2) rfl) (sem_acons (sem_un oe_neg ((sem_var (i := 5) rfl)).v) (sem_acons (sem_var (i := 4) rfl) sem_anil)))) (sem_acons (sem_un oe_neg ((sem_var (i := 5) rfl)).v) (sem_acons (sem_var (i := 4) rfl) sem_anil))))))
  (sem_retOwn (i := 3) rfl))) rfl rfl h
theorem b_depth_of_T (T : Tx K mg) : Binds K T.fd_depth_of ["lot", "p"] [] := T.F_depth_of.binds fun _ _ _ _ _ _ us hl => match us, hl with | [_, _], _ => rfl
set_option maxHeartbeats 4000000 in
theorem ok_depth_of (T : Tx K mg) : FnG Pr w K mg base 7 T.a_depth_of T.fd_depth_of ["lot", "p"] (spP 2 F_depth_of) := by
  refine fn_g (k := 6) T.F_depth_of sc_depth_of (fun vs H Q E h => h.1) (fun cdv A outer s H vs Q E hgd hr h => ⟨_, (pss_one (ps_ret (pe_callB (kMin (K := K) rfl hr) (by rfl) T.m_min bt_min (pa_cons (pe_lc (own := [("many", 2), ("a", 3), ("b", 4)]) rfl sc_depth_of.nd  (piSeq (K := K) (pe_callG ((ok_sides_told T).mono (by decide)) hgd hr (by rfl) T.g_sides_told T.F_sides_told.kp (b_sides_told_T T) (pa_cons (pv 0) (pa_cons (pv 1) pa_nil)))) (blkOk_by (by kernel_rfl)) (fun _ _ _ _ _ => (pgTup (K := K) (n := 3) rfl (pgs_cons (pg_name (i := 2) sc_depth_of.nd rfl (Or.inl rfl)) (pgs_cons (pg_name (i := 3) sc_depth_of.nd rfl (Or.inl rfl)) (pgs_cons (pg_name (i := 4) sc_depth_of.nd rfl (Or.inl rfl)) pgs_nil))))) (fun _ _ _ _ _ => pts_nil) (fun _ _ _ _ _ => (pv 2))) pa_nil)))), ?_⟩)
  exact body_p (n := 2) (m := 3) (Γr := [.fro, .fro, .fro]) (Γl := []) (Γ' := []) (N := ["lot", "p", "many", "a", "b"]) (sem_ret (sem_cb ca_best (sem_vcons ((sem_lc (semIc_seq ((sem_call (sem_acons (sem_var (i := 0) rfl) (sem_acons (sem_var (i := 1) rfl) sem_anil)))).v) (sem_gtup (sem_gscons (sem_gname (i := 2) rfl) (sem_gscons (sem_gname (i := 3) rfl) (sem_gscons (sem_gname (i := 4) rfl) sem_gsnil)))) sem_yes (sem_var (i := 2) rfl) (allFro rfl) (by decide))).e.v sem_vnil))) rfl rfl h
theorem b_least_side_T (T : Tx K mg) : Binds K T.fd_least_side ["lot", "p"] [] := T.F_least_side.binds fun _ _ _ _ _ _ us hl => match us, hl with | [_, _], _ => rfl
set_option maxHeartbeats 4000000 in
theorem ok_least_side (T : Tx K mg) : FnG Pr w K mg base 7 T.a_least_side T.fd_least_side ["lot", "p"] (spP 2 F_least_side) := by
  refine fn_g (k := 6) T.F_least_side sc_least_side (fun vs H Q E h => h.1) (fun cdv A outer s H vs Q E hgd hr h => ⟨_, (pss_cons (ps_asg (pe_callB (kMin (K := K) rfl hr) (by rfl) T.m_min bt_min (pa_cons (pe_callG ((ok_sides_told T).mono (by decide)) hgd hr (by rfl) T.g_sides_told T.F_sides_told.kp (b_sides_told_T T) (pa_cons (pv 0) (pa_cons (pv 1) pa_nil))) pa_nil)) (pgTup (K := K) (n := 3) rfl (pgs_cons (pg_name (i := 2) sc_least_side.nd rfl (Or.inl rfl)) (pgs_cons (pg_name (i := 3) sc_least_side.nd rfl (Or.inl rfl)) (pgs_cons (pg_name (i := 4) sc_least_side.nd rfl (Or.inl rfl)) pgs_nil)))))
  (pss_one (ps_ret (pe_tup (pa_cons (pv 3) (pa_cons (pv 4) pa_nil)))))), ?_⟩)
  exact body_p (n := 2) (m := 3) (Γr := [.fro, .fro, .fro]) (Γl := []) (Γ' := []) (N := ["lot", "p", "many", "a", "b"]) (sem_seq (sem_tgt (sem_cb ca_best (sem_vcons ((sem_call (sem_acons (sem_var (i := 0) rfl) (sem_acons (sem_var (i := 1) rfl) sem_anil)))).v sem_vnil)) (sem_gtup (sem_gscons (sem_gname (i := 2) rfl) (sem_gscons (sem_gname (i := 3) rfl) (sem_gscons (sem_gname (i := 4) rfl) sem_gsnil)))))
  (sem_ret (sem_tup (sem_acons (sem_var (i := 3) rfl) (sem_acons (sem_var (i := 4) rfl) sem_anil))))) rfl rfl h
theorem b_many_more_T (T : Tx K mg) : Binds K T.fd_many_more ["lot", "line"] [] := T.F_many_more.binds fun _ _ _ _ _ _ us hl => match us, hl with | [_, _], _ => rfl
set_option maxHeartbeats 4000000 in
theorem ok_many_more (T : Tx K mg) : FnG Pr w K mg base 1 T.a_many_more T.fd_many_more ["lot", "line"] (spP 2 F_many_more) := by
  refine fn_g (k := 0) T.F_many_more sc_many_more (fun vs H Q E h => h.1) (fun cdv A outer s H vs Q E hgd hr h => ⟨_, (pss_cons (ps_asg (pv 1) (pgTup (K := K) (n := 3) rfl (pgs_cons (pg_name (i := 2) sc_many_more.nd rfl (Or.inr rfl)) (pgs_cons (pg_name (i := 3) sc_many_more.nd rfl (Or.inr rfl)) (pgs_cons (pg_name (i := 4) sc_many_more.nd rfl (Or.inr rfl)) pgs_nil)))))
  (pss_one (ps_ret (pe_callB (kLen (K := K)) (by rfl) T.m_len bt_len (pa_cons (pe_lc (own := [("x", 5), ("y", 6)]) rfl sc_many_more.nd  (piSeq (K := K) (pv 0)) (blkOk_by (by kernel_rfl)) (fun _ _ _ _ _ => (pgTup (K := K) (n := 2) rfl (pgs_cons (pg_name (i := 5) sc_many_more.nd rfl (Or.inl rfl)) (pgs_cons (pg_name (i := 6) sc_many_more.nd rfl (Or.inl rfl)) pgs_nil)))) (fun _ _ _ _ _ => (pts_one (pt_cmpR op_gt (pe_op (kAdd (K := K)) (pe_op (kMul (K := K)) (pv 2) (pv 5)) (pe_op (kMul (K := K)) (pv 3) (pv 6))) (pv 4) (nomark _)))) (fun _ _ _ _ _ => pe_int)) pa_nil))))), ?_⟩)
  exact body_p (n := 2) (m := 5) (Γr := [.fro, .fro, .fro, .fro, .fro]) (Γl := []) (Γ' := []) (N := ["lot", "line", "a", "b", "c", "x", "y"]) (sem_seq (sem_tgt (sem_var (i := 1) rfl) (sem_gtup (sem_gscons (sem_gname (i := 2) rfl) (sem_gscons (sem_gname (i := 3) rfl) (sem_gscons (sem_gname (i := 4) rfl) sem_gsnil)))))
  (sem_ret (sem_cb ca_len (sem_vcons ((sem_lc (semIc_seq ((sem_var (i := 0) rfl)).v) (sem_gtup (sem_gscons (sem_gname (i := 5) rfl) (sem_gscons (sem_gname (i := 6) rfl) sem_gsnil))) (sem_test ((sem_op oe_gt ((sem_op oe_add ((sem_op oe_mulX ((sem_var (i := 2) rfl)).v ((sem_var (i := 5) rfl)).v)).v ((sem_op oe_mulX ((sem_var (i := 3) rfl)).v ((sem_var (i := 6) rfl)).v)).v)).v ((sem_var (i := 4) rfl)).v)).v) sem_int (allFro rfl) (by decide))).e.v sem_vnil)))) rfl rfl h
theorem b_many_less_T (T : Tx K mg) : Binds K T.fd_many_less ["lot", "line"] [] := T.F_many_less.binds fun _ _ _ _ _ _ us hl => match us, hl with | [_, _], _ => rfl
set_option maxHeartbeats 4000000 in
theorem ok_many_less (T : Tx K mg) : FnG Pr w K mg base 1 T.a_many_less T.fd_many_less ["lot", "line"] (spP 2 F_many_less) := by
  refine fn_g (k := 0) T.F_many_less sc_many_less (fun vs H Q E h => h.1) (fun cdv A outer s H vs Q E hgd hr h => ⟨_, (pss_cons (ps_asg (pv 1) (pgTup (K := K) (n := 3) rfl (pgs_cons (pg_name (i := 2) sc_many_less.nd rfl (Or.inr rfl)) (pgs_cons (pg_name (i := 3) sc_many_less.nd rfl (Or.inr rfl)) (pgs_cons (pg_name (i := 4) sc_many_less.nd rfl (Or.inr rfl)) pgs_nil)))))
  (pss_one (ps_ret (pe_callB (kLen (K := K)) (by rfl) T.m_len bt_len (pa_cons (pe_lc (own := [("x", 5), ("y", 6)]) rfl sc_many_less.nd  (piSeq (K := K) (pv 0)) (blkOk_by (by kernel_rfl)) (fun _ _ _ _ _ => (pgTup (K := K) (n := 2) rfl (pgs_cons (pg_name (i := 5) sc_many_less.nd rfl (Or.inl rfl)) (pgs_cons (pg_name (i := 6) sc_many_less.nd rfl (Or.inl rfl)) pgs_nil)))) (fun _ _ _ _ _ => (pts_one (pt_cmpR op_lt (pe_op (kAdd (K := K)) (pe_op (kMul (K := K)) (pv 2) (pv 5)) (pe_op (kMul (K := K)) (pv 3) (pv 6))) (pv 4) (nomark _)))) (fun _ _ _ _ _ => pe_int)) pa_nil))))), ?_⟩)
  exact body_p (n := 2) (m := 5) (Γr := [.fro, .fro, .fro, .fro, .fro]) (Γl := []) (Γ' := []) (N := ["lot", "line", "a", "b", "c", "x", "y"]) (sem_seq (sem_tgt (sem_var (i := 1) rfl) (sem_gtup (sem_gscons (sem_gname (i := 2) rfl) (sem_gscons (sem_gname (i := 3) rfl) (sem_gscons (sem_gname (i := 4) rfl) sem_gsnil)))))
  (sem_ret (sem_cb ca_len (sem_vcons ((sem_lc (semIc_seq ((sem_var (i := 0) rfl)).v) (sem_gtup (sem_gscons (sem_gname (i := 5) rfl) (sem_gscons (sem_gname (i := 6) rfl) sem_gsnil))) (sem_test ((sem_op oe_lt ((sem_op oe_add ((sem_op oe_mulX ((sem_var (i := 2) rfl)).v ((sem_var (i := 5) rfl)).v)).v ((sem_op oe_mulX ((sem_var (i := 3) rfl)).v ((sem_var (i := 6) rfl)).v)).v)).v ((sem_var (i := 4) rfl)).v)).v) sem_int (allFro rfl) (by decide))).e.v sem_vnil)))) rfl rfl h
theorem b_depth_paper_T (T : Tx K mg) : Binds K T.fd_depth_paper ["lot", "p", "k"] [] := T.F_depth_paper.binds fun _ _ _ _ _ _ us hl => match us, hl with | [_, _, _], _ => rfl
set_option maxHeartbeats 4000000 in
theorem ok_depth_paper (T : Tx K mg) : FnG Pr w K mg base 8 T.a_depth_paper T.fd_depth_paper ["lot", "p", "k"] (spP 3 F_depth_paper) := by
  refine fn_g (k := 7) T.F_depth_paper sc_depth_paper (fun vs H Q E h => h.1) (fun cdv A outer s H vs Q E hgd hr h => ⟨_, (pss_one (ps_ret (pe_ifExp (pt_cmpR op_ge (pe_callG ((ok_depth_of T).mono (by decide)) hgd hr (by rfl) T.g_depth_of T.F_depth_of.kp (b_depth_of_T T) (pa_cons (pv 0) (pa_cons (pv 1) pa_nil))) (pv 2) (nomark _)) (pe_tup (pa_cons pe_str pa_nil)) (pe_tup (pa_cons pe_str (paStar (K := K) (pe_callG ((ok_least_side T).mono (by decide)) hgd hr (by rfl) T.g_least_side T.F_least_side.kp (b_least_side_T T) (pa_cons (pv 0) (pa_cons (pv 1) pa_nil))) pa_nil)))))), ?_⟩)
  exact body_p (n := 3) (m := 0) (Γr := []) (Γl := []) (Γ' := []) (N := ["lot", "p", "k"]) (sem_ret (sem_eIf (sem_test ((sem_op oe_ge ((sem_call (sem_acons (sem_var (i := 0) rfl) (sem_acons (sem_var (i := 1) rfl) sem_anil)))).v ((sem_var (i := 2) rfl)).v)).v) (sem_tup (sem_acons sem_str sem_anil)) (sem_tup (sem_acons sem_str (sem_astar ((sem_call (sem_acons (sem_var (i := 0) rfl) (sem_acons (sem_var (i := 1) rfl) sem_anil)))).v sem_anil))))) rfl rfl h
theorem b_are_whole_numbers_T (T : Tx K mg) : Binds K T.fd_are_whole_numbers ["values"] [] := T.F_are_whole_numbers.binds fun _ _ _ _ _ _ us hl => match us, hl with | [_], _ => rfl
set_option maxHeartbeats 4000000 in
theorem ok_are_whole_numbers (T : Tx K mg) : FnG Pr w K mg base 1 T.a_are_whole_numbers T.fd_are_whole_numbers ["values"] (spP 1 F_are_whole_numbers) := by
  refine fn_g (k := 0) T.F_are_whole_numbers sc_are_whole_numbers (fun vs H Q E h => h.1) (fun cdv A outer s H vs Q E hgd hr h => ⟨_, (pss_one (ps_ret (pe_callB (kAll (K := K) rfl) (by rfl) T.m_all bt_all (pa_cons (pe_lc (own := [("value", 1)]) rfl sc_are_whole_numbers.nd  (piSeq (K := K) (pv 0)) (blkOk_by (by kernel_rfl)) (fun _ _ _ _ _ => (pg_name (i := 1) sc_are_whole_numbers.nd rfl (Or.inl rfl))) (fun _ _ _ _ _ => pts_nil) (fun _ _ _ _ _ => (pe_and (pe_callB (kIsi (K := K)) (by rfl) T.m_isinstance bt_isinstance (pa_cons (pv 1) (pa_cons (pe_bltn (v := .ty "int") (by rfl) T.m_int bt_int rfl) pa_nil))) (pe_one (pe_not (pe_callB (kIsi (K := K)) (by rfl) T.m_isinstance bt_isinstance (pa_cons (pv 1) (pa_cons (pe_bltn (v := .ty "bool") (by rfl) T.m_bool bt_bool rfl) pa_nil)))))))) pa_nil)))), ?_⟩)
  exact body_p (n := 1) (m := 1) (Γr := [.fro]) (Γl := []) (Γ' := []) (N := ["values", "value"]) (sem_ret (sem_cb ca_all (sem_vcons ((sem_lc (semIc_seq ((sem_var (i := 0) rfl)).v) (sem_gname (i := 1) rfl) sem_yes (sem_eAnd ((sem_isi ((sem_var (i := 1) rfl)).v)).v (sem_eNot ((sem_isi ((sem_var (i := 1) rfl)).v)).v)) (allFro rfl) (by decide))).e.v sem_vnil))) rfl rfl h
theorem b_judge_depth_T (T : Tx K mg) : Binds K T.fd_judge_depth ["lot", "p", "k", "value"] [] := T.F_judge_depth.binds fun _ _ _ _ _ _ us hl => match us, hl with | [_, _, _, _], _ => rfl
set_option maxHeartbeats 4000000 in
theorem ok_judge_depth (T : Tx K mg) : FnG Pr w K mg base 8 T.a_judge_depth T.fd_judge_depth ["lot", "p", "k", "value"] (spP 4 F_judge_depth) := by
  refine fn_g (k := 7) T.F_judge_depth sc_judge_depth (fun vs H Q E h => h.1) (fun cdv A outer s H vs Q E hgd hr h => ⟨_, (pss_cons (ps_if ((pw_or (pt_not (pt_val (pe_callB (kIsi (K := K)) (by rfl) T.m_isinstance bt_isinstance (pa_cons (pv 3) (pa_cons (pe_bltn (v := .ty "tuple") (by rfl) T.m_tuple bt_tuple rfl) pa_nil))))) (pw_or (pt_cmpR (kEqX (K := K) hr) (pv 3) (pe_tup pa_nil) (nomark _)) (pw_or1 (pt_not (pt_val (pe_callB (kIsi (K := K)) (by rfl) T.m_isinstance bt_isinstance (pa_cons (pe_ix (kIx (K := K)) (pv 3) pe_int (fun _ _ => rfl)) (pa_cons (pe_bltn (v := .ty "str") (by rfl) T.m_str bt_str rfl) pa_nil))))))))).pt (pss_one (ps_ret (pe_tup (pa_cons pe_str pa_nil)))) pss_nil)
  (pss_cons (ps_if (pt_cmpR (kEqX (K := K) hr) (pv 3) (pe_tup (pa_cons pe_str pa_nil)) (nomark _)) (pss_cons (ps_set (i := 4) sc_judge_depth.nd rfl (Or.inl rfl) (pe_callG ((ok_depth_of T).mono (by decide)) hgd hr (by rfl) T.g_depth_of T.F_depth_of.kp (b_depth_of_T T) (pa_cons (pv 0) (pa_cons (pv 1) pa_nil))))
  (pss_one (ps_ret (pe_ifExp (pt_cmpR op_lt (pv 4) (pv 2) (nomark _)) (pe_tup (pa_cons pe_str (pa_cons (pv 4) pa_nil))) pe_non)))) pss_nil)
  (pss_cons (ps_if ((pw_or (pt_cmpR (kNeX (K := K) hr) (pe_ix (kIx (K := K)) (pv 3) pe_int (fun _ _ => rfl)) pe_str (nomark _)) (pw_or (pt_cmpR (kNeX (K := K) hr) (pe_callB (kLen (K := K)) (by rfl) T.m_len bt_len (pa_cons (pv 3) pa_nil)) pe_int (nomark _)) (pw_or (pt_not (pt_val (pe_callG ((ok_are_whole_numbers T).mono (by decide)) hgd hr (by rfl) T.g_are_whole_numbers T.F_are_whole_numbers.kp (b_are_whole_numbers_T T) (pa_cons (pe_slice (kSl (K := K)) (pv 3) (po_some pe_int) po_none) pa_nil)))) (pw_or1 (pt_cmpR (kEqX (K := K) hr) (pe_slice (kSl (K := K)) (pv 3) (po_some pe_int) po_none) (pe_tup (pa_cons pe_int (pa_cons pe_int pa_nil))) (nomark _))))))).pt (pss_one (ps_ret (pe_tup (pa_cons pe_str pa_nil)))) pss_nil)
  (pss_cons (ps_set (i := 5) sc_judge_depth.nd rfl (Or.inl rfl) (pe_callG ((ok_side_count T).mono (by decide)) hgd hr (by rfl) T.g_side_count T.F_side_count.kp (b_side_count_T T) (pa_cons (pv 0) (pa_cons (pv 1) (pa_cons (pe_ix (kIx (K := K)) (pv 3) pe_int (fun _ _ => rfl)) (pa_cons (pe_ix (kIx (K := K)) (pv 3) pe_int (fun _ _ => rfl)) pa_nil))))))
  (pss_one (ps_ret (pe_ifExp (pt_cmpR op_ge (pv 5) (pv 2) (nomark _)) (pe_tup (pa_cons pe_str (pa_cons (pv 5) pa_nil))) pe_non))))))), ?_⟩)
  exact body_p (n := 4) (m := 2) (Γr := [.fro, .fro]) (Γl := []) (Γ' := []) (N := ["lot", "p", "k", "value", "depth", "many"]) (sem_seq (sem_if (sem_or (sem_not (sem_tB ((sem_isi ((sem_var (i := 3) rfl)).v)).v)) (sem_or (sem_test ((sem_op oe_eqX ((sem_var (i := 3) rfl)).v ((sem_tup sem_anil)).v)).v) (sem_not (sem_tB ((sem_isi ((sem_op oe_ix ((sem_var (i := 3) rfl)).v (sem_int).v)).v)).v)))) (sem_ret (sem_tup (sem_acons sem_str sem_anil))) sem_nx)
  (sem_seq (sem_if (sem_test ((sem_op oe_eqX ((sem_var (i := 3) rfl)).v ((sem_tup (sem_acons sem_str sem_anil))).v)).v) (sem_seq (sem_asg (sem_call (sem_acons (sem_var (i := 0) rfl) (sem_acons (sem_var (i := 1) rfl) sem_anil))) (by decide))
  (sem_ret (sem_eIf (sem_test ((sem_op oe_lt ((sem_var (i := 4) rfl)).v ((sem_var (i := 2) rfl)).v)).v) (sem_tup (sem_acons sem_str (sem_acons (sem_var (i := 4) rfl) sem_anil))) sem_non))) sem_nx)
  (sem_seq (sem_if (sem_or (sem_test ((sem_op oe_neX ((sem_op oe_ix ((sem_var (i := 3) rfl)).v (sem_int).v)).v (sem_str).v)).v) (sem_or (sem_test ((sem_op oe_neX ((sem_cb ca_len (sem_vcons ((sem_var (i := 3) rfl)).v sem_vnil))).v (sem_int).v)).v) (sem_or (sem_not (sem_tB ((sem_call (sem_acons (sem_sl ((sem_var (i := 3) rfl)).v (sem_oPart (sem_int).v) sem_oNo) sem_anil))).v)) (sem_test ((sem_op oe_eqX ((sem_sl ((sem_var (i := 3) rfl)).v (sem_oPart (sem_int).v) sem_oNo)).v ((sem_tup (sem_acons sem_int (sem_acons sem_int sem_anil)))).v)).v)))) (sem_ret (sem_tup (sem_acons sem_str sem_anil))) sem_nx)
  (sem_seq (sem_asg (sem_call (sem_acons (sem_var (i := 0) rfl) (sem_acons (sem_var (i := 1) rfl) (sem_acons (sem_op oe_ix ((sem_var (i := 3) rfl)).v (sem_int).v) (sem_acons (sem_op oe_ix ((sem_var (i := 3) rfl)).v (sem_int).v) sem_anil))))) (by decide))
  (sem_ret (sem_eIf (sem_test ((sem_op oe_ge ((sem_var (i := 5) rfl)).v ((sem_var (i := 2) rfl)).v)).v) (sem_tup (sem_acons sem_str (sem_acons (sem_var (i := 5) rfl) sem_anil))) sem_non)))))) rfl rfl h
theorem b_judge_halving_T (T : Tx K mg) : Binds K T.fd_judge_halving ["one", "other", "value"] [] := T.F_judge_halving.binds fun _ _ _ _ _ _ us hl => match us, hl with | [_, _, _], _ => rfl
set_option maxHeartbeats 4000000 in
theorem ok_judge_halving (T : Tx K mg) : FnG Pr w K mg base 2 T.a_judge_halving T.fd_judge_halving ["one", "other", "value"] (spP 3 F_judge_halving) := by
  refine fn_g (k := 1) T.F_judge_halving sc_judge_halving (fun vs H Q E h => h.1) (fun cdv A outer s H vs Q E hgd hr h => ⟨_, (pss_cons (ps_if ((pw_or (pt_not (pt_val (pe_callB (kIsi (K := K)) (by rfl) T.m_isinstance bt_isinstance (pa_cons (pv 2) (pa_cons (pe_bltn (v := .ty "tuple") (by rfl) T.m_tuple bt_tuple rfl) pa_nil))))) (pw_or (pt_cmpR (kNe (K := K) hr) (pe_callB (kLen (K := K)) (by rfl) T.m_len bt_len (pa_cons (pv 2) pa_nil)) pe_int (nomark _)) (pw_or (pt_not (pt_val (pe_callG ((ok_are_whole_numbers T).mono (by decide)) hgd hr (by rfl) T.g_are_whole_numbers T.F_are_whole_numbers.kp (b_are_whole_numbers_T T) (pa_cons (pv 2) pa_nil)))) (pw_or1 (pt_cmpR (kEq (K := K) hr) (pe_slice (kSl (K := K)) (pv 2) po_none (po_some pe_int)) (pe_tup (pa_cons pe_int (pa_cons pe_int pa_nil))) (nomark _))))))).pt (pss_one (ps_ret (pe_tup (pa_cons pe_str pa_nil)))) pss_nil)
  (pss_cons (ps_for PassesOwn.never rfl (piEnum (K := K) (by rfl) T.m_enumerate (pa_cons (pe_tup (pa_cons (pv 0) (pa_cons (pv 1) pa_nil))) pa_nil)) (pgTup (K := K) (n := 2) rfl (pgs_cons (pg_name (i := 3) sc_judge_halving.nd rfl (Or.inl rfl)) (pgs_cons (pg_name (i := 4) sc_judge_halving.nd rfl (Or.inl rfl)) pgs_nil)))
  (pss_cons (ps_if (pt_cmpR op_gt (pe_op (kMul (K := K)) pe_int (pe_callG ((ok_many_more T).mono (by decide)) hgd hr (by rfl) T.g_many_more T.F_many_more.kp (b_many_more_T T) (pa_cons (pv 4) (pa_cons (pv 2) pa_nil)))) (pe_callB (kLen (K := K)) (by rfl) T.m_len bt_len (pa_cons (pv 4) pa_nil)) (nomark _)) (pss_one (ps_ret (pe_tup (pa_cons pe_str (pa_cons (pv 3) pa_nil))))) pss_nil)
  (pss_one (ps_if (pt_cmpR op_gt (pe_op (kMul (K := K)) pe_int (pe_callG ((ok_many_less T).mono (by decide)) hgd hr (by rfl) T.g_many_less T.F_many_less.kp (b_many_less_T T) (pa_cons (pv 4) (pa_cons (pv 2) pa_nil)))) (pe_callB (kLen (K := K)) (by rfl) T.m_len bt_len (pa_cons (pv 4) pa_nil)) (nomark _)) (pss_one (ps_ret (pe_tup (pa_cons pe_str (pa_cons (pv 3) pa_nil))))) pss_nil))))
  (pss_one (ps_ret pe_non)))), ?_⟩)
  exact body_p (n := 3) (m := 2) (Γr := [.fro, .fro]) (Γl := []) (Γ' := []) (N := ["one", "other", "value", "i", "lot"]) (sem_seq (sem_if (sem_or (sem_not (sem_tB ((sem_isi ((sem_var (i := 2) rfl)).v)).v)) (sem_or (sem_test ((sem_op oe_ne ((sem_cb ca_len (sem_vcons ((sem_var (i := 2) rfl)).v sem_vnil))).v (sem_int).v)).v) (sem_or (sem_not (sem_tB ((sem_call (sem_acons (sem_var (i := 2) rfl) sem_anil))).v)) (sem_test ((sem_op oe_eq ((sem_sl ((sem_var (i := 2) rfl)).v sem_oNo (sem_oPart (sem_int).v))).v ((sem_tup (sem_acons sem_int (sem_acons sem_int sem_anil)))).v)).v)))) (sem_ret (sem_tup (sem_acons sem_str sem_anil))) sem_nx)
  (sem_seq (sem_for (semI_enum (sem_acons (sem_tup (sem_acons (sem_var (i := 0) rfl) (sem_acons (sem_var (i := 1) rfl) sem_anil))) sem_anil)) (sem_gtup (sem_gscons (sem_gname (i := 3) rfl) (sem_gscons (sem_gname (i := 4) rfl) sem_gsnil)))
  (sem_seq (sem_if (sem_test ((sem_op oe_gt ((sem_op oe_mulX (sem_int).v ((sem_call (sem_acons (sem_var (i := 4) rfl) (sem_acons (sem_var (i := 2) rfl) sem_anil)))).v)).v ((sem_cb ca_len (sem_vcons ((sem_var (i := 4) rfl)).v sem_vnil))).v)).v) (sem_ret (sem_tup (sem_acons sem_str (sem_acons (sem_var (i := 3) rfl) sem_anil)))) sem_nx)
  (sem_if (sem_test ((sem_op oe_gt ((sem_op oe_mulX (sem_int).v ((sem_call (sem_acons (sem_var (i := 4) rfl) (sem_acons (sem_var (i := 2) rfl) sem_anil)))).v)).v ((sem_cb ca_len (sem_vcons ((sem_var (i := 4) rfl)).v sem_vnil))).v)).v) (sem_ret (sem_tup (sem_acons sem_str (sem_acons (sem_var (i := 3) rfl) sem_anil)))) sem_nx)))
  (sem_ret sem_non))) rfl rfl h
theorem b__law_open_cells_T (T : Tx K mg) : Binds K T.fd__law_open_cells ["script"] [] := T.F__law_open_cells.binds fun _ _ _ _ _ _ us hl => match us, hl with | [_], _ => rfl
theorem ok__law_open_cells (T : Tx K mg) : FnG Pr w K mg base 1 T.a__law_open_cells T.fd__law_open_cells ["script"] (spOpen K) := by
  refine fn_g (k := 0) T.F__law_open_cells sc__law_open_cells (fun vs H Q E ⟨a, ns, e, _⟩ => by rw [e]; rfl) (fun cdv A outer s H vs Q E hgd hr h => ⟨tOpen K, (pss_cons (ps_set (i := 1) sc__law_open_cells.nd rfl (Or.inl rfl) pe_int)
  (pss_cons (ps_for PassesOwn.never rfl (pi_list (pv 0)) (pg_name (i := 2) sc__law_open_cells.nd rfl (Or.inl rfl)) (pss_one (ps_set (i := 1) sc__law_open_cells.nd rfl (Or.inl rfl) (pe_op op_mod (pe_callTy call_int1 (by rfl) T.m_int bt_int (pa_cons (pe_op op_add (pe_op op_add (pe_op op_mul (pv 1) pe_int) (pe_op op_mul (pv 2) pe_int)) pe_int) pa_nil)) pe_int))))
  (pss_cons (ps_setLc (i := 3) (own := [("cell", 2)]) rfl sc__law_open_cells.nd rfl rfl (sw_true rfl rfl rfl (by decide +kernel)) (pi_list (pv 0)) (blkOk_by (by kernel_rfl)) (fun _ _ _ _ _ => (pg_name (i := 2) sc__law_open_cells.nd rfl (Or.inl rfl))) (fun _ _ _ _ _ => pts_nil) (fun _ _ _ _ _ => (pe_callB call_abs (by rfl) T.m_abs bt_abs (pa_cons (pv 2) pa_nil))))
  (pss_one (ps_ret (pe_disp (pps_cons pe_str (pe_revL (pv 3)) (pps_cons pe_str pe_int (pps_cons pe_str (pv 1) (pps_cons pe_str pe_int pps_nil)))) rfl rfl (by simp) (by decide))))))), ?_⟩)
  exact open_body rfl h
theorem b__law_pick_T (T : Tx K mg) : Binds K T.fd__law_pick ["source", "most"] [] := T.F__law_pick.binds fun _ _ _ _ _ _ us hl => match us, hl with | [_, _], _ => rfl
theorem ok__law_pick (T : Tx K mg) : FnG Pr w K mg base 1 T.a__law_pick T.fd__law_pick ["source", "most"] (spX 1 F__law_pick) := by
  refine fn_g (k := 0) T.F__law_pick sc__law_pick (fun vs H Q E h => spX_len h) (fun cdv A outer s H vs Q E hgd hr h => ⟨tPick K, (pss_cons (ps_if (pt_cmpR op_lt (pv 1) pe_int (nomark _)) (pss_one (ps_ret pe_int)) pss_nil)
  (pss_cons (ps_set (i := 2) sc__law_pick.nd rfl (Or.inl rfl) (pe_dget (hu_of hr) (pv 0) pe_str (fun _ _ => rfl)))
  (pss_cons (ps_while PassesOwn.never (pw_and (pt_cmpR op_lt (pe_dget (hu_of hr) (pv 0) pe_str (fun _ _ => rfl)) pe_int (nomark _)) (pw_and1 (pt_cmpR op_gt (pe_callB (kLen (K := K)) (by rfl) T.m_len bt_len (pa_cons (pv 2) pa_nil)) pe_int (nomark _)))).pt (pss_one (ps_dput (hu_of hr) (pv 0) pe_str (pe_bm0 PySem.F.plainAttrs_list PySem.F.slot_list_pop PySem.F.type_list_pop mt_pop (pv 2)) rfl)))
  (pss_cons (ps_set (i := 3) sc__law_pick.nd rfl (Or.inl rfl) (pe_dget (hu_of hr) (pv 0) pe_str (fun _ _ => rfl)))
  (pss_cons (ps_if (pt_cmpR op_gt (pv 3) pe_int (nomark _)) (pss_cons (ps_dput (hu_of hr) (pv 0) pe_str (pe_op op_fdiv (pv 3) (pv 1)) rfl) (pss_one (ps_ret (pe_op op_mod (pe_callTy call_int1 (by rfl) T.m_int bt_int (pa_cons (pv 3) pa_nil)) (pv 1))))) pss_nil)
  (pss_cons (ps_dput (hu_of hr) (pv 0) pe_str (pe_op op_add (pe_dget (hu_of hr) (pv 0) pe_str (fun _ _ => rfl)) pe_int) rfl)
  (pss_cons (ps_set (i := 4) sc__law_pick.nd rfl (Or.inl rfl) (pe_dget (hu_of hr) (pv 0) pe_str (fun _ _ => rfl)))
  (pss_cons (ps_set (i := 5) sc__law_pick.nd rfl (Or.inl rfl) (pe_op op_mod (pe_callTy call_int1 (by rfl) T.m_int bt_int (pa_cons (pe_op op_add (pe_dget (hu_of hr) (pv 0) pe_str (fun _ _ => rfl)) (pe_op op_mul (pv 4) pe_int)) pa_nil)) pe_int))
  (pss_cons (ps_set (i := 5) sc__law_pick.nd rfl (Or.inl rfl) (pe_op op_mod (pe_callTy call_int1 (by rfl) T.m_int bt_int (pa_cons (pe_op op_add (pe_op op_mul (pv 5) (pv 5)) (pe_op op_mul (pv 4) pe_int)) pa_nil)) pe_int))
  (pss_one (ps_ret (pe_op op_mod (pe_callTy call_int1 (by rfl) T.m_int bt_int (pa_cons (pe_op op_fdiv (pv 5) pe_int) pa_nil)) (pv 1))))))))))))), ?_⟩)
  exact pick_x rfl h
theorem b__law_of_T (T : Tx K mg) : Binds K T.fd__law_of ["source", "some"] [] := T.F__law_of.binds fun _ _ _ _ _ _ us hl => match us, hl with | [_, _], _ => rfl
set_option maxHeartbeats 4000000 in
theorem ok__law_of (T : Tx K mg) : FnG Pr w K mg base 2 T.a__law_of T.fd__law_of ["source", "some"] (spX 1 F__law_of) := by
  refine fn_g (k := 1) T.F__law_of sc__law_of (fun vs H Q E h => spX_len h) (fun cdv A outer s H vs Q E hgd hr h => ⟨_, (pss_one (ps_ret (pe_ix (kIx (K := K)) (pv 1) (pe_callG ((ok__law_pick T).mono (by decide)) hgd hr (by rfl) T.g__law_pick T.F__law_pick.kp (b__law_pick_T T) (pa_cons (pv 0) (pa_cons (pe_callB (kLen (K := K)) (by rfl) T.m_len bt_len (pa_cons (pv 1) pa_nil)) pa_nil))) (fun _ _ => rfl)))), ?_⟩)
  exact body_x (n := 1) (m := 0) (Γr := []) (Γl := []) (Γ' := []) (N := ["source", "some"]) (fun src cl => (sem_ret (sem_op oe_ix ((sem_var (i := 1) rfl)).v ((sem_callX (i := 0) rfl (sem_acons (sem_cb ca_len (sem_vcons ((sem_var (i := 1) rfl)).v sem_vnil)) sem_anil))).v))) rfl rfl h
theorem b__law_is_int_T (T : Tx K mg) : Binds K T.fd__law_is_int ["value"] [] := T.F__law_is_int.binds fun _ _ _ _ _ _ us hl => match us, hl with | [_], _ => rfl
set_option maxHeartbeats 4000000 in
theorem ok__law_is_int (T : Tx K mg) : FnG Pr w K mg base 1 T.a__law_is_int T.fd__law_is_int ["value"] (spP 1 F__law_is_int) := by
  refine fn_g (k := 0) T.F__law_is_int sc__law_is_int (fun vs H Q E h => h.1) (fun cdv A outer s H vs Q E hgd hr h => ⟨_, (pss_one (ps_ret (pe_and (pe_callB (kIsi (K := K)) (by rfl) T.m_isinstance bt_isinstance (pa_cons (pv 0) (pa_cons (pe_bltn (v := .ty "int") (by rfl) T.m_int bt_int rfl) pa_nil))) (pe_one (pe_not (pe_callB (kIsi (K := K)) (by rfl) T.m_isinstance bt_isinstance (pa_cons (pv 0) (pa_cons (pe_bltn (v := .ty "bool") (by rfl) T.m_bool bt_bool rfl) pa_nil)))))))), ?_⟩)
  exact body_p (n := 1) (m := 0) (Γr := []) (Γl := []) (Γ' := []) (N := ["value"]) (sem_ret (sem_eAnd ((sem_isi ((sem_var (i := 0) rfl)).v)).v (sem_eNot ((sem_isi ((sem_var (i := 0) rfl)).v)).v))) rfl rfl h
theorem b__law_bent_T (T : Tx K mg) : Binds K T.fd__law_bent ["source", "value", "odd"] [] := T.F__law_bent.binds fun _ _ _ _ _ _ us hl => match us, hl with | [_, _, _], _ => rfl
set_option maxHeartbeats 4000000 in
theorem okr__law_bent (T : Tx K mg) : ∀ j : Nat, FnG Pr w K mg base (3 + j) T.a__law_bent T.fd__law_bent ["source", "value", "odd"] (spX 2 (R__law_bent j))
  | 0 => by
    refine fn_g (k := 2) T.F__law_bent sc__law_bent (fun vs H Q E h => spX_len h) (fun cdv A outer s H vs Q E hgd hr h => ?_)
    obtain ⟨_, _, _, _, _, ds, U, Pp, C⟩ := h
    exact False.elim C.run
  | j + 1 => by
    have hG__law_bent := okr__law_bent T j
    refine fn_g (k := 3 + j) T.F__law_bent sc__law_bent (fun vs H Q E h => spX_len h) (fun cdv A outer s H vs Q E hgd hr h => ⟨_, (pss_cons (ps_if ((pw_and (pt_val (pe_callG ((ok__law_is_int T).mono (by omega)) hgd hr (by rfl) T.g__law_is_int T.F__law_is_int.kp (b__law_is_int_T T) (pa_cons (pv 1) pa_nil))) (pw_and1 (pt_cmpR op_gt (pe_callG ((ok__law_pick T).mono (by omega)) hgd hr (by rfl) T.g__law_pick T.F__law_pick.kp (b__law_pick_T T) (pa_cons (pv 0) (pa_cons pe_int pa_nil))) pe_int (nomark _))))).pt (pss_one (ps_ret (pe_op (kAdd (K := K)) (pv 1) (pe_callG ((ok__law_of T).mono (by omega)) hgd hr (by rfl) T.g__law_of T.F__law_of.kp (b__law_of_T T) (pa_cons (pv 0) (pa_cons (pe_lst (pa_cons pe_int (pa_cons (pe_un un_neg pe_int) (pa_cons pe_int pa_nil)))) pa_nil)))))) pss_nil)
  (pss_cons (ps_if ((pw_or (pt_not (pt_val (pe_callB (kIsi (K := K)) (by rfl) T.m_isinstance bt_isinstance (pa_cons (pv 1) (pa_cons (pe_bltn (v := .ty "tuple") (by rfl) T.m_tuple bt_tuple rfl) pa_nil))))) (pw_or (pt_cmpR (kEq (K := K) hr) (pv 1) (pe_tup pa_nil) (nomark _)) (pw_or1 (pt_cmpR (kEq (K := K) hr) (pe_callG ((ok__law_pick T).mono (by omega)) hgd hr (by rfl) T.g__law_pick T.F__law_pick.kp (b__law_pick_T T) (pa_cons (pv 0) (pa_cons pe_int pa_nil))) pe_int (nomark _)))))).pt (pss_one (ps_ret (pe_callG ((ok__law_of T).mono (by omega)) hgd hr (by rfl) T.g__law_of T.F__law_of.kp (b__law_of_T T) (pa_cons (pv 0) (pa_cons (pv 2) pa_nil))))) pss_nil)
  (pss_cons (ps_par (i := 3) (j := 4) rfl sc__law_bent.nd rfl rfl (by decide) rfl rfl (pa_cons (pe_callG ((ok__law_pick T).mono (by omega)) hgd hr (by rfl) T.g__law_pick T.F__law_pick.kp (b__law_pick_T T) (pa_cons (pv 0) (pa_cons (pe_callB (kLen (K := K)) (by rfl) T.m_len bt_len (pa_cons (pv 1) pa_nil)) pa_nil))) (pa_cons (pe_callG ((ok__law_pick T).mono (by omega)) hgd hr (by rfl) T.g__law_pick T.F__law_pick.kp (b__law_pick_T T) (pa_cons (pv 0) (pa_cons pe_int pa_nil))) pa_nil)) (by rfl))
  (pss_cons (ps_if (pt_cmpR op_lt (pv 4) pe_int (nomark _)) (pss_one (ps_ret (pe_op (kAdd (K := K)) (pe_op (kAdd (K := K)) (pe_slice (kSl (K := K)) (pv 1) po_none (po_some (pv 3))) (pe_tup (pa_cons (pe_callG hG__law_bent hgd hr (by rfl) T.g__law_bent T.F__law_bent.kp (b__law_bent_T T) (pa_cons (pv 0) (pa_cons (pe_ix (kIx (K := K)) (pv 1) (pv 3) (fun _ _ => rfl)) (pa_cons (pv 2) pa_nil)))) pa_nil))) (pe_slice (kSl (K := K)) (pv 1) (po_some (pe_op (kAdd (K := K)) (pv 3) pe_int)) po_none)))) pss_nil)
  (pss_one (ps_ret (pe_ix (kIx (K := K)) (pe_lst (pa_cons (pe_op (kAdd (K := K)) (pe_slice (kSl (K := K)) (pv 1) po_none (po_some (pv 3))) (pe_slice (kSl (K := K)) (pv 1) (po_some (pe_op (kAdd (K := K)) (pv 3) pe_int)) po_none)) (pa_cons (pe_op (kAdd (K := K)) (pe_slice (kSl (K := K)) (pv 1) po_none (po_some (pe_op (kAdd (K := K)) (pv 3) pe_int))) (pe_slice (kSl (K := K)) (pv 1) (po_some (pv 3)) po_none)) (pa_cons (pe_op (kAdd (K := K)) (pe_slice (kSl (K := K)) (pv 1) (po_some (pv 3)) po_none) (pe_slice (kSl (K := K)) (pv 1) po_none (po_some (pv 3)))) pa_nil)))) (pe_op op_sub (pv 4) pe_int) (fun _ _ => rfl)))))))), ?_⟩)
    exact body_x (n := 2) (m := 2) (Γr := [.fro, .fro]) (Γl := []) (Γ' := []) (N := ["source", "value", "odd", "k", "way"]) (fun src cl => (sem_seq (sem_if (sem_and (sem_tB ((sem_call (sem_acons (sem_var (i := 1) rfl) sem_anil))).v) (sem_test ((sem_op oe_gt ((sem_callX (i := 0) rfl (sem_acons sem_int sem_anil))).v (sem_int).v)).v)) (sem_ret (sem_op oe_add ((sem_var (i := 1) rfl)).v ((sem_callX (i := 0) rfl (sem_acons ((sem_lst (sem_acons sem_int (sem_acons (sem_un oe_neg (sem_int).v) (sem_acons sem_int sem_anil))))).e sem_anil))).v)) sem_nx)
  (sem_seq (sem_if (sem_or (sem_not (sem_tB ((sem_isi ((sem_var (i := 1) rfl)).v)).v)) (sem_or (sem_test ((sem_op oe_eq ((sem_var (i := 1) rfl)).v ((sem_tup sem_anil)).v)).v) (sem_test ((sem_op oe_eq ((sem_callX (i := 0) rfl (sem_acons sem_int sem_anil))).v (sem_int).v)).v))) (sem_ret (sem_callX (i := 0) rfl (sem_acons (sem_var (i := 2) rfl) sem_anil))) sem_nx)
  (sem_seq (sem_par (sem_acons (sem_callX (i := 0) rfl (sem_acons (sem_cb ca_len (sem_vcons ((sem_var (i := 1) rfl)).v sem_vnil)) sem_anil)) (sem_acons (sem_callX (i := 0) rfl (sem_acons sem_int sem_anil)) sem_anil)) rfl rfl)
  (sem_seq (sem_if (sem_test ((sem_op oe_lt ((sem_var (i := 4) rfl)).v (sem_int).v)).v) (sem_ret (sem_op oe_add ((sem_op oe_add ((sem_sl ((sem_var (i := 1) rfl)).v sem_oNo (sem_oPart ((sem_var (i := 3) rfl)).v))).v ((sem_tup (sem_acons (sem_callX (i := 0) rfl (sem_acons (sem_op oe_ix ((sem_var (i := 1) rfl)).v ((sem_var (i := 3) rfl)).v) (sem_acons (sem_var (i := 2) rfl) sem_anil))) sem_anil))).v)).v ((sem_sl ((sem_var (i := 1) rfl)).v (sem_oPart ((sem_op oe_add ((sem_var (i := 3) rfl)).v (sem_int).v)).v) sem_oNo)).v)) sem_nx)
  (sem_ret (sem_op oe_ix ((sem_lst (sem_acons (sem_op oe_add ((sem_sl ((sem_var (i := 1) rfl)).v sem_oNo (sem_oPart ((sem_var (i := 3) rfl)).v))).v ((sem_sl ((sem_var (i := 1) rfl)).v (sem_oPart ((sem_op oe_add ((sem_var (i := 3) rfl)).v (sem_int).v)).v) sem_oNo)).v) (sem_acons (sem_op oe_add ((sem_sl ((sem_var (i := 1) rfl)).v sem_oNo (sem_oPart ((sem_op oe_add ((sem_var (i := 3) rfl)).v (sem_int).v)).v))).v ((sem_sl ((sem_var (i := 1) rfl)).v (sem_oPart ((sem_var (i := 3) rfl)).v) sem_oNo)).v) (sem_acons (sem_op oe_add ((sem_sl ((sem_var (i := 1) rfl)).v (sem_oPart ((sem_var (i := 3) rfl)).v) sem_oNo)).v ((sem_sl ((sem_var (i := 1) rfl)).v sem_oNo (sem_oPart ((sem_var (i := 3) rfl)).v))).v) sem_anil))))).e.v ((sem_op oe_sub ((sem_var (i := 4) rfl)).v (sem_int).v)).v))))))) rfl rfl h
theorem ok__law_bent (T : Tx K mg) : FnG Pr w K mg base (3 + 4) T.a__law_bent T.fd__law_bent ["source", "value", "odd"] (spX 2 F__law_bent) := okr__law_bent T 4
theorem b__law_low_T (T : Tx K mg) : Binds K T.fd__law_low ["p", "q"] [] := T.F__law_low.binds fun _ _ _ _ _ _ us hl => match us, hl with | [_, _], _ => rfl
set_option maxHeartbeats 4000000 in
theorem ok__law_low (T : Tx K mg) : FnG Pr w K mg base 1 T.a__law_low T.fd__law_low ["p", "q"] (spP 2 F__law_low) := by
  refine fn_g (k := 0) T.F__law_low sc__law_low (fun vs H Q E h => h.1) (fun cdv A outer s H vs Q E hgd hr h => ⟨_, (pss_cons (ps_par (i := 2) (j := 3) rfl sc__law_low.nd rfl rfl (by decide) rfl rfl (pa_cons (pe_callB call_abs (by rfl) T.m_abs bt_abs (pa_cons (pv 0) pa_nil)) (pa_cons (pe_callB call_abs (by rfl) T.m_abs bt_abs (pa_cons (pv 1) pa_nil)) pa_nil)) (by rfl))
  (pss_cons (ps_while PassesOwn.never (pt_cmpR op_gt (pv 3) pe_int (nomark _))
  (pss_one (ps_par (i := 2) (j := 3) rfl sc__law_low.nd rfl rfl (by decide) rfl rfl (pa_cons (pv 3) (pa_cons (pe_op op_modN (pe_callTy call_int1 (by rfl) T.m_int bt_int (pa_cons (pv 2) pa_nil)) (pv 3)) pa_nil)) (by rfl))))
  (pss_one (ps_ret (pe_ifExp (pt_cmpR op_gt (pv 1) pe_int (nomark _)) (pe_tup (pa_cons (pe_op op_fdivF (pv 0) (pv 2)) (pa_cons (pe_op op_fdivF (pv 1) (pv 2)) pa_nil))) (pe_tup (pa_cons (pe_op op_fdivF (pe_op op_sub pe_int (pv 0)) (pv 2)) (pa_cons (pe_op op_fdivF (pe_op op_sub pe_int (pv 1)) (pv 2)) pa_nil)))))))), ?_⟩)
  exact body_p (n := 2) (m := 2) (Γr := [.fro, .fro]) (Γl := []) (Γ' := []) (N := ["p", "q", "a", "b"]) (sem_seq (sem_par (sem_acons (sem_cb ca_abs (sem_vcons ((sem_var (i := 0) rfl)).v sem_vnil)) (sem_acons (sem_cb ca_abs (sem_vcons ((sem_var (i := 1) rfl)).v sem_vnil)) sem_anil)) rfl rfl)
  (sem_seq (sem_while (sem_test ((sem_op oe_gt ((sem_var (i := 3) rfl)).v (sem_int).v)).v)
  (sem_par (sem_acons (sem_var (i := 3) rfl) (sem_acons (sem_op oe_mod ((sem_cb ca_int (sem_vcons ((sem_var (i := 2) rfl)).v sem_vnil))).v ((sem_var (i := 3) rfl)).v) sem_anil)) rfl rfl))
  (sem_ret (sem_eIf (sem_test ((sem_op oe_gt ((sem_var (i := 1) rfl)).v (sem_int).v)).v) (sem_tup (sem_acons (sem_op oe_fdiv ((sem_var (i := 0) rfl)).v ((sem_var (i := 2) rfl)).v) (sem_acons (sem_op oe_fdiv ((sem_var (i := 1) rfl)).v ((sem_var (i := 2) rfl)).v) sem_anil))) (sem_tup (sem_acons (sem_op oe_fdiv ((sem_op oe_sub (sem_int).v ((sem_var (i := 0) rfl)).v)).v ((sem_var (i := 2) rfl)).v) (sem_acons (sem_op oe_fdiv ((sem_op oe_sub (sem_int).v ((sem_var (i := 1) rfl)).v)).v ((sem_var (i := 2) rfl)).v) sem_anil))))))) rfl rfl h
theorem b__law_lot_T (T : Tx K mg) : Binds K T.fd__law_lot ["source", "least", "most"] [] := T.F__law_lot.binds fun _ _ _ _ _ _ us hl => match us, hl with | [_, _, _], _ => rfl
set_option maxHeartbeats 4000000 in
theorem ok__law_lot (T : Tx K mg) : FnG Pr w K mg base 3 T.a__law_lot T.fd__law_lot ["source", "least", "most"] (spX 2 F__law_lot) := by
  refine fn_g (k := 2) T.F__law_lot sc__law_lot (fun vs H Q E h => spX_len h) (fun cdv A outer s H vs Q E hgd hr h => ⟨_, (pss_cons (ps_par3 (i := 3) (j := 4) (l := 5) rfl sc__law_lot.nd rfl rfl rfl (by decide) (by decide) (by decide) rfl rfl rfl (pa_cons (pe_op (kAdd (K := K)) (pv 1) (pe_callG ((ok__law_pick T).mono (by decide)) hgd hr (by rfl) T.g__law_pick T.F__law_pick.kp (b__law_pick_T T) (pa_cons (pv 0) (pa_cons (pe_op (kAdd (K := K)) (pe_op op_sub (pv 2) (pv 1)) pe_int) pa_nil)))) (pa_cons (pe_callG ((ok__law_pick T).mono (by decide)) hgd hr (by rfl) T.g__law_pick T.F__law_pick.kp (b__law_pick_T T) (pa_cons (pv 0) (pa_cons pe_int pa_nil))) (pa_cons pe_dnewT pa_nil))) (by rfl))
  (pss_cons (ps_set (i := 6) sc__law_lot.nd rfl (Or.inl rfl) (pe_callG ((ok__law_of T).mono (by decide)) hgd hr (by rfl) T.g__law_of T.F__law_of.kp (b__law_of_T T) (pa_cons (pv 0) (pa_cons (pe_lst (pa_cons pe_int (pa_cons pe_int (pa_cons pe_int pa_nil)))) pa_nil))))
  (pss_cons (ps_set (i := 7) sc__law_lot.nd rfl (Or.inl rfl) (pe_lst (pa_cons (pe_tup (pa_cons pe_int (pa_cons pe_int pa_nil))) (pa_cons (pe_tup (pa_cons pe_int (pa_cons pe_int pa_nil))) (pa_cons (pe_tup (pa_cons pe_int (pa_cons pe_int pa_nil))) (pa_cons (pe_tup (pa_cons pe_int (pa_cons pe_int pa_nil))) (pa_cons (pe_tup (pa_cons (pe_un un_neg pe_int) (pa_cons pe_int pa_nil))) (pa_cons (pe_tup (pa_cons (pe_un un_neg pe_int) (pa_cons pe_int pa_nil))) (pa_cons (pe_tup (pa_cons pe_int (pa_cons (pe_un un_neg pe_int) pa_nil))) (pa_cons (pe_tup (pa_cons pe_int (pa_cons (pe_un un_neg pe_int) pa_nil))) (pa_cons (pe_tup (pa_cons (pe_un un_neg pe_int) (pa_cons pe_int pa_nil))) (pa_cons (pe_tup (pa_cons pe_int (pa_cons pe_int pa_nil))) pa_nil))))))))))))
  (pss_cons (ps_for PassesOwn.never rfl (pi_range1 (by rfl) T.m_range (pa_cons (pe_op (kMul (K := K)) pe_int (pv 3)) pa_nil)) (pg_name (i := 8) sc__law_lot.nd rfl (Or.inl rfl))
  (pss_cons (ps_par (i := 9) (j := 10) rfl sc__law_lot.nd rfl rfl (by decide) rfl rfl (pa_cons (pe_op op_sub (pe_callG ((ok__law_pick T).mono (by decide)) hgd hr (by rfl) T.g__law_pick T.F__law_pick.kp (b__law_pick_T T) (pa_cons (pv 0) (pa_cons (pe_op (kAdd (K := K)) (pe_op (kMul (K := K)) pe_int (pv 6)) pe_int) pa_nil))) (pv 6)) (pa_cons (pe_op op_sub (pe_callG ((ok__law_pick T).mono (by decide)) hgd hr (by rfl) T.g__law_pick T.F__law_pick.kp (b__law_pick_T T) (pa_cons (pv 0) (pa_cons (pe_op (kAdd (K := K)) (pe_op (kMul (K := K)) pe_int (pv 6)) pe_int) pa_nil))) (pv 6)) pa_nil)) (by rfl))
  (pss_cons (ps_if (pt_cmpR (kEq (K := K) hr) (pv 4) pe_int (nomark _)) (pss_one (ps_set (i := 10) sc__law_lot.nd rfl (Or.inl rfl) (pe_callG ((ok__law_of T).mono (by decide)) hgd hr (by rfl) T.g__law_of T.F__law_of.kp (b__law_of_T T) (pa_cons (pv 0) (pa_cons (pe_lst (pa_cons pe_int (pa_cons (pv 9) (pa_cons pe_int pa_nil)))) pa_nil))))) pss_nil)
  (pss_cons (ps_if (pt_cmpR (kEq (K := K) hr) (pv 4) pe_int (nomark _)) (pss_one (ps_asg (pe_callG ((ok__law_of T).mono (by decide)) hgd hr (by rfl) T.g__law_of T.F__law_of.kp (b__law_of_T T) (pa_cons (pv 0) (pa_cons (pv 7) pa_nil))) (pgTup (K := K) (n := 2) rfl (pgs_cons (pg_name (i := 9) sc__law_lot.nd rfl (Or.inl rfl)) (pgs_cons (pg_name (i := 10) sc__law_lot.nd rfl (Or.inl rfl)) pgs_nil))))) pss_nil)
  (pss_one (ps_if (pt_cmpR op_lt (pe_callB call_len_dT (by rfl) T.m_len bt_len (pa_cons (pv 5) pa_nil)) (pv 3) (nomark _)) (pss_one (ps_dput (hu_of hr) (pv 5) (pe_tup (pa_cons (pv 9) (pa_cons (pv 10) pa_nil))) pe_int rfl)) pss_nil))))))
  (pss_cons (ps_for PassesOwn.never rfl (pi_range1 (by rfl) T.m_range (pa_cons (pv 3) pa_nil)) (pg_name (i := 11) sc__law_lot.nd rfl (Or.inl rfl))
  (pss_one (ps_if (pt_cmpR op_lt (pe_callB call_len_dT (by rfl) T.m_len bt_len (pa_cons (pv 5) pa_nil)) (pv 3) (nomark _)) (pss_one (ps_dput (hu_of hr) (pv 5) (pe_tup (pa_cons (pe_op (kAdd (K := K)) pe_int (pv 11)) (pa_cons (pe_op op_fdivF (pe_op (kMul (K := K)) (pv 11) (pe_op (kAdd (K := K)) (pv 11) pe_int)) pe_int) pa_nil))) pe_int rfl)) pss_nil)))
  (pss_one (ps_ret (pe_callTy (kTup (K := K)) (by rfl) T.m_tuple bt_tuple (pa_cons (pe_callB (kSrtD rfl hr) (by rfl) T.m_sorted bt_sorted (pa_cons (pv 5) pa_nil)) pa_nil))))))))), ?_⟩)
  exact body_x (n := 2) (m := 9) (Γr := [.fro, .fro, .dic, .fro, .fro, .fro, .fro, .fro, .fro]) (Γl := []) (Γ' := []) (N := ["source", "least", "most", "n", "way", "found", "far", "ring", "lap", "x", "y", "k"]) (fun src cl => (sem_seq (sem_parD (sem_op oe_add ((sem_var (i := 1) rfl)).v ((sem_callX (i := 0) rfl (sem_acons (sem_op oe_add ((sem_op oe_sub ((sem_var (i := 2) rfl)).v ((sem_var (i := 1) rfl)).v)).v (sem_int).v) sem_anil))).v) (sem_callX (i := 0) rfl (sem_acons sem_int sem_anil)) rfl rfl (by decide))
  (sem_seq (sem_asg (sem_callX (i := 0) rfl (sem_acons ((sem_lst (sem_acons sem_int (sem_acons sem_int (sem_acons sem_int sem_anil))))).e sem_anil)) (by decide))
  (sem_seq (sem_asg ((sem_lst (sem_acons (sem_tup (sem_acons sem_int (sem_acons sem_int sem_anil))) (sem_acons (sem_tup (sem_acons sem_int (sem_acons sem_int sem_anil))) (sem_acons (sem_tup (sem_acons sem_int (sem_acons sem_int sem_anil))) (sem_acons (sem_tup (sem_acons sem_int (sem_acons sem_int sem_anil))) (sem_acons (sem_tup (sem_acons (sem_un oe_neg (sem_int).v) (sem_acons sem_int sem_anil))) (sem_acons (sem_tup (sem_acons (sem_un oe_neg (sem_int).v) (sem_acons sem_int sem_anil))) (sem_acons (sem_tup (sem_acons sem_int (sem_acons (sem_un oe_neg (sem_int).v) sem_anil))) (sem_acons (sem_tup (sem_acons sem_int (sem_acons (sem_un oe_neg (sem_int).v) sem_anil))) (sem_acons (sem_tup (sem_acons (sem_un oe_neg (sem_int).v) (sem_acons sem_int sem_anil))) (sem_acons (sem_tup (sem_acons sem_int (sem_acons sem_int sem_anil))) sem_anil)))))))))))).e (by decide))
  (sem_seq (sem_for (semI_rng1 (sem_vcons ((sem_op oe_mulX (sem_int).v ((sem_var (i := 3) rfl)).v)).v sem_vnil)) (sem_gname (i := 8) rfl)
  (sem_seq (sem_par (sem_acons (sem_op oe_sub ((sem_callX (i := 0) rfl (sem_acons (sem_op oe_add ((sem_op oe_mulX (sem_int).v ((sem_var (i := 6) rfl)).v)).v (sem_int).v) sem_anil))).v ((sem_var (i := 6) rfl)).v) (sem_acons (sem_op oe_sub ((sem_callX (i := 0) rfl (sem_acons (sem_op oe_add ((sem_op oe_mulX (sem_int).v ((sem_var (i := 6) rfl)).v)).v (sem_int).v) sem_anil))).v ((sem_var (i := 6) rfl)).v) sem_anil)) rfl rfl)
  (sem_seq (sem_if (sem_test ((sem_op oe_eq ((sem_var (i := 4) rfl)).v (sem_int).v)).v) (sem_asg (sem_callX (i := 0) rfl (sem_acons ((sem_lst (sem_acons sem_int (sem_acons (sem_var (i := 9) rfl) (sem_acons sem_int sem_anil))))).e sem_anil)) (by decide)) sem_nx)
  (sem_seq (sem_if (sem_test ((sem_op oe_eq ((sem_var (i := 4) rfl)).v (sem_int).v)).v) (sem_tgt (sem_callX (i := 0) rfl (sem_acons (sem_var (i := 7) rfl) sem_anil)) (sem_gtup (sem_gscons (sem_gname (i := 9) rfl) (sem_gscons (sem_gname (i := 10) rfl) sem_gsnil)))) sem_nx)
  (sem_if (sem_test ((sem_op oe_lt ((sem_lenD (i := 5) rfl)).v ((sem_var (i := 3) rfl)).v)).v) (sem_dset (i := 5) rfl sem_int (sem_tup (sem_acons (sem_var (i := 9) rfl) (sem_acons (sem_var (i := 10) rfl) sem_anil)))) sem_nx)))))
  (sem_seq (sem_for (semI_rng1 (sem_vcons ((sem_var (i := 3) rfl)).v sem_vnil)) (sem_gname (i := 11) rfl)
  (sem_if (sem_test ((sem_op oe_lt ((sem_lenD (i := 5) rfl)).v ((sem_var (i := 3) rfl)).v)).v) (sem_dset (i := 5) rfl sem_int (sem_tup (sem_acons (sem_op oe_add (sem_int).v ((sem_var (i := 11) rfl)).v) (sem_acons (sem_op oe_fdiv ((sem_op oe_mulX ((sem_var (i := 11) rfl)).v ((sem_op oe_add ((sem_var (i := 11) rfl)).v (sem_int).v)).v)).v (sem_int).v) sem_anil)))) sem_nx))
  (sem_ret (sem_cb ca_tup (sem_vcons ((sem_srtD (i := 5) rfl)).e.v sem_vnil))))))))) rfl rfl h
theorem b__law_place_T (T : Tx K mg) : Binds K T.fd__law_place ["source", "lot"] [] := T.F__law_place.binds fun _ _ _ _ _ _ us hl => match us, hl with | [_, _], _ => rfl
set_option maxHeartbeats 4000000 in
theorem ok__law_place (T : Tx K mg) : FnG Pr w K mg base 3 T.a__law_place T.fd__law_place ["source", "lot"] (spX 1 F__law_place) := by
  refine fn_g (k := 2) T.F__law_place sc__law_place (fun vs H Q E h => spX_len h) (fun cdv A outer s H vs Q E hgd hr h => ⟨_, (pss_cons (ps_par3 (i := 2) (j := 3) (l := 4) rfl sc__law_place.nd rfl rfl rfl (by decide) (by decide) (by decide) rfl rfl rfl (pa_cons (pe_callG ((ok__law_pick T).mono (by decide)) hgd hr (by rfl) T.g__law_pick T.F__law_pick.kp (b__law_pick_T T) (pa_cons (pv 0) (pa_cons pe_int pa_nil))) (pa_cons (pe_callG ((ok__law_of T).mono (by decide)) hgd hr (by rfl) T.g__law_of T.F__law_of.kp (b__law_of_T T) (pa_cons (pv 0) (pa_cons (pv 1) pa_nil))) (pa_cons (pe_callG ((ok__law_of T).mono (by decide)) hgd hr (by rfl) T.g__law_of T.F__law_of.kp (b__law_of_T T) (pa_cons (pv 0) (pa_cons (pv 1) pa_nil))) pa_nil))) (by rfl))
  (pss_cons (ps_if (pt_cmpR op_lt (pv 2) pe_int (nomark _)) (pss_one (ps_ret (pe_callTy (kTup (K := K)) (by rfl) T.m_tuple bt_tuple (pa_cons (pe_lc (own := [("a", 5), ("b", 6)]) rfl sc__law_place.nd  (piZip (K := K) (by rfl) T.m_zip (pa_cons (pv 3) (pa_cons (pe_ifExp (pt_cmpR (kEq (K := K) hr) (pv 2) pe_int (nomark _)) (pv 4) (pv 3)) pa_nil))) (blkOk_by (by kernel_rfl)) (fun _ _ _ _ _ => (pgTup (K := K) (n := 2) rfl (pgs_cons (pg_name (i := 5) sc__law_place.nd rfl (Or.inl rfl)) (pgs_cons (pg_name (i := 6) sc__law_place.nd rfl (Or.inl rfl)) pgs_nil)))) (fun _ _ _ _ _ => pts_nil) (fun _ _ _ _ _ => (pe_callG ((ok__law_low T).mono (by decide)) hgd hr (by rfl) T.g__law_low T.F__law_low.kp (b__law_low_T T) (pa_cons (pe_op (kAdd (K := K)) (pv 5) (pv 6)) (pa_cons pe_int pa_nil))))) pa_nil)))) pss_nil)
  (pss_one (ps_ret (pe_callTy (kTup (K := K)) (by rfl) T.m_tuple bt_tuple (pa_cons (pe_lc (own := [("axis", 7)]) rfl sc__law_place.nd  (piSeq (K := K) (pe_tup (pa_cons pe_int (pa_cons pe_int pa_nil)))) (blkOk_by (by kernel_rfl)) (fun _ _ _ _ _ => (pg_name (i := 7) sc__law_place.nd rfl (Or.inl rfl))) (fun _ _ _ _ _ => pts_nil) (fun _ _ _ _ _ => (pe_callG ((ok__law_low T).mono (by decide)) hgd hr (by rfl) T.g__law_low T.F__law_low.kp (b__law_low_T T) (pa_cons (pe_op op_sub (pe_callG ((ok__law_pick T).mono (by decide)) hgd hr (by rfl) T.g__law_pick T.F__law_pick.kp (b__law_pick_T T) (pa_cons (pv 0) (pa_cons pe_int pa_nil))) pe_int) (pa_cons (pe_op (kAdd (K := K)) pe_int (pe_callG ((ok__law_pick T).mono (by decide)) hgd hr (by rfl) T.g__law_pick T.F__law_pick.kp (b__law_pick_T T) (pa_cons (pv 0) (pa_cons pe_int pa_nil)))) pa_nil))))) pa_nil)))))), ?_⟩)
  exact body_x (n := 1) (m := 6) (Γr := [.fro, .fro, .fro, .fro, .fro, .fro]) (Γl := []) (Γ' := []) (N := ["source", "lot", "way", "one", "other", "a", "b", "axis"]) (fun src cl => (sem_seq (sem_par3 (sem_acons (sem_callX (i := 0) rfl (sem_acons sem_int sem_anil)) (sem_acons (sem_callX (i := 0) rfl (sem_acons (sem_var (i := 1) rfl) sem_anil)) (sem_acons (sem_callX (i := 0) rfl (sem_acons (sem_var (i := 1) rfl) sem_anil)) sem_anil))) rfl rfl rfl)
  (sem_seq (sem_if (sem_test ((sem_op oe_lt ((sem_var (i := 2) rfl)).v (sem_int).v)).v) (sem_ret (sem_cb ca_tup (sem_vcons ((sem_lc (semIc_zip (sem_vcons ((sem_var (i := 3) rfl)).v (sem_vcons ((sem_eIf (sem_test ((sem_op oe_eq ((sem_var (i := 2) rfl)).v (sem_int).v)).v) (sem_var (i := 4) rfl) (sem_var (i := 3) rfl))).v sem_vnil))) (sem_gtup (sem_gscons (sem_gname (i := 5) rfl) (sem_gscons (sem_gname (i := 6) rfl) sem_gsnil))) sem_yes (sem_call (sem_acons (sem_op oe_add ((sem_var (i := 5) rfl)).v ((sem_var (i := 6) rfl)).v) (sem_acons sem_int sem_anil))) (allFro rfl) (by decide))).e.v sem_vnil))) sem_nx)
  (sem_ret (sem_cb ca_tup (sem_vcons ((sem_lc (semIc_seq ((sem_tup (sem_acons sem_int (sem_acons sem_int sem_anil)))).v) (sem_gname (i := 7) rfl) sem_yes (sem_call (sem_acons (sem_op oe_sub ((sem_callX (i := 0) rfl (sem_acons sem_int sem_anil))).v (sem_int).v) (sem_acons (sem_op oe_add (sem_int).v ((sem_callX (i := 0) rfl (sem_acons sem_int sem_anil))).v) sem_anil))) (allFro rfl) (by decide))).e.v sem_vnil)))))) rfl rfl h
theorem b__law_count_T (T : Tx K mg) : Binds K T.fd__law_count ["lot", "p", "a", "b"] [] := T.F__law_count.binds fun _ _ _ _ _ _ us hl => match us, hl with | [_, _, _, _], _ => rfl
set_option maxHeartbeats 4000000 in
theorem ok__law_count (T : Tx K mg) : FnG Pr w K mg base 1 T.a__law_count T.fd__law_count ["lot", "p", "a", "b"] (spP 4 F__law_count) := by
  refine fn_g (k := 0) T.F__law_count sc__law_count (fun vs H Q E h => h.1) (fun cdv A outer s H vs Q E hgd hr h => ⟨_, (pss_cons (ps_asg (pv 1) (pgTup (K := K) (n := 2) rfl (pgs_cons (pgTup (K := K) (n := 2) rfl (pgs_cons (pg_name (i := 4) sc__law_count.nd rfl (Or.inl rfl)) (pgs_cons (pg_name (i := 5) sc__law_count.nd rfl (Or.inl rfl)) pgs_nil))) (pgs_cons (pgTup (K := K) (n := 2) rfl (pgs_cons (pg_name (i := 6) sc__law_count.nd rfl (Or.inl rfl)) (pgs_cons (pg_name (i := 7) sc__law_count.nd rfl (Or.inl rfl)) pgs_nil))) pgs_nil))))
  (pss_cons (ps_set (i := 8) sc__law_count.nd rfl (Or.inl rfl) pe_int)
  (pss_cons (ps_for PassesOwn.never rfl (piSeq (K := K) (pv 0)) (pgTup (K := K) (n := 2) rfl (pgs_cons (pg_name (i := 9) sc__law_count.nd rfl (Or.inl rfl)) (pgs_cons (pg_name (i := 10) sc__law_count.nd rfl (Or.inl rfl)) pgs_nil)))
  (pss_one (ps_set (i := 8) sc__law_count.nd rfl (Or.inl rfl) (pe_op (kAdd (K := K)) (pv 8) (pe_callTy call_int1 (by rfl) T.m_int bt_int (pa_cons (pe_cmpR op_ge (pe_op (kMul (K := K)) (pe_op (kMul (K := K)) (pe_op (kAdd (K := K)) (pe_op (kMul (K := K)) (pv 2) (pv 9)) (pe_op (kMul (K := K)) (pv 3) (pv 10))) (pv 5)) (pv 7)) (pe_op (kAdd (K := K)) (pe_op (kMul (K := K)) (pe_op (kMul (K := K)) (pv 2) (pv 4)) (pv 7)) (pe_op (kMul (K := K)) (pe_op (kMul (K := K)) (pv 3) (pv 6)) (pv 5))) (nomark _)) pa_nil))))))
  (pss_one (ps_ret (pv 8)))))), ?_⟩)
  exact body_p (n := 4) (m := 7) (Γr := [.fro, .fro, .fro, .fro, .fro, .fro, .fro]) (Γl := []) (Γ' := []) (N := ["lot", "p", "a", "b", "s", "t", "u", "v", "found", "x", "y"]) (sem_seq (sem_tgt (sem_var (i := 1) rfl) (sem_gtup (sem_gscons (sem_gtup (sem_gscons (sem_gname (i := 4) rfl) (sem_gscons (sem_gname (i := 5) rfl) sem_gsnil))) (sem_gscons (sem_gtup (sem_gscons (sem_gname (i := 6) rfl) (sem_gscons (sem_gname (i := 7) rfl) sem_gsnil))) sem_gsnil))))
  (sem_seq (sem_asg sem_int (by decide))
  (sem_seq (sem_for (semI_seq (sem_var (i := 0) rfl)) (sem_gtup (sem_gscons (sem_gname (i := 9) rfl) (sem_gscons (sem_gname (i := 10) rfl) sem_gsnil)))
  (sem_asg (sem_op oe_add ((sem_var (i := 8) rfl)).v ((sem_cb ca_int (sem_vcons ((sem_op oe_ge ((sem_op oe_mulX ((sem_op oe_mulX ((sem_op oe_add ((sem_op oe_mulX ((sem_var (i := 2) rfl)).v ((sem_var (i := 9) rfl)).v)).v ((sem_op oe_mulX ((sem_var (i := 3) rfl)).v ((sem_var (i := 10) rfl)).v)).v)).v ((sem_var (i := 5) rfl)).v)).v ((sem_var (i := 7) rfl)).v)).v ((sem_op oe_add ((sem_op oe_mulX ((sem_op oe_mulX ((sem_var (i := 2) rfl)).v ((sem_var (i := 4) rfl)).v)).v ((sem_var (i := 7) rfl)).v)).v ((sem_op oe_mulX ((sem_op oe_mulX ((sem_var (i := 3) rfl)).v ((sem_var (i := 6) rfl)).v)).v ((sem_var (i := 5) rfl)).v)).v)).v)).v sem_vnil))).v) (by decide)))
  (sem_ret (sem_var (i := 8) rfl))))) rfl rfl h
theorem b__law_ways_T (T : Tx K mg) : Binds K T.fd__law_ways ["lot", "p"] [] := T.F__law_ways.binds fun _ _ _ _ _ _ us hl => match us, hl with | [_, _], _ => rfl
set_option maxHeartbeats 4000000 in
theorem ok__law_ways (T : Tx K mg) : FnG Pr w K mg base 1 T.a__law_ways T.fd__law_ways ["lot", "p"] (spP 2 F__law_ways) := by
  refine fn_g (k := 0) T.F__law_ways sc__law_ways (fun vs H Q E h => h.1) (fun cdv A outer s H vs Q E hgd hr h => ⟨_, (pss_cons (ps_asg (pv 1) (pgTup (K := K) (n := 2) rfl (pgs_cons (pgTup (K := K) (n := 2) rfl (pgs_cons (pg_name (i := 2) sc__law_ways.nd rfl (Or.inr rfl)) (pgs_cons (pg_name (i := 3) sc__law_ways.nd rfl (Or.inr rfl)) pgs_nil))) (pgs_cons (pgTup (K := K) (n := 2) rfl (pgs_cons (pg_name (i := 4) sc__law_ways.nd rfl (Or.inr rfl)) (pgs_cons (pg_name (i := 5) sc__law_ways.nd rfl (Or.inr rfl)) pgs_nil))) pgs_nil))))
  (pss_one (ps_ret (pe_lc (own := [("x", 6), ("y", 7)]) rfl sc__law_ways.nd  (piSeq (K := K) (pv 0)) (blkOk_by (by kernel_rfl)) (fun _ _ _ _ _ => (pgTup (K := K) (n := 2) rfl (pgs_cons (pg_name (i := 6) sc__law_ways.nd rfl (Or.inl rfl)) (pgs_cons (pg_name (i := 7) sc__law_ways.nd rfl (Or.inl rfl)) pgs_nil)))) (fun _ _ _ _ _ => pts_nil) (fun _ _ _ _ _ => (pe_tup (pa_cons (pe_op op_sub (pe_op (kMul (K := K)) (pe_op (kMul (K := K)) (pv 6) (pv 3)) (pv 5)) (pe_op (kMul (K := K)) (pv 2) (pv 5))) (pa_cons (pe_op op_sub (pe_op (kMul (K := K)) (pe_op (kMul (K := K)) (pv 7) (pv 3)) (pv 5)) (pe_op (kMul (K := K)) (pv 4) (pv 3))) pa_nil)))))))), ?_⟩)
  exact body_p (n := 2) (m := 6) (Γr := [.fro, .fro, .fro, .fro, .fro, .fro]) (Γl := []) (Γ' := []) (N := ["lot", "p", "s", "t", "u", "v", "x", "y"]) (sem_seq (sem_tgt (sem_var (i := 1) rfl) (sem_gtup (sem_gscons (sem_gtup (sem_gscons (sem_gname (i := 2) rfl) (sem_gscons (sem_gname (i := 3) rfl) sem_gsnil))) (sem_gscons (sem_gtup (sem_gscons (sem_gname (i := 4) rfl) (sem_gscons (sem_gname (i := 5) rfl) sem_gsnil))) sem_gsnil))))
  (sem_ret ((sem_lc (semIc_seq ((sem_var (i := 0) rfl)).v) (sem_gtup (sem_gscons (sem_gname (i := 6) rfl) (sem_gscons (sem_gname (i := 7) rfl) sem_gsnil))) sem_yes (sem_tup (sem_acons (sem_op oe_sub ((sem_op oe_mulX ((sem_op oe_mulX ((sem_var (i := 6) rfl)).v ((sem_var (i := 3) rfl)).v)).v ((sem_var (i := 5) rfl)).v)).v ((sem_op oe_mulX ((sem_var (i := 2) rfl)).v ((sem_var (i := 5) rfl)).v)).v) (sem_acons (sem_op oe_sub ((sem_op oe_mulX ((sem_op oe_mulX ((sem_var (i := 7) rfl)).v ((sem_var (i := 3) rfl)).v)).v ((sem_var (i := 5) rfl)).v)).v ((sem_op oe_mulX ((sem_var (i := 4) rfl)).v ((sem_var (i := 3) rfl)).v)).v) sem_anil))) (allFro rfl) (by decide))).e)) rfl rfl h
theorem b__law_depth_T (T : Tx K mg) : Binds K T.fd__law_depth ["lot", "p"] [] := T.F__law_depth.binds fun _ _ _ _ _ _ us hl => match us, hl with | [_, _], _ => rfl
set_option maxHeartbeats 4000000 in
theorem ok__law_depth (T : Tx K mg) : FnG Pr w K mg base 2 T.a__law_depth T.fd__law_depth ["lot", "p"] (spP 2 F__law_depth) := by
  refine fn_g (k := 1) T.F__law_depth sc__law_depth (fun vs H Q E h => h.1) (fun cdv A outer s H vs Q E hgd hr h => ⟨_, (pss_cons (ps_setLc (i := 2) (own := [("way", 9)]) rfl sc__law_depth.nd rfl rfl (sw_true rfl rfl rfl (by decide +kernel)) (piSeq (K := K) (pe_callG ((ok__law_ways T).mono (by decide)) hgd hr (by rfl) T.g__law_ways T.F__law_ways.kp (b__law_ways_T T) (pa_cons (pv 0) (pa_cons (pv 1) pa_nil)))) (blkOk_by (by kernel_rfl)) (fun _ _ _ _ _ => (pg_name (i := 9) sc__law_depth.nd rfl (Or.inl rfl))) (fun _ _ _ _ _ => (pts_one (pt_cmpR (kNe (K := K) hr) (pv 9) (pe_tup (pa_cons pe_int (pa_cons pe_int pa_nil))) (nomark _)))) (fun _ _ _ _ _ => (pv 9)))
  (pss_cons (ps_par (i := 3) (j := 4) rfl sc__law_depth.nd rfl rfl (by decide) rfl rfl (pa_cons (pe_op op_sub (pe_callB (kLen (K := K)) (by rfl) T.m_len bt_len (pa_cons (pv 0) pa_nil)) (pe_callB (kLen (K := K)) (by rfl) T.m_len bt_len (pa_cons (pv 2) pa_nil))) (pa_cons (pe_callB (kLen (K := K)) (by rfl) T.m_len bt_len (pa_cons (pv 0) pa_nil)) pa_nil)) (by rfl))
  (pss_cons (ps_for PassesOwn.never rfl (piSeq (K := K) (pe_op (kAdd (K := K)) (pv 2) (pe_lc (own := [("u", 5), ("v", 6)]) rfl sc__law_depth.nd  (piSeq (K := K) (pv 2)) (blkOk_by (by kernel_rfl)) (fun _ _ _ _ _ => (pgTup (K := K) (n := 2) rfl (pgs_cons (pg_name (i := 5) sc__law_depth.nd rfl (Or.inl rfl)) (pgs_cons (pg_name (i := 6) sc__law_depth.nd rfl (Or.inl rfl)) pgs_nil)))) (fun _ _ _ _ _ => pts_nil) (fun _ _ _ _ _ => (pe_tup (pa_cons (pe_op op_sub pe_int (pv 5)) (pa_cons (pe_op op_sub pe_int (pv 6)) pa_nil))))))) (pgTup (K := K) (n := 2) rfl (pgs_cons (pg_name (i := 5) sc__law_depth.nd rfl (Or.inr rfl)) (pgs_cons (pg_name (i := 6) sc__law_depth.nd rfl (Or.inr rfl)) pgs_nil)))
  (pss_cons (ps_set (i := 7) sc__law_depth.nd rfl (Or.inl rfl) (pe_callB (kLen (K := K)) (by rfl) T.m_len bt_len (pa_cons (pe_lc (own := [("x", 10), ("y", 11)]) rfl sc__law_depth.nd  (piSeq (K := K) (pv 2)) (blkOk_by (by kernel_rfl)) (fun _ _ _ _ _ => (pgTup (K := K) (n := 2) rfl (pgs_cons (pg_name (i := 10) sc__law_depth.nd rfl (Or.inl rfl)) (pgs_cons (pg_name (i := 11) sc__law_depth.nd rfl (Or.inl rfl)) pgs_nil)))) (fun _ _ _ _ _ => (pts_one (pt_cmpR op_gt (pe_op op_sub (pe_op (kMul (K := K)) (pv 5) (pv 11)) (pe_op (kMul (K := K)) (pv 6) (pv 10))) pe_int (nomark _)))) (fun _ _ _ _ _ => pe_int)) pa_nil)))
  (pss_cons (ps_set (i := 8) sc__law_depth.nd rfl (Or.inl rfl) (pe_callB (kLen (K := K)) (by rfl) T.m_len bt_len (pa_cons (pe_lc (own := [("x", 10), ("y", 11)]) rfl sc__law_depth.nd  (piSeq (K := K) (pv 2)) (blkOk_by (by kernel_rfl)) (fun _ _ _ _ _ => (pgTup (K := K) (n := 2) rfl (pgs_cons (pg_name (i := 10) sc__law_depth.nd rfl (Or.inl rfl)) (pgs_cons (pg_name (i := 11) sc__law_depth.nd rfl (Or.inl rfl)) pgs_nil)))) (fun _ _ _ _ _ => (pts_one ((pw_and (pt_cmpR (kEq (K := K) hr) (pe_op op_sub (pe_op (kMul (K := K)) (pv 5) (pv 11)) (pe_op (kMul (K := K)) (pv 6) (pv 10))) pe_int (nomark _)) (pw_and1 (pt_cmpR op_lt (pe_op (kAdd (K := K)) (pe_op (kMul (K := K)) (pv 5) (pv 10)) (pe_op (kMul (K := K)) (pv 6) (pv 11))) pe_int (nomark _))))).pt)) (fun _ _ _ _ _ => pe_int)) pa_nil)))
  (pss_one (ps_set (i := 4) sc__law_depth.nd rfl (Or.inl rfl) (pe_callB (call_min2 rfl) (by rfl) T.m_min bt_min (pa_cons (pv 4) (pa_cons (pe_op (kAdd (K := K)) (pe_op (kAdd (K := K)) (pv 3) (pv 7)) (pv 8)) pa_nil))))))))
  (pss_one (ps_ret (pv 4)))))), ?_⟩)
  exact body_p (n := 2) (m := 10) (Γr := [.fro, .fro, .fro, .fro, .fro, .fro, .fro, .fro, .fro, .fro]) (Γl := []) (Γ' := []) (N := ["lot", "p", "ways", "at", "best", "u", "v", "left", "behind", "way", "x", "y"]) (sem_seq (sem_asg ((sem_lc (semIc_seq ((sem_call (sem_acons (sem_var (i := 0) rfl) (sem_acons (sem_var (i := 1) rfl) sem_anil)))).v) (sem_gname (i := 9) rfl) (sem_test ((sem_op oe_ne ((sem_var (i := 9) rfl)).v ((sem_tup (sem_acons sem_int (sem_acons sem_int sem_anil)))).v)).v) (sem_var (i := 9) rfl) (allFro rfl) (by decide))).e (by decide))
  (sem_seq (sem_par (sem_acons (sem_op oe_sub ((sem_cb ca_len (sem_vcons ((sem_var (i := 0) rfl)).v sem_vnil))).v ((sem_cb ca_len (sem_vcons ((sem_var (i := 2) rfl)).v sem_vnil))).v) (sem_acons (sem_cb ca_len (sem_vcons ((sem_var (i := 0) rfl)).v sem_vnil)) sem_anil)) rfl rfl)
  (sem_seq (sem_for (semI_seq (sem_op oe_add ((sem_var (i := 2) rfl)).v ((sem_lc (semIc_seq ((sem_var (i := 2) rfl)).v) (sem_gtup (sem_gscons (sem_gname (i := 5) rfl) (sem_gscons (sem_gname (i := 6) rfl) sem_gsnil))) sem_yes (sem_tup (sem_acons (sem_op oe_sub (sem_int).v ((sem_var (i := 5) rfl)).v) (sem_acons (sem_op oe_sub (sem_int).v ((sem_var (i := 6) rfl)).v) sem_anil))) (allFro rfl) (by decide))).e.v)) (sem_gtup (sem_gscons (sem_gname (i := 5) rfl) (sem_gscons (sem_gname (i := 6) rfl) sem_gsnil)))
  (sem_seq (sem_asg (sem_cb ca_len (sem_vcons ((sem_lc (semIc_seq ((sem_var (i := 2) rfl)).v) (sem_gtup (sem_gscons (sem_gname (i := 10) rfl) (sem_gscons (sem_gname (i := 11) rfl) sem_gsnil))) (sem_test ((sem_op oe_gt ((sem_op oe_sub ((sem_op oe_mulX ((sem_var (i := 5) rfl)).v ((sem_var (i := 11) rfl)).v)).v ((sem_op oe_mulX ((sem_var (i := 6) rfl)).v ((sem_var (i := 10) rfl)).v)).v)).v (sem_int).v)).v) sem_int (allFro rfl) (by decide))).e.v sem_vnil)) (by decide))
  (sem_seq (sem_asg (sem_cb ca_len (sem_vcons ((sem_lc (semIc_seq ((sem_var (i := 2) rfl)).v) (sem_gtup (sem_gscons (sem_gname (i := 10) rfl) (sem_gscons (sem_gname (i := 11) rfl) sem_gsnil))) (sem_and (sem_test ((sem_op oe_eq ((sem_op oe_sub ((sem_op oe_mulX ((sem_var (i := 5) rfl)).v ((sem_var (i := 11) rfl)).v)).v ((sem_op oe_mulX ((sem_var (i := 6) rfl)).v ((sem_var (i := 10) rfl)).v)).v)).v (sem_int).v)).v) (sem_test ((sem_op oe_lt ((sem_op oe_add ((sem_op oe_mulX ((sem_var (i := 5) rfl)).v ((sem_var (i := 10) rfl)).v)).v ((sem_op oe_mulX ((sem_var (i := 6) rfl)).v ((sem_var (i := 11) rfl)).v)).v)).v (sem_int).v)).v)) sem_int (allFro rfl) (by decide))).e.v sem_vnil)) (by decide))
  (sem_asg (sem_cb ca_min2 (sem_vcons ((sem_var (i := 4) rfl)).v (sem_vcons ((sem_op oe_add ((sem_op oe_add ((sem_var (i := 3) rfl)).v ((sem_var (i := 7) rfl)).v)).v ((sem_var (i := 8) rfl)).v)).v sem_vnil))) (by decide)))))
  (sem_ret (sem_var (i := 4) rfl))))) rfl rfl h
theorem b__law_middles_T (T : Tx K mg) : Binds K T.fd__law_middles ["lot", "a", "b"] [] := T.F__law_middles.binds fun _ _ _ _ _ _ us hl => match us, hl with | [_, _, _], _ => rfl
set_option maxHeartbeats 4000000 in
theorem ok__law_middles (T : Tx K mg) : FnG Pr w K mg base 1 T.a__law_middles T.fd__law_middles ["lot", "a", "b"] (spP 3 F__law_middles) := by
  refine fn_g (k := 0) T.F__law_middles sc__law_middles (fun vs H Q E h => h.1) (fun cdv A outer s H vs Q E hgd hr h => ⟨_, (pss_cons (ps_set (i := 3) sc__law_middles.nd rfl (Or.inl rfl) (pe_callB (kSrt (K := K) hr) (by rfl) T.m_sorted bt_sorted (pa_cons (pe_lc (own := [("x", 4), ("y", 5)]) rfl sc__law_middles.nd  (piSeq (K := K) (pv 0)) (blkOk_by (by kernel_rfl)) (fun _ _ _ _ _ => (pgTup (K := K) (n := 2) rfl (pgs_cons (pg_name (i := 4) sc__law_middles.nd rfl (Or.inl rfl)) (pgs_cons (pg_name (i := 5) sc__law_middles.nd rfl (Or.inl rfl)) pgs_nil)))) (fun _ _ _ _ _ => pts_nil) (fun _ _ _ _ _ => (pe_op (kAdd (K := K)) (pe_op (kMul (K := K)) (pv 1) (pv 4)) (pe_op (kMul (K := K)) (pv 2) (pv 5))))) pa_nil)))
  (pss_one (ps_ret (pe_tup (pa_cons (pe_ix (kIx (K := K)) (pv 3) (pe_op op_fdivF (pe_op op_sub (pe_callB (kLen (K := K)) (by rfl) T.m_len bt_len (pa_cons (pv 3) pa_nil)) pe_int) pe_int) (fun _ _ => rfl)) (pa_cons (pe_ix (kIx (K := K)) (pv 3) (pe_op op_fdivF (pe_callB (kLen (K := K)) (by rfl) T.m_len bt_len (pa_cons (pv 3) pa_nil)) pe_int) (fun _ _ => rfl)) pa_nil)))))), ?_⟩)
  exact body_p (n := 3) (m := 3) (Γr := [.fro, .fro, .fro]) (Γl := []) (Γ' := []) (N := ["lot", "a", "b", "told", "x", "y"]) (sem_seq (sem_asg ((sem_cbL ca_srt (sem_vcons ((sem_lc (semIc_seq ((sem_var (i := 0) rfl)).v) (sem_gtup (sem_gscons (sem_gname (i := 4) rfl) (sem_gscons (sem_gname (i := 5) rfl) sem_gsnil))) sem_yes (sem_op oe_add ((sem_op oe_mulX ((sem_var (i := 1) rfl)).v ((sem_var (i := 4) rfl)).v)).v ((sem_op oe_mulX ((sem_var (i := 2) rfl)).v ((sem_var (i := 5) rfl)).v)).v) (allFro rfl) (by decide))).e.v sem_vnil))).e (by decide))
  (sem_ret (sem_tup (sem_acons (sem_op oe_ix ((sem_var (i := 3) rfl)).v ((sem_op oe_fdiv ((sem_op oe_sub ((sem_cb ca_len (sem_vcons ((sem_var (i := 3) rfl)).v sem_vnil))).v (sem_int).v)).v (sem_int).v)).v) (sem_acons (sem_op oe_ix ((sem_var (i := 3) rfl)).v ((sem_op oe_fdiv ((sem_cb ca_len (sem_vcons ((sem_var (i := 3) rfl)).v sem_vnil))).v (sem_int).v)).v) sem_anil))))) rfl rfl h
theorem b__law_line_fault_T (T : Tx K mg) : Binds K T.fd__law_line_fault ["one", "other", "value"] [] := T.F__law_line_fault.binds fun _ _ _ _ _ _ us hl => match us, hl with | [_, _, _], _ => rfl
set_option maxHeartbeats 4000000 in
theorem ok__law_line_fault (T : Tx K mg) : FnG Pr w K mg base 2 T.a__law_line_fault T.fd__law_line_fault ["one", "other", "value"] (spP 3 F__law_line_fault) := by
  refine fn_g (k := 1) T.F__law_line_fault sc__law_line_fault (fun vs H Q E h => h.1) (fun cdv A outer s H vs Q E hgd hr h => ⟨_, (pss_cons (ps_if ((pw_or (pt_not (pt_val (pe_callB (kIsi (K := K)) (by rfl) T.m_isinstance bt_isinstance (pa_cons (pv 2) (pa_cons (pe_bltn (v := .ty "tuple") (by rfl) T.m_tuple bt_tuple rfl) pa_nil))))) (pw_or (pt_cmpR (kNeX (K := K) hr) (pe_callB (kLen (K := K)) (by rfl) T.m_len bt_len (pa_cons (pv 2) pa_nil)) pe_int (nomark _)) (pw_or1 (pt_cmpR (kNeX (K := K) hr) (pe_lc (own := [("x", 8)]) rfl sc__law_line_fault.nd  (piSeq (K := K) (pv 2)) (blkOk_by (by kernel_rfl)) (fun _ _ _ _ _ => (pg_name (i := 8) sc__law_line_fault.nd rfl (Or.inl rfl))) (fun _ _ _ _ _ => (pts_one (pt_not (pt_val (pe_callG ((ok__law_is_int T).mono (by decide)) hgd hr (by rfl) T.g__law_is_int T.F__law_is_int.kp (b__law_is_int_T T) (pa_cons (pv 8) pa_nil)))))) (fun _ _ _ _ _ => (pv 8))) (pe_lst pa_nil) (nomark _)))))).pt (pss_one (ps_ret (pe_tup (pa_cons pe_str pa_nil)))) pss_nil)
  (pss_cons (ps_asg (pv 2) (pgTup (K := K) (n := 3) rfl (pgs_cons (pg_name (i := 3) sc__law_line_fault.nd rfl (Or.inr rfl)) (pgs_cons (pg_name (i := 4) sc__law_line_fault.nd rfl (Or.inr rfl)) (pgs_cons (pg_name (i := 5) sc__law_line_fault.nd rfl (Or.inr rfl)) pgs_nil)))))
  (pss_cons (ps_if ((pw_and (pt_cmpR (kEqX (K := K) hr) (pv 3) pe_int (nomark _)) (pw_and1 (pt_cmpR (kEqX (K := K) hr) (pv 4) pe_int (nomark _))))).pt (pss_one (ps_ret (pe_tup (pa_cons pe_str pa_nil)))) pss_nil)
  (pss_cons (ps_for PassesOwn.never rfl (piEnum (K := K) (by rfl) T.m_enumerate (pa_cons (pe_tup (pa_cons (pv 0) (pa_cons (pv 1) pa_nil))) pa_nil)) (pgTup (K := K) (n := 2) rfl (pgs_cons (pg_name (i := 6) sc__law_line_fault.nd rfl (Or.inl rfl)) (pgs_cons (pg_name (i := 7) sc__law_line_fault.nd rfl (Or.inl rfl)) pgs_nil)))
  (pss_cons (ps_if (pt_cmpR op_gt (pe_op (kMul (K := K)) pe_int (pe_callB (kLen (K := K)) (by rfl) T.m_len bt_len (pa_cons (pe_lc (own := [("x", 8), ("y", 9)]) rfl sc__law_line_fault.nd  (piSeq (K := K) (pv 7)) (blkOk_by (by kernel_rfl)) (fun _ _ _ _ _ => (pgTup (K := K) (n := 2) rfl (pgs_cons (pg_name (i := 8) sc__law_line_fault.nd rfl (Or.inl rfl)) (pgs_cons (pg_name (i := 9) sc__law_line_fault.nd rfl (Or.inl rfl)) pgs_nil)))) (fun _ _ _ _ _ => (pts_one (pt_cmpR op_gt (pe_op (kAdd (K := K)) (pe_op (kMul (K := K)) (pv 3) (pv 8)) (pe_op (kMul (K := K)) (pv 4) (pv 9))) (pv 5) (nomark _)))) (fun _ _ _ _ _ => pe_int)) pa_nil))) (pe_callB (kLen (K := K)) (by rfl) T.m_len bt_len (pa_cons (pv 7) pa_nil)) (nomark _)) (pss_one (ps_ret (pe_tup (pa_cons pe_str (pa_cons (pv 6) pa_nil))))) pss_nil)
  (pss_one (ps_if (pt_cmpR op_gt (pe_op (kMul (K := K)) pe_int (pe_callB (kLen (K := K)) (by rfl) T.m_len bt_len (pa_cons (pe_lc (own := [("x", 8), ("y", 9)]) rfl sc__law_line_fault.nd  (piSeq (K := K) (pv 7)) (blkOk_by (by kernel_rfl)) (fun _ _ _ _ _ => (pgTup (K := K) (n := 2) rfl (pgs_cons (pg_name (i := 8) sc__law_line_fault.nd rfl (Or.inl rfl)) (pgs_cons (pg_name (i := 9) sc__law_line_fault.nd rfl (Or.inl rfl)) pgs_nil)))) (fun _ _ _ _ _ => (pts_one (pt_cmpR op_lt (pe_op (kAdd (K := K)) (pe_op (kMul (K := K)) (pv 3) (pv 8)) (pe_op (kMul (K := K)) (pv 4) (pv 9))) (pv 5) (nomark _)))) (fun _ _ _ _ _ => pe_int)) pa_nil))) (pe_callB (kLen (K := K)) (by rfl) T.m_len bt_len (pa_cons (pv 7) pa_nil)) (nomark _)) (pss_one (ps_ret (pe_tup (pa_cons pe_str (pa_cons (pv 6) pa_nil))))) pss_nil))))
  (pss_one (ps_ret pe_non)))))), ?_⟩)
  exact body_p (n := 3) (m := 7) (Γr := [.fro, .fro, .fro, .fro, .fro, .fro, .fro]) (Γl := []) (Γ' := []) (N := ["one", "other", "value", "a", "b", "c", "i", "lot", "x", "y"]) (sem_seq (sem_if (sem_or (sem_not (sem_tB ((sem_isi ((sem_var (i := 2) rfl)).v)).v)) (sem_or (sem_test ((sem_op oe_neX ((sem_cb ca_len (sem_vcons ((sem_var (i := 2) rfl)).v sem_vnil))).v (sem_int).v)).v) (sem_test ((sem_op oe_neX ((sem_lc (semIc_seq ((sem_var (i := 2) rfl)).v) (sem_gname (i := 8) rfl) (sem_not (sem_tB ((sem_call (sem_acons (sem_var (i := 8) rfl) sem_anil))).v)) (sem_var (i := 8) rfl) (allFro rfl) (by decide))).e.v ((sem_lst sem_anil)).e.v)).v))) (sem_ret (sem_tup (sem_acons sem_str sem_anil))) sem_nx)
  (sem_seq (sem_tgt (sem_var (i := 2) rfl) (sem_gtup (sem_gscons (sem_gname (i := 3) rfl) (sem_gscons (sem_gname (i := 4) rfl) (sem_gscons (sem_gname (i := 5) rfl) sem_gsnil)))))
  (sem_seq (sem_if (sem_and (sem_test ((sem_op oe_eqX ((sem_var (i := 3) rfl)).v (sem_int).v)).v) (sem_test ((sem_op oe_eqX ((sem_var (i := 4) rfl)).v (sem_int).v)).v)) (sem_ret (sem_tup (sem_acons sem_str sem_anil))) sem_nx)
  (sem_seq (sem_for (semI_enum (sem_acons (sem_tup (sem_acons (sem_var (i := 0) rfl) (sem_acons (sem_var (i := 1) rfl) sem_anil))) sem_anil)) (sem_gtup (sem_gscons (sem_gname (i := 6) rfl) (sem_gscons (sem_gname (i := 7) rfl) sem_gsnil)))
  (sem_seq (sem_if (sem_test ((sem_op oe_gt ((sem_op oe_mulX (sem_int).v ((sem_cb ca_len (sem_vcons ((sem_lc (semIc_seq ((sem_var (i := 7) rfl)).v) (sem_gtup (sem_gscons (sem_gname (i := 8) rfl) (sem_gscons (sem_gname (i := 9) rfl) sem_gsnil))) (sem_test ((sem_op oe_gt ((sem_op oe_add ((sem_op oe_mulX ((sem_var (i := 3) rfl)).v ((sem_var (i := 8) rfl)).v)).v ((sem_op oe_mulX ((sem_var (i := 4) rfl)).v ((sem_var (i := 9) rfl)).v)).v)).v ((sem_var (i := 5) rfl)).v)).v) sem_int (allFro rfl) (by decide))).e.v sem_vnil))).v)).v ((sem_cb ca_len (sem_vcons ((sem_var (i := 7) rfl)).v sem_vnil))).v)).v) (sem_ret (sem_tup (sem_acons sem_str (sem_acons (sem_var (i := 6) rfl) sem_anil)))) sem_nx)
  (sem_if (sem_test ((sem_op oe_gt ((sem_op oe_mulX (sem_int).v ((sem_cb ca_len (sem_vcons ((sem_lc (semIc_seq ((sem_var (i := 7) rfl)).v) (sem_gtup (sem_gscons (sem_gname (i := 8) rfl) (sem_gscons (sem_gname (i := 9) rfl) sem_gsnil))) (sem_test ((sem_op oe_lt ((sem_op oe_add ((sem_op oe_mulX ((sem_var (i := 3) rfl)).v ((sem_var (i := 8) rfl)).v)).v ((sem_op oe_mulX ((sem_var (i := 4) rfl)).v ((sem_var (i := 9) rfl)).v)).v)).v ((sem_var (i := 5) rfl)).v)).v) sem_int (allFro rfl) (by decide))).e.v sem_vnil))).v)).v ((sem_cb ca_len (sem_vcons ((sem_var (i := 7) rfl)).v sem_vnil))).v)).v) (sem_ret (sem_tup (sem_acons sem_str (sem_acons (sem_var (i := 6) rfl) sem_anil)))) sem_nx)))
  (sem_ret sem_non))))) rfl rfl h
theorem b__law_fault_T (T : Tx K mg) : Binds K T.fd__law_fault ["lot", "p", "k", "value"] [] := T.F__law_fault.binds fun _ _ _ _ _ _ us hl => match us, hl with | [_, _, _, _], _ => rfl
set_option maxHeartbeats 4000000 in
theorem ok__law_fault (T : Tx K mg) : FnG Pr w K mg base 3 T.a__law_fault T.fd__law_fault ["lot", "p", "k", "value"] (spP 4 F__law_fault) := by
  refine fn_g (k := 2) T.F__law_fault sc__law_fault (fun vs H Q E h => h.1) (fun cdv A outer s H vs Q E hgd hr h => ⟨_, (pss_cons (ps_if ((pw_or (pt_not (pt_val (pe_callB (kIsi (K := K)) (by rfl) T.m_isinstance bt_isinstance (pa_cons (pv 3) (pa_cons (pe_bltn (v := .ty "tuple") (by rfl) T.m_tuple bt_tuple rfl) pa_nil))))) (pw_or1 (pt_cmpR (kNotIn (K := K) hr) (pe_callB (kReprX (K := K) hgd hr) (by rfl) T.m_repr bt_repr (pa_cons (pe_slice (kSl (K := K)) (pv 3) po_none (po_some pe_int)) pa_nil)) (pe_tup (pa_cons pe_str (pa_cons pe_str pa_nil))) (by rfl))))).pt (pss_one (ps_ret (pe_tup (pa_cons pe_str pa_nil)))) pss_nil)
  (pss_cons (ps_if (pt_cmpR (kEqX (K := K) hr) (pe_ix (kIx (K := K)) (pv 3) pe_int (fun _ _ => rfl)) pe_str (nomark _)) (pss_cons (ps_set (i := 4) sc__law_fault.nd rfl (Or.inl rfl) (pe_callG ((ok__law_depth T).mono (by decide)) hgd hr (by rfl) T.g__law_depth T.F__law_depth.kp (b__law_depth_T T) (pa_cons (pv 0) (pa_cons (pv 1) pa_nil))))
  (pss_one (ps_ret (pe_ifExp (pt_cmpR op_gt (pe_callB (kLen (K := K)) (by rfl) T.m_len bt_len (pa_cons (pv 3) pa_nil)) pe_int (nomark _)) (pe_tup (pa_cons pe_str pa_nil)) (pe_ifExp (pt_cmpR op_lt (pv 4) (pv 2) (nomark _)) (pe_tup (pa_cons pe_str (pa_cons (pv 4) pa_nil))) pe_non))))) pss_nil)
  (pss_cons (ps_if ((pw_or (pt_cmpR (kNeX (K := K) hr) (pe_callB (kLen (K := K)) (by rfl) T.m_len bt_len (pa_cons (pv 3) pa_nil)) pe_int (nomark _)) (pw_or (pt_not (pt_val (pe_callG ((ok__law_is_int T).mono (by decide)) hgd hr (by rfl) T.g__law_is_int T.F__law_is_int.kp (b__law_is_int_T T) (pa_cons (pe_ix (kIx (K := K)) (pv 3) pe_int (fun _ _ => rfl)) pa_nil)))) (pw_or (pt_not (pt_val (pe_callG ((ok__law_is_int T).mono (by decide)) hgd hr (by rfl) T.g__law_is_int T.F__law_is_int.kp (b__law_is_int_T T) (pa_cons (pe_ix (kIx (K := K)) (pv 3) pe_int (fun _ _ => rfl)) pa_nil)))) (pw_or1 ((pw_and (pt_cmpR (kEqX (K := K) hr) (pe_ix (kIx (K := K)) (pv 3) pe_int (fun _ _ => rfl)) pe_int (nomark _)) (pw_and1 (pt_cmpR (kEqX (K := K) hr) (pe_ix (kIx (K := K)) (pv 3) pe_int (fun _ _ => rfl)) pe_int (nomark _))))).pt))))).pt (pss_one (ps_ret (pe_tup (pa_cons pe_str pa_nil)))) pss_nil)
  (pss_cons (ps_set (i := 5) sc__law_fault.nd rfl (Or.inl rfl) (pe_callG ((ok__law_count T).mono (by decide)) hgd hr (by rfl) T.g__law_count T.F__law_count.kp (b__law_count_T T) (pa_cons (pv 0) (pa_cons (pv 1) (pa_cons (pe_ix (kIx (K := K)) (pv 3) pe_int (fun _ _ => rfl)) (pa_cons (pe_ix (kIx (K := K)) (pv 3) pe_int (fun _ _ => rfl)) pa_nil))))))
  (pss_one (ps_ret (pe_ifExp (pt_cmpR op_ge (pv 5) (pv 2) (nomark _)) (pe_tup (pa_cons pe_str (pa_cons (pv 5) pa_nil))) pe_non))))))), ?_⟩)
  exact body_p (n := 4) (m := 2) (Γr := [.fro, .fro]) (Γl := []) (Γ' := []) (N := ["lot", "p", "k", "value", "depth", "many"]) (sem_seq (sem_if (sem_or (sem_not (sem_tB ((sem_isi ((sem_var (i := 3) rfl)).v)).v)) (sem_test ((sem_op oe_in ((sem_cb ca_reprX (sem_vcons ((sem_sl ((sem_var (i := 3) rfl)).v sem_oNo (sem_oPart (sem_int).v))).v sem_vnil))).v ((sem_tup (sem_acons sem_str (sem_acons sem_str sem_anil)))).v)).v)) (sem_ret (sem_tup (sem_acons sem_str sem_anil))) sem_nx)
  (sem_seq (sem_if (sem_test ((sem_op oe_eqX ((sem_op oe_ix ((sem_var (i := 3) rfl)).v (sem_int).v)).v (sem_str).v)).v) (sem_seq (sem_asg (sem_call (sem_acons (sem_var (i := 0) rfl) (sem_acons (sem_var (i := 1) rfl) sem_anil))) (by decide))
  (sem_ret (sem_eIf (sem_test ((sem_op oe_gt ((sem_cb ca_len (sem_vcons ((sem_var (i := 3) rfl)).v sem_vnil))).v (sem_int).v)).v) (sem_tup (sem_acons sem_str sem_anil)) (sem_eIf (sem_test ((sem_op oe_lt ((sem_var (i := 4) rfl)).v ((sem_var (i := 2) rfl)).v)).v) (sem_tup (sem_acons sem_str (sem_acons (sem_var (i := 4) rfl) sem_anil))) sem_non)))) sem_nx)
  (sem_seq (sem_if (sem_or (sem_test ((sem_op oe_neX ((sem_cb ca_len (sem_vcons ((sem_var (i := 3) rfl)).v sem_vnil))).v (sem_int).v)).v) (sem_or (sem_not (sem_tB ((sem_call (sem_acons (sem_op oe_ix ((sem_var (i := 3) rfl)).v (sem_int).v) sem_anil))).v)) (sem_or (sem_not (sem_tB ((sem_call (sem_acons (sem_op oe_ix ((sem_var (i := 3) rfl)).v (sem_int).v) sem_anil))).v)) (sem_and (sem_test ((sem_op oe_eqX ((sem_op oe_ix ((sem_var (i := 3) rfl)).v (sem_int).v)).v (sem_int).v)).v) (sem_test ((sem_op oe_eqX ((sem_op oe_ix ((sem_var (i := 3) rfl)).v (sem_int).v)).v (sem_int).v)).v))))) (sem_ret (sem_tup (sem_acons sem_str sem_anil))) sem_nx)
  (sem_seq (sem_asg (sem_call (sem_acons (sem_var (i := 0) rfl) (sem_acons (sem_var (i := 1) rfl) (sem_acons (sem_op oe_ix ((sem_var (i := 3) rfl)).v (sem_int).v) (sem_acons (sem_op oe_ix ((sem_var (i := 3) rfl)).v (sem_int).v) sem_anil))))) (by decide))
  (sem_ret (sem_eIf (sem_test ((sem_op oe_ge ((sem_var (i := 5) rfl)).v ((sem_var (i := 2) rfl)).v)).v) (sem_tup (sem_acons sem_str (sem_acons (sem_var (i := 5) rfl) sem_anil))) sem_non)))))) rfl rfl h
theorem b_law_T (T : Tx K mg) : Binds K T.fd_law ["script"] [] := T.F_law.binds fun _ _ _ _ _ _ us hl => match us, hl with | [_], _ => rfl
set_option maxHeartbeats 4000000 in
theorem ok_law (T : Tx K mg) : FnG Pr w K mg base 9 T.a_law T.fd_law ["script"] (spLaw K) := by
  refine fn_g (k := 8) T.F_law sc_law (fun vs H Q E ⟨a, ns, e, _⟩ => by rw [e]; rfl) (fun cdv A outer s H vs Q E hgd hr h => ⟨_, (pss_cons (ps_set (i := 1) sc_law.nd rfl (Or.inr rfl) (pe_callG ((ok__law_open_cells T).mono (by decide)) hgd hr (by rfl) T.g__law_open_cells T.F__law_open_cells.kp (b__law_open_cells_T T) (pa_cons (pv 0) pa_nil)))
  (pss_cons (ps_set (i := 2) sc_law.nd rfl (Or.inr rfl) (pe_lst (pa_cons pe_non (pa_cons pe_bl (pa_cons pe_int (pa_cons pe_int (pa_cons (pe_un un_neg pe_int) (pa_cons pe_str (pa_cons pe_str (pa_cons (pe_tup pa_nil) (pa_cons (pe_tup (pa_cons pe_int pa_nil)) (pa_cons (pe_tup (pa_cons pe_int (pa_cons pe_int pa_nil))) (pa_cons (pe_lst pa_nil) (pa_cons pe_dnewK (pa_cons (pe_op op_pow pe_int pe_int) pa_nil)))))))))))))))
  (pss_cons (ps_for PassesOwn.never rfl (pi_range1 (by rfl) T.m_range (pa_cons pe_int pa_nil)) (pg_name (i := 3) sc_law.nd rfl (Or.inl rfl))
  (pss_cons (ps_par (i := 4) (j := 5) rfl sc_law.nd rfl rfl (by decide) rfl rfl (pa_cons (pe_callG ((ok__law_lot T).mono (by decide)) hgd hr (by rfl) T.g__law_lot T.F__law_lot.kp (b__law_lot_T T) (pa_cons (pv 1) (pa_cons pe_int (pa_cons (pe_ix (kIx (K := K)) (pe_lst (pa_cons pe_int (pa_cons pe_int (pa_cons pe_int (pa_cons pe_int pa_nil))))) (pv 3) (fun _ _ => rfl)) pa_nil)))) (pa_cons (pe_callG ((ok__law_lot T).mono (by decide)) hgd hr (by rfl) T.g__law_lot T.F__law_lot.kp (b__law_lot_T T) (pa_cons (pv 1) (pa_cons pe_int (pa_cons pe_int pa_nil)))) pa_nil)) (by rfl))
  (pss_cons (ps_par3 (i := 6) (j := 7) (l := 8) rfl sc_law.nd rfl rfl rfl (by decide) (by decide) (by decide) rfl rfl rfl (pa_cons (pe_callG ((ok__law_place T).mono (by decide)) hgd hr (by rfl) T.g__law_place T.F__law_place.kp (b__law_place_T T) (pa_cons (pv 1) (pa_cons (pv 4) pa_nil))) (pa_cons (pe_op (kAdd (K := K)) pe_int (pe_callG ((ok__law_pick T).mono (by decide)) hgd hr (by rfl) T.g__law_pick T.F__law_pick.kp (b__law_pick_T T) (pa_cons (pv 1) (pa_cons (pe_callB (kLen (K := K)) (by rfl) T.m_len bt_len (pa_cons (pv 4) pa_nil)) pa_nil)))) (pa_cons (pe_callB (kReprX (K := K) hgd hr) (by rfl) T.m_repr bt_repr (pa_cons (pe_lst (pa_cons (pv 4) (pa_cons (pv 5) pa_nil))) pa_nil)) pa_nil))) (by rfl))
  (pss_cons (ps_set (i := 9) sc_law.nd rfl (Or.inl rfl) (pe_callG ((ok_depth_paper T).mono (by decide)) hgd hr (by rfl) T.g_depth_paper T.F_depth_paper.kp (b_depth_paper_T T) (pa_cons (pv 4) (pa_cons (pv 6) (pa_cons (pv 7) pa_nil)))))
  (pss_cons (ps_if (pt_cmpR op_notN (pe_callG ((ok__law_fault T).mono (by decide)) hgd hr (by rfl) T.g__law_fault T.F__law_fault.kp (b__law_fault_T T) (pa_cons (pv 4) (pa_cons (pv 6) (pa_cons (pv 7) (pa_cons (pv 9) pa_nil))))) pe_non (nomark _)) (pss_one (ps_ret pe_bl)) pss_nil)
  (pss_cons (ps_par (i := 10) (j := 11) rfl sc_law.nd rfl rfl (by decide) rfl rfl (pa_cons (pe_op op_sub (pe_callG ((ok__law_pick T).mono (by decide)) hgd hr (by rfl) T.g__law_pick T.F__law_pick.kp (b__law_pick_T T) (pa_cons (pv 1) (pa_cons pe_int pa_nil))) pe_int) (pa_cons (pe_op op_sub (pe_callG ((ok__law_pick T).mono (by decide)) hgd hr (by rfl) T.g__law_pick T.F__law_pick.kp (b__law_pick_T T) (pa_cons (pv 1) (pa_cons pe_int pa_nil))) pe_int) pa_nil)) (by rfl))
  (pss_cons (ps_set (i := 12) sc_law.nd rfl (Or.inl rfl) (pe_lst (pa_cons (pv 9) (pa_cons (pe_tup (pa_cons pe_str pa_nil)) (pa_cons (pe_tup (pa_cons pe_str (pa_cons (pv 10) (pa_cons (pv 11) pa_nil)))) (pa_cons (pe_tup (pa_cons pe_str (pa_cons pe_int (pa_cons pe_int pa_nil)))) (pa_cons (pe_tup (pa_cons pe_str (pa_cons pe_int pa_nil))) (pa_cons (pe_tup (pa_cons pe_str (pa_cons (pv 10) pa_nil))) (pa_cons (pe_callTy (kLst (K := K)) (by rfl) T.m_list bt_list (pa_cons (pv 9) pa_nil)) (pa_cons (pe_revT (pv 9)) pa_nil))))))))))
  (pss_cons (ps_for PassesOwn.never rfl (piSeq (K := K) (pe_op (kAdd (K := K)) (pe_op (kAdd (K := K)) (pv 12) (pe_lst (pa_cons pe_non (pa_cons (pe_tup pa_nil) pa_nil)))) (pe_lc (own := [("early", 17)]) rfl sc_law.nd  (piSeq (K := K) (pe_op (kAdd (K := K)) (pe_slice (kSl (K := K)) (pv 12) po_none (po_some pe_int)) (pe_op (kMul (K := K)) (pe_lst (pa_cons (pv 9) pa_nil)) pe_int))) (blkOk_by (by kernel_rfl)) (fun _ _ _ _ _ => (pg_name (i := 17) sc_law.nd rfl (Or.inl rfl))) (fun _ _ _ _ _ => pts_nil) (fun _ _ _ _ _ => (pe_callG ((ok__law_bent T).mono (by decide)) hgd hr (by rfl) T.g__law_bent T.F__law_bent.kp (b__law_bent_T T) (pa_cons (pv 1) (pa_cons (pv 17) (pa_cons (pv 2) pa_nil)))))))) (pg_name (i := 13) sc_law.nd rfl (Or.inl rfl))
  (pss_cons (ps_par (i := 14) (j := 15) rfl sc_law.nd rfl rfl (by decide) rfl rfl (pa_cons (pe_callB (kReprX (K := K) hgd hr) (by rfl) T.m_repr bt_repr (pa_cons (pv 13) pa_nil)) (pa_cons (pe_callG ((ok__law_fault T).mono (by decide)) hgd hr (by rfl) T.g__law_fault T.F__law_fault.kp (b__law_fault_T T) (pa_cons (pv 4) (pa_cons (pv 6) (pa_cons (pv 7) (pa_cons (pv 13) pa_nil))))) pa_nil)) (by rfl))
  (pss_cons (ps_if ((pw_or (pt_cmpR (kNeX (K := K) hr) (pe_callB (kReprX (K := K) hgd hr) (by rfl) T.m_repr bt_repr (pa_cons (pe_callG ((ok_judge_depth T).mono (by decide)) hgd hr (by rfl) T.g_judge_depth T.F_judge_depth.kp (b_judge_depth_T T) (pa_cons (pv 4) (pa_cons (pv 6) (pa_cons (pv 7) (pa_cons (pv 13) pa_nil))))) pa_nil)) (pe_callB (kReprX (K := K) hgd hr) (by rfl) T.m_repr bt_repr (pa_cons (pv 15) pa_nil)) (nomark _)) (pw_or1 (pt_cmpR (kNeX (K := K) hr) (pe_callB (kReprX (K := K) hgd hr) (by rfl) T.m_repr bt_repr (pa_cons (pv 13) pa_nil)) (pv 14) (nomark _))))).pt (pss_one (ps_ret pe_bl)) pss_nil)
  (pss_one (ps_if ((pw_and (pt_cmpR op_isN (pv 15) pe_non (nomark _)) (pw_and1 (pt_cmpR (kNeX (K := K) hr) (pe_ix (kIx (K := K)) (pv 13) pe_int (fun _ _ => rfl)) (pe_ix (kIx (K := K)) (pv 9) pe_int (fun _ _ => rfl)) (nomark _))))).pt (pss_one (ps_ret pe_bl)) pss_nil)))))
  (pss_cons (ps_par (i := 10) (j := 11) rfl sc_law.nd rfl rfl (by decide) rfl rfl (pa_cons (pe_op op_sub (pe_callG ((ok__law_pick T).mono (by decide)) hgd hr (by rfl) T.g__law_pick T.F__law_pick.kp (b__law_pick_T T) (pa_cons (pv 1) (pa_cons pe_int pa_nil))) pe_int) (pa_cons (pe_op op_sub (pe_callG ((ok__law_pick T).mono (by decide)) hgd hr (by rfl) T.g__law_pick T.F__law_pick.kp (b__law_pick_T T) (pa_cons (pv 1) (pa_cons pe_int pa_nil))) pe_int) pa_nil)) (by rfl))
  (pss_cons (ps_set (i := 16) sc_law.nd rfl (Or.inl rfl) (pe_tup (pa_cons (pv 10) (pa_cons (pv 11) (pa_cons (pe_op op_fdivF (pe_callB (kSumX (K := K) rfl) (by rfl) T.m_sum bt_sum (pa_cons (pe_callG ((ok__law_middles T).mono (by decide)) hgd hr (by rfl) T.g__law_middles T.F__law_middles.kp (b__law_middles_T T) (pa_cons (pv 4) (pa_cons (pv 10) (pa_cons (pv 11) pa_nil)))) pa_nil)) pe_int) pa_nil)))))
  (pss_cons (ps_set (i := 12) sc_law.nd rfl (Or.inl rfl) (pe_lst (pa_cons (pv 16) (pa_cons (pe_tup (pa_cons (pv 10) (pa_cons (pv 11) (pa_cons (pe_ix (kIx (K := K)) (pe_callG ((ok__law_middles T).mono (by decide)) hgd hr (by rfl) T.g__law_middles T.F__law_middles.kp (b__law_middles_T T) (pa_cons (pv 5) (pa_cons (pv 10) (pa_cons (pv 11) pa_nil)))) pe_int (fun _ _ => rfl)) pa_nil)))) (pa_cons (pe_tup (pa_cons pe_int (pa_cons pe_int (pa_cons pe_int pa_nil)))) (pa_cons (pe_tup (pa_cons (pv 10) (pa_cons (pv 11) pa_nil))) (pa_cons (pe_callTy (kLst (K := K)) (by rfl) T.m_list bt_list (pa_cons (pv 16) pa_nil)) (pa_cons pe_non (pa_cons (pe_tup pa_nil) (pa_cons (pe_tup (pa_cons (pv 10) (pa_cons (pv 11) (pa_cons pe_bl pa_nil)))) pa_nil))))))))))
  (pss_cons (ps_for PassesOwn.never rfl (piSeq (K := K) (pe_op (kAdd (K := K)) (pv 12) (pe_lc (own := [("early", 17)]) rfl sc_law.nd  (piSeq (K := K) (pe_op (kMul (K := K)) (pe_slice (kSl (K := K)) (pv 12) po_none (po_some pe_int)) pe_int)) (blkOk_by (by kernel_rfl)) (fun _ _ _ _ _ => (pg_name (i := 17) sc_law.nd rfl (Or.inl rfl))) (fun _ _ _ _ _ => pts_nil) (fun _ _ _ _ _ => (pe_callG ((ok__law_bent T).mono (by decide)) hgd hr (by rfl) T.g__law_bent T.F__law_bent.kp (b__law_bent_T T) (pa_cons (pv 1) (pa_cons (pv 17) (pa_cons (pv 2) pa_nil)))))))) (pg_name (i := 13) sc_law.nd rfl (Or.inl rfl))
  (pss_cons (ps_par (i := 14) (j := 15) rfl sc_law.nd rfl rfl (by decide) rfl rfl (pa_cons (pe_callB (kReprX (K := K) hgd hr) (by rfl) T.m_repr bt_repr (pa_cons (pv 13) pa_nil)) (pa_cons (pe_callG ((ok__law_line_fault T).mono (by decide)) hgd hr (by rfl) T.g__law_line_fault T.F__law_line_fault.kp (b__law_line_fault_T T) (pa_cons (pv 4) (pa_cons (pv 5) (pa_cons (pv 13) pa_nil)))) pa_nil)) (by rfl))
  (pss_one (ps_if ((pw_or (pt_cmpR (kNeX (K := K) hr) (pe_callB (kReprX (K := K) hgd hr) (by rfl) T.m_repr bt_repr (pa_cons (pe_callG ((ok_judge_halving T).mono (by decide)) hgd hr (by rfl) T.g_judge_halving T.F_judge_halving.kp (b_judge_halving_T T) (pa_cons (pv 4) (pa_cons (pv 5) (pa_cons (pv 13) pa_nil)))) pa_nil)) (pe_callB (kReprX (K := K) hgd hr) (by rfl) T.m_repr bt_repr (pa_cons (pv 15) pa_nil)) (nomark _)) (pw_or1 (pt_cmpR (kNeX (K := K) hr) (pe_callB (kReprX (K := K) hgd hr) (by rfl) T.m_repr bt_repr (pa_cons (pv 13) pa_nil)) (pv 14) (nomark _))))).pt (pss_one (ps_ret pe_bl)) pss_nil))))
  (pss_one (ps_if (pt_cmpR (kNeX (K := K) hr) (pe_callB (kReprX (K := K) hgd hr) (by rfl) T.m_repr bt_repr (pa_cons (pe_lst (pa_cons (pv 4) (pa_cons (pv 5) pa_nil))) pa_nil)) (pv 8) (nomark _)) (pss_one (ps_ret pe_bl)) pss_nil))))))))))))))
  (pss_one (ps_ret (pe_cmpR (kEqX (K := K) hr) (pe_callG ((ok_judge_halving T).mono (by decide)) hgd hr (by rfl) T.g_judge_halving T.F_judge_halving.kp (b_judge_halving_T T) (pa_cons (pe_tup (pa_cons (pe_tup (pa_cons pe_int (pa_cons pe_int pa_nil))) (pa_cons (pe_tup (pa_cons pe_int (pa_cons pe_int pa_nil))) pa_nil))) (pa_cons (pe_tup (pa_cons (pe_tup (pa_cons pe_int (pa_cons pe_int pa_nil))) (pa_cons (pe_tup (pa_cons pe_int (pa_cons pe_int pa_nil))) pa_nil))) (pa_cons (pe_tup (pa_cons pe_int (pa_cons pe_int (pa_cons pe_int pa_nil)))) pa_nil)))) (pe_tup (pa_cons pe_str (pa_cons pe_int pa_nil))) (nomark _))))))), ?_⟩)
  exact law_rest (K := K) (N := ["script", "source", "odd", "lap", "lot", "other", "p", "k", "kept", "told", "a", "b", "some", "value", "held", "due", "line", "early"]) (Γr := [.fro, .fro, .fro, .fro, .fro, .fro, .fro, .fro, .fro, .fro, .fro, .fro, .fro, .fro, .fro, .fro]) (Γ' := []) (to := tNil) (fun src cl => (sem_seq (sem_asg ((sem_lst (sem_acons sem_non (sem_acons sem_bl (sem_acons sem_int (sem_acons sem_int (sem_acons (sem_un oe_neg (sem_int).v) (sem_acons sem_str (sem_acons sem_str (sem_acons (sem_tup sem_anil) (sem_acons (sem_tup (sem_acons sem_int sem_anil)) (sem_acons (sem_tup (sem_acons sem_int (sem_acons sem_int sem_anil))) (sem_acons ((sem_lst sem_anil)).e (sem_acons sem_dct (sem_acons (sem_powc (a := 10) (b := 20) ⟨by decide, by decide, by decide⟩) sem_anil))))))))))))))).e (by decide))
  (sem_seq (sem_for (semI_rng1 (sem_vcons (sem_int).v sem_vnil)) (sem_gname (i := 3) rfl)
  (sem_seq (sem_par (sem_acons (sem_callX (i := 1) rfl (sem_acons sem_int (sem_acons (sem_op oe_ix ((sem_lst (sem_acons sem_int (sem_acons sem_int (sem_acons sem_int (sem_acons sem_int sem_anil)))))).e.v ((sem_var (i := 3) rfl)).v) sem_anil))) (sem_acons (sem_callX (i := 1) rfl (sem_acons sem_int (sem_acons sem_int sem_anil))) sem_anil)) rfl rfl)
  (sem_seq (sem_par3 (sem_acons (sem_callX (i := 1) rfl (sem_acons (sem_var (i := 4) rfl) sem_anil)) (sem_acons (sem_op oe_add (sem_int).v ((sem_callX (i := 1) rfl (sem_acons (sem_cb ca_len (sem_vcons ((sem_var (i := 4) rfl)).v sem_vnil)) sem_anil))).v) (sem_acons (sem_cb ca_reprX (sem_vcons ((sem_lst (sem_acons (sem_var (i := 4) rfl) (sem_acons (sem_var (i := 5) rfl) sem_anil)))).e.v sem_vnil)) sem_anil))) rfl rfl rfl)
  (sem_seq (sem_asg (sem_call (sem_acons (sem_var (i := 4) rfl) (sem_acons (sem_var (i := 6) rfl) (sem_acons (sem_var (i := 7) rfl) sem_anil)))) (by decide))
  (sem_seq (sem_if (sem_test ((sem_notN ((sem_call (sem_acons (sem_var (i := 4) rfl) (sem_acons (sem_var (i := 6) rfl) (sem_acons (sem_var (i := 7) rfl) (sem_acons (sem_var (i := 9) rfl) sem_anil)))))).v)).v) (sem_ret sem_bl) sem_nx)
  (sem_seq (sem_par (sem_acons (sem_op oe_sub ((sem_callX (i := 1) rfl (sem_acons sem_int sem_anil))).v (sem_int).v) (sem_acons (sem_op oe_sub ((sem_callX (i := 1) rfl (sem_acons sem_int sem_anil))).v (sem_int).v) sem_anil)) rfl rfl)
  (sem_seq (sem_asg ((sem_lst (sem_acons (sem_var (i := 9) rfl) (sem_acons (sem_tup (sem_acons sem_str sem_anil)) (sem_acons (sem_tup (sem_acons sem_str (sem_acons (sem_var (i := 10) rfl) (sem_acons (sem_var (i := 11) rfl) sem_anil)))) (sem_acons (sem_tup (sem_acons sem_str (sem_acons sem_int (sem_acons sem_int sem_anil)))) (sem_acons (sem_tup (sem_acons sem_str (sem_acons sem_int sem_anil))) (sem_acons (sem_tup (sem_acons sem_str (sem_acons (sem_var (i := 10) rfl) sem_anil))) (sem_acons ((sem_cbL ca_lst (sem_vcons ((sem_var (i := 9) rfl)).v sem_vnil))).e (sem_acons (sem_revT ((sem_var (i := 9) rfl)).v) sem_anil)))))))))).e (by decide))
  (sem_seq (sem_for (semI_seq (sem_op oe_add ((sem_op oe_add ((sem_var (i := 12) rfl)).v ((sem_lst (sem_acons sem_non (sem_acons (sem_tup sem_anil) sem_anil)))).e.v)).v ((sem_lc (semIc_seq ((sem_op oe_add ((sem_sl ((sem_var (i := 12) rfl)).v sem_oNo (sem_oPart (sem_int).v))).v ((sem_repL ((sem_lst (sem_acons (sem_var (i := 9) rfl) sem_anil))).e.v (sem_int).v)).e.v)).v) (sem_gname (i := 17) rfl) sem_yes (sem_callX (i := 1) rfl (sem_acons (sem_var (i := 17) rfl) (sem_acons (sem_var (i := 2) rfl) sem_anil))) (allFro rfl) (by decide))).e.v)) (sem_gname (i := 13) rfl)
  (sem_seq (sem_par (sem_acons (sem_cb ca_reprX (sem_vcons ((sem_var (i := 13) rfl)).v sem_vnil)) (sem_acons (sem_call (sem_acons (sem_var (i := 4) rfl) (sem_acons (sem_var (i := 6) rfl) (sem_acons (sem_var (i := 7) rfl) (sem_acons (sem_var (i := 13) rfl) sem_anil))))) sem_anil)) rfl rfl)
  (sem_seq (sem_if (sem_or (sem_test ((sem_op oe_neX ((sem_cb ca_reprX (sem_vcons ((sem_call (sem_acons (sem_var (i := 4) rfl) (sem_acons (sem_var (i := 6) rfl) (sem_acons (sem_var (i := 7) rfl) (sem_acons (sem_var (i := 13) rfl) sem_anil)))))).v sem_vnil))).v ((sem_cb ca_reprX (sem_vcons ((sem_var (i := 15) rfl)).v sem_vnil))).v)).v) (sem_test ((sem_op oe_neX ((sem_cb ca_reprX (sem_vcons ((sem_var (i := 13) rfl)).v sem_vnil))).v ((sem_var (i := 14) rfl)).v)).v)) (sem_ret sem_bl) sem_nx)
  (sem_if (sem_and (sem_test ((sem_isN ((sem_var (i := 15) rfl)).v)).v) (sem_test ((sem_op oe_neX ((sem_op oe_ix ((sem_var (i := 13) rfl)).v (sem_int).v)).v ((sem_op oe_ix ((sem_var (i := 9) rfl)).v (sem_int).v)).v)).v)) (sem_ret sem_bl) sem_nx))))
  (sem_seq (sem_par (sem_acons (sem_op oe_sub ((sem_callX (i := 1) rfl (sem_acons sem_int sem_anil))).v (sem_int).v) (sem_acons (sem_op oe_sub ((sem_callX (i := 1) rfl (sem_acons sem_int sem_anil))).v (sem_int).v) sem_anil)) rfl rfl)
  (sem_seq (sem_asg (sem_tup (sem_acons (sem_var (i := 10) rfl) (sem_acons (sem_var (i := 11) rfl) (sem_acons (sem_op oe_fdiv ((sem_cb ca_sumX (sem_vcons ((sem_call (sem_acons (sem_var (i := 4) rfl) (sem_acons (sem_var (i := 10) rfl) (sem_acons (sem_var (i := 11) rfl) sem_anil))))).v sem_vnil))).v (sem_int).v) sem_anil)))) (by decide))
  (sem_seq (sem_asg ((sem_lst (sem_acons (sem_var (i := 16) rfl) (sem_acons (sem_tup (sem_acons (sem_var (i := 10) rfl) (sem_acons (sem_var (i := 11) rfl) (sem_acons (sem_op oe_ix ((sem_call (sem_acons (sem_var (i := 5) rfl) (sem_acons (sem_var (i := 10) rfl) (sem_acons (sem_var (i := 11) rfl) sem_anil))))).v (sem_int).v) sem_anil)))) (sem_acons (sem_tup (sem_acons sem_int (sem_acons sem_int (sem_acons sem_int sem_anil)))) (sem_acons (sem_tup (sem_acons (sem_var (i := 10) rfl) (sem_acons (sem_var (i := 11) rfl) sem_anil))) (sem_acons ((sem_cbL ca_lst (sem_vcons ((sem_var (i := 16) rfl)).v sem_vnil))).e (sem_acons sem_non (sem_acons (sem_tup sem_anil) (sem_acons (sem_tup (sem_acons (sem_var (i := 10) rfl) (sem_acons (sem_var (i := 11) rfl) (sem_acons sem_bl sem_anil)))) sem_anil)))))))))).e (by decide))
  (sem_seq (sem_for (semI_seq (sem_op oe_add ((sem_var (i := 12) rfl)).v ((sem_lc (semIc_seq ((sem_repL ((sem_sl ((sem_var (i := 12) rfl)).v sem_oNo (sem_oPart (sem_int).v))).v (sem_int).v)).e.v) (sem_gname (i := 17) rfl) sem_yes (sem_callX (i := 1) rfl (sem_acons (sem_var (i := 17) rfl) (sem_acons (sem_var (i := 2) rfl) sem_anil))) (allFro rfl) (by decide))).e.v)) (sem_gname (i := 13) rfl)
  (sem_seq (sem_par (sem_acons (sem_cb ca_reprX (sem_vcons ((sem_var (i := 13) rfl)).v sem_vnil)) (sem_acons (sem_call (sem_acons (sem_var (i := 4) rfl) (sem_acons (sem_var (i := 5) rfl) (sem_acons (sem_var (i := 13) rfl) sem_anil)))) sem_anil)) rfl rfl)
  (sem_if (sem_or (sem_test ((sem_op oe_neX ((sem_cb ca_reprX (sem_vcons ((sem_call (sem_acons (sem_var (i := 4) rfl) (sem_acons (sem_var (i := 5) rfl) (sem_acons (sem_var (i := 13) rfl) sem_anil))))).v sem_vnil))).v ((sem_cb ca_reprX (sem_vcons ((sem_var (i := 15) rfl)).v sem_vnil))).v)).v) (sem_test ((sem_op oe_neX ((sem_cb ca_reprX (sem_vcons ((sem_var (i := 13) rfl)).v sem_vnil))).v ((sem_var (i := 14) rfl)).v)).v)) (sem_ret sem_bl) sem_nx)))
  (sem_if (sem_test ((sem_op oe_neX ((sem_cb ca_reprX (sem_vcons ((sem_lst (sem_acons (sem_var (i := 4) rfl) (sem_acons (sem_var (i := 5) rfl) sem_anil)))).e.v sem_vnil))).v ((sem_var (i := 8) rfl)).v)).v) (sem_ret sem_bl) sem_nx)))))))))))))
  (sem_ret (sem_op oe_eqX ((sem_call (sem_acons (sem_tup (sem_acons (sem_tup (sem_acons sem_int (sem_acons sem_int sem_anil))) (sem_acons (sem_tup (sem_acons sem_int (sem_acons sem_int sem_anil))) sem_anil))) (sem_acons (sem_tup (sem_acons (sem_tup (sem_acons sem_int (sem_acons sem_int sem_anil))) (sem_acons (sem_tup (sem_acons sem_int (sem_acons sem_int sem_anil))) sem_anil))) (sem_acons (sem_tup (sem_acons sem_int (sem_acons sem_int (sem_acons sem_int sem_anil)))) sem_anil))))).v ((sem_tup (sem_acons sem_str (sem_acons sem_int sem_anil)))).v))))) rfl law_true h
end
end L93
namespace L93
open PySem PySem.Spec PyProof.Rows L2 Py StX
theorem all_mk {l : PySem.W.OpenLaw} {w : World} {K : PySem.W.Frag} {h : Heap} {mg : Str → Option Value} {fa : Addr} (X : K.In h) (G : h.Ns mainGlobals mg) (hfa : mg "law" = some (.ref fa))
    {f0 : Addr} {od0 an0 : Option Addr} {sl0 : Array (Option Value)} {oc0 kV0 dc0 pm0 cd0 ct0 : Value}
    {f1 : Addr} {od1 an1 : Option Addr} {sl1 : Array (Option Value)} {oc1 kV1 dc1 pm1 cd1 ct1 : Value}
    {f2 : Addr} {od2 an2 : Option Addr} {sl2 : Array (Option Value)} {oc2 kV2 dc2 pm2 cd2 ct2 : Value}
    {f3 : Addr} {od3 an3 : Option Addr} {sl3 : Array (Option Value)} {oc3 kV3 dc3 pm3 cd3 ct3 : Value}
    {f4 : Addr} {od4 an4 : Option Addr} {sl4 : Array (Option Value)} {oc4 kV4 dc4 pm4 cd4 ct4 : Value}
    {f5 : Addr} {od5 an5 : Option Addr} {sl5 : Array (Option Value)} {oc5 kV5 dc5 pm5 cd5 ct5 : Value}
    {f6 : Addr} {od6 an6 : Option Addr} {sl6 : Array (Option Value)} {oc6 kV6 dc6 pm6 cd6 ct6 : Value}
    {f7 : Addr} {od7 an7 : Option Addr} {sl7 : Array (Option Value)} {oc7 kV7 dc7 pm7 cd7 ct7 : Value}
    {f8 : Addr} {od8 an8 : Option Addr} {sl8 : Array (Option Value)} {oc8 kV8 dc8 pm8 cd8 ct8 : Value}
    {f9 : Addr} {od9 an9 : Option Addr} {sl9 : Array (Option Value)} {oc9 kV9 dc9 pm9 cd9 ct9 : Value}
    {f10 : Addr} {od10 an10 : Option Addr} {sl10 : Array (Option Value)} {oc10 kV10 dc10 pm10 cd10 ct10 : Value}
    {f11 : Addr} {od11 an11 : Option Addr} {sl11 : Array (Option Value)} {oc11 kV11 dc11 pm11 cd11 ct11 : Value}
    {f12 : Addr} {od12 an12 : Option Addr} {sl12 : Array (Option Value)} {oc12 kV12 dc12 pm12 cd12 ct12 : Value}
    {f13 : Addr} {od13 an13 : Option Addr} {sl13 : Array (Option Value)} {oc13 kV13 dc13 pm13 cd13 ct13 : Value}
    {f14 : Addr} {od14 an14 : Option Addr} {sl14 : Array (Option Value)} {oc14 kV14 dc14 pm14 cd14 ct14 : Value}
    {f15 : Addr} {od15 an15 : Option Addr} {sl15 : Array (Option Value)} {oc15 kV15 dc15 pm15 cd15 ct15 : Value}
    {f16 : Addr} {od16 an16 : Option Addr} {sl16 : Array (Option Value)} {oc16 kV16 dc16 pm16 cd16 ct16 : Value}
    {f17 : Addr} {od17 an17 : Option Addr} {sl17 : Array (Option Value)} {oc17 kV17 dc17 pm17 cd17 ct17 : Value}
    {f18 : Addr} {od18 an18 : Option Addr} {sl18 : Array (Option Value)} {oc18 kV18 dc18 pm18 cd18 ct18 : Value}
    {f19 : Addr} {od19 an19 : Option Addr} {sl19 : Array (Option Value)} {oc19 kV19 dc19 pm19 cd19 ct19 : Value}
    {f20 : Addr} {od20 an20 : Option Addr} {sl20 : Array (Option Value)} {oc20 kV20 dc20 pm20 cd20 ct20 : Value}
    {f21 : Addr} {od21 an21 : Option Addr} {sl21 : Array (Option Value)} {oc21 kV21 dc21 pm21 cd21 ct21 : Value}
    {f22 : Addr} {od22 an22 : Option Addr} {sl22 : Array (Option Value)} {oc22 kV22 dc22 pm22 cd22 ct22 : Value}
    {f23 : Addr} {od23 an23 : Option Addr} {sl23 : Array (Option Value)} {oc23 kV23 dc23 pm23 cd23 ct23 : Value}
    {f24 : Addr} {od24 an24 : Option Addr} {sl24 : Array (Option Value)} {oc24 kV24 dc24 pm24 cd24 ct24 : Value}
    {f25 : Addr} {od25 an25 : Option Addr} {sl25 : Array (Option Value)} {oc25 kV25 dc25 pm25 cd25 ct25 : Value}
    {f26 : Addr} {od26 an26 : Option Addr} {sl26 : Array (Option Value)} {oc26 kV26 dc26 pm26 cd26 ct26 : Value}
    {f27 : Addr} {od27 an27 : Option Addr} {sl27 : Array (Option Value)} {oc27 kV27 dc27 pm27 cd27 ct27 : Value}
    {f28 : Addr} {od28 an28 : Option Addr} {sl28 : Array (Option Value)} {oc28 kV28 dc28 pm28 cd28 ct28 : Value}
    {f29 : Addr} {od29 an29 : Option Addr} {sl29 : Array (Option Value)} {oc29 kV29 dc29 pm29 cd29 ct29 : Value}
    {f30 : Addr} {od30 an30 : Option Addr} {sl30 : Array (Option Value)} {oc30 kV30 dc30 pm30 cd30 ct30 : Value}
    {f31 : Addr} {od31 an31 : Option Addr} {sl31 : Array (Option Value)} {oc31 kV31 dc31 pm31 cd31 ct31 : Value}
    {f32 : Addr} {od32 an32 : Option Addr} {sl32 : Array (Option Value)} {oc32 kV32 dc32 pm32 cd32 ct32 : Value}
    {f33 : Addr} {od33 an33 : Option Addr} {sl33 : Array (Option Value)} {oc33 kV33 dc33 pm33 cd33 ct33 : Value}
    {f34 : Addr} {od34 an34 : Option Addr} {sl34 : Array (Option Value)} {oc34 kV34 dc34 pm34 cd34 ct34 : Value}
    {f35 : Addr} {od35 an35 : Option Addr} {sl35 : Array (Option Value)} {oc35 kV35 dc35 pm35 cd35 ct35 : Value}
    (a0 : PySem.W.nsIn K mainGlobals "shared_bottom" = some (some (.ref f0))) (l0 : K.lookup f0 = some ⟨oc0, od0, .func (PySem.W.fnOf "shared_bottom" "shared_bottom" (defArgs s_shared_bottom) (defBody s_shared_bottom) (defScope s_shared_bottom) .none kV0 dc0 pm0 an0 cd0 ct0), sl0⟩) (c0 : PySem.W.codeIn K cd0 "shared_bottom" = true) (k0 : PySem.W.keepIn K (.ref f0) = true)
    (a1 : PySem.W.nsIn K mainGlobals "ways_from" = some (some (.ref f1))) (l1 : K.lookup f1 = some ⟨oc1, od1, .func (PySem.W.fnOf "ways_from" "ways_from" (defArgs s_ways_from) (defBody s_ways_from) (defScope s_ways_from) .none kV1 dc1 pm1 an1 cd1 ct1), sl1⟩) (c1 : PySem.W.codeIn K cd1 "ways_from" = true) (k1 : PySem.W.keepIn K (.ref f1) = true)
    (a2 : PySem.W.nsIn K mainGlobals "told_by" = some (some (.ref f2))) (l2 : K.lookup f2 = some ⟨oc2, od2, .func (PySem.W.fnOf "told_by" "told_by" (defArgs s_told_by) (defBody s_told_by) (defScope s_told_by) .none kV2 dc2 pm2 an2 cd2 ct2), sl2⟩) (c2 : PySem.W.codeIn K cd2 "told_by" = true) (k2 : PySem.W.keepIn K (.ref f2) = true)
    (a3 : PySem.W.nsIn K mainGlobals "many_on_side" = some (some (.ref f3))) (l3 : K.lookup f3 = some ⟨oc3, od3, .func (PySem.W.fnOf "many_on_side" "many_on_side" (defArgs s_many_on_side) (defBody s_many_on_side) (defScope s_many_on_side) .none kV3 dc3 pm3 an3 cd3 ct3), sl3⟩) (c3 : PySem.W.codeIn K cd3 "many_on_side" = true) (k3 : PySem.W.keepIn K (.ref f3) = true)
    (a4 : PySem.W.nsIn K mainGlobals "side_count" = some (some (.ref f4))) (l4 : K.lookup f4 = some ⟨oc4, od4, .func (PySem.W.fnOf "side_count" "side_count" (defArgs s_side_count) (defBody s_side_count) (defScope s_side_count) .none kV4 dc4 pm4 an4 cd4 ct4), sl4⟩) (c4 : PySem.W.codeIn K cd4 "side_count" = true) (k4 : PySem.W.keepIn K (.ref f4) = true)
    (a5 : PySem.W.nsIn K mainGlobals "lowest_way" = some (some (.ref f5))) (l5 : K.lookup f5 = some ⟨oc5, od5, .func (PySem.W.fnOf "lowest_way" "lowest_way" (defArgs s_lowest_way) (defBody s_lowest_way) (defScope s_lowest_way) .none kV5 dc5 pm5 an5 cd5 ct5), sl5⟩) (c5 : PySem.W.codeIn K cd5 "lowest_way" = true) (k5 : PySem.W.keepIn K (.ref f5) = true)
    (a6 : PySem.W.nsIn K mainGlobals "is_lower" = some (some (.ref f6))) (l6 : K.lookup f6 = some ⟨oc6, od6, .func (PySem.W.fnOf "is_lower" "is_lower" (defArgs s_is_lower) (defBody s_is_lower) (defScope s_is_lower) .none kV6 dc6 pm6 an6 cd6 ct6), sl6⟩) (c6 : PySem.W.codeIn K cd6 "is_lower" = true) (k6 : PySem.W.keepIn K (.ref f6) = true)
    (a7 : PySem.W.nsIn K mainGlobals "turn_between" = some (some (.ref f7))) (l7 : K.lookup f7 = some ⟨oc7, od7, .func (PySem.W.fnOf "turn_between" "turn_between" (defArgs s_turn_between) (defBody s_turn_between) (defScope s_turn_between) .none kV7 dc7 pm7 an7 cd7 ct7), sl7⟩) (c7 : PySem.W.codeIn K cd7 "turn_between" = true) (k7 : PySem.W.keepIn K (.ref f7) = true)
    (a8 : PySem.W.nsIn K mainGlobals "is_earlier_way" = some (some (.ref f8))) (l8 : K.lookup f8 = some ⟨oc8, od8, .func (PySem.W.fnOf "is_earlier_way" "is_earlier_way" (defArgs s_is_earlier_way) (defBody s_is_earlier_way) (defScope s_is_earlier_way) .none kV8 dc8 pm8 an8 cd8 ct8), sl8⟩) (c8 : PySem.W.codeIn K cd8 "is_earlier_way" = true) (k8 : PySem.W.keepIn K (.ref f8) = true)
    (a9 : PySem.W.nsIn K mainGlobals "put_way" = some (some (.ref f9))) (l9 : K.lookup f9 = some ⟨oc9, od9, .func (PySem.W.fnOf "put_way" "put_way" (defArgs s_put_way) (defBody s_put_way) (defScope s_put_way) .none kV9 dc9 pm9 an9 cd9 ct9), sl9⟩) (c9 : PySem.W.codeIn K cd9 "put_way" = true) (k9 : PySem.W.keepIn K (.ref f9) = true)
    (a10 : PySem.W.nsIn K mainGlobals "round_of_ways" = some (some (.ref f10))) (l10 : K.lookup f10 = some ⟨oc10, od10, .func (PySem.W.fnOf "round_of_ways" "round_of_ways" (defArgs s_round_of_ways) (defBody s_round_of_ways) (defScope s_round_of_ways) .none kV10 dc10 pm10 an10 cd10 ct10), sl10⟩) (c10 : PySem.W.codeIn K cd10 "round_of_ways" = true) (k10 : PySem.W.keepIn K (.ref f10) = true)
    (a11 : PySem.W.nsIn K mainGlobals "ways_between" = some (some (.ref f11))) (l11 : K.lookup f11 = some ⟨oc11, od11, .func (PySem.W.fnOf "ways_between" "ways_between" (defArgs s_ways_between) (defBody s_ways_between) (defScope s_ways_between) .none kV11 dc11 pm11 an11 cd11 ct11), sl11⟩) (c11 : PySem.W.codeIn K cd11 "ways_between" = true) (k11 : PySem.W.keepIn K (.ref f11) = true)
    (a12 : PySem.W.nsIn K mainGlobals "sides_told" = some (some (.ref f12))) (l12 : K.lookup f12 = some ⟨oc12, od12, .func (PySem.W.fnOf "sides_told" "sides_told" (defArgs s_sides_told) (defBody s_sides_told) (defScope s_sides_told) .none kV12 dc12 pm12 an12 cd12 ct12), sl12⟩) (c12 : PySem.W.codeIn K cd12 "sides_told" = true) (k12 : PySem.W.keepIn K (.ref f12) = true)
    (a13 : PySem.W.nsIn K mainGlobals "depth_of" = some (some (.ref f13))) (l13 : K.lookup f13 = some ⟨oc13, od13, .func (PySem.W.fnOf "depth_of" "depth_of" (defArgs s_depth_of) (defBody s_depth_of) (defScope s_depth_of) .none kV13 dc13 pm13 an13 cd13 ct13), sl13⟩) (c13 : PySem.W.codeIn K cd13 "depth_of" = true) (k13 : PySem.W.keepIn K (.ref f13) = true)
    (a14 : PySem.W.nsIn K mainGlobals "least_side" = some (some (.ref f14))) (l14 : K.lookup f14 = some ⟨oc14, od14, .func (PySem.W.fnOf "least_side" "least_side" (defArgs s_least_side) (defBody s_least_side) (defScope s_least_side) .none kV14 dc14 pm14 an14 cd14 ct14), sl14⟩) (c14 : PySem.W.codeIn K cd14 "least_side" = true) (k14 : PySem.W.keepIn K (.ref f14) = true)
    (a15 : PySem.W.nsIn K mainGlobals "many_more" = some (some (.ref f15))) (l15 : K.lookup f15 = some ⟨oc15, od15, .func (PySem.W.fnOf "many_more" "many_more" (defArgs s_many_more) (defBody s_many_more) (defScope s_many_more) .none kV15 dc15 pm15 an15 cd15 ct15), sl15⟩) (c15 : PySem.W.codeIn K cd15 "many_more" = true) (k15 : PySem.W.keepIn K (.ref f15) = true)
    (a16 : PySem.W.nsIn K mainGlobals "many_less" = some (some (.ref f16))) (l16 : K.lookup f16 = some ⟨oc16, od16, .func (PySem.W.fnOf "many_less" "many_less" (defArgs s_many_less) (defBody s_many_less) (defScope s_many_less) .none kV16 dc16 pm16 an16 cd16 ct16), sl16⟩) (c16 : PySem.W.codeIn K cd16 "many_less" = true) (k16 : PySem.W.keepIn K (.ref f16) = true)
    (a17 : PySem.W.nsIn K mainGlobals "depth_paper" = some (some (.ref f17))) (l17 : K.lookup f17 = some ⟨oc17, od17, .func (PySem.W.fnOf "depth_paper" "depth_paper" (defArgs s_depth_paper) (defBody s_depth_paper) (defScope s_depth_paper) .none kV17 dc17 pm17 an17 cd17 ct17), sl17⟩) (c17 : PySem.W.codeIn K cd17 "depth_paper" = true) (k17 : PySem.W.keepIn K (.ref f17) = true)
    (a18 : PySem.W.nsIn K mainGlobals "are_whole_numbers" = some (some (.ref f18))) (l18 : K.lookup f18 = some ⟨oc18, od18, .func (PySem.W.fnOf "are_whole_numbers" "are_whole_numbers" (defArgs s_are_whole_numbers) (defBody s_are_whole_numbers) (defScope s_are_whole_numbers) .none kV18 dc18 pm18 an18 cd18 ct18), sl18⟩) (c18 : PySem.W.codeIn K cd18 "are_whole_numbers" = true) (k18 : PySem.W.keepIn K (.ref f18) = true)
    (a19 : PySem.W.nsIn K mainGlobals "judge_depth" = some (some (.ref f19))) (l19 : K.lookup f19 = some ⟨oc19, od19, .func (PySem.W.fnOf "judge_depth" "judge_depth" (defArgs s_judge_depth) (defBody s_judge_depth) (defScope s_judge_depth) .none kV19 dc19 pm19 an19 cd19 ct19), sl19⟩) (c19 : PySem.W.codeIn K cd19 "judge_depth" = true) (k19 : PySem.W.keepIn K (.ref f19) = true)
    (a20 : PySem.W.nsIn K mainGlobals "judge_halving" = some (some (.ref f20))) (l20 : K.lookup f20 = some ⟨oc20, od20, .func (PySem.W.fnOf "judge_halving" "judge_halving" (defArgs s_judge_halving) (defBody s_judge_halving) (defScope s_judge_halving) .none kV20 dc20 pm20 an20 cd20 ct20), sl20⟩) (c20 : PySem.W.codeIn K cd20 "judge_halving" = true) (k20 : PySem.W.keepIn K (.ref f20) = true)
    (a21 : PySem.W.nsIn K mainGlobals "_law_open_cells" = some (some (.ref f21))) (l21 : K.lookup f21 = some ⟨oc21, od21, .func (PySem.W.fnOf "_law_open_cells" "_law_open_cells" (defArgs s__law_open_cells) (defBody s__law_open_cells) (defScope s__law_open_cells) .none kV21 dc21 pm21 an21 cd21 ct21), sl21⟩) (c21 : PySem.W.codeIn K cd21 "_law_open_cells" = true) (k21 : PySem.W.keepIn K (.ref f21) = true)
    (a22 : PySem.W.nsIn K mainGlobals "_law_pick" = some (some (.ref f22))) (l22 : K.lookup f22 = some ⟨oc22, od22, .func (PySem.W.fnOf "_law_pick" "_law_pick" (defArgs s__law_pick) (defBody s__law_pick) (defScope s__law_pick) .none kV22 dc22 pm22 an22 cd22 ct22), sl22⟩) (c22 : PySem.W.codeIn K cd22 "_law_pick" = true) (k22 : PySem.W.keepIn K (.ref f22) = true)
    (a23 : PySem.W.nsIn K mainGlobals "_law_of" = some (some (.ref f23))) (l23 : K.lookup f23 = some ⟨oc23, od23, .func (PySem.W.fnOf "_law_of" "_law_of" (defArgs s__law_of) (defBody s__law_of) (defScope s__law_of) .none kV23 dc23 pm23 an23 cd23 ct23), sl23⟩) (c23 : PySem.W.codeIn K cd23 "_law_of" = true) (k23 : PySem.W.keepIn K (.ref f23) = true)
    (a24 : PySem.W.nsIn K mainGlobals "_law_is_int" = some (some (.ref f24))) (l24 : K.lookup f24 = some ⟨oc24, od24, .func (PySem.W.fnOf "_law_is_int" "_law_is_int" (defArgs s__law_is_int) (defBody s__law_is_int) (defScope s__law_is_int) .none kV24 dc24 pm24 an24 cd24 ct24), sl24⟩) (c24 : PySem.W.codeIn K cd24 "_law_is_int" = true) (k24 : PySem.W.keepIn K (.ref f24) = true)
    (a25 : PySem.W.nsIn K mainGlobals "_law_bent" = some (some (.ref f25))) (l25 : K.lookup f25 = some ⟨oc25, od25, .func (PySem.W.fnOf "_law_bent" "_law_bent" (defArgs s__law_bent) (defBody s__law_bent) (defScope s__law_bent) .none kV25 dc25 pm25 an25 cd25 ct25), sl25⟩) (c25 : PySem.W.codeIn K cd25 "_law_bent" = true) (k25 : PySem.W.keepIn K (.ref f25) = true)
    (a26 : PySem.W.nsIn K mainGlobals "_law_low" = some (some (.ref f26))) (l26 : K.lookup f26 = some ⟨oc26, od26, .func (PySem.W.fnOf "_law_low" "_law_low" (defArgs s__law_low) (defBody s__law_low) (defScope s__law_low) .none kV26 dc26 pm26 an26 cd26 ct26), sl26⟩) (c26 : PySem.W.codeIn K cd26 "_law_low" = true) (k26 : PySem.W.keepIn K (.ref f26) = true)
    (a27 : PySem.W.nsIn K mainGlobals "_law_lot" = some (some (.ref f27))) (l27 : K.lookup f27 = some ⟨oc27, od27, .func (PySem.W.fnOf "_law_lot" "_law_lot" (defArgs s__law_lot) (defBody s__law_lot) (defScope s__law_lot) .none kV27 dc27 pm27 an27 cd27 ct27), sl27⟩) (c27 : PySem.W.codeIn K cd27 "_law_lot" = true) (k27 : PySem.W.keepIn K (.ref f27) = true)
    (a28 : PySem.W.nsIn K mainGlobals "_law_place" = some (some (.ref f28))) (l28 : K.lookup f28 = some ⟨oc28, od28, .func (PySem.W.fnOf "_law_place" "_law_place" (defArgs s__law_place) (defBody s__law_place) (defScope s__law_place) .none kV28 dc28 pm28 an28 cd28 ct28), sl28⟩) (c28 : PySem.W.codeIn K cd28 "_law_place" = true) (k28 : PySem.W.keepIn K (.ref f28) = true)
    (a29 : PySem.W.nsIn K mainGlobals "_law_count" = some (some (.ref f29))) (l29 : K.lookup f29 = some ⟨oc29, od29, .func (PySem.W.fnOf "_law_count" "_law_count" (defArgs s__law_count) (defBody s__law_count) (defScope s__law_count) .none kV29 dc29 pm29 an29 cd29 ct29), sl29⟩) (c29 : PySem.W.codeIn K cd29 "_law_count" = true) (k29 : PySem.W.keepIn K (.ref f29) = true)
    (a30 : PySem.W.nsIn K mainGlobals "_law_ways" = some (some (.ref f30))) (l30 : K.lookup f30 = some ⟨oc30, od30, .func (PySem.W.fnOf "_law_ways" "_law_ways" (defArgs s__law_ways) (defBody s__law_ways) (defScope s__law_ways) .none kV30 dc30 pm30 an30 cd30 ct30), sl30⟩) (c30 : PySem.W.codeIn K cd30 "_law_ways" = true) (k30 : PySem.W.keepIn K (.ref f30) = true)
    (a31 : PySem.W.nsIn K mainGlobals "_law_depth" = some (some (.ref f31))) (l31 : K.lookup f31 = some ⟨oc31, od31, .func (PySem.W.fnOf "_law_depth" "_law_depth" (defArgs s__law_depth) (defBody s__law_depth) (defScope s__law_depth) .none kV31 dc31 pm31 an31 cd31 ct31), sl31⟩) (c31 : PySem.W.codeIn K cd31 "_law_depth" = true) (k31 : PySem.W.keepIn K (.ref f31) = true)
    (a32 : PySem.W.nsIn K mainGlobals "_law_middles" = some (some (.ref f32))) (l32 : K.lookup f32 = some ⟨oc32, od32, .func (PySem.W.fnOf "_law_middles" "_law_middles" (defArgs s__law_middles) (defBody s__law_middles) (defScope s__law_middles) .none kV32 dc32 pm32 an32 cd32 ct32), sl32⟩) (c32 : PySem.W.codeIn K cd32 "_law_middles" = true) (k32 : PySem.W.keepIn K (.ref f32) = true)
    (a33 : PySem.W.nsIn K mainGlobals "_law_line_fault" = some (some (.ref f33))) (l33 : K.lookup f33 = some ⟨oc33, od33, .func (PySem.W.fnOf "_law_line_fault" "_law_line_fault" (defArgs s__law_line_fault) (defBody s__law_line_fault) (defScope s__law_line_fault) .none kV33 dc33 pm33 an33 cd33 ct33), sl33⟩) (c33 : PySem.W.codeIn K cd33 "_law_line_fault" = true) (k33 : PySem.W.keepIn K (.ref f33) = true)
    (a34 : PySem.W.nsIn K mainGlobals "_law_fault" = some (some (.ref f34))) (l34 : K.lookup f34 = some ⟨oc34, od34, .func (PySem.W.fnOf "_law_fault" "_law_fault" (defArgs s__law_fault) (defBody s__law_fault) (defScope s__law_fault) .none kV34 dc34 pm34 an34 cd34 ct34), sl34⟩) (c34 : PySem.W.codeIn K cd34 "_law_fault" = true) (k34 : PySem.W.keepIn K (.ref f34) = true)
    (a35 : PySem.W.nsIn K mainGlobals "law" = some (some (.ref f35))) (l35 : K.lookup f35 = some ⟨oc35, od35, .func (PySem.W.fnOf "law" "law" (defArgs s_law) (defBody s_law) (defScope s_law) .none kV35 dc35 pm35 an35 cd35 ct35), sl35⟩) (c35 : PySem.W.codeIn K cd35 "law" = true) (k35 : PySem.W.keepIn K (.ref f35) = true)
    (z_abs : PySem.W.nsIn K mainGlobals "abs" = some none)
    (z_all : PySem.W.nsIn K mainGlobals "all" = some none)
    (z_bool : PySem.W.nsIn K mainGlobals "bool" = some none)
    (z_enumerate : PySem.W.nsIn K mainGlobals "enumerate" = some none)
    (z_int : PySem.W.nsIn K mainGlobals "int" = some none)
    (z_isinstance : PySem.W.nsIn K mainGlobals "isinstance" = some none)
    (z_len : PySem.W.nsIn K mainGlobals "len" = some none)
    (z_list : PySem.W.nsIn K mainGlobals "list" = some none)
    (z_min : PySem.W.nsIn K mainGlobals "min" = some none)
    (z_range : PySem.W.nsIn K mainGlobals "range" = some none)
    (z_repr : PySem.W.nsIn K mainGlobals "repr" = some none)
    (z_sorted : PySem.W.nsIn K mainGlobals "sorted" = some none)
    (z_str : PySem.W.nsIn K mainGlobals "str" = some none)
    (z_sum : PySem.W.nsIn K mainGlobals "sum" = some none)
    (z_tuple : PySem.W.nsIn K mainGlobals "tuple" = some none)
    (z_zip : PySem.W.nsIn K mainGlobals "zip" = some none)
    (z_gcd : PySem.W.nsIn K mainGlobals "gcd" = some (some (.builtin "math.gcd")))
    : ∃ fd : FuncData, (∀ (z : Shared) (u : Value), BindsTo z fd ⟨[u], []⟩ [("script", u)]) ∧ ∀ base : Heap, K.In base → base.Ns mainGlobals mg → FnG l.prog w K mg base 9 fa fd ["script"] (spLaw K) := by
  have e := hfa.symm.trans (PySem.W.mg_of X G a35)
  cases e
  let T : Tx K mg := {
    m_abs := PySem.W.mg_none_of X G z_abs
    m_all := PySem.W.mg_none_of X G z_all
    m_bool := PySem.W.mg_none_of X G z_bool
    m_enumerate := PySem.W.mg_none_of X G z_enumerate
    m_int := PySem.W.mg_none_of X G z_int
    m_isinstance := PySem.W.mg_none_of X G z_isinstance
    m_len := PySem.W.mg_none_of X G z_len
    m_list := PySem.W.mg_none_of X G z_list
    m_min := PySem.W.mg_none_of X G z_min
    m_range := PySem.W.mg_none_of X G z_range
    m_repr := PySem.W.mg_none_of X G z_repr
    m_sorted := PySem.W.mg_none_of X G z_sorted
    m_str := PySem.W.mg_none_of X G z_str
    m_sum := PySem.W.mg_none_of X G z_sum
    m_tuple := PySem.W.mg_none_of X G z_tuple
    m_zip := PySem.W.mg_none_of X G z_zip
    m_gcd := PySem.W.mg_of X G z_gcd
    a_shared_bottom := f0, fd_shared_bottom := _, F_shared_bottom := fun_mk (st := s_shared_bottom) l0 c0 k0, g_shared_bottom := PySem.W.mg_of X G a0
    a_ways_from := f1, fd_ways_from := _, F_ways_from := fun_mk (st := s_ways_from) l1 c1 k1, g_ways_from := PySem.W.mg_of X G a1
    a_told_by := f2, fd_told_by := _, F_told_by := fun_mk (st := s_told_by) l2 c2 k2, g_told_by := PySem.W.mg_of X G a2
    a_many_on_side := f3, fd_many_on_side := _, F_many_on_side := fun_mk (st := s_many_on_side) l3 c3 k3, g_many_on_side := PySem.W.mg_of X G a3
    a_side_count := f4, fd_side_count := _, F_side_count := fun_mk (st := s_side_count) l4 c4 k4, g_side_count := PySem.W.mg_of X G a4
    a_lowest_way := f5, fd_lowest_way := _, F_lowest_way := fun_mk (st := s_lowest_way) l5 c5 k5, g_lowest_way := PySem.W.mg_of X G a5
    a_is_lower := f6, fd_is_lower := _, F_is_lower := fun_mk (st := s_is_lower) l6 c6 k6, g_is_lower := PySem.W.mg_of X G a6
    a_turn_between := f7, fd_turn_between := _, F_turn_between := fun_mk (st := s_turn_between) l7 c7 k7, g_turn_between := PySem.W.mg_of X G a7
    a_is_earlier_way := f8, fd_is_earlier_way := _, F_is_earlier_way := fun_mk (st := s_is_earlier_way) l8 c8 k8, g_is_earlier_way := PySem.W.mg_of X G a8
    a_put_way := f9, fd_put_way := _, F_put_way := fun_mk (st := s_put_way) l9 c9 k9, g_put_way := PySem.W.mg_of X G a9
    a_round_of_ways := f10, fd_round_of_ways := _, F_round_of_ways := fun_mk (st := s_round_of_ways) l10 c10 k10, g_round_of_ways := PySem.W.mg_of X G a10
    a_ways_between := f11, fd_ways_between := _, F_ways_between := fun_mk (st := s_ways_between) l11 c11 k11, g_ways_between := PySem.W.mg_of X G a11
    a_sides_told := f12, fd_sides_told := _, F_sides_told := fun_mk (st := s_sides_told) l12 c12 k12, g_sides_told := PySem.W.mg_of X G a12
    a_depth_of := f13, fd_depth_of := _, F_depth_of := fun_mk (st := s_depth_of) l13 c13 k13, g_depth_of := PySem.W.mg_of X G a13
    a_least_side := f14, fd_least_side := _, F_least_side := fun_mk (st := s_least_side) l14 c14 k14, g_least_side := PySem.W.mg_of X G a14
    a_many_more := f15, fd_many_more := _, F_many_more := fun_mk (st := s_many_more) l15 c15 k15, g_many_more := PySem.W.mg_of X G a15
    a_many_less := f16, fd_many_less := _, F_many_less := fun_mk (st := s_many_less) l16 c16 k16, g_many_less := PySem.W.mg_of X G a16
    a_depth_paper := f17, fd_depth_paper := _, F_depth_paper := fun_mk (st := s_depth_paper) l17 c17 k17, g_depth_paper := PySem.W.mg_of X G a17
    a_are_whole_numbers := f18, fd_are_whole_numbers := _, F_are_whole_numbers := fun_mk (st := s_are_whole_numbers) l18 c18 k18, g_are_whole_numbers := PySem.W.mg_of X G a18
    a_judge_depth := f19, fd_judge_depth := _, F_judge_depth := fun_mk (st := s_judge_depth) l19 c19 k19, g_judge_depth := PySem.W.mg_of X G a19
    a_judge_halving := f20, fd_judge_halving := _, F_judge_halving := fun_mk (st := s_judge_halving) l20 c20 k20, g_judge_halving := PySem.W.mg_of X G a20
    a__law_open_cells := f21, fd__law_open_cells := _, F__law_open_cells := fun_mk (st := s__law_open_cells) l21 c21 k21, g__law_open_cells := PySem.W.mg_of X G a21
    a__law_pick := f22, fd__law_pick := _, F__law_pick := fun_mk (st := s__law_pick) l22 c22 k22, g__law_pick := PySem.W.mg_of X G a22
    a__law_of := f23, fd__law_of := _, F__law_of := fun_mk (st := s__law_of) l23 c23 k23, g__law_of := PySem.W.mg_of X G a23
    a__law_is_int := f24, fd__law_is_int := _, F__law_is_int := fun_mk (st := s__law_is_int) l24 c24 k24, g__law_is_int := PySem.W.mg_of X G a24
    a__law_bent := f25, fd__law_bent := _, F__law_bent := fun_mk (st := s__law_bent) l25 c25 k25, g__law_bent := PySem.W.mg_of X G a25
    a__law_low := f26, fd__law_low := _, F__law_low := fun_mk (st := s__law_low) l26 c26 k26, g__law_low := PySem.W.mg_of X G a26
    a__law_lot := f27, fd__law_lot := _, F__law_lot := fun_mk (st := s__law_lot) l27 c27 k27, g__law_lot := PySem.W.mg_of X G a27
    a__law_place := f28, fd__law_place := _, F__law_place := fun_mk (st := s__law_place) l28 c28 k28, g__law_place := PySem.W.mg_of X G a28
    a__law_count := f29, fd__law_count := _, F__law_count := fun_mk (st := s__law_count) l29 c29 k29, g__law_count := PySem.W.mg_of X G a29
    a__law_ways := f30, fd__law_ways := _, F__law_ways := fun_mk (st := s__law_ways) l30 c30 k30, g__law_ways := PySem.W.mg_of X G a30
    a__law_depth := f31, fd__law_depth := _, F__law_depth := fun_mk (st := s__law_depth) l31 c31 k31, g__law_depth := PySem.W.mg_of X G a31
    a__law_middles := f32, fd__law_middles := _, F__law_middles := fun_mk (st := s__law_middles) l32 c32 k32, g__law_middles := PySem.W.mg_of X G a32
    a__law_line_fault := f33, fd__law_line_fault := _, F__law_line_fault := fun_mk (st := s__law_line_fault) l33 c33 k33, g__law_line_fault := PySem.W.mg_of X G a33
    a__law_fault := f34, fd__law_fault := _, F__law_fault := fun_mk (st := s__law_fault) l34 c34 k34, g__law_fault := PySem.W.mg_of X G a34
    a_law := fa, fd_law := _, F_law := fun_mk (st := s_law) l35 c35 k35, g_law := PySem.W.mg_of X G a35
    }
  exact ⟨T.fd_law, fun z u => .of_eq rfl, fun base _ _ => ok_law T⟩
end L93
open PySem PySem.W PyProof.Rows
set_option maxHeartbeats 0 in
theorem PySem.Challenge.cw_cornersmet_k93_depth_papers_and_lines_ju_holds : PySem.Challenge.rw_cornersmet_k93_depth_papers_and_lines_ju.Holds := by
  w_on; o_law; k_head; (case hw => w_witness2)
  k_fill
  refine Py.walkG (l := PySem.Challenge.rw_cornersmet_k93_depth_papers_and_lines_ju) (n := 63) (k := 9) (x := "script") rfl (by decide) rfl ⟨rfl, by decide, by decide⟩ (fun w h Y => PySem.W.kIn_of Y) ?F
  case F =>
    intro w mg fa h KX G hmg
    refine' L93.all_mk KX G hmg ?a0 ?l0 ?c0 ?k0 ?a1 ?l1 ?c1 ?k1 ?a2 ?l2 ?c2 ?k2 ?a3 ?l3 ?c3 ?k3 ?a4 ?l4 ?c4 ?k4 ?a5 ?l5 ?c5 ?k5 ?a6 ?l6 ?c6 ?k6 ?a7 ?l7 ?c7 ?k7 ?a8 ?l8 ?c8 ?k8 ?a9 ?l9 ?c9 ?k9 ?a10 ?l10 ?c10 ?k10 ?a11 ?l11 ?c11 ?k11 ?a12 ?l12 ?c12 ?k12 ?a13 ?l13 ?c13 ?k13 ?a14 ?l14 ?c14 ?k14 ?a15 ?l15 ?c15 ?k15 ?a16 ?l16 ?c16 ?k16 ?a17 ?l17 ?c17 ?k17 ?a18 ?l18 ?c18 ?k18 ?a19 ?l19 ?c19 ?k19 ?a20 ?l20 ?c20 ?k20 ?a21 ?l21 ?c21 ?k21 ?a22 ?l22 ?c22 ?k22 ?a23 ?l23 ?c23 ?k23 ?a24 ?l24 ?c24 ?k24 ?a25 ?l25 ?c25 ?k25 ?a26 ?l26 ?c26 ?k26 ?a27 ?l27 ?c27 ?k27 ?a28 ?l28 ?c28 ?k28 ?a29 ?l29 ?c29 ?k29 ?a30 ?l30 ?c30 ?k30 ?a31 ?l31 ?c31 ?k31 ?a32 ?l32 ?c32 ?k32 ?a33 ?l33 ?c33 ?k33 ?a34 ?l34 ?c34 ?k34 ?a35 ?l35 ?c35 ?k35 ?z_abs ?z_all ?z_bool ?z_enumerate ?z_int ?z_isinstance ?z_len ?z_list ?z_min ?z_range ?z_repr ?z_sorted ?z_str ?z_sum ?z_tuple ?z_zip ?z_gcd
    (case a0 => k_is); (case l0 => k_is); (case c0 => k_is); (case k0 => k_is)
    (case a1 => k_is); (case l1 => k_is); (case c1 => k_is); (case k1 => k_is)
    (case a2 => k_is); (case l2 => k_is); (case c2 => k_is); (case k2 => k_is)
    (case a3 => k_is); (case l3 => k_is); (case c3 => k_is); (case k3 => k_is)
    (case a4 => k_is); (case l4 => k_is); (case c4 => k_is); (case k4 => k_is)
    (case a5 => k_is); (case l5 => k_is); (case c5 => k_is); (case k5 => k_is)
    (case a6 => k_is); (case l6 => k_is); (case c6 => k_is); (case k6 => k_is)
    (case a7 => k_is); (case l7 => k_is); (case c7 => k_is); (case k7 => k_is)
    (case a8 => k_is); (case l8 => k_is); (case c8 => k_is); (case k8 => k_is)
    (case a9 => k_is); (case l9 => k_is); (case c9 => k_is); (case k9 => k_is)
    (case a10 => k_is); (case l10 => k_is); (case c10 => k_is); (case k10 => k_is)
    (case a11 => k_is); (case l11 => k_is); (case c11 => k_is); (case k11 => k_is)
    (case a12 => k_is); (case l12 => k_is); (case c12 => k_is); (case k12 => k_is)
    (case a13 => k_is); (case l13 => k_is); (case c13 => k_is); (case k13 => k_is)
    (case a14 => k_is); (case l14 => k_is); (case c14 => k_is); (case k14 => k_is)
    (case a15 => k_is); (case l15 => k_is); (case c15 => k_is); (case k15 => k_is)
    (case a16 => k_is); (case l16 => k_is); (case c16 => k_is); (case k16 => k_is)
    (case a17 => k_is); (case l17 => k_is); (case c17 => k_is); (case k17 => k_is)
    (case a18 => k_is); (case l18 => k_is); (case c18 => k_is); (case k18 => k_is)
    (case a19 => k_is); (case l19 => k_is); (case c19 => k_is); (case k19 => k_is)
    (case a20 => k_is); (case l20 => k_is); (case c20 => k_is); (case k20 => k_is)
    (case a21 => k_is); (case l21 => k_is); (case c21 => k_is); (case k21 => k_is)
    (case a22 => k_is); (case l22 => k_is); (case c22 => k_is); (case k22 => k_is)
    (case a23 => k_is); (case l23 => k_is); (case c23 => k_is); (case k23 => k_is)
    (case a24 => k_is); (case l24 => k_is); (case c24 => k_is); (case k24 => k_is)
    (case a25 => k_is); (case l25 => k_is); (case c25 => k_is); (case k25 => k_is)
    (case a26 => k_is); (case l26 => k_is); (case c26 => k_is); (case k26 => k_is)
    (case a27 => k_is); (case l27 => k_is); (case c27 => k_is); (case k27 => k_is)
    (case a28 => k_is); (case l28 => k_is); (case c28 => k_is); (case k28 => k_is)
    (case a29 => k_is); (case l29 => k_is); (case c29 => k_is); (case k29 => k_is)
    (case a30 => k_is); (case l30 => k_is); (case c30 => k_is); (case k30 => k_is)
    (case a31 => k_is); (case l31 => k_is); (case c31 => k_is); (case k31 => k_is)
    (case a32 => k_is); (case l32 => k_is); (case c32 => k_is); (case k32 => k_is)
    (case a33 => k_is); (case l33 => k_is); (case c33 => k_is); (case k33 => k_is)
    (case a34 => k_is); (case l34 => k_is); (case c34 => k_is); (case k34 => k_is)
    (case a35 => k_is); (case l35 => k_is); (case c35 => k_is); (case k35 => k_is)
    (case z_abs => k_is); (case z_all => k_is); (case z_bool => k_is); (case z_enumerate => k_is)
    (case z_int => k_is); (case z_isinstance => k_is); (case z_len => k_is); (case z_list => k_is)
    (case z_min => k_is); (case z_range => k_is); (case z_repr => k_is); (case z_sorted => k_is)
    (case z_str => k_is); (case z_sum => k_is); (case z_tuple => k_is); (case z_zip => k_is)
    (case z_gcd => k_is)
namespace L93
end L93
