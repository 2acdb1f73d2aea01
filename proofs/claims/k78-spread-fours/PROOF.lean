import PyProof.Rows.All
import Wide.All
import OpenK.AllK
import Wide.FinOn
import HandS.ForMost
import HandS.Star
import HandS.TupAny
import HandS.Deep
import HandS.Wide
import HandS.Style
import HandS.IsInst
import HandS.Walk
import KE.GoesEnum
import HandS.Conv
import HandS.TupMul
import HandS.Gcd
import KE.SortData
import KE.DataMinMax
import PyProof.ReprRoads
import HandS.Evl
import KE.KDictZip
import PyProof.ReprLen
import HandS.Dict
import HandS.Small
import HandS.TupLen
import HandS.More
import PyProof.NeKinds
import KE.KEqDict
import PyProof.EqAt
import KE.KRevSl
import KE.KTupSum
import HandS.Iter
import KE.KDictPairs
import KE.KDictKeyed
import KE.KDictCopyH
import KE.KDictDisplayH
import HandS.TryOnly
import PySem.Challenge.RW_cornersmet_k78_whole_spread_fours
set_option Elab.async false
set_option linter.all false
set_option maxRecDepth 100000
/-! PyA: data, what denotes them, the state relation, the judgements. -/
namespace Py
open PySem L2

abbrev D := PyData
abbrev Env := List (Option D)
abbrev AS := Addr → Prop

/-! ### the wish monad -/
def M (α : Type) : Type := (α → Prop) → Prop
def ret {α : Type} (a : α) : M α := fun Q => Q a
def bnd {α β : Type} (m : M α) (k : α → M β) : M β := fun Q => m fun a => k a Q
def stuck {α : Type} : M α := fun _ => False
theorem bnd_ret {α β : Type} (a : α) (k : α → M β) : bnd (ret a) k = k a := rfl
theorem bnd_stuck {α β : Type} (k : α → M β) : bnd stuck k = stuck := rfl
theorem bnd_assoc {α β γ : Type} (m : M α) (k : α → M β) (l : β → M γ) : bnd (bnd m k) l = bnd m fun a => bnd (k a) l := rfl
theorem ret_app {α : Type} (a : α) (Q : α → Prop) : ret a Q = Q a := rfl
theorem bnd_app {α β : Type} (m : M α) (k : α → M β) (Q : β → Prop) : bnd m k Q = m fun a => k a Q := rfl

abbrev Key2 := List L2.Key
/-! ### what denotes a datum: lists, dicts that nobody changes (not in U), tuples -/
mutual
inductive Den (H : Hp) (U : AS) : V → D → Prop
  | non : Den H U .non .none
  | bl (b : Bool) : Den H U (.bl b) (.bool b)
  | int (i : Int) : Den H U (.int i) (.int i)
  | str (x : Str) : Den H U (.str x) (.str x)
  | lst {a : Addr} {xs : List V} {ds : List D} : H a = some (.lst xs) → ¬ U a → DenL H U xs ds → Den H U (.ref a) (.list ds)
  | tup {a : Addr} {xs : List V} {ds : List D} : H a = some (.tup xs) → ¬ U a → DenL H U xs ds → Den H U (.ref a) (.tuple ds)
  | dct {a : Addr} : H a = some (.dK []) → ¬ U a → Den H U (.ref a) (.dict [])
  | dcT {a : Addr} {kvs : List (Key2 × V)} {ks : List (List Int)} : H a = some (.dT kvs) → ¬ U a → kvs.map (·.1) = ks.map (fun k => k.map Sum.inl) → Den H U (.ref a) (.dict ((.none, .none) :: ks.map fun k => (.tuple (k.map .int), .none)))
inductive DenL (H : Hp) (U : AS) : List V → List D → Prop
  | nil : DenL H U [] []
  | cons {v : V} {vs : List V} {d : D} {ds : List D} : Den H U v d → DenL H U vs ds → DenL H U (v :: vs) (d :: ds)
end
theorem Den.mono {H H' : Hp} {U U' : AS} (e : ∀ a o, H a = some o → ¬ U a → H' a = some o) (u : ∀ a o, H a = some o → U' a → U a) : ∀ {d : D} {v : V}, Den H U v d → Den H' U' v d := by
  intro d v h
  refine Den.rec (motive_1 := fun v d _ => Den H' U' v d) (motive_2 := fun vs ds _ => DenL H' U' vs ds) ?_ ?_ ?_ ?_ ?_ ?_ ?_ ?_ ?_ ?_ h
  · exact .non
  · exact .bl
  · exact .int
  · exact .str
  · intro a xs ds ha hu _ ih; exact .lst (e _ _ ha hu) (fun q => hu (u _ _ ha q)) ih
  · intro a xs ds ha hu _ ih; exact .tup (e _ _ ha hu) (fun q => hu (u _ _ ha q)) ih
  · intro a ha hu; exact .dct (e _ _ ha hu) (fun q => hu (u _ _ ha q))
  · intro a kvs ks ha hu hk; exact .dcT (e _ _ ha hu) (fun q => hu (u _ _ ha q)) hk
  · exact .nil
  · intro v vs d ds _ _ h1 h2; exact .cons h1 h2
theorem DenL.mono {H H' : Hp} {U U' : AS} (e : ∀ a o, H a = some o → ¬ U a → H' a = some o) (u : ∀ a o, H a = some o → U' a → U a) : ∀ {ds : List D} {vs : List V}, DenL H U vs ds → DenL H' U' vs ds
  | _, _, .nil => .nil
  | _, _, .cons h t => .cons (h.mono e u) (DenL.mono e u t)
theorem DenL.length {H : Hp} {U : AS} : ∀ {vs : List V} {ds : List D}, DenL H U vs ds → vs.length = ds.length
  | _, _, .nil => rfl
  | _, _, .cons _ t => congrArg (· + 1) t.length
theorem DenL.get {H : Hp} {U : AS} : ∀ {vs : List V} {ds : List D} {i : Nat} {d : D}, DenL H U vs ds → ds[i]? = some d → ∃ v, vs[i]? = some v ∧ Den H U v d
  | _, _, _, _, .nil, h => by simp at h
  | _, _, 0, _, .cons h _, e => by simp at e; subst e; exact ⟨_, rfl, h⟩
  | _, _, i + 1, _, .cons _ t, e => by
    obtain ⟨v, h1, h2⟩ := DenL.get (i := i) t (by simpa using e)
    exact ⟨v, by simpa using h1, h2⟩
theorem DenL.append {H : Hp} {U : AS} : ∀ {vs ws : List V} {ds es : List D}, DenL H U vs ds → DenL H U ws es → DenL H U (vs ++ ws) (ds ++ es)
  | _, _, _, _, .nil, h => h
  | _, _, _, _, .cons h t, q => .cons h (t.append q)
theorem DenL.take {H : Hp} {U : AS} : ∀ {vs : List V} {ds : List D} (n : Nat), DenL H U vs ds → DenL H U (vs.take n) (ds.take n)
  | _, _, 0, _ => .nil
  | _, _, _ + 1, .nil => .nil
  | _, _, n + 1, .cons h t => .cons h (t.take n)
theorem DenL.drop {H : Hp} {U : AS} : ∀ {vs : List V} {ds : List D} (n : Nat), DenL H U vs ds → DenL H U (vs.drop n) (ds.drop n)
  | _, _, 0, h => h
  | _, _, _ + 1, .nil => .nil
  | _, _, n + 1, .cons _ t => t.drop n
theorem DenL.set {H : Hp} {U : AS} {v : V} {d : D} (h : Den H U v d) : ∀ {vs : List V} {ds : List D} (i : Nat), DenL H U vs ds → DenL H U (vs.set i v) (ds.set i d)
  | _, _, _, .nil => .nil
  | _, _, 0, .cons _ t => .cons h t
  | _, _, i + 1, .cons q t => .cons q (DenL.set h i t)
theorem DenL.reverse {H : Hp} {U : AS} {vs : List V} {ds : List D} (h : DenL H U vs ds) : DenL H U vs.reverse ds.reverse := by
  induction ds generalizing vs with
  | nil => cases h; exact .nil
  | cons d ds ih =>
    cases h with
    | cons h1 h2 => rw [List.reverse_cons, List.reverse_cons]; exact (ih h2).append (.cons h1 .nil)

/-! ### a def's frame: what the callers may change (U0), what this code may change (A: the drawing source), what is kept of that (J), the heap at the entry -/
structure Sx where
  A : AS
  J : Hp → Prop
  src : Addr
structure Fx where
  s : Sx
  U0 : AS
  H0 : Hp
abbrev Fx.A (c : Fx) : AS := c.s.A
abbrev Fx.J (c : Fx) : Hp → Prop := c.s.J
abbrev Fx.src (c : Fx) : Addr := c.s.src

structure Fx.Ok (c : Fx) : Prop where
  sub : ∀ a, c.A a → c.U0 a
  st : ∀ H H', c.J H → (∀ a o, c.A a → H a = some o → H' a = some o) → c.J H'

/-- how a name's slot stands: any datum; a list of this def's own that it changes; one of lists; such a list while a loop walks it; the source -/
inductive Md where
  | fro | own | own2 | dic | lent (p : Addr) (vs : List V) | lk (p : Addr) (od : Obj) (kvs : List (Key2 × V)) | src

inductive Rows (H : Hp) (U : AS) : List Addr → List (List D) → Prop
  | nil : Rows H U [] []
  | cons {q : Addr} {qs : List Addr} {vs : List V} {ds : List D} {dss : List (List D)} : H q = some (.lst vs) → DenL H U vs ds → Rows H U qs dss → Rows H U (q :: qs) (ds :: dss)

/-- slot: mode, datum, value, own addresses -/
inductive SlotR (c : Fx) (H : Hp) (U : AS) : Md → Option D → Option V → List Addr → Prop
  | no {m : Md} {o : Option V} : SlotR c H U m none o []
  | fro {d : D} {v : V} : Den H U v d → SlotR c H U .fro (some d) (some v) []
  | own {p : Addr} {vs : List V} {ds : List D} : H p = some (.lst vs) → DenL H U vs ds → SlotR c H U .own (some (.list ds)) (some (.ref p)) [p]
  | lent {p : Addr} {vs : List V} {ds : List D} : H p = some (.lst vs) → DenL H U vs ds → SlotR c H U (.lent p vs) (some (.list ds)) (some (.ref p)) [p]
  | own2 {p : Addr} {qs : List Addr} {dss : List (List D)} : H p = some (.lst (qs.map V.ref)) → Rows H U qs dss → SlotR c H U .own2 (some (.list (dss.map .list))) (some (.ref p)) (p :: qs)
  | dic {p : Addr} {kvs : List (Key2 × V)} {ks : List (List Int)} : H p = some (.dT kvs) → kvs.map (·.1) = ks.map (fun k => k.map Sum.inl) → SlotR c H U .dic (some (.list (ks.map fun k => .tuple (k.map .int)))) (some (.ref p)) [p]
  | lk {p : Addr} {od : Obj} {kvs : List (Key2 × V)} {ks : List (List Int)} : H p = some (.frz od (.dT kvs)) → kvs.map (·.1) = ks.map (fun k => k.map Sum.inl) → SlotR c H U (.lk p od kvs) (some (.list (ks.map fun k => .tuple (k.map .int)))) (some (.ref p)) [p]
  | src {d : D} : SlotR c H U .src (some d) (some (.ref c.src)) []

inductive Slots (c : Fx) (H : Hp) (U : AS) : List Md → Env → St → List Addr → Prop
  | nil : Slots c H U [] [] [] []
  | cons {m : Md} {d : Option D} {o : Option V} {ps qs : List Addr} {Γ : List Md} {ρ : Env} {σ : St} : SlotR c H U m d o ps → Slots c H U Γ ρ σ qs → Slots c H U (m :: Γ) (d :: ρ) (o :: σ) (ps ++ qs)

def Fx.U (c : Fx) (ps : List Addr) : AS := fun a => c.U0 a ∨ a ∈ ps
/-- what stands in a mutable place is no tuple -/
def Loose (H : Hp) (U : AS) : Prop := ∀ a, U a → ∃ o, H a = some o ∧ ∀ xs, o ≠ .tup xs

/-- lists and tuples are no longer than may be -/
def Sz (H : Hp) : Prop := ∀ a xs, (H a = some (.lst xs) ∨ H a = some (.tup xs)) → xs.length ≤ sizeLine

structure R (c : Fx) (Γ : List Md) (ρ : Env) (ps : List Addr) (σ : St) (H : Hp) : Prop where
  ok : c.Ok
  keep : ∀ a o, c.H0 a = some o → ¬ c.A a → H a = some o
  there : ∀ a o, c.H0 a = some o → ∃ o', H a = some o'
  inv : c.J H
  al : Loose H c.U0
  sz : Sz H
  sl : Slots c H (c.U ps) Γ ρ σ ps
  nd : ps.Nodup
  own : ∀ p ∈ ps, c.H0 p = none ∧ ¬ c.U0 p

/-- a step of reckoning: only the source may change -/
structure Stp (c : Fx) (H H' : Hp) : Prop where
  keep : ∀ a o, H a = some o → ¬ c.A a → H' a = some o
  there : ∀ a o, H a = some o → ∃ o', H' a = some o'
  inv : c.J H → c.J H'
  al : Loose H c.U0 → Loose H' c.U0
  sz : Sz H → Sz H'
theorem Stp.refl (c : Fx) (H : Hp) : Stp c H H := ⟨fun _ _ h _ => h, fun _ o h => ⟨o, h⟩, fun h => h, fun h => h, fun h => h⟩
theorem Stp.trans {c : Fx} {H H1 H2 : Hp} (a : Stp c H H1) (b : Stp c H1 H2) : Stp c H H2 :=
  ⟨fun x o h n => b.keep x o (a.keep x o h n) n, fun x o h => let ⟨o', h'⟩ := a.there x o h; b.there x o' h', fun h => b.inv (a.inv h), fun h => b.al (a.al h), fun h => b.sz (a.sz h)⟩
theorem Stp.fresh {c : Fx} {H H' : Hp} {p : Addr} (e : Stp c H H') (h : H' p = none) : H p = none := by
  cases q : H p with
  | none => rfl
  | some o => obtain ⟨o', h'⟩ := e.there p o q; rw [h] at h'; cases h'
/-- all that stood stands -/
theorem Stp.same {c : Fx} (ok : c.Ok) {H H' : Hp} (e : ∀ a o, H a = some o → H' a = some o) (z : Sz H → Sz H') : Stp c H H' :=
  ⟨fun a o h _ => e a o h, fun a o h => ⟨o, e a o h⟩, fun h => ok.st H H' h fun a o _ q => e a o q, fun h a u => let ⟨o, h1, h2⟩ := h a u; ⟨o, e a o h1, h2⟩, z⟩
theorem Sz.upd {H : Hp} {p : Addr} {o : HO} (h : Sz H) (ho : ∀ xs, (o = .lst xs ∨ o = .tup xs) → xs.length ≤ sizeLine) : Sz (upd H p o) := fun a xs q => by
  by_cases e : a = p
  · subst e
    rw [upd_same] at q
    rcases q with q | q
    · exact ho xs (.inl (Option.some.inj q))
    · exact ho xs (.inr (Option.some.inj q))
  · rw [upd_ne e] at q; exact h a xs q
theorem upd_keep {H : Hp} {p : Addr} {o : HO} (h : H p = none) : ∀ a u, H a = some u → upd H p o a = some u := fun a u e => by
  rw [upd_ne (ne_of_none e h)]; exact e
theorem Stp.new {c : Fx} (ok : c.Ok) {H : Hp} {p : Addr} {o : HO} (h : H p = none) (ho : ∀ xs, (o = .lst xs ∨ o = .tup xs) → xs.length ≤ sizeLine) : Stp c H (upd H p o) :=
  Stp.same ok (upd_keep h) fun z => z.upd ho
theorem Stp.lst {c : Fx} (ok : c.Ok) {H : Hp} {p : Addr} {xs : List V} (h : H p = none) (ho : xs.length ≤ sizeLine) : Stp c H (upd H p (.lst xs)) :=
  Stp.new ok h fun ys q => by rcases q with q | q <;> cases q; exact ho
theorem Stp.tup {c : Fx} (ok : c.Ok) {H : Hp} {p : Addr} {xs : List V} (h : H p = none) (ho : xs.length ≤ sizeLine) : Stp c H (upd H p (.tup xs)) :=
  Stp.new ok h fun ys q => by rcases q with q | q <;> cases q; exact ho

theorem Rows.monoOn {H H' : Hp} {U U' : AS} (e : ∀ a o, H a = some o → ¬ U a → H' a = some o) (u : ∀ a o, H a = some o → U' a → U a) :
    ∀ {qs : List Addr} {dss : List (List D)}, (∀ a ∈ qs, ∀ o, H a = some o → H' a = some o) → Rows H U qs dss → Rows H' U' qs dss
  | _, _, _, .nil => .nil
  | _, _, q, .cons h d t => .cons (q _ (List.mem_cons_self ..) _ h) (d.mono e u) (Rows.monoOn e u (fun a ha => q a (List.mem_cons_of_mem _ ha)) t)

/-- the slots over another heap, own lists kept -/
theorem SlotR.mono {c : Fx} {H H' : Hp} {U U' : AS} {m : Md} {d : Option D} {o : Option V} {ps : List Addr} (q : ∀ a ∈ ps, ∀ o, H a = some o → H' a = some o) (e : ∀ a o, H a = some o → ¬ U a → H' a = some o)
    (u : ∀ a o, H a = some o → U' a → U a) (h : SlotR c H U m d o ps) : SlotR c H' U' m d o ps := by
  cases h with
  | no => exact .no
  | fro h => exact .fro (h.mono e u)
  | own h1 h2 => exact .own (q _ (by simp) _ h1) (h2.mono e u)
  | lent h1 h2 => exact .lent (q _ (by simp) _ h1) (h2.mono e u)
  | own2 h1 h2 => exact .own2 (q _ (by simp) _ h1) (h2.monoOn e u fun a ha => q a (List.mem_cons_of_mem _ ha))
  | dic h1 h2 => exact .dic (q _ (by simp) _ h1) h2
  | lk h1 h2 => exact .lk (q _ (by simp) _ h1) h2
  | src => exact .src
theorem Slots.mono {c : Fx} {H H' : Hp} {U U' : AS} {Γ : List Md} {ρ : Env} {σ : St} {ps : List Addr} (q : ∀ a ∈ ps, ∀ o, H a = some o → H' a = some o) (e : ∀ a o, H a = some o → ¬ U a → H' a = some o)
    (u : ∀ a o, H a = some o → U' a → U a) (h : Slots c H U Γ ρ σ ps) : Slots c H' U' Γ ρ σ ps := by
  induction h with
  | nil => exact .nil
  | cons h1 _ ih => exact .cons (h1.mono (fun a ha => q a (List.mem_append_left _ ha)) e u) (ih fun a ha => q a (List.mem_append_right _ ha))

section
variable {c : Fx} {Γ : List Md} {ρ : Env} {ps : List Addr} {σ : St} {H H' : Hp} {v : V} {d : D} {vs : List V} {ds : List D}
theorem R.nA (r : R c Γ ρ ps σ H) {a : Addr} (h : ¬ c.U ps a) : ¬ c.A a := fun q => h (.inl (r.ok.sub a q))
theorem R.ownA (r : R c Γ ρ ps σ H) {p : Addr} (h : p ∈ ps) : ¬ c.A p := fun q => (r.own p h).2 (r.ok.sub p q)
theorem Den.stp (ok : c.Ok) (e : Stp c H H') (h : Den H (c.U ps) v d) : Den H' (c.U ps) v d :=
  h.mono (fun a o q n => e.keep a o q fun z => n (.inl (ok.sub a z))) fun _ _ _ q => q
theorem DenL.stp (ok : c.Ok) (e : Stp c H H') (h : DenL H (c.U ps) vs ds) : DenL H' (c.U ps) vs ds :=
  h.mono (fun a o q n => e.keep a o q fun z => n (.inl (ok.sub a z))) fun _ _ _ q => q
theorem Den.stpA (e : Stp c H H') (h : Den H c.A v d) : Den H' c.A v d := h.mono (fun a o q n => e.keep a o q n) fun _ _ _ q => q
theorem DenL.stpA (e : Stp c H H') (h : DenL H c.A vs ds) : DenL H' c.A vs ds := h.mono (fun a o q n => e.keep a o q n) fun _ _ _ q => q
theorem Den.borrow (ok : c.Ok) (h : Den H (c.U ps) v d) : Den H c.A v d := h.mono (fun _ _ q _ => q) fun a _ _ q => .inl (ok.sub a q)
theorem DenL.borrow (ok : c.Ok) (h : DenL H (c.U ps) vs ds) : DenL H c.A vs ds := h.mono (fun _ _ q _ => q) fun a _ _ q => .inl (ok.sub a q)
theorem R.stp (r : R c Γ ρ ps σ H) (e : Stp c H H') : R c Γ ρ ps σ H' where
  ok := r.ok
  keep := fun a o h n => e.keep a o (r.keep a o h n) n
  there := fun a o h => let ⟨o', h'⟩ := r.there a o h; e.there a o' h'
  inv := e.inv r.inv
  al := e.al r.al
  sz := e.sz r.sz
  sl := r.sl.mono (fun a ha o q => e.keep a o q (r.ownA ha)) (fun a o q n => e.keep a o q (r.nA n)) fun _ _ _ q => q
  nd := r.nd
  own := r.own
theorem Rows.loose {U : AS} {qs : List Addr} {dss : List (List D)} (h : Rows H U qs dss) : ∀ p ∈ qs, ∃ xs, H p = some (.lst xs) := by
  induction h with
  | nil => intro p hp; cases hp
  | cons h1 _ _ ih =>
    intro p hp
    rcases List.mem_cons.mp hp with rfl | hp
    · exact ⟨_, h1⟩
    · exact ih p hp
theorem SlotR.loose {U : AS} {m : Md} {x : Option D} {o : Option V} {qs : List Addr} (h : SlotR c H U m x o qs) : ∀ p ∈ qs, ∃ o, H p = some o ∧ ∀ xs, o ≠ .tup xs := by
  intro p hp
  cases h with
  | no => cases hp
  | fro _ => cases hp
  | own h1 _ => rw [List.mem_singleton.mp hp]; exact ⟨_, h1, fun _ z => by cases z⟩
  | lent h1 _ => rw [List.mem_singleton.mp hp]; exact ⟨_, h1, fun _ z => by cases z⟩
  | own2 h1 h2 =>
    rcases List.mem_cons.mp hp with rfl | hp
    · exact ⟨_, h1, fun _ z => by cases z⟩
    · obtain ⟨xs, e⟩ := h2.loose p hp
      exact ⟨_, e, fun _ z => by cases z⟩
  | dic h1 _ => rw [List.mem_singleton.mp hp]; exact ⟨_, h1, fun _ z => by cases z⟩
  | lk h1 _ => rw [List.mem_singleton.mp hp]; exact ⟨_, h1, fun _ z => by cases z⟩
  | src => cases hp
theorem Slots.loose {U : AS} (h : Slots c H U Γ ρ σ ps) : ∀ p ∈ ps, ∃ o, H p = some o ∧ ∀ xs, o ≠ .tup xs := by
  induction h with
  | nil => intro p hp; cases hp
  | cons h1 _ ih =>
    intro p hp
    rcases List.mem_append.mp hp with hp | hp
    · exact h1.loose p hp
    · exact ih p hp
theorem R.loose (r : R c Γ ρ ps σ H) : Loose H (c.U ps) := fun a u => by
  rcases u with u | u
  · exact r.al a u
  · exact r.sl.loose a u
theorem R.new (r : R c Γ ρ ps σ H) {p : Addr} (h : H p = none) : ¬ c.U ps p := fun u => by
  obtain ⟨o, h', _⟩ := r.loose p u
  rw [h] at h'; cases h'
theorem Slots.len {U : AS} (h : Slots c H U Γ ρ σ ps) : Γ.length = ρ.length ∧ ρ.length = σ.length := by
  induction h with
  | nil => exact ⟨rfl, rfl⟩
  | cons _ _ ih => exact ⟨congrArg (· + 1) ih.1, congrArg (· + 1) ih.2⟩
theorem Slots.get {U : AS} (h : Slots c H U Γ ρ σ ps) : ∀ {i : Nat} {m : Md} {d : Option D}, Γ[i]? = some m → ρ[i]? = some d →
    ∃ o qs, σ[i]? = some o ∧ SlotR c H U m d o qs ∧ ∀ p ∈ qs, p ∈ ps := by
  induction h with
  | nil => intro i m d h; simp at h
  | cons h1 _ ih =>
    intro i m d hm hd
    cases i with
    | zero =>
      simp at hm hd; subst hm; subst hd
      exact ⟨_, _, rfl, h1, fun p hp => List.mem_append_left _ hp⟩
    | succ i =>
      obtain ⟨o, qs, e1, e2, e3⟩ := ih (i := i) (by simpa using hm) (by simpa using hd)
      exact ⟨o, qs, by simpa using e1, e2, fun p hp => List.mem_append_right _ (e3 p hp)⟩
end

/-- what may be looked at: a datum, or a list of this def's own whose items are data -/
inductive View (c : Fx) (ps : List Addr) (H : Hp) : V → D → Prop
  | den {v : V} {d : D} : Den H (c.U ps) v d → View c ps H v d
  | own {p : Addr} {vs : List V} {ds : List D} : H p = some (.lst vs) → p ∈ ps → DenL H (c.U ps) vs ds → View c ps H (.ref p) (.list ds)
theorem View.stp {c : Fx} {ps : List Addr} {H H' : Hp} {v : V} {d : D} (ok : c.Ok) (hp : ∀ p ∈ ps, ¬ c.A p) (e : Stp c H H') (h : View c ps H v d) : View c ps H' v d := by
  cases h with
  | den h => exact .den (h.stp ok e)
  | own h1 h2 h3 => exact .own (e.keep _ _ h1 (hp _ h2)) h2 (h3.stp ok e)
theorem View.borrow {c : Fx} {ps : List Addr} {H : Hp} {v : V} {d : D} (ok : c.Ok) (hp : ∀ p ∈ ps, ¬ c.A p) (h : View c ps H v d) : Den H c.A v d := by
  cases h with
  | den h => exact h.borrow ok
  | own h1 h2 h3 => exact .lst h1 (hp _ h2) (h3.borrow ok)

/-! ### the judgements over readings -/
section
variable (s : Sx) (Γ : List Md)
/-- an expression's value: a datum | looked at | a new list -/
def SemE (t : TE) (f : Env → M D) : Prop := ∀ c ρ ps σ H Q P, c.s = s → R c Γ ρ ps σ H → f ρ P → (∀ d v H', P d → Stp c H H' → Den H' (c.U ps) v d → Q v H') → t σ H Q
def SemV (t : TE) (f : Env → M D) : Prop := ∀ c ρ ps σ H Q P, c.s = s → R c Γ ρ ps σ H → f ρ P → (∀ d v H', P d → Stp c H H' → View c ps H' v d → Q v H') → t σ H Q
def SemL (t : TE) (f : Env → M (List D)) : Prop := ∀ c ρ ps σ H Q P, c.s = s → R c Γ ρ ps σ H → f ρ P →
  (∀ ds p vs H', P ds → Stp c H H' → H p = none → H' p = some (.lst vs) → DenL H' (fun a => c.U ps a ∨ a = p) vs ds → Q (.ref p) H') → t σ H Q
def SemT (t : TT) (g : Env → M Bool) : Prop := ∀ c ρ ps σ H Q P, c.s = s → R c Γ ρ ps σ H → g ρ P → (∀ b H', P b → Stp c H H' → Q b H') → t σ H Q
/-- arguments -/
def SemA (t : TA) (f : Env → M (List D)) : Prop := ∀ c ρ ps σ H Q P, c.s = s → R c Γ ρ ps σ H → f ρ P → (∀ ds vs H', P ds → Stp c H H' → DenL H' (c.U ps) vs ds → Q vs H') → t σ H Q
end
inductive Views (c : Fx) (ps : List Addr) (H : Hp) : List V → List D → Prop
  | nil : Views c ps H [] []
  | cons {v : V} {vs : List V} {d : D} {ds : List D} : View c ps H v d → Views c ps H vs ds → Views c ps H (v :: vs) (d :: ds)
theorem Views.stp {c : Fx} {ps : List Addr} {H H' : Hp} (ok : c.Ok) (hp : ∀ p ∈ ps, ¬ c.A p) (e : Stp c H H') : ∀ {vs : List V} {ds : List D}, Views c ps H vs ds → Views c ps H' vs ds
  | _, _, .nil => .nil
  | _, _, .cons h t => .cons (h.stp ok hp e) (Views.stp ok hp e t)
def SemAV (s : Sx) (Γ : List Md) (t : TA) (f : Env → M (List D)) : Prop := ∀ c ρ ps σ H Q P, c.s = s → R c Γ ρ ps σ H → f ρ P → (∀ ds vs H', P ds → Stp c H H' → Views c ps H' vs ds → Q vs H') → t σ H Q

theorem SemE.v {s : Sx} {Γ : List Md} {t : TE} {f : Env → M D} (h : SemE s Γ t f) : SemV s Γ t f := fun c ρ ps σ H Q P e r q k =>
  h c ρ ps σ H Q P e r q fun d v H' p e dn => k d v H' p e (.den dn)
def mkL (f : Env → M (List D)) : Env → M D := fun ρ => bnd (f ρ) fun ds => ret (.list ds)
theorem SemL.e {s : Sx} {Γ : List Md} {t : TE} {f : Env → M (List D)} (h : SemL s Γ t f) : SemE s Γ t (mkL f) := fun c ρ ps σ H Q P ec r q k =>
  h c ρ ps σ H Q (fun ds => P (.list ds)) ec r q fun ds p vs H' p' e hn hp dn =>
    k (.list ds) (.ref p) H' p' e (.lst hp (fun u => by
      have := r.new hn; exact this u) (dn.mono (fun _ _ q _ => q) fun _ _ _ u => .inl u))
end Py
/-! PyB: expressions without calls and loops. -/
namespace Py
open PySem L2

/-! ### facts at hand in a state -/
structure Gd (c : Fx) (ps : List Addr) (H : Hp) : Prop where
  ok : c.Ok
  lo : Loose H (c.U ps)
  sz : Sz H
  nA : ∀ p ∈ ps, ¬ c.A p
  inv : c.J H
theorem R.gd {c : Fx} {Γ : List Md} {ρ : Env} {ps : List Addr} {σ : St} {H : Hp} (r : R c Γ ρ ps σ H) : Gd c ps H := ⟨r.ok, r.loose, r.sz, fun p h => r.ownA h, r.inv⟩
theorem Gd.new {c : Fx} {ps : List Addr} {H : Hp} (g : Gd c ps H) {p : Addr} (h : H p = none) : ¬ c.U ps p := fun u => by
  obtain ⟨o, h', _⟩ := g.lo p u
  rw [h] at h'; cases h'
section
variable {c : Fx} {ps : List Addr} {H : Hp} {v w : V} {d : D}
theorem View.int {i : Int} (h : View c ps H v (.int i)) : v = .int i := by cases h with | den h => cases h; rfl
theorem View.bl {b : Bool} (h : View c ps H v (.bool b)) : v = .bl b := by cases h with | den h => cases h; rfl
theorem View.str {b : Str} (h : View c ps H v (.str b)) : v = .str b := by cases h with | den h => cases h; rfl
theorem View.non (h : View c ps H v .none) : v = .non := by cases h with | den h => cases h; rfl
theorem View.non_iff (h : View c ps H v d) : v = .non ↔ d = .none := by
  constructor
  · intro e; subst e
    cases h with | den h => cases h; rfl
  · intro e; subst e; exact h.non
theorem View.lst {ds : List D} (h : View c ps H v (.list ds)) : ∃ a vs, v = .ref a ∧ H a = some (.lst vs) ∧ DenL H (c.U ps) vs ds := by
  cases h with
  | den h => cases h with | lst h1 h2 h3 => exact ⟨_, _, rfl, h1, h3⟩
  | own h1 h2 h3 => exact ⟨_, _, rfl, h1, h3⟩
theorem View.tup {ds : List D} (h : View c ps H v (.tuple ds)) : ∃ a vs, v = .ref a ∧ H a = some (.tup vs) ∧ DenL H (c.U ps) vs ds ∧ ¬ c.U ps a := by
  cases h with | den h => cases h with | tup h1 h2 h3 => exact ⟨_, _, rfl, h1, h3, h2⟩
end

/-! ### names, constants -/
section
variable {s : Sx} {Γ : List Md}
def eVar (i : Nat) : Env → M D := fun ρ => match ρ[i]? with | some (some d) => ret d | _ => stuck
theorem eVar_get {i : Nat} {ρ : Env} {P : D → Prop} (h : eVar i ρ P) : ∃ d, ρ[i]? = some (some d) ∧ P d := by
  unfold eVar at h
  generalize ρ[i]? = z at h ⊢
  rcases z with _ | _ | d
  · cases h
  · cases h
  · exact ⟨d, rfl, h⟩
theorem sem_var {i : Nat} (hm : Γ[i]? = some .fro) : SemE s Γ (tVar i) (eVar i) := by
  intro c ρ ps σ H Q P _ r q k
  obtain ⟨d, e, p⟩ := eVar_get q
  obtain ⟨o, qs, e1, e2, _⟩ := r.sl.get hm e
  cases e2 with
  | fro h => exact ⟨_, e1, k d _ H p (Stp.refl c H) h⟩
theorem sem_own {i : Nat} (hm : Γ[i]? = some .own) : SemV s Γ (tVar i) (eVar i) := by
  intro c ρ ps σ H Q P _ r q k
  obtain ⟨d, e, p⟩ := eVar_get q
  obtain ⟨o, qs, e1, e2, e3⟩ := r.sl.get hm e
  cases e2 with
  | own h1 h2 => exact ⟨_, e1, k _ _ H p (Stp.refl c H) (.own h1 (e3 _ (by simp)) h2)⟩
theorem sem_lent {i : Nat} {p : Addr} {vs : List V} (hm : Γ[i]? = some (.lent p vs)) : SemV s Γ (tVar i) (eVar i) := by
  intro c ρ ps σ H Q P _ r q k
  obtain ⟨d, e, p⟩ := eVar_get q
  obtain ⟨o, qs, e1, e2, e3⟩ := r.sl.get hm e
  cases e2 with
  | lent h1 h2 => exact ⟨_, e1, k _ _ H p (Stp.refl c H) (.own h1 (e3 _ (by simp)) h2)⟩
def eC (d : D) : Env → M D := fun _ => ret d
theorem sem_int {i : Int} : SemE s Γ (tC (.int i)) (eC (.int i)) := fun c ρ ps σ H Q P _ r q k => k _ _ H q (Stp.refl c H) (.int i)
theorem sem_bl {i : Bool} : SemE s Γ (tC (.bl i)) (eC (.bool i)) := fun c ρ ps σ H Q P _ r q k => k _ _ H q (Stp.refl c H) (.bl i)
theorem sem_str {i : Str} : SemE s Γ (tC (.str i)) (eC (.str i)) := fun c ρ ps σ H Q P _ r q k => k _ _ H q (Stp.refl c H) (.str i)
theorem sem_non : SemE s Γ (tC .non) (eC .none) := fun c ρ ps σ H Q P _ r q k => k _ _ H q (Stp.refl c H) .non

/-! ### operators by values -/
/-- r reckons g; what it gives is a datum -/
def OpE (s : Sx) (r : R2) (g : D → D → M D) : Prop := ∀ c ps H x y u v Q P, c.s = s → Gd c ps H → View c ps H u x → View c ps H v y → g x y P → (∀ d w H', P d → Stp c H H' → Den H' (c.U ps) w d → Q w H') → r u v H Q
def UnE (s : Sx) (r : V → Hp → VK → Prop) (g : D → M D) : Prop := ∀ c ps H x u Q P, c.s = s → Gd c ps H → View c ps H u x → g x P → (∀ d w H', P d → Stp c H H' → Den H' (c.U ps) w d → Q w H') → r u H Q
def bin (g : D → D → M D) (a b : Env → M D) : Env → M D := fun ρ => bnd (a ρ) fun x => bnd (b ρ) fun y => g x y
def una (g : D → M D) (a : Env → M D) : Env → M D := fun ρ => bnd (a ρ) g
theorem sem_op {r : R2} {g : D → D → M D} {ta tb : TE} {a b : Env → M D} (o : OpE s r g) (ha : SemV s Γ ta a) (hb : SemV s Γ tb b) : SemE s Γ (tOp r ta tb) (bin g a b) := by
  intro c ρ ps σ H Q P hc r0 q k
  refine ha c ρ ps σ H _ _ hc r0 q fun x u H1 q1 e1 d1 => ?_
  refine hb c ρ ps σ H1 _ _ hc (r0.stp e1) q1 fun y v H2 q2 e2 d2 => ?_
  have r2 := (r0.stp e1).stp e2
  exact o c ps H2 x y u v Q P hc r2.gd (d1.stp r0.ok r2.gd.nA e2) d2 q2 fun d w H3 p e3 dn => k d w H3 p ((e1.trans e2).trans e3) dn
theorem sem_un {r : V → Hp → VK → Prop} {g : D → M D} {ta : TE} {a : Env → M D} (o : UnE s r g) (ha : SemV s Γ ta a) : SemE s Γ (tUn r ta) (una g a) := by
  intro c ρ ps σ H Q P hc r0 q k
  refine ha c ρ ps σ H _ _ hc r0 q fun x u H1 q1 e1 d1 => ?_
  exact o c ps H1 x u Q P hc (r0.stp e1).gd d1 q1 fun d w H3 p e3 dn => k d w H3 p (e1.trans e3) dn

/-- two ints -/
def gI (f : Int → Int → D) : D → D → M D
  | .int i, .int j => ret (f i j)
  | _, _ => stuck
/-- two ints, on a condition -/
def gIc (p : Int → Int → Bool) (f : Int → Int → D) : D → D → M D
  | .int i, .int j => if p i j = true then ret (f i j) else stuck
  | _, _ => stuck
theorem op_i0 {f : Int → Int → V} {g : Int → Int → D} (h : ∀ i j H U, Den H U (f i j) (g i j)) : OpE s (rI0 f) (gI g) := by
  intro c ps H x y u v Q P hc G hx hy q k
  unfold gI at q
  split at q
  · exact ⟨_, _, hx.int, hy.int, k _ _ H q (Stp.refl c H) (h _ _ _ _)⟩
  · cases q
theorem op_ic {C : Int → Int → Prop} {p : Int → Int → Bool} {f : Int → Int → V} {g : Int → Int → D} (hp : ∀ i j, p i j = true → C i j) (h : ∀ i j H U, Den H U (f i j) (g i j)) : OpE s (rI C f) (gIc p g) := by
  intro c ps H x y u v Q P hc G hx hy q k
  unfold gIc at q
  split at q
  · split at q
    · exact ⟨_, _, hx.int, hy.int, hp _ _ (by assumption), k _ _ H q (Stp.refl c H) (h _ _ _ _)⟩
    · cases q
  · cases q
abbrev gSub : D → D → M D := gI fun i j => .int (i - j)
abbrev gLt : D → D → M D := gI fun i j => .bool (decide (i < j))
abbrev gLe : D → D → M D := gI fun i j => .bool (decide (i ≤ j))
abbrev gGt : D → D → M D := gI fun i j => .bool (decide (j < i))
abbrev gGe : D → D → M D := gI fun i j => .bool (decide (j ≤ i))
def mulOk (i j : Int) : Bool := decide (i.natAbs.log2 + j.natAbs.log2 < 1000000)
def divOk (_ j : Int) : Bool := decide (j ≠ 0 ∧ j.natAbs.log2 < 9000)
def modOk (_ j : Int) : Bool := decide (j ≠ 0)
abbrev gFdiv : D → D → M D := gIc divOk fun i j => .int (i.fdiv j)
abbrev gMod : D → D → M D := gIc modOk fun i j => .int (i.fmod j)
def CDivF (_ j : Int) : Prop := j ≠ 0 ∧ j.natAbs.log2 < 9000
theorem divOk_c {i j : Int} (h : divOk i j = true) : CDivF i j := by
  unfold divOk at h
  have h' := of_decide_eq_true h
  exact h'
theorem mulOk_c {i j : Int} (h : mulOk i j = true) : CMulW i j := by
  unfold mulOk at h
  have h' := of_decide_eq_true h
  exact h'
theorem modOk_c {i j : Int} (h : modOk i j = true) : j ≠ 0 := by
  unfold modOk at h
  exact of_decide_eq_true h
theorem op_fdivF {X : Cx} : OpR X (binaryOp .FloorDiv) (rI CDivF fun i j => .int (i.fdiv j)) := opI fun _ _ _ _ _ _ _ hc q => PyProof.Rows.floordiv_int hc.1 q (.inl (PyProof.noPylong_of_log2 hc.2))
abbrev rSubI : R2 := rI0 fun i j => .int (i - j)
abbrev rFdivI : R2 := rI CDivF fun i j => .int (i.fdiv j)
abbrev rModI : R2 := rI (fun _ j => j ≠ 0) fun i j => .int (i.fmod j)
theorem oe_sub : OpE s rSubI gSub := op_i0 fun _ _ _ _ => .int _
theorem oe_fdiv : OpE s rFdivI gFdiv := op_ic (fun i j h => divOk_c h) fun _ _ _ _ => .int _
theorem oe_mod : OpE s rModI gMod := op_ic (fun i j h => modOk_c h) fun _ _ _ _ => .int _
theorem oe_lt : OpE s (rI0 fun i j => .bl (decide (i < j))) gLt := op_i0 fun _ _ _ _ => .bl _
theorem oe_le : OpE s (rI0 fun i j => .bl (decide (i ≤ j))) gLe := op_i0 fun _ _ _ _ => .bl _
theorem oe_gt : OpE s (rI0 fun i j => .bl (decide (j < i))) gGt := op_i0 fun _ _ _ _ => .bl _
theorem oe_ge : OpE s (rI0 fun i j => .bl (decide (j ≤ i))) gGe := op_i0 fun _ _ _ _ => .bl _
def gNeg : D → M D
  | .int i => ret (.int (-i))
  | _ => stuck
theorem oe_neg : UnE s (rU fun i => .int (-i)) gNeg := by
  intro c ps H x u Q P hc G hx q k
  unfold gNeg at q
  split at q
  · exact ⟨_, hx.int, k _ _ H q (Stp.refl c H) (.int _)⟩
  · cases q

/-! ### + of ints, tuples, lists -/
def rAddA (K : PySem.W.Frag) : R2 := fun x y H Q => (rI0 (fun i j => .int (i + j)) x y H Q ∨ rCatA K x y H Q) ∨ rCat x y H Q
theorem op_addA {X : Cx} : OpR X (binaryOp .Add) (rAddA X.K) := (L2.op_add.or op_catA).or op_cat
def lenOk (n : Nat) : Bool := decide (n ≤ 100000)
theorem lenOk_sz {n : Nat} (h : lenOk n = true) : n ≤ sizeLine := Nat.le_trans (of_decide_eq_true h) (by decide)
def gAdd : D → D → M D
  | .int i, .int j => ret (.int (i + j))
  | .tuple a, .tuple b => if lenOk (a.length + b.length) = true then ret (.tuple (a ++ b)) else stuck
  | .list a, .list b => if lenOk (a.length + b.length) = true then ret (.list (a ++ b)) else stuck
  | _, _ => stuck
theorem DenL.nil_iff {H : Hp} {U : AS} {vs : List V} {ds : List D} (h : DenL H U vs ds) : vs = [] ↔ ds = [] := by
  cases h with
  | nil => exact ⟨fun _ => rfl, fun _ => rfl⟩
  | cons _ _ => exact Iff.intro (fun e => nomatch e) (fun e => nomatch e)
theorem oe_add {K : PySem.W.Frag} : OpE s (rAddA K) gAdd := by
  intro c ps H x y u v Q P hc G hx hy q k
  unfold gAdd at q
  split at q
  · exact .inl (.inl ⟨_, _, hx.int, hy.int, k _ _ H q (Stp.refl c H) (.int _)⟩)
  · split at q
    · rename_i a b hl
      obtain ⟨p1, vs, rfl, h1, dn1, n1⟩ := hx.tup
      obtain ⟨p2, ws, rfl, h2, dn2, n2⟩ := hy.tup
      have hz : vs.length + ws.length ≤ sizeLine := by rw [dn1.length, dn2.length]; exact lenOk_sz hl
      refine .inl (.inr ⟨p1, p2, vs, ws, rfl, rfl, SqT.of h1, SqT.of h2, hz, fun e => ?_, fun _ e => ?_, fun _ _ p hp => ?_⟩)
      · have e' := dn1.nil_iff.mp e
        subst e'
        exact k _ _ H q (Stp.refl c H) (.tup h2 n2 dn2)
      · have e' := dn2.nil_iff.mp e
        subst e'
        rw [List.append_nil] at q
        exact k _ _ H q (Stp.refl c H) (.tup h1 n1 dn1)
      · have e := Stp.tup G.ok (xs := vs ++ ws) hp (by rw [List.length_append]; exact hz)
        exact k _ _ _ q e (.tup upd_same (G.new hp) ((dn1.stp G.ok e).append (dn2.stp G.ok e)))
    · cases q
  · split at q
    · rename_i a b hl
      obtain ⟨p1, vs, rfl, h1, dn1⟩ := hx.lst
      obtain ⟨p2, ws, rfl, h2, dn2⟩ := hy.lst
      have hz : vs.length + ws.length ≤ sizeLine := by rw [dn1.length, dn2.length]; exact lenOk_sz hl
      refine .inr ⟨p1, p2, vs, ws, rfl, rfl, h1, h2, hz, fun p hp => ?_⟩
      have e := Stp.lst G.ok (xs := vs ++ ws) hp (by rw [List.length_append]; exact hz)
      exact k _ _ _ q e (.lst upd_same (G.new hp) ((dn1.stp G.ok e).append (dn2.stp G.ok e)))
    · cases q
  · cases q

/-! ### * of ints; a list or a tuple times an int -/
def rMulA (K : PySem.W.Frag) : R2 := fun x y H Q => rI CMulW (fun i j => .int (i * j)) x y H Q ∨ rRep x y H Q
theorem op_mulA {X : Cx} : OpR X (binaryOp .Mult) (rMulA X.K) := op_mulW.or op_rep
def repD : Nat → List D → List D
  | 0, _ => []
  | n + 1, ds => ds ++ repD n ds
theorem DenL.rep {H : Hp} {U : AS} {vs : List V} {ds : List D} (h : DenL H U vs ds) : ∀ n : Nat, DenL H U (List.replicate n vs).flatten (repD n ds)
  | 0 => .nil
  | n + 1 => by rw [List.replicate_succ, List.flatten_cons]; exact h.append (h.rep n)
def gMul : D → D → M D
  | .int i, .int j => if mulOk i j = true then ret (.int (i * j)) else stuck
  | .list a, .int n => if decide (0 ≤ n ∧ n ≤ 1000 ∧ a.length ≤ 100) = true then ret (.list (repD n.toNat a)) else stuck
  | _, _ => stuck
theorem oe_mul {K : PySem.W.Frag} : OpE s (rMulA K) gMul := by
  intro c ps H x y u v Q P hc G hx hy q k
  unfold gMul at q
  split at q
  · split at q
    · exact .inl ⟨_, _, hx.int, hy.int, mulOk_c (by assumption), k _ _ H q (Stp.refl c H) (.int _)⟩
    · cases q
  · split at q
    · rename_i a n hl
      have hb := of_decide_eq_true hl
      obtain ⟨p1, vs, rfl, h1, dn1⟩ := hx.lst
      have hv : vs.length ≤ 100 := by rw [dn1.length]; exact hb.2.2
      have h3 : vs.length * n.toNat ≤ 100 * 1000 := Nat.mul_le_mul hv (by omega)
      have hz : vs.length * n.toNat ≤ sizeLine := Nat.le_trans h3 (by decide)
      refine .inr ⟨p1, n, vs, rfl, hy.int, h1, by omega, by omega, hz, fun p hp => ?_⟩
      have e := Stp.lst G.ok (xs := (List.replicate n.toNat vs).flatten) hp (by rw [List.length_flatten, List.map_replicate, List.sum_replicate_nat, Nat.mul_comm]; exact hz)
      exact k _ _ _ q e (.lst upd_same (G.new hp) ((dn1.stp G.ok e).rep _))
    · cases q
  · cases q

/-! ### == and != of data -/
theorem Den.dp {K : PySem.W.Frag} {H : Hp} {U : AS} : ∀ {d : D} {v : V}, Den H U v d → d.canLay0 = true → Dp K H v d := by
  intro d v h
  refine Den.rec (motive_1 := fun v d _ => d.canLay0 = true → Dp K H v d) (motive_2 := fun vs ds _ => PyData.canLayAll0 ds = true → DpAll K H vs ds) ?_ ?_ ?_ ?_ ?_ ?_ ?_ ?_ ?_ ?_ h
  · intro _; exact .non
  · intro b _; exact .bl b
  · intro b _; exact .int b
  · intro b _; exact .str b
  · intro a xs ds ha hu _ ih z; exact .lst (SqL.of ha) (ih (by simpa [PyData.canLay0] using z))
  · intro a xs ds ha hu _ ih z; exact .tup (SqT.of ha) (ih (by simpa [PyData.canLay0] using z))
  · intro a ha hu z; simp [PyData.canLay0] at z
  · intro a kvs ks ha hu hk z; simp [PyData.canLay0] at z
  · intro _; exact .nil
  · intro v vs d ds _ _ h1 h2 z
    have z' : d.canLay0 = true ∧ PyData.canLayAll0 ds = true := by simpa [PyData.canLayAll0] using z
    exact .cons (h1 z'.1) (h2 z'.2)
theorem DenL.dp {K : PySem.W.Frag} {H : Hp} {U : AS} : ∀ {ds : List D} {vs : List V}, DenL H U vs ds → PyData.canLayAll0 ds = true → DpAll K H vs ds
  | _, _, .nil, _ => .nil
  | d :: ds, _, .cons h t, z => by
    have z' : d.canLay0 = true ∧ PyData.canLayAll0 ds = true := by simpa [PyData.canLayAll0] using z
    exact .cons (h.dp z'.1) (t.dp z'.2)
theorem View.dp {K : PySem.W.Frag} {c : Fx} {ps : List Addr} {H : Hp} {v : V} {d : D} (h : View c ps H v d) (z : d.canLay0 = true) : Dp K H v d := by
  cases h with
  | den h => exact h.dp z
  | own h1 _ h3 => exact .lst (SqL.of h1) (h3.dp (by simpa [PyData.canLay0] using z))
def shp (d : D) : Bool := SeqAt.shaped d
theorem shp_lay {d : D} (h : shp d = true) : d.canLay0 = true := SeqAt.canLay_of_shaped h
def gEq : D → D → M D := fun x y => if (shp x && shp y) = true then ret (.bool (PyData.eqv x y)) else stuck
def gNe : D → D → M D := fun x y => if (shp x && shp y) = true then ret (.bool (!PyData.eqv x y)) else stuck
theorem oe_eq {K : PySem.W.Frag} : OpE s (rEqD K) gEq := by
  intro c ps H x y u v Q P hc G hx hy q k
  unfold gEq at q
  split at q
  · rename_i z
    have z' : shp x = true ∧ shp y = true := by simpa using z
    exact ⟨x, y, hx.dp (shp_lay z'.1), hy.dp (shp_lay z'.2), z'.1, z'.2, k _ _ H q (Stp.refl c H) (.bl _)⟩
  · cases q
theorem oe_ne {K : PySem.W.Frag} : OpE s (rNeD K) gNe := by
  intro c ps H x y u v Q P hc G hx hy q k
  unfold gNe at q
  split at q
  · rename_i z
    have z' : shp x = true ∧ shp y = true := by simpa using z
    exact ⟨x, y, hx.dp (shp_lay z'.1), hy.dp (shp_lay z'.2), z'.1, z'.2, k _ _ H q (Stp.refl c H) (.bl _)⟩
  · cases q

/-! ### is None, is True -/
def isNonD : D → Bool
  | .none => true
  | _ => false
def gIsN : D → D → M D := fun x _ => ret (.bool (isNonD x))
def gNotN : D → D → M D := fun x _ => ret (.bool (!isNonD x))
theorem is_non {c : Fx} {ps : List Addr} {H : Hp} {v : V} {d : D} (h : View c ps H v d) : decide (v = .non) = isNonD d := by
  by_cases e : v = .non
  · rw [decide_eq_true e, h.non_iff.mp e]; rfl
  · rw [decide_eq_false e]
    have ne := fun q => e (h.non_iff.mpr q)
    cases d <;> first | rfl | exact absurd rfl ne
abbrev rIsNon : R2 := fun x y H Q => y = .non ∧ Q (.bl (decide (x = .non))) H
abbrev rNotNon : R2 := fun x y H Q => y = .non ∧ Q (.bl (!decide (x = .non))) H
theorem sem_isN {ta : TE} {a : Env → M D} (ha : SemV s Γ ta a) : SemE s Γ (tOp rIsNon ta (tC .non)) (bin gIsN a (eC .none)) := by
  intro c ρ ps σ H Q P hc r0 q k
  refine ha c ρ ps σ H _ _ hc r0 q fun x u H1 q1 e1 d1 => ?_
  refine ⟨rfl, k _ _ H1 q1 e1 ?_⟩
  rw [is_non d1]; exact .bl _
theorem sem_notN {ta : TE} {a : Env → M D} (ha : SemV s Γ ta a) : SemE s Γ (tOp rNotNon ta (tC .non)) (bin gNotN a (eC .none)) := by
  intro c ρ ps σ H Q P hc r0 q k
  refine ha c ρ ps σ H _ _ hc r0 q fun x u H1 q1 e1 d1 => ?_
  refine ⟨rfl, k _ _ H1 q1 e1 ?_⟩
  rw [is_non d1]; exact .bl _
def gB (f : Bool → Bool → Bool) : D → D → M D
  | .bool i, .bool j => ret (.bool (f i j))
  | _, _ => stuck
theorem oe_isB : OpE s rIsB (gB fun a b => decide (a = b)) := by
  intro c ps H x y u v Q P hc G hx hy q k
  unfold gB at q
  split at q
  · exact ⟨_, _, hx.bl, hy.bl, k _ _ H q (Stp.refl c H) (.bl _)⟩
  · cases q
theorem oe_notB : OpE s rNotB (gB fun a b => !decide (a = b)) := by
  intro c ps H x y u v Q P hc G hx hy q k
  unfold gB at q
  split at q
  · exact ⟨_, _, hx.bl, hy.bl, k _ _ H q (Stp.refl c H) (.bl _)⟩
  · cases q

/-! ### tests -/
def tst (e : Env → M D) : Env → M Bool := fun ρ => bnd (e ρ) fun d => match d with | .bool b => ret b | _ => stuck
theorem sem_test {t : TE} {e : Env → M D} (h : SemV s Γ t e) : SemT s Γ (tTest t) (tst e) := by
  intro c ρ ps σ H Q P hc r0 q k
  refine h c ρ ps σ H _ _ hc r0 q fun x u H1 q1 e1 d1 => ?_
  dsimp only at q1
  split at q1
  · exact ⟨_, d1.bl, k _ H1 q1 e1⟩
  · cases q1
theorem sem_tB {t : TE} {e : Env → M D} (h : SemV s Γ t e) : SemT s Γ (tB t) (tst e) := by
  intro c ρ ps σ H Q P hc r0 q k
  refine h c ρ ps σ H _ _ hc r0 q fun x u H1 q1 e1 d1 => ?_
  dsimp only at q1
  split at q1
  · exact ⟨_, d1.bl, k _ H1 q1 e1⟩
  · cases q1
/-- the truth of a bool, an int, a sequence, None -/
def truD : D → M Bool
  | .bool b => ret b
  | .int i => ret (i != 0)
  | .list ds => ret (!ds.isEmpty)
  | .tuple ds => ret (!ds.isEmpty)
  | .none => ret false
  | _ => stuck
def tru (e : Env → M D) : Env → M Bool := fun ρ => bnd (e ρ) truD
theorem DenL.empty {H : Hp} {U : AS} {vs : List V} {ds : List D} (h : DenL H U vs ds) : vs.isEmpty = ds.isEmpty := by cases h <;> rfl
theorem sem_tru {K : PySem.W.Frag} {t : TE} {e : Env → M D} (h : SemV s Γ t e) : SemT s Γ (fun σ H Q => t σ H fun x H' => ∃ k, TruV K x H' k ∧ Q k H') (tru e) := by
  intro c ρ ps σ H Q P hc r0 q k
  refine h c ρ ps σ H _ _ hc r0 q fun x u H1 q1 e1 d1 => ?_
  unfold truD at q1
  split at q1
  · rw [d1.bl]; exact ⟨_, rfl, k _ H1 q1 e1⟩
  · rw [d1.int]; exact ⟨_, rfl, k _ H1 q1 e1⟩
  · obtain ⟨a, vs, rfl, h1, dn⟩ := d1.lst
    refine ⟨_, .inl ⟨vs, SqL.of h1, rfl⟩, k _ H1 ?_ e1⟩
    rw [dn.empty]; exact q1
  · obtain ⟨a, vs, rfl, h1, dn, _⟩ := d1.tup
    refine ⟨_, .inr (.inl ⟨vs, SqT.of h1, rfl⟩), k _ H1 ?_ e1⟩
    rw [dn.empty]; exact q1
  · rw [d1.non]; exact ⟨_, rfl, k _ H1 q1 e1⟩
  · cases q1
def bAnd (a b : Env → M Bool) : Env → M Bool := fun ρ => bnd (a ρ) fun x => if x = true then b ρ else ret false
def bOr (a b : Env → M Bool) : Env → M Bool := fun ρ => bnd (a ρ) fun x => if x = true then ret true else b ρ
def bNot (a : Env → M Bool) : Env → M Bool := fun ρ => bnd (a ρ) fun x => ret (!x)
theorem sem_and {t u : TT} {a b : Env → M Bool} (ha : SemT s Γ t a) (hb : SemT s Γ u b) : SemT s Γ (tAnd t u) (bAnd a b) := by
  intro c ρ ps σ H Q P hc r0 q k
  refine ha c ρ ps σ H _ _ hc r0 q fun x H1 q1 e1 => ?_
  dsimp only at q1
  cases x with
  | true =>
    refine iteT ?_
    rw [if_pos rfl] at q1
    exact hb c ρ ps σ H1 _ _ hc (r0.stp e1) q1 fun y H2 q2 e2 => k y H2 q2 (e1.trans e2)
  | false =>
    refine iteF ?_
    rw [if_neg Bool.false_ne_true] at q1
    exact k _ H1 q1 e1
theorem sem_or {t u : TT} {a b : Env → M Bool} (ha : SemT s Γ t a) (hb : SemT s Γ u b) : SemT s Γ (tOr t u) (bOr a b) := by
  intro c ρ ps σ H Q P hc r0 q k
  refine ha c ρ ps σ H _ _ hc r0 q fun x H1 q1 e1 => ?_
  dsimp only at q1
  cases x with
  | true =>
    refine iteT ?_
    rw [if_pos rfl] at q1
    exact k _ H1 q1 e1
  | false =>
    refine iteF ?_
    rw [if_neg Bool.false_ne_true] at q1
    exact hb c ρ ps σ H1 _ _ hc (r0.stp e1) q1 fun y H2 q2 e2 => k y H2 q2 (e1.trans e2)
theorem sem_not {t : TT} {a : Env → M Bool} (ha : SemT s Γ t a) : SemT s Γ (tNot t) (bNot a) := by
  intro c ρ ps σ H Q P hc r0 q k
  exact ha c ρ ps σ H _ _ hc r0 q fun x H1 q1 e1 => k _ H1 q1 e1
/-- and, or, not as values: bools -/
def vB (a : Env → M Bool) : Env → M D := fun ρ => bnd (a ρ) fun b => ret (.bool b)
def eAnd (a b : Env → M D) : Env → M D := fun ρ => bnd (tst a ρ) fun x => if x = true then b ρ else ret (.bool false)
def eOr (a b : Env → M D) : Env → M D := fun ρ => bnd (tst a ρ) fun x => if x = true then ret (.bool true) else b ρ
def eNot (a : Env → M D) : Env → M D := fun ρ => bnd (tst a ρ) fun x => ret (.bool (!x))
theorem sem_eAnd {t u : TE} {a b : Env → M D} (ha : SemV s Γ t a) (hb : SemE s Γ u b) : SemE s Γ (tAndV t u) (eAnd a b) := by
  intro c ρ ps σ H Q P hc r0 q k
  refine ha c ρ ps σ H _ _ hc r0 q fun x v H1 q1 e1 d1 => ?_
  dsimp only at q1
  split at q1
  · refine ⟨_, d1.bl, ?_⟩
    rename_i bb
    replace q1 : (if bb = true then b ρ else ret (.bool false)) P := q1
    cases bb with
    | true =>
      rw [if_pos rfl] at q1
      refine iteT ?_
      exact hb c ρ ps σ H1 _ _ hc (r0.stp e1) q1 fun d w H2 q2 e2 dn => k d w H2 q2 (e1.trans e2) dn
    | false =>
      rw [if_neg Bool.false_ne_true] at q1
      exact iteF (k _ _ H1 q1 e1 (.bl _))
  · cases q1
theorem sem_eOr {t u : TE} {a b : Env → M D} (ha : SemV s Γ t a) (hb : SemE s Γ u b) : SemE s Γ (tOrV t u) (eOr a b) := by
  intro c ρ ps σ H Q P hc r0 q k
  refine ha c ρ ps σ H _ _ hc r0 q fun x v H1 q1 e1 d1 => ?_
  dsimp only at q1
  split at q1
  · refine ⟨_, d1.bl, ?_⟩
    rename_i bb
    replace q1 : (if bb = true then ret (.bool true) else b ρ) P := q1
    cases bb with
    | true =>
      rw [if_pos rfl] at q1
      exact iteT (k _ _ H1 q1 e1 (.bl _))
    | false =>
      rw [if_neg Bool.false_ne_true] at q1
      refine iteF ?_
      exact hb c ρ ps σ H1 _ _ hc (r0.stp e1) q1 fun d w H2 q2 e2 dn => k d w H2 q2 (e1.trans e2) dn
  · cases q1
theorem sem_eNot {t : TE} {a : Env → M D} (ha : SemV s Γ t a) : SemE s Γ (tNotV t) (eNot a) := by
  intro c ρ ps σ H Q P hc r0 q k
  refine ha c ρ ps σ H _ _ hc r0 q fun x v H1 q1 e1 d1 => ?_
  dsimp only at q1
  split at q1
  · exact ⟨_, d1.bl, k _ _ H1 q1 e1 (.bl _)⟩
  · cases q1
def eIf (g : Env → M Bool) (a b : Env → M D) : Env → M D := fun ρ => bnd (g ρ) fun x => if x = true then a ρ else b ρ
theorem sem_eIf {t : TT} {u w : TE} {g : Env → M Bool} {a b : Env → M D} (hg : SemT s Γ t g) (ha : SemE s Γ u a) (hb : SemE s Γ w b) : SemE s Γ (tIf t u w) (eIf g a b) := by
  intro c ρ ps σ H Q P hc r0 q k
  refine hg c ρ ps σ H _ _ hc r0 q fun x H1 q1 e1 => ?_
  dsimp only at q1
  cases x with
  | true =>
    rw [if_pos rfl] at q1
    refine iteT ?_
    exact ha c ρ ps σ H1 _ _ hc (r0.stp e1) q1 fun d w H2 q2 e2 dn => k d w H2 q2 (e1.trans e2) dn
  | false =>
    rw [if_neg Bool.false_ne_true] at q1
    refine iteF ?_
    exact hb c ρ ps σ H1 _ _ hc (r0.stp e1) q1 fun d w H2 q2 e2 dn => k d w H2 q2 (e1.trans e2) dn
/-- a < b < c of ints (b asked once) -/
def eChain (g g' : D → D → M D) (a b e : Env → M D) : Env → M D := fun ρ => bnd (a ρ) fun x => bnd (b ρ) fun y => bnd (g x y) fun z => match z with
  | .bool k => if k = true then bnd (e ρ) fun w => g' y w else ret (.bool false)
  | _ => stuck
theorem sem_chain {r r' : R2} {g g' : D → D → M D} {ta tb te : TE} {a b e : Env → M D} (o : OpE s r g) (o' : OpE s r' g') (ha : SemV s Γ ta a) (hb : SemV s Γ tb b) (he : SemV s Γ te e) : SemE s Γ (tChain r r' ta tb te) (eChain g g' a b e) := by
  intro c ρ ps σ H Q P hc r0 q k
  refine ha c ρ ps σ H _ _ hc r0 q fun x u H1 q1 e1 d1 => ?_
  refine hb c ρ ps σ H1 _ _ hc (r0.stp e1) q1 fun y v H2 q2 e2 d2 => ?_
  have r2 := (r0.stp e1).stp e2
  refine o c ps H2 x y u v _ _ hc r2.gd (d1.stp r0.ok r2.gd.nA e2) d2 q2 fun z w H3 q3 e3 d3 => ?_
  dsimp only at q3
  split at q3
  · rename_i kk
    cases d3
    refine ⟨kk, rfl, ?_⟩
    cases kk with
    | true =>
      rw [if_pos rfl] at q3
      refine iteT ?_
      have r3 := r2.stp e3
      refine he c ρ ps σ H3 _ _ hc r3 q3 fun z' w' H4 q4 e4 d4 => ?_
      have r4 := r3.stp e4
      exact o' c ps H4 y z' v w' _ _ hc r4.gd ((d2.stp r0.ok r2.gd.nA e3).stp r0.ok r2.gd.nA e4) d4 q4 fun d w H5 p e5 dn => k d w H5 p ((((e1.trans e2).trans e3).trans e4).trans e5) dn
    | false =>
      rw [if_neg Bool.false_ne_true] at q3
      exact iteF (k _ _ H3 q3 ((e1.trans e2).trans e3) (.bl _))
  · cases q3
end
end Py
/-! PyC: places, slices, displays, targets, what is walked, comprehensions. -/
namespace Py
open PySem L2 StX
section
variable {s : Sx} {Γ : List Md}

/-! ### places -/
def gIx : D → D → M D
  | .list ds, .int i => match atI ds i with | some d => ret d | none => stuck
  | .tuple ds, .int i => match atI ds i with | some d => ret d | none => stuck
  | _, _ => stuck
theorem DenL.atI {H : Hp} {U : AS} {vs : List V} {ds : List D} {i : Int} {d : D} (h : DenL H U vs ds) (e : atI ds i = some d) : ∃ v, L2.atI vs i = some v ∧ Den H U v d := by
  unfold L2.atI at e ⊢
  rw [h.length]
  cases z : ixN ds.length i with
  | none => rw [z] at e; cases e
  | some j => rw [z] at e; exact h.get e
theorem oe_ix {K : PySem.W.Frag} : OpE s (rIx K) gIx := by
  intro c ps H x y u v Q P hc G hx hy q k
  unfold gIx at q
  split at q
  · rename_i ds i
    obtain ⟨a, vs, rfl, h1, dn⟩ := hx.lst
    cases z : L2.atI ds i with
    | none => rw [z] at q; cases q
    | some d =>
      rw [z] at q
      obtain ⟨w, e1, e2⟩ := dn.atI z
      exact .inl ⟨a, vs, i, w, rfl, hy.int, SqL.of h1, e1, k _ _ H q (Stp.refl c H) e2⟩
  · rename_i ds i
    obtain ⟨a, vs, rfl, h1, dn, _⟩ := hx.tup
    cases z : L2.atI ds i with
    | none => rw [z] at q; cases q
    | some d =>
      rw [z] at q
      obtain ⟨w, e1, e2⟩ := dn.atI z
      exact .inr (.inl ⟨a, vs, i, w, rfl, hy.int, SqT.of h1, e1, k _ _ H q (Stp.refl c H) e2⟩)
  · cases q

/-! ### slices -/
def SemO (s : Sx) (Γ : List Md) (t : TO) (f : Env → M (Option Int)) : Prop := ∀ c ρ ps σ H Q P, c.s = s → R c Γ ρ ps σ H → f ρ P → (∀ o H', P o → Stp c H H' → Q o H') → t σ H Q
def oNo : Env → M (Option Int) := fun _ => ret none
def oPart (e : Env → M D) : Env → M (Option Int) := fun ρ => bnd (e ρ) fun d => match d with | .int i => ret (some i) | _ => stuck
theorem sem_oNo : SemO s Γ tNoPart oNo := fun c ρ ps σ H Q P _ r q k => k _ H q (Stp.refl c H)
theorem sem_oPart {t : TE} {e : Env → M D} (h : SemV s Γ t e) : SemO s Γ (tPart t) (oPart e) := by
  intro c ρ ps σ H Q P hc r0 q k
  refine h c ρ ps σ H _ _ hc r0 q fun x u H1 q1 e1 d1 => ?_
  dsimp only at q1
  split at q1
  · exact ⟨_, d1.int, k _ H1 q1 e1⟩
  · cases q1
def cutD (ds : List D) (lo hi : Option Int) : List D := (ds.drop (HT.sIx ds.length 0 lo)).take (HT.sIx ds.length ds.length hi - HT.sIx ds.length 0 lo)
theorem DenL.cut {H : Hp} {U : AS} {vs : List V} {ds : List D} (h : DenL H U vs ds) (lo hi : Option Int) : DenL H U (cutV vs lo hi) (cutD ds lo hi) := by
  unfold cutV cutD
  rw [h.length]
  exact (h.drop _).take _
def gSl (d : D) (lo hi : Option Int) : M D := match d with
  | .list ds => ret (.list (cutD ds lo hi))
  | .tuple ds => ret (.tuple (cutD ds lo hi))
  | _ => stuck
def rSlLT (K : PySem.W.Frag) : V → Option Int → Option Int → Hp → VK → Prop := fun x lo hi H Q => rSlL K x lo hi H Q ∨ rSlA K x lo hi H Q
theorem sl_any {X : Cx} : SlR X (rSlLT X.K) := sl_list.or sl_tupA
def eSl (e : Env → M D) (lo hi : Env → M (Option Int)) : Env → M D := fun ρ => bnd (e ρ) fun d => bnd (lo ρ) fun l => bnd (hi ρ) fun h => gSl d l h
theorem sem_sl {K : PySem.W.Frag} {te : TE} {tl th : TO} {e : Env → M D} {lo hi : Env → M (Option Int)} (he : SemV s Γ te e) (hl : SemO s Γ tl lo) (hh : SemO s Γ th hi) : SemE s Γ (tSl (rSlLT K) te tl th) (eSl e lo hi) := by
  intro c ρ ps σ H Q P hc r0 q k
  refine he c ρ ps σ H _ _ hc r0 q fun x u H1 q1 e1 d1 => ?_
  refine hl c ρ ps σ H1 _ _ hc (r0.stp e1) q1 fun l H2 q2 e2 => ?_
  refine hh c ρ ps σ H2 _ _ hc ((r0.stp e1).stp e2) q2 fun h H3 q3 e3 => ?_
  have r3 := ((r0.stp e1).stp e2).stp e3
  have e4 := e1.trans (e2.trans e3)
  have d3 := d1.stp r0.ok r3.gd.nA (e2.trans e3)
  dsimp only at q3
  unfold gSl at q3
  split at q3
  · obtain ⟨a, vs, rfl, h1, dn⟩ := d3.lst
    refine .inl ⟨a, vs, rfl, SqL.of h1, fun p hp => ?_⟩
    have e := Stp.lst r0.ok (xs := cutV vs l h) hp (Nat.le_trans (cutV_length _ _ _) (r3.sz a vs (.inl h1)))
    exact k _ _ _ q3 (e4.trans e) (.lst upd_same (r3.gd.new hp) ((dn.stp r0.ok e).cut l h))
  · obtain ⟨a, vs, rfl, h1, dn, nu⟩ := d3.tup
    refine .inr ⟨a, vs, rfl, SqT.of h1, fun w => ?_, fun _ p hp => ?_⟩
    · refine k _ _ H3 q3 e4 (.tup h1 nu ?_)
      have hcut : cutV vs l h = vs := by
        unfold cutV
        rw [w.1, w.2, List.drop_zero, Nat.sub_zero, List.take_length]
      have := dn.cut l h
      rwa [hcut] at this
    · have e := Stp.tup r0.ok (xs := cutV vs l h) hp (Nat.le_trans (cutV_length _ _ _) (r3.sz a vs (.inr h1)))
      exact k _ _ _ q3 (e4.trans e) (.tup upd_same (r3.gd.new hp) ((dn.stp r0.ok e).cut l h))
  · cases q3

/-! ### argument lists, displays -/
def aNil : Env → M (List D) := fun _ => ret []
def aCons (a : Env → M D) (r : Env → M (List D)) : Env → M (List D) := fun ρ => bnd (a ρ) fun d => bnd (r ρ) fun ds => ret (d :: ds)
def seqD : D → M (List D)
  | .list ds => ret ds
  | .tuple ds => ret ds
  | _ => stuck
def aStar (a : Env → M D) (r : Env → M (List D)) : Env → M (List D) := fun ρ => bnd (a ρ) fun d => bnd (seqD d) fun xs => bnd (r ρ) fun ds => ret (xs ++ ds)
theorem sem_anil : SemA s Γ tNil aNil := fun c ρ ps σ H Q P _ r q k => k _ _ H q (Stp.refl c H) .nil
theorem sem_acons {t : TE} {u : TA} {a : Env → M D} {r : Env → M (List D)} (ha : SemE s Γ t a) (hr : SemA s Γ u r) : SemA s Γ (tCons t u) (aCons a r) := by
  intro c ρ ps σ H Q P hc r0 q k
  refine ha c ρ ps σ H _ _ hc r0 q fun x u H1 q1 e1 d1 => ?_
  refine hr c ρ ps σ H1 _ _ hc (r0.stp e1) q1 fun ds vs H2 q2 e2 d2 => ?_
  exact k _ _ H2 q2 (e1.trans e2) (.cons (d1.stp r0.ok e2) d2)
theorem seqD_get {d : D} {P : List D → Prop} (h : seqD d P) : ∃ ds, (d = .list ds ∨ d = .tuple ds) ∧ P ds := by
  unfold seqD at h
  split at h
  · exact ⟨_, .inl rfl, h⟩
  · exact ⟨_, .inr rfl, h⟩
  · cases h
theorem View.seq {c : Fx} {ps : List Addr} {H : Hp} {v : V} {d : D} {ds : List D} (h : View c ps H v d) (e : d = .list ds ∨ d = .tuple ds) : ∃ a vs, v = .ref a ∧ ((d = .list ds ∧ H a = some (.lst vs)) ∨ (d = .tuple ds ∧ H a = some (.tup vs))) ∧ DenL H (c.U ps) vs ds := by
  rcases e with rfl | rfl
  · obtain ⟨a, vs, e, h1, h2⟩ := h.lst; exact ⟨a, vs, e, .inl ⟨rfl, h1⟩, h2⟩
  · obtain ⟨a, vs, e, h1, h2, _⟩ := h.tup; exact ⟨a, vs, e, .inr ⟨rfl, h1⟩, h2⟩
theorem sem_astar {K : PySem.W.Frag} {t : TE} {u : TA} {a : Env → M D} {r : Env → M (List D)} (ha : SemV s Γ t a) (hr : SemA s Γ u r) : SemA s Γ (tStar K t u) (aStar a r) := by
  intro c ρ ps σ H Q P hc r0 q k
  refine ha c ρ ps σ H _ _ hc r0 q fun x u H1 q1 e1 d1 => ?_
  obtain ⟨ds, ed, q1⟩ := seqD_get q1
  obtain ⟨p, vs, rfl, h1, dn⟩ := d1.seq ed
  refine ⟨p, vs, rfl, ?_, ?_⟩
  · rcases h1 with ⟨_, h1⟩ | ⟨_, h1⟩
    · exact .inr (SqL.of h1)
    · exact .inl (SqT.of h1)
  · refine hr c ρ ps σ H1 _ _ hc (r0.stp e1) q1 fun es ws H2 q2 e2 d2 => ?_
    exact k _ _ H2 q2 (e1.trans e2) ((dn.stp r0.ok e2).append d2)
def eTup (f : Env → M (List D)) : Env → M D := fun ρ => bnd (f ρ) fun ds => if lenOk ds.length = true then ret (.tuple ds) else stuck
theorem sem_tup {t : TA} {f : Env → M (List D)} (h : SemA s Γ t f) : SemE s Γ (tTup t) (eTup f) := by
  intro c ρ ps σ H Q P hc r0 q k
  refine h c ρ ps σ H _ _ hc r0 q fun ds vs H1 q1 e1 d1 => ?_
  dsimp only at q1
  split at q1
  · rename_i hl
    have hz : vs.length ≤ sizeLine := by rw [d1.length]; exact lenOk_sz hl
    refine ⟨hz, fun p hp => ?_⟩
    have e := Stp.tup r0.ok (xs := vs) hp hz
    exact k _ _ _ q1 (e1.trans e) (.tup upd_same ((r0.stp e1).new hp) (d1.stp r0.ok e))
  · cases q1
def lDisp (f : Env → M (List D)) : Env → M (List D) := fun ρ => bnd (f ρ) fun ds => if lenOk ds.length = true then ret ds else stuck
theorem DenL.plus {H : Hp} {U : AS} {p : Addr} {vs : List V} {ds : List D} {o : HO} (hp : H p = none) (h : DenL H U vs ds) : DenL (upd H p o) (fun a => U a ∨ a = p) vs ds :=
  h.mono (fun a u e _ => upd_keep hp a u e) fun a u e z => z.elim id fun z => by rw [z, hp] at e; cases e
theorem sem_lst {t : TA} {f : Env → M (List D)} (h : SemA s Γ t f) : SemL s Γ (tLst t) (lDisp f) := by
  intro c ρ ps σ H Q P hc r0 q k
  refine h c ρ ps σ H _ _ hc r0 q fun ds vs H1 q1 e1 d1 => ?_
  dsimp only at q1
  split at q1
  · rename_i hl
    have hz : vs.length ≤ sizeLine := by rw [d1.length]; exact lenOk_sz hl
    refine ⟨hz, fun p hp => ?_⟩
    have e := Stp.lst r0.ok (xs := vs) hp hz
    exact k _ p vs _ q1 (e1.trans e) (e1.fresh hp) upd_same (d1.plus hp)
  · cases q1
/-- views, for what only looks at its arguments -/
theorem sem_vnil : SemAV s Γ tNil aNil := fun c ρ ps σ H Q P _ r q k => k _ _ H q (Stp.refl c H) .nil
theorem sem_vcons {t : TE} {u : TA} {a : Env → M D} {r : Env → M (List D)} (ha : SemV s Γ t a) (hr : SemAV s Γ u r) : SemAV s Γ (tCons t u) (aCons a r) := by
  intro c ρ ps σ H Q P hc r0 q k
  refine ha c ρ ps σ H _ _ hc r0 q fun x u H1 q1 e1 d1 => ?_
  refine hr c ρ ps σ H1 _ _ hc (r0.stp e1) q1 fun ds vs H2 q2 e2 d2 => ?_
  exact k _ _ H2 q2 (e1.trans e2) (.cons (d1.stp r0.ok (r0.stp e1).gd.nA e2) d2)

/-! ### targets -/
/-- t stores a datum at places of ts -/
def SemG (s : Sx) (Γ : List Md) (t : TG) (ts : List Nat) (g : D → Env → M Env) : Prop := ∀ c ρ ps σ H d v (Q : St → Hp → Prop) (P : Env → Prop), c.s = s → R c Γ ρ ps σ H → Den H (c.U ps) v d → g d ρ P →
  (∀ ρ' σ', P ρ' → R c Γ ρ' ps σ' H → σ'.length = σ.length → (∀ i, i ∉ ts → σ'[i]? = σ[i]?) → Q σ' H) → t v σ H Q
def SemGs (s : Sx) (Γ : List Md) (t : TGs) (ts : List Nat) (g : List D → Env → M Env) : Prop := ∀ c ρ ps σ H ds vs (Q : St → Hp → Prop) (P : Env → Prop), c.s = s → R c Γ ρ ps σ H → DenL H (c.U ps) vs ds → g ds ρ P →
  (∀ ρ' σ', P ρ' → R c Γ ρ' ps σ' H → σ'.length = σ.length → (∀ i, i ∉ ts → σ'[i]? = σ[i]?) → Q σ' H) → t vs σ H Q
theorem SlotR.froEmpty {c : Fx} {H : Hp} {U : AS} {d : Option D} {o : Option V} {ps : List Addr} (h : SlotR c H U .fro d o ps) : ps = [] := by cases h <;> rfl
theorem Slots.setFro {c : Fx} {H : Hp} {U : AS} {ρ : Env} {σ : St} {ps : List Addr} {v : V} {d : D} (dn : Den H U v d) (h : Slots c H U Γ ρ σ ps) : ∀ {i : Nat}, Γ[i]? = some .fro → Slots c H U Γ (ρ.set i (some d)) (σ.set i (some v)) ps := by
  induction h with
  | nil => intro i hm; simp at hm
  | cons h1 h2 ih =>
    intro i hm
    cases i with
    | zero =>
      simp at hm; subst hm
      have e := h1.froEmpty
      subst e
      exact .cons (.fro dn) h2
    | succ i => exact .cons h1 (ih (by simpa using hm))
theorem Slots.setNo {c : Fx} {H : Hp} {U : AS} {ρ : Env} {σ : St} {ps : List Addr} (h : Slots c H U Γ ρ σ ps) : ∀ {i : Nat} {o : Option V}, Γ[i]? = some .fro → Slots c H U Γ (ρ.set i none) (σ.set i o) ps := by
  induction h with
  | nil => intro i o hm; simp at hm
  | cons h1 h2 ih =>
    intro i o hm
    cases i with
    | zero =>
      simp at hm; subst hm
      have e := h1.froEmpty
      subst e
      exact .cons .no h2
    | succ i => exact .cons h1 (ih (by simpa using hm))
theorem R.setFro {c : Fx} {ρ : Env} {ps : List Addr} {σ : St} {H : Hp} {v : V} {d : D} (r : R c Γ ρ ps σ H) (dn : Den H (c.U ps) v d) {i : Nat} (hm : Γ[i]? = some .fro) : R c Γ (ρ.set i (some d)) ps (σ.set i (some v)) H :=
  { r with sl := r.sl.setFro dn hm }
theorem R.setNo {c : Fx} {ρ : Env} {ps : List Addr} {σ : St} {H : Hp} (r : R c Γ ρ ps σ H) {i : Nat} {o : Option V} (hm : Γ[i]? = some .fro) : R c Γ (ρ.set i none) ps (σ.set i o) H :=
  { r with sl := r.sl.setNo hm }
def tgN (i : Nat) : D → Env → M Env := fun d ρ => ret (ρ.set i (some d))
theorem sem_gname {i : Nat} (hm : Γ[i]? = some .fro) : SemG s Γ (gName i) [i] (tgN i) := by
  intro c ρ ps σ H d v Q P hc r dn q k
  exact k _ _ q (r.setFro dn hm) (by simp) fun j hj => by
    rw [List.getElem?_set_ne (fun e => hj (by simp [e]))]
def tgsNil : List D → Env → M Env := fun ds ρ => match ds with | [] => ret ρ | _ => stuck
def tgsCons (g : D → Env → M Env) (r : List D → Env → M Env) : List D → Env → M Env := fun ds ρ => match ds with | d :: ds => bnd (g d ρ) fun ρ' => r ds ρ' | [] => stuck
theorem sem_gsnil : SemGs s Γ gNil [] tgsNil := by
  intro c ρ ps σ H ds vs Q P hc r dn q k
  unfold tgsNil at q
  split at q
  · cases dn; exact ⟨rfl, k _ _ q r rfl fun _ _ => rfl⟩
  · cases q
theorem sem_gscons {t : TG} {u : TGs} {ts us : List Nat} {g : D → Env → M Env} {g' : List D → Env → M Env} (h : SemG s Γ t ts g) (h' : SemGs s Γ u us g') : SemGs s Γ (gCons t u) (ts ++ us) (tgsCons g g') := by
  intro c ρ ps σ H ds vs Q P hc r dn q k
  unfold tgsCons at q
  split at q
  · cases dn with
    | cons d1 d2 =>
      refine ⟨_, _, rfl, ?_⟩
      refine h c ρ ps σ H _ _ _ _ hc r d1 q fun ρ' σ' q1 r1 l1 n1 => ?_
      refine h' c ρ' ps σ' H _ _ _ _ hc r1 d2 q1 fun ρ2 σ2 q2 r2 l2 n2 => ?_
      exact k ρ2 σ2 q2 r2 (l2.trans l1) fun i hi => (n2 i fun z => hi (List.mem_append_right _ z)).trans (n1 i fun z => hi (List.mem_append_left _ z))
  · cases q
def tgTup (n : Nat) (g : List D → Env → M Env) : D → Env → M Env := fun d ρ => match d with | .tuple ds => if ds.length = n then g ds ρ else stuck | _ => stuck
theorem sem_gtup {K : PySem.W.Frag} {n : Nat} {t : TGs} {ts : List Nat} {g : List D → Env → M Env} (h : SemGs s Γ t ts g) : SemG s Γ (gTup K n t) ts (tgTup n g) := by
  intro c ρ ps σ H d v Q P hc r dn q k
  unfold tgTup at q
  split at q
  · split at q
    · rename_i e
      cases dn with
      | tup h1 h2 h3 =>
        refine ⟨_, _, rfl, SqT.of h1, h3.length.trans e, ?_⟩
        exact h c ρ ps σ H _ _ _ _ hc r h3 q k
    · cases q
  · cases q

/-! ### what is walked -/
/-- nothing else changes than what S tells -/
def Later (S : AS) (H H' : Hp) : Prop := ∀ a o, H a = some o → ¬ S a → H' a = some o
theorem Later.refl (S : AS) (H : Hp) : Later S H H := fun _ _ h _ => h
theorem Later.trans {S : AS} {H H1 H2 : Hp} (a : Later S H H1) (b : Later S H1 H2) : Later S H H2 := fun x o h n => b x o (a x o h n) n
theorem Later.mono {S S' : AS} {H H' : Hp} (h : ∀ a o, H a = some o → S a → S' a) (e : Later S H H') : Later S' H H' := fun x o q n => e x o q fun z => n (h x o q z)
/-- the walk J gives the data ds, whatever happens meanwhile outside S; U: what is mutable -/
structure Items (J : It) (S U : AS) (H : Hp) (ds : List D) : Prop where
  len : ds.length ≤ sizeLine
  go : ∀ i H', Later S H H' → i < ds.length → J.go i H'
  stop : ∀ H', Later S H H' → J.stop ds.length H'
  yld : ∀ i d H' x H'', Later S H H' → Later U H H' → ds[i]? = some d → J.yld i H' x H'' → (∀ a o, H' a = some o → H'' a = some o) ∧ (Sz H' → Sz H'') ∧ ∀ U' : AS, (∀ a o, H a = some o → U' a → U a) → (∀ a, H' a = none → ¬ U' a) → Den H'' U' x d
/-- wi walks; lk: which own lists it leans on (none, or a lent one) -/
def SemI (s : Sx) (Γ : List Md) (wi : TI) (f : Env → M (List D)) : Prop := ∀ c ρ ps σ H (R' : It → Hp → Prop) P, c.s = s → R c Γ ρ ps σ H → f ρ P → (∀ ds J H1, P ds → Stp c H H1 → Items J (c.U ps) (c.U ps) H1 ds → R' J H1) → wi σ H R'
/-- in a comprehension: own lists stand still -/
def SemIc (s : Sx) (Γ : List Md) (wi : TI) (f : Env → M (List D)) : Prop := ∀ c ρ ps σ H (R' : It → Hp → Prop) P, c.s = s → R c Γ ρ ps σ H → f ρ P → (∀ ds J H1, P ds → Stp c H H1 → Items J c.A (c.U ps) H1 ds → R' J H1) → wi σ H R'
end
end Py
/-! PyI: what is walked: sequences (list or tuple), ranges, zip and enumerate over either. -/
namespace Py
open PySem L2 StX PySem.Spec PyProof.Rows

/-! ### a list or a tuple -/
def SqB (K : PySem.W.Frag) (b : Bool) (H : Hp) (a : Addr) (xs : List V) : Prop := if b = true then SqL K H a xs else SqT K H a xs
def RawB (b : Bool) (h : Heap) (a : Addr) (its : Array Value) : Prop := if b = true then h.IsList a its else h.IsTuple a its
def ItB (b : Bool) (h : Heap) (i a : Addr) (k : Nat) : Prop := if b = true then h.IsListIter i a k else h.IsTupleIter i a k
def objB (b : Bool) (a : Addr) : Obj := if b = true then { cls := .type "list_iterator", data := .fields #[.ref a, .int 0 0] } else { cls := .type "tuple_iterator", data := .fields #[.ref a, .int 0 0] }
theorem SqB.raw {X : Cx} {pins : List (Addr × Obj)} {σ : L2.St} {H : Hp} {s : Shared} (I : Inv X pins σ H s) {b : Bool} {a : Addr} {xs : List V} (h : SqB X.K b H a xs) : ∃ its : List Value, Vals xs its ∧ RawB b s.heap a its.toArray ∧ a < s.heap.objs.size := by
  cases b with
  | true =>
    obtain ⟨its, r, p, _⟩ := I.list (show SqL X.K H a xs from h)
    exact ⟨its, r, p.isList, p.lt⟩
  | false =>
    obtain ⟨its, r, p, _⟩ := I.tuple (show SqT X.K H a xs from h)
    exact ⟨its, r, p, p.lt⟩
theorem SqB.inj {X : Cx} {pins : List (Addr × Obj)} {σ : L2.St} {H : Hp} {s : Shared} (I : Inv X pins σ H s) {b : Bool} {a : Addr} {xs ys : List V} (h : SqB X.K b H a xs) (h' : SqB X.K b H a ys) : xs = ys := by
  cases b with
  | true => exact I.list_inj (show SqL X.K H a xs from h) h'
  | false => exact I.tuple_inj (show SqT X.K H a xs from h) h'
theorem ItB.at {b : Bool} {h h' : Heap} {i a : Addr} {k : Nat} (q : ItB b h i a k) (e : ∀ o, h.get? i = some o → h'.get? i = some o) : ItB b h' i a k := by
  cases b with
  | true => exact Heap.IsListIter.at (show h.IsListIter i a k from q) fun o z => e o z
  | false => exact Heap.IsTupleIter.at (show h.IsTupleIter i a k from q) fun o z => e o z
theorem ItB.obj {b : Bool} {h : Heap} {i a : Addr} {k : Nat} (q : ItB b h i a k) : ∃ o, h.get? i = some o ∧ ∀ v, o.data ≠ .cell v := by
  cases b with
  | true =>
    obtain ⟨o, e, _, d⟩ := (show h.IsListIter i a k from q)
    exact ⟨o, e, fun v z => by rw [d] at z; cases z⟩
  | false =>
    obtain ⟨o, e, _, d⟩ := (show h.IsTupleIter i a k from q)
    exact ⟨o, e, fun v z => by rw [d] at z; cases z⟩
theorem draws_b {prog : Program} {w : World} {A : Around} (hh : A.handled = none) (b : Bool) (it a : Addr) (hne : a ≠ it) (its : Array Value) :
    Draws prog w A it [it, a] its.size (fun i v => its[i]? = some v) (fun i h => ItB b h it a i ∧ RawB b h a its) := by
  cases b with
  | true => exact Draws.list hh it a hne its
  | false => exact Draws.tuple hh it a hne its
theorem begins_b (b : Bool) (a : Addr) (its : Array Value) : Begins (.ref a) (objB b a) fun h => RawB b h a its := by
  cases b with
  | true => exact begins_list a its
  | false => exact begins_tuple a its
theorem ItB.start {b : Bool} {h : Heap} {i a : Addr} (e : h.get? i = some (objB b a)) : ItB b h i a 0 := by
  cases b with
  | true => exact ⟨_, e, rfl, rfl⟩
  | false => exact ⟨_, e, rfl, rfl⟩

section
variable {X : Cx} {tg : Expr}
def iSeq (K : PySem.W.Frag) (tl : TE) : TI := fun σ H R => tl σ H fun x H1 => (∃ a, x = .ref a ∧ (∃ xs, SqL K H1 a xs) ∧ R (Itl K a) H1) ∨ (∃ a, x = .ref a ∧ (∃ xs, SqT K H1 a xs) ∧ R (Itt K a) H1)
theorem pi_seq {l : Expr} {tl : TE} (hl : PE X l tl) : PI X tg l (iSeq X.K tl) := by
  refine ⟨fun pn st sg Hh Rr In hw => ?_⟩
  refine thn (hl.run pn st sg Hh _ In hw) fun v s1 ⟨x, H1, I1, r1, q1⟩ => ?_
  rcases q1 with ⟨a, e, ⟨xs, hq⟩, q⟩ | ⟨a, e, ⟨xs, hq⟩, q⟩
  · subst e
    cases r1
    obtain ⟨its, rv, p, hz⟩ := I1.list hq
    refine wpAny_pyIter_list p.isList ?_
    refine ⟨s1.heap.objs.size, [s1.heap.objs.size], _, _, H1, rfl, I1.kept (t' := s1.toks) fun b o e => Heap.get?_push_of_some _ e, turn_list a _, ⟨_, Heap.get?_push_size _ rfl, rfl, rfl⟩, fun b hb => ?_, q⟩
    rw [List.mem_singleton.mp hb]
    exact I1.fpOk (Nat.le_refl _) (I1.hok.fresh (Nat.le_refl _))
  · subst e
    cases r1
    obtain ⟨its, rv, p, hz⟩ := I1.tuple hq
    refine wpAny_pyIter_tuple (show s1.heap.IsTuple a its.toArray from p) ?_
    refine ⟨s1.heap.objs.size, [s1.heap.objs.size], _, _, H1, rfl, I1.kept (t' := s1.toks) fun b o e => Heap.get?_push_of_some _ e, turn_tuple a _, ⟨_, Heap.get?_push_size _ rfl, rfl, rfl⟩, fun b hb => ?_, q⟩
    rw [List.mem_singleton.mp hb]
    exact I1.fpOk (Nat.le_refl _) (I1.hok.fresh (Nat.le_refl _))

/-! ### a walk by new tuples (WalksT), told over the layer -/
/-- the state St is bare (the iterator's own records); the sequences it reads stand in H at each turn -/
structure Bare (P : Program) (w : World) (K : PySem.W.Frag) (I : Addr) (fp wr : List Addr) (n : Nat) (go : Nat → Hp → Prop) (val : Nat → Hp → List V → Prop) (stop : Nat → Hp → Prop) (tn : Nat → Heap → Prop) : Prop where
  sub : ∀ b ∈ wr, b ∈ fp
  mem : I ∈ fp
  obj : ∀ i h, tn i h → ∀ b ∈ fp, ∃ o, h.get? b = some o ∧ ∀ v, o.data ≠ .cell v
  keep : ∀ i h h', tn i h → (∀ b ∈ fp, ∀ o, h.get? b = some o → h'.get? b = some o) → tn i h'
  item : ∀ (X : Cx), X.prog = P → X.w = w → X.K = K → X.A.handled = none → ∀ (elts : List Expr) (k : Nat) (pos : Pos) (i : Nat) (pins : List (Addr × Obj)) (s : Shared) (σ : L2.St) (H : Hp) (E : Value → Shared → Prop) (Q : Value → Shared → Prop), Inv X pins σ H s → (∀ b ∈ fp, H b = none) → tn i s.heap → go i H →
    (∀ T vals us h' tk, val i H vals → Vals vals us → us.length ≤ 8 → s.heap.objs.size ≤ T → h'.IsTuple T us.toArray → tn (i + 1) h' → (∀ b o, b ∉ wr → s.heap.get? b = some o → h'.get? b = some o) → Q (.ref T) { s with heap := h', toks := tk }) →
    wpAny (model P w) X.A (pyNext (.ref I)) (fun r s1 => ∃ u, r = some u ∧ wpAny (model P w) X.A (letOwnedTupleGo (.Tuple elts k pos) (.ref I) u) (fun _ s2 => Q u s2) E s1) E s
  done : ∀ (X : Cx), X.prog = P → X.w = w → X.K = K → X.A.handled = none → ∀ (i : Nat) (pins : List (Addr × Obj)) (s : Shared) (σ : L2.St) (H : Hp) (E : Value → Shared → Prop) (Q : Shared → Prop), Inv X pins σ H s → (∀ b ∈ fp, H b = none) → tn i s.heap → stop i H →
    (∀ h' tk, (∀ b o, b ∉ wr → s.heap.get? b = some o → h'.get? b = some o) → Q { s with heap := h', toks := tk }) → wpAny (model P w) X.A (pyNext (.ref I)) (fun r s1 => r = none ∧ Q s1) E s
  self : ∀ (A : Around) (i : Nat) (s : Shared) (Q : Value → Shared → Prop) (E : Value → Shared → Prop), tn i s.heap → Q (.ref I) s → wpAny (model P w) A (pyIter (.ref I)) Q E s
/-- each turn gives a new tuple of what val tells -/
def Itw (go : Nat → Hp → Prop) (val : Nat → Hp → List V → Prop) (stop : Nat → Hp → Prop) : It :=
  ⟨go, fun i H v H' => ∃ T vals, v = .ref T ∧ H T = none ∧ H' = upd H T (.tup vals) ∧ val i H vals ∧ vals.length ≤ 8, stop⟩
theorem turn_bare {P : Program} {w : World} {K : PySem.W.Frag} {I : Addr} {fp wr : List Addr} {n : Nat} {go : Nat → Hp → Prop} {val : Nat → Hp → List V → Prop} {stop : Nat → Hp → Prop} {tn : Nat → Heap → Prop} {elts : List Expr} {k : Nat} {pos : Pos}
    (B : Bare P w K I fp wr n go val stop tn) : Turn P w K (.Tuple elts k pos) (Itw go val stop) fp I tn where
  mem := B.mem
  obj := B.obj
  keep := B.keep
  item := by
    intro X hP hw hK hc i pins s σ H E Iv hf st hg
    have hh := Iv.ok.hd hc
    subst hP hw hK
    refine wpAny_mono (B.item X rfl rfl rfl hh elts k pos i pins s σ H E (fun u s2 => ∃ x H', Inv X pins σ H' s2 ∧ RelV x u ∧ (Itw go val stop).yld i H x H' ∧ tn (i + 1) s2.heap ∧ ∀ b ∈ fp, H' b = none) Iv (fun b hb => (hf b hb).1) st hg
      fun T vals us h' tk hv rv hl hT hi st' hk => ?_) (fun r s1 q => q) fun _ _ q => q
    have hn : H T = none := Iv.hok.fresh hT
    have hz : vals.length ≤ sizeLine := by
      rw [rv.length]
      exact Nat.le_trans hl (by decide)
    have new : ObjOk X.prog X.w (upd H T (.tup vals)) h' T (.tup vals) := ⟨hz, us, rv, hi⟩
    have I1 : Inv X pins σ (upd H T (.tup vals)) { s with heap := h', toks := tk } :=
      Iv.turnedNew (ch := fp) (fun b o hb q => hk b o (fun z => hb (B.sub b z)) q) hf hT new
    refine ⟨.ref T, _, I1, rfl, ⟨T, vals, rfl, hn, rfl, hv, by rw [rv.length]; exact hl⟩, st', fun b hb => ?_⟩
    obtain ⟨o, ho, _⟩ := B.obj i _ st b hb
    have hlt : b < s.heap.objs.size := Heap.lt_size ho
    rw [upd_ne (Nat.ne_of_lt (Nat.lt_of_lt_of_le hlt hT))]
    exact (hf b hb).1
  done := by
    intro X hP hw hK hc i pins s σ H E Iv hf st hg
    have hh := Iv.ok.hd hc
    subst hP hw hK
    exact B.done X rfl rfl rfl hh i pins s σ H E (fun s1 => Inv X pins σ H s1) Iv (fun b hb => (hf b hb).1) st hg fun h' tk hk =>
      Iv.turnedL (ch := fp) (fun b o hb q => hk b o (fun z => hb (B.sub b z)) q) hf
  self := B.self

/-! ### zip of two sequences -/
def goZ (K : PySem.W.Frag) (b1 b2 : Bool) (a b : Addr) : Nat → Hp → Prop := fun i H => ∃ xs ys x y, SqB K b1 H a xs ∧ SqB K b2 H b ys ∧ xs[i]? = some x ∧ ys[i]? = some y
def valZ (K : PySem.W.Frag) (b1 b2 : Bool) (a b : Addr) : Nat → Hp → List V → Prop := fun i H vs => ∃ x y, vs = [x, y] ∧ (∀ xs, SqB K b1 H a xs → xs[i]? = some x) ∧ ∀ ys, SqB K b2 H b ys → ys[i]? = some y
def stopZ (K : PySem.W.Frag) (b1 b2 : Bool) (a b : Addr) : Nat → Hp → Prop := fun i H => ∃ xs ys, SqB K b1 H a xs ∧ SqB K b2 H b ys ∧ i = min xs.length ys.length
def tnZ (b1 b2 : Bool) (z TI TO i1 i2 a b : Addr) : Nat → Heap → Prop := fun i h => IsZip h z TI TO .none ∧ IsTupOf2 h TI (.ref i1) (.ref i2) ∧ (∃ a1 a2, IsTupOf2 h TO a1 a2) ∧ ItB b1 h i1 a i ∧ ItB b2 h i2 b i
theorem bare_zip {P : Program} {w : World} {K : PySem.W.Frag} {b1 b2 : Bool} {z TI TO i1 i2 a b : Addr} (S : ZipSep2 z TI TO i1 i2 [i1, a] [i2, b]) (ha : a ≠ i1) (hb : b ≠ i2) :
    Bare P w K z [z, TI, TO, i1, i2] [z, TO, i1, i2] 0 (goZ K b1 b2 a b) (valZ K b1 b2 a b) (stopZ K b1 b2 a b) (tnZ b1 b2 z TI TO i1 i2 a b) where
  sub := fun c hc => by simp at hc ⊢; rcases hc with rfl | rfl | rfl | rfl <;> simp
  mem := by simp
  obj := fun i h st c hc => by
    obtain ⟨hz, hTI, ⟨x, y, hTO⟩, h1, h2⟩ := st
    have e' : c = z ∨ c = TI ∨ c = TO ∨ c = i1 ∨ c = i2 := by simpa using hc
    rcases e' with q | q | q | q | q
    · rw [q]; exact ⟨_, hz, fun v q => nomatch q⟩
    · rw [q]; exact ⟨_, hTI, fun v q => nomatch q⟩
    · rw [q]; exact ⟨_, hTO, fun v q => nomatch q⟩
    · rw [q]; exact h1.obj
    · rw [q]; exact h2.obj
  keep := fun i h h' st k => by
    obtain ⟨hz, hTI, ⟨x, y, hTO⟩, h1, h2⟩ := st
    exact ⟨k z (by simp) _ hz, k TI (by simp) _ hTI, ⟨x, y, k TO (by simp) _ hTO⟩, h1.at fun o q => k i1 (by simp) o q, h2.at fun o q => k i2 (by simp) o q⟩
  item := by
    intro X hP hw hK hh elts k pos i pins s σ H E Q Iv hf st hg hQ
    subst hP hw hK
    obtain ⟨hz, hTI, hTO, h1, h2⟩ := st
    obtain ⟨xs, ys, x, y, hqx, hqy, hx, hy⟩ := hg
    obtain ⟨its, rv, p, la⟩ := hqx.raw Iv
    obtain ⟨its2, rv2, p2, lb⟩ := hqy.raw Iv
    have WT := WalksT.zipD2 (prog := X.prog) (w := X.w) (A := X.A) S (draws_b (A := X.A.in1) hh b1 i1 a ha its.toArray) (draws_b (A := X.A.in1) hh b2 i2 b hb its2.toArray)
    have hi1 : i < xs.length := (List.getElem?_eq_some_iff.mp hx).1
    have hi2 : i < ys.length := (List.getElem?_eq_some_iff.mp hy).1
    have l1 := rv.length
    have l2 := rv2.length
    refine WT.item i s _ E (by simp only [List.size_toArray]; omega) ⟨hz, hTI, hTO, ⟨h1, p⟩, ⟨h2, p2⟩⟩ fun T vals h' tk hv hT hi hm hk => ?_
    refine ⟨_, rfl, WT.go elts k pos i T _ _ E hm fun h'' st' hk2 => ?_⟩
    obtain ⟨x1, x2, e1, e2, rfl⟩ := hv
    obtain ⟨u1, hu1, r1⟩ := rv.get hx
    obtain ⟨u2, hu2, r2⟩ := rv2.get hy
    have e1' : u1 = x1 := Option.some.inj (hu1.symm.trans (by simpa using e1))
    have e2' : u2 = x2 := Option.some.inj (hu2.symm.trans (by simpa using e2))
    subst e1' e2'
    obtain ⟨sz, sTI, sTO, ⟨s1, _⟩, ⟨s2, _⟩⟩ := st'
    refine hQ T [x, y] [u1, u2] h'' tk ⟨x, y, rfl, fun l hl => by rw [hl.inj Iv hqx]; exact hx, fun l hl => by rw [hl.inj Iv hqy]; exact hy⟩ (.cons r1 (.cons r2 .nil)) (by simp) hT
      (hi.at fun o q => hk2 T o (WT.apart i T _ hm) q) ⟨sz, sTI, sTO, s1, s2⟩ fun c o hc q => hk2 c o hc (hk c o hc q)
  done := by
    intro X hP hw hK hh i pins s σ H E Q Iv hf st hg hQ
    subst hP hw hK
    obtain ⟨hz, hTI, hTO, h1, h2⟩ := st
    obtain ⟨xs, ys, hqx, hqy, hi⟩ := hg
    obtain ⟨its, rv, p, la⟩ := hqx.raw Iv
    obtain ⟨its2, rv2, p2, lb⟩ := hqy.raw Iv
    have WT := WalksT.zipD2 (prog := X.prog) (w := X.w) (A := X.A) S (draws_b (A := X.A.in1) hh b1 i1 a ha its.toArray) (draws_b (A := X.A.in1) hh b2 i2 b hb its2.toArray)
    have l1 := rv.length
    have l2 := rv2.length
    have hi' : min its.toArray.size its2.toArray.size = i := by simp only [List.size_toArray]; omega
    exact WT.done s _ E (by rw [hi']; exact ⟨hz, hTI, hTO, ⟨h1, p⟩, ⟨h2, p2⟩⟩) fun h' tk hk => ⟨rfl, hQ h' tk hk⟩
  self := fun A i s Q E st h => wpAny_pyIter_zip st.1 h
def iZipB (K : PySem.W.Frag) (ta : TA) : TI := fun σ H R => ta σ H fun vs H1 => ∃ a b b1 b2 xs ys, vs = [.ref a, .ref b] ∧ SqB K b1 H1 a xs ∧ SqB K b2 H1 b ys ∧ R (Itw (goZ K b1 b2 a b) (valZ K b1 b2 a b) (stopZ K b1 b2 a b)) H1
theorem pi_zipB {X : Cx} {e e2 : Expr} {ta : TA} {p pos tpos : Pos} {elts : List Expr} {kk : Nat} (hg : Gl X "zip") (hm : X.mg "zip" = none) (ha : PA X [e, e2] ta)
    (hs : starEach [e, e2] X.env = (false, eval e X.env) :: starEach [e2] X.env := by rfl) (hpl : (backTo pos (starEach [e2] X.env)).any (·.1) = false := by rfl) :
    PI X (.Tuple elts kk tpos) (.Call (.Name "zip" p) [e, e2] [] pos) (iZipB X.K ta) := by
  refine ⟨fun pn st sg Hh Rr In hw => ?_⟩
  refine Call_ (ld_blt In hg hm PyProof.Rows.boot_zip (PyProof.Rows.callWith_type1 (thn (ha.run pos pn st sg Hh _ In hw) fun us s1 ⟨vs, H1, I1, r1, q1⟩ => ?_) hs hpl))
  obtain ⟨a, b, b1, b2, xs, ys, ex, hqx, hqy, q⟩ := q1
  subst ex
  cases r1 with
  | cons r rr =>
    cases rr with
    | cons r' rr =>
      cases rr
      cases r
      cases r'
      obtain ⟨its, rv, p1, la⟩ := hqx.raw I1
      obtain ⟨its2, rv2, p2, lb⟩ := hqy.raw I1
      refine zip_begins2 (begins_b b1 a its.toArray) (begins_b b2 b its2.toArray) p1 p2 fun h' hz hTI hTO h1 h2 hsz hk => wpAny_pyIter_zip hz ?_
      have I2 : Inv X pn sg H1 { s1 with heap := h' } := I1.kept (t' := s1.toks) hk
      have S := zip_sep2 (N := s1.heap.objs.size) (fp1 := [a]) (fp2 := [b]) (by simpa using la) (by simpa using lb)
      refine ⟨s1.heap.objs.size + 4, [s1.heap.objs.size + 4, s1.heap.objs.size + 2, s1.heap.objs.size + 3, s1.heap.objs.size, s1.heap.objs.size + 1], _, _, H1, rfl, I2,
        turn_bare (bare_zip S (Nat.ne_of_lt la) (Nat.ne_of_lt (Nat.lt_succ_of_lt lb))), ⟨hz, hTI, ⟨_, _, hTO⟩, ItB.start h1, ItB.start h2⟩, fun c hcm => ?_, q⟩
      have e' : c = s1.heap.objs.size + 4 ∨ c = s1.heap.objs.size + 2 ∨ c = s1.heap.objs.size + 3 ∨ c = s1.heap.objs.size ∨ c = s1.heap.objs.size + 1 := by simpa using hcm
      have hle : s1.heap.objs.size ≤ c := by
        rcases e' with z | z | z | z | z
        · rw [z]; exact Nat.le_add_right _ _
        · rw [z]; exact Nat.le_add_right _ _
        · rw [z]; exact Nat.le_add_right _ _
        · rw [z]; exact Nat.le_refl _
        · rw [z]; exact Nat.le_add_right _ _
      exact I1.fpOk hle (I1.hok.fresh hle)

/-! ### enumerate of a sequence -/
theorem meets_enum1 {v : Value} {o : Obj} {Hb : Heap → Prop} (B : Begins v o Hb) :
    Meets (Builtin.«enumerate.__new__» ⟨[.type "enumerate", v], []⟩) (fun _ R s => Hb s.heap ∧
      R (.ok (.ret (.ref (s.heap.push o).objs.size))) { s with heap := (s.heap.push o).push { cls := .type "enumerate", data := .fields #[.none, .bool false, .ref s.heap.objs.size, rawInt 0, .none, .none] } }) :=
  .of_wp fun prog w A R s h => by
    obtain ⟨hp, g, d, tk, os⟩ := s; obtain ⟨hl, h⟩ := h
    have hsub := sub_enumerate
    have q1 : ∀ {A' : Around} {E : Value → Shared → Prop} {Q : Value → Shared → Prop}, Q (.ref hp.objs.size) ⟨(hp.push o), g, d, tk, os⟩ → wpAny (model prog w) A' (pyIter v) Q E ⟨hp, g, d, tk, os⟩ :=
      fun q => B.iter prog w _ _ ⟨hp, g, d, tk, os⟩ _ hl q
    wp_walk
    refine wpAny_stack_any fun st => wpAny_pure ?_
    split
    · rename_i c _ _ _ _ _
      cases (c == Value.type "enumerate")
      · wp_walk using q1
        exact ⟨_, rfl, h⟩
      · wp_walk using q1
        exact ⟨_, rfl, h⟩
    · wp_walk using q1
      exact ⟨_, rfl, h⟩
theorem enum_one {prog : Program} {w : World} {A : Around} {E : Value → Shared → Prop} {s : Shared} {v : Value} {o : Obj} {Hb : Heap → Prop} {Q : Value → Shared → Prop} (B : Begins v o Hb) (h1 : Hb s.heap)
    (h : ∀ h', IsEnum h' (s.heap.objs.size + 1) s.heap.objs.size 0 .none → h'.get? s.heap.objs.size = some o → h'.objs.size = s.heap.objs.size + 2 →
      (∀ b u, s.heap.get? b = some u → h'.get? b = some u) → Q (.ref (s.heap.objs.size + 1)) { s with heap := h' }) :
    wpAny (model prog w) A (call (.type "enumerate") [v]) Q E s := by
  refine callType_new F.called_enumerate (by decide) (F.typeCall_enumerate_1 _) (F.newCall_enumerate_1 _) (fun obj => F.args_object_init_2 obj _) F.entry_enumerate_new (meets_enum1 B) ⟨h1, ?_⟩
  have hz : (s.heap.push o).objs.size = s.heap.objs.size + 1 := Heap.size_push ..
  show _ ∧ _
  rw [hz]
  have he : IsEnum ((s.heap.push o).push { cls := .type "enumerate", data := .fields #[.none, .bool false, .ref s.heap.objs.size, rawInt 0, .none, .none] }) (s.heap.objs.size + 1) s.heap.objs.size 0 .none := by
    have hq := Heap.get?_push_size (s.heap.push o) (o := { cls := .type "enumerate", data := .fields #[.none, .bool false, .ref s.heap.objs.size, rawInt 0, .none, .none] }) rfl
    rw [hz] at hq; exact hq
  refine ⟨⟨_, he, rfl⟩, h _ he (Heap.get?_push_of_some _ (Heap.get?_push_size _ B.free)) (by rw [Heap.size_push, hz]) fun b u x => Heap.get?_push_of_some _ (Heap.get?_push_of_some _ x)⟩
def goE (K : PySem.W.Frag) (b : Bool) (a : Addr) : Nat → Hp → Prop := fun i H => ∃ xs x, SqB K b H a xs ∧ xs[i]? = some x
def valE (K : PySem.W.Frag) (b : Bool) (a : Addr) : Nat → Hp → List V → Prop := fun i H vs => ∃ x, vs = [.int (i : Nat), x] ∧ ∀ xs, SqB K b H a xs → xs[i]? = some x
def stopE (K : PySem.W.Frag) (b : Bool) (a : Addr) : Nat → Hp → Prop := fun i H => ∃ xs, SqB K b H a xs ∧ i = xs.length
def tnE (b : Bool) (e it a : Addr) : Nat → Heap → Prop := fun i h => (∃ old, IsEnum h e it (0 + ((i : Nat) : Int)) old) ∧ ItB b h it a i
theorem bare_enum {P : Program} {w : World} {K : PySem.W.Frag} {b : Bool} {e it a : Addr} (hei : e ≠ it) (hea : e ≠ a) (ha : a ≠ it) :
    Bare P w K e [e, it] [e, it] 0 (goE K b a) (valE K b a) (stopE K b a) (tnE b e it a) where
  sub := fun c hc => hc
  mem := by simp
  obj := fun i h st c hc => by
    obtain ⟨⟨old, he⟩, h1⟩ := st
    have e' : c = e ∨ c = it := by simpa using hc
    rcases e' with q | q
    · rw [q]; exact ⟨_, he, fun v q => nomatch q⟩
    · rw [q]; exact h1.obj
  keep := fun i h h' st k => by
    obtain ⟨⟨old, he⟩, h1⟩ := st
    exact ⟨⟨old, k e (by simp) _ he⟩, h1.at fun o q => k it (by simp) o q⟩
  item := by
    intro X hP hw hK hh elts k pos i pins s σ H E Q Iv hf st hg hQ
    subst hP hw hK
    obtain ⟨he, h1⟩ := st
    obtain ⟨xs, x, hqx, hx⟩ := hg
    obtain ⟨its, rv, p, la⟩ := hqx.raw Iv
    have WT := WalksT.enumFrom (prog := X.prog) (w := X.w) (A := X.A) 0 (draws_b (A := X.A.in1) hh b it a ha its.toArray) e hei (by simp [hei, hea]) (by simp)
    have hi1 : i < xs.length := (List.getElem?_eq_some_iff.mp hx).1
    have l1 := rv.length
    refine WT.item i s _ E (by simp only [List.size_toArray]; omega) ⟨he, h1, p⟩ fun T vals h' tk hv hT hi hm hk => ?_
    refine ⟨_, rfl, WT.go elts k pos i T _ _ E hm fun h'' st' hk2 => ?_⟩
    obtain ⟨t, x1, e1, rfl⟩ := hv
    obtain ⟨u1, hu1, r1⟩ := rv.get hx
    have e1' : u1 = x1 := Option.some.inj (hu1.symm.trans (by simpa using e1))
    subst e1'
    obtain ⟨se, s1, _⟩ := st'
    refine hQ T [.int (i : Nat), x] [.int (0 + (i : Int)) t, u1] h'' tk ⟨x, rfl, fun l hl => by rw [hl.inj Iv hqx]; exact hx⟩ (.cons ⟨t, by rw [Int.zero_add]⟩ (.cons r1 .nil)) (by simp) hT
      (hi.at fun o q => hk2 T o (WT.apart i T _ hm) q) ⟨se, s1⟩ fun c o hc q => hk2 c o hc (hk c o hc q)
  done := by
    intro X hP hw hK hh i pins s σ H E Q Iv hf st hg hQ
    subst hP hw hK
    obtain ⟨he, h1⟩ := st
    obtain ⟨xs, hqx, hi⟩ := hg
    obtain ⟨its, rv, p, la⟩ := hqx.raw Iv
    have WT := WalksT.enumFrom (prog := X.prog) (w := X.w) (A := X.A) 0 (draws_b (A := X.A.in1) hh b it a ha its.toArray) e hei (by simp [hei, hea]) (by simp)
    have l1 := rv.length
    have hi' : its.toArray.size = i := by simp only [List.size_toArray]; omega
    exact WT.done s _ E (by rw [hi']; exact ⟨he, h1, p⟩) fun h' tk hk => ⟨rfl, hQ h' tk hk⟩
  self := fun A i s Q E st h => let ⟨⟨_, he⟩, _⟩ := st; wpAny_pyIter_enum he h
def iEnumB (K : PySem.W.Frag) (ta : TA) : TI := fun σ H R => ta σ H fun vs H1 => ∃ a b xs, vs = [.ref a] ∧ SqB K b H1 a xs ∧ R (Itw (goE K b a) (valE K b a) (stopE K b a)) H1
theorem pi_enumB {X : Cx} {e : Expr} {ta : TA} {p pos tpos : Pos} {elts : List Expr} {kk : Nat} (hg : Gl X "enumerate") (hm : X.mg "enumerate" = none) (ha : PA X [e] ta) (hs : starEach [e] X.env = [(false, eval e X.env)] := by rfl) :
    PI X (.Tuple elts kk tpos) (.Call (.Name "enumerate" p) [e] [] pos) (iEnumB X.K ta) := by
  refine ⟨fun pn st sg Hh Rr In hw => ?_⟩
  refine Call_ (ld_blt In hg hm boot_enumerate (PyProof.Rows.callWith_type1 (thn (ha.run pos pn st sg Hh _ In hw) fun us s1 ⟨vs, H1, I1, r1, q1⟩ => ?_) hs rfl))
  obtain ⟨a, b, xs, ex, hqx, q⟩ := q1
  subst ex
  cases r1 with
  | cons r rr =>
    cases rr
    cases r
    obtain ⟨its, rv, p1, la⟩ := hqx.raw I1
    refine enum_one (begins_b b a its.toArray) p1 fun h' he hit hsz hk => wpAny_pyIter_enum he ?_
    have I2 : Inv X pn sg H1 { s1 with heap := h' } := I1.kept (t' := s1.toks) hk
    refine ⟨s1.heap.objs.size + 1, [s1.heap.objs.size + 1, s1.heap.objs.size], _, _, H1, rfl, I2, turn_bare (bare_enum (Nat.succ_ne_self _) (Nat.ne_of_gt (Nat.lt_succ_of_lt la)) (Nat.ne_of_lt la)), ⟨⟨.none, he⟩, ItB.start hit⟩, fun c hc => ?_, q⟩
    have e' : c = s1.heap.objs.size + 1 ∨ c = s1.heap.objs.size := by simpa using hc
    have hle : s1.heap.objs.size ≤ c := by
      rcases e' with z | z
      · rw [z]; exact Nat.le_add_right _ _
      · rw [z]; exact Nat.le_refl _
    exact I1.fpOk hle (I1.hok.fresh hle)
end
end Py
/-! PyJ: the data that a walk gives; comprehensions. -/
namespace Py
open PySem L2 StX

section
variable {s : Sx} {Γ : List Md} {K : PySem.W.Frag}
theorem View.seqA {c : Fx} {ps : List Addr} {H : Hp} {v : V} {d : D} {ds : List D} (ok : c.Ok) (nA : ∀ p ∈ ps, ¬ c.A p) (h : View c ps H v d) (e : d = .list ds ∨ d = .tuple ds) :
    ∃ a vs b, v = .ref a ∧ SqB K b H a vs ∧ DenL H (c.U ps) vs ds ∧ ¬ c.A a ∧ (H a = some (.lst vs) ∧ b = true ∨ H a = some (.tup vs) ∧ b = false) := by
  have nU : ∀ {a}, ¬ c.U ps a → ¬ c.A a := fun h z => h (.inl (ok.sub _ z))
  rcases e with rfl | rfl
  · cases h with
    | den h => cases h with | lst h1 h2 h3 => exact ⟨_, _, true, rfl, SqL.of h1, h3, nU h2, .inl ⟨h1, rfl⟩⟩
    | own h1 h2 h3 => exact ⟨_, _, true, rfl, SqL.of h1, h3, nA _ h2, .inl ⟨h1, rfl⟩⟩
  · cases h with
    | den h => cases h with | tup h1 h2 h3 => exact ⟨_, _, false, rfl, SqT.of h1, h3, nU h2, .inr ⟨h1, rfl⟩⟩
theorem Den.seqU {H : Hp} {U : AS} {v : V} {d : D} {ds : List D} (h : Den H U v d) (e : d = .list ds ∨ d = .tuple ds) :
    ∃ a vs b, v = .ref a ∧ SqB K b H a vs ∧ DenL H U vs ds ∧ ¬ U a ∧ (H a = some (.lst vs) ∧ b = true ∨ H a = some (.tup vs) ∧ b = false) := by
  rcases e with rfl | rfl
  · cases h with | lst h1 h2 h3 => exact ⟨_, _, true, rfl, SqL.of h1, h3, h2, .inl ⟨h1, rfl⟩⟩
  · cases h with | tup h1 h2 h3 => exact ⟨_, _, false, rfl, SqT.of h1, h3, h2, .inr ⟨h1, rfl⟩⟩
theorem sz_seq {H : Hp} {a : Addr} {vs : List V} {b : Bool} (z : Sz H) (h : H a = some (.lst vs) ∧ b = true ∨ H a = some (.tup vs) ∧ b = false) : vs.length ≤ sizeLine := by
  rcases h with ⟨h, _⟩ | ⟨h, _⟩
  · exact z a vs (.inl h)
  · exact z a vs (.inr h)
/-- such a sequence still stands -/
theorem seq_later {H H' : Hp} {S : AS} {a : Addr} {vs : List V} {b : Bool} (h : H a = some (.lst vs) ∧ b = true ∨ H a = some (.tup vs) ∧ b = false) (n : ¬ S a) (l : Later S H H') : SqB K b H' a vs := by
  rcases h with ⟨h, rfl⟩ | ⟨h, rfl⟩
  · exact SqL.of (l a _ h n)
  · exact SqT.of (l a _ h n)
theorem items_list {H : Hp} {S U : AS} {a : Addr} {vs : List V} {ds : List D} (h : H a = some (.lst vs)) (n : ¬ S a) (dn : DenL H U vs ds) (z : Sz H) : Items (Itl K a) S U H ds where
  len := by rw [← dn.length]; exact z a vs (.inl h)
  go := fun i H' l hi => ⟨vs, vs[i]'(by rw [dn.length]; exact hi), SqL.of (l a _ h n), by simp [dn.length, hi]⟩
  stop := fun H' l => ⟨vs, SqL.of (l a _ h n), by rw [dn.length]; exact Nat.le_refl _⟩
  yld := fun i d H' x H'' l lu hd y => by
    obtain ⟨rfl, y⟩ := y
    obtain ⟨v, e1, e2⟩ := dn.get hd
    have e := y vs (SqL.of (l a _ h n))
    rw [e1] at e; cases e
    exact ⟨fun _ _ q => q, fun q => q, fun U' hu _ => e2.mono (fun b o q nn => lu b o q nn) hu⟩
theorem items_tup {H : Hp} {S U : AS} {a : Addr} {vs : List V} {ds : List D} (h : H a = some (.tup vs)) (n : ¬ S a) (dn : DenL H U vs ds) (z : Sz H) : Items (Itt K a) S U H ds where
  len := by rw [← dn.length]; exact z a vs (.inr h)
  go := fun i H' l hi => ⟨vs, vs[i]'(by rw [dn.length]; exact hi), SqT.of (l a _ h n), by simp [dn.length, hi]⟩
  stop := fun H' l => ⟨vs, SqT.of (l a _ h n), by rw [dn.length]; exact Nat.le_refl _⟩
  yld := fun i d H' x H'' l lu hd y => by
    obtain ⟨rfl, y⟩ := y
    obtain ⟨v, e1, e2⟩ := dn.get hd
    have e := y vs (SqT.of (l a _ h n))
    rw [e1] at e; cases e
    exact ⟨fun _ _ q => q, fun q => q, fun U' hu _ => e2.mono (fun b o q nn => lu b o q nn) hu⟩
def itSeq (e : Env → M D) : Env → M (List D) := fun ρ => bnd (e ρ) seqD
theorem semI_seq {t : TE} {e : Env → M D} (h : SemE s Γ t e) : SemI s Γ (iSeq K t) (itSeq e) := by
  intro c ρ ps σ H R' P hc r0 q k
  refine h c ρ ps σ H _ _ hc r0 q fun d v H1 q1 e1 d1 => ?_
  obtain ⟨ds, ed, q1⟩ := seqD_get q1
  obtain ⟨a, vs, b, rfl, _, dn, nu, hh⟩ := d1.seqU (K := K) ed
  have r1 := r0.stp e1
  rcases hh with ⟨h1, _⟩ | ⟨h1, _⟩
  · exact .inl ⟨a, rfl, ⟨vs, SqL.of h1⟩, k ds _ H1 q1 e1 (items_list h1 nu dn r1.sz)⟩
  · exact .inr ⟨a, rfl, ⟨vs, SqT.of h1⟩, k ds _ H1 q1 e1 (items_tup h1 nu dn r1.sz)⟩
theorem semIc_seq {t : TE} {e : Env → M D} (h : SemV s Γ t e) : SemIc s Γ (iSeq K t) (itSeq e) := by
  intro c ρ ps σ H R' P hc r0 q k
  refine h c ρ ps σ H _ _ hc r0 q fun d v H1 q1 e1 d1 => ?_
  obtain ⟨ds, ed, q1⟩ := seqD_get q1
  have r1 := r0.stp e1
  obtain ⟨a, vs, b, rfl, _, dn, nu, hh⟩ := d1.seqA (K := K) r0.ok r1.gd.nA ed
  rcases hh with ⟨h1, _⟩ | ⟨h1, _⟩
  · exact .inl ⟨a, rfl, ⟨vs, SqL.of h1⟩, k ds _ H1 q1 e1 (items_list h1 nu dn r1.sz)⟩
  · exact .inr ⟨a, rfl, ⟨vs, SqT.of h1⟩, k ds _ H1 q1 e1 (items_tup h1 nu dn r1.sz)⟩

/-! ### range -/
def rangeD (lo : Int) (n : Nat) : List D := (List.range n).map fun i => .int (lo + (i : Nat))
theorem items_range {H : Hp} {S U : AS} {lo : Int} {n : Nat} (hz : n ≤ sizeLine) : Items (Itr lo n) S U H (rangeD lo n) where
  len := by unfold rangeD; simpa using hz
  go := fun i H' l hi => by
    show i < n
    unfold rangeD at hi
    simpa using hi
  stop := fun H' l => by show n ≤ _; unfold rangeD; simp
  yld := fun i d H' x H'' l lu hd y => by
    obtain ⟨rfl, rfl⟩ := y
    unfold rangeD at hd
    rw [List.getElem?_map, Option.map_eq_some_iff] at hd
    obtain ⟨j, hj, rfl⟩ := hd
    have e : j = i := by
      rw [List.getElem?_range] at hj
      · exact (Option.some.inj hj).symm
      · exact Nat.lt_of_not_le fun z => by rw [List.getElem?_eq_none (by simpa using z)] at hj; cases hj
    subst e
    exact ⟨fun _ _ q => q, fun q => q, fun _ _ _ => .int _⟩
def rngOk (n : Int) : Bool := decide (-100000 ≤ n ∧ n ≤ 100000)
theorem rngOk_b {n : Int} (h : rngOk n = true) : -100000 ≤ n ∧ n ≤ 100000 := by
  unfold rngOk at h
  exact of_decide_eq_true h
def itRng1 (f : Env → M (List D)) : Env → M (List D) := fun ρ => bnd (f ρ) fun ds => match ds with
  | [.int n] => if rngOk n = true then ret (rangeD 0 n.toNat) else stuck
  | _ => stuck
def itRng2 (f : Env → M (List D)) : Env → M (List D) := fun ρ => bnd (f ρ) fun ds => match ds with
  | [.int m, .int n] => if (rngOk m && rngOk n) = true then ret (rangeD m (n - m).toNat) else stuck
  | _ => stuck
theorem Views.one {c : Fx} {ps : List Addr} {H : Hp} {vs : List V} {d : D} (h : Views c ps H vs [d]) : ∃ v, vs = [v] ∧ View c ps H v d := by
  cases h with
  | cons h t => cases t; exact ⟨_, rfl, h⟩
theorem Views.two {c : Fx} {ps : List Addr} {H : Hp} {vs : List V} {d e : D} (h : Views c ps H vs [d, e]) : ∃ v w, vs = [v, w] ∧ View c ps H v d ∧ View c ps H w e := by
  cases h with
  | cons h t =>
    obtain ⟨w, rfl, h2⟩ := t.one
    exact ⟨_, _, rfl, h, h2⟩
theorem sz_1e5 {n : Nat} (h : n ≤ 200000) : n ≤ sizeLine := Nat.le_trans h (by decide)
theorem rng1_any {t : TA} {f : Env → M (List D)} (h : SemAV s Γ t f) {c : Fx} {ρ : Env} {ps : List Addr} {σ : St} {H : Hp} {R' : It → Hp → Prop} {P : List D → Prop} (hc : c.s = s) (r0 : R c Γ ρ ps σ H) (q : itRng1 f ρ P) {S : AS}
    (k : ∀ ds J H1, P ds → Stp c H H1 → Items J S (c.U ps) H1 ds → R' J H1) : iRng1 t σ H R' := by
  refine h c ρ ps σ H _ _ hc r0 q fun ds vs H1 q1 e1 d1 => ?_
  dsimp only at q1
  split at q1
  · rename_i n
    split at q1
    · rename_i hr
      have b := rngOk_b hr
      obtain ⟨v, rfl, dv⟩ := d1.one
      exact ⟨n, by rw [dv.int], by omega, by omega, k _ _ H1 q1 e1 (items_range (sz_1e5 (by omega)))⟩
    · cases q1
  · cases q1
theorem semI_rng1 {t : TA} {f : Env → M (List D)} (h : SemAV s Γ t f) : SemI s Γ (iRng1 t) (itRng1 f) := fun c ρ ps σ H R' P hc r0 q k => rng1_any h hc r0 q k
theorem semIc_rng1 {t : TA} {f : Env → M (List D)} (h : SemAV s Γ t f) : SemIc s Γ (iRng1 t) (itRng1 f) := fun c ρ ps σ H R' P hc r0 q k => rng1_any h hc r0 q k
theorem rng2_any {t : TA} {f : Env → M (List D)} (h : SemAV s Γ t f) {c : Fx} {ρ : Env} {ps : List Addr} {σ : St} {H : Hp} {R' : It → Hp → Prop} {P : List D → Prop} (hc : c.s = s) (r0 : R c Γ ρ ps σ H) (q : itRng2 f ρ P) {S : AS}
    (k : ∀ ds J H1, P ds → Stp c H H1 → Items J S (c.U ps) H1 ds → R' J H1) : iRng2 t σ H R' := by
  refine h c ρ ps σ H _ _ hc r0 q fun ds vs H1 q1 e1 d1 => ?_
  dsimp only at q1
  split at q1
  · rename_i m n
    split at q1
    · rename_i hr
      have hr' : rngOk m = true ∧ rngOk n = true := by simpa using hr
      have b1 := rngOk_b hr'.1
      have b2 := rngOk_b hr'.2
      obtain ⟨v, w, rfl, dv, dw⟩ := d1.two
      exact ⟨m, n, by rw [dv.int, dw.int], ⟨by omega, by omega, by omega, by omega⟩, k _ _ H1 q1 e1 (items_range (sz_1e5 (by omega)))⟩
    · cases q1
  · cases q1
theorem semI_rng2 {t : TA} {f : Env → M (List D)} (h : SemAV s Γ t f) : SemI s Γ (iRng2 t) (itRng2 f) := fun c ρ ps σ H R' P hc r0 q k => rng2_any h hc r0 q k
theorem semIc_rng2 {t : TA} {f : Env → M (List D)} (h : SemAV s Γ t f) : SemIc s Γ (iRng2 t) (itRng2 f) := fun c ρ ps σ H R' P hc r0 q k => rng2_any h hc r0 q k

/-! ### zip, enumerate -/
def zipD : List D → List D → List D
  | d :: ds, e :: es => .tuple [d, e] :: zipD ds es
  | _, _ => []
theorem zipD_len : ∀ (ds es : List D), (zipD ds es).length = min ds.length es.length
  | [], _ => by simp [zipD]
  | _ :: _, [] => by simp [zipD]
  | d :: ds, e :: es => by simp [zipD, zipD_len ds es]
theorem zipD_get : ∀ {ds es : List D} {i : Nat} {x : D}, (zipD ds es)[i]? = some x → ∃ d e, ds[i]? = some d ∧ es[i]? = some e ∧ x = .tuple [d, e]
  | [], _, _, _, h => by simp [zipD] at h
  | _ :: _, [], _, _, h => by simp [zipD] at h
  | d :: ds, e :: es, 0, x, h => by simp [zipD] at h; exact ⟨d, e, rfl, rfl, h.symm⟩
  | d :: ds, e :: es, i + 1, x, h => by
    obtain ⟨a, b, h1, h2, h3⟩ := zipD_get (ds := ds) (es := es) (i := i) (by simpa [zipD] using h)
    exact ⟨a, b, by simpa using h1, by simpa using h2, h3⟩
def enumD : Nat → List D → List D
  | _, [] => []
  | k, d :: ds => .tuple [.int (k : Nat), d] :: enumD (k + 1) ds
theorem enumD_len : ∀ (k : Nat) (ds : List D), (enumD k ds).length = ds.length
  | _, [] => rfl
  | k, d :: ds => by simp [enumD, enumD_len (k + 1) ds]
theorem enumD_get : ∀ {k : Nat} {ds : List D} {i : Nat} {x : D}, (enumD k ds)[i]? = some x → ∃ d, ds[i]? = some d ∧ x = .tuple [.int ((k + i : Nat) : Int), d]
  | _, [], _, _, h => by simp [enumD] at h
  | k, d :: ds, 0, x, h => by simp [enumD] at h; exact ⟨d, rfl, h.symm⟩
  | k, d :: ds, i + 1, x, h => by
    obtain ⟨a, h1, h2⟩ := enumD_get (k := k + 1) (ds := ds) (i := i) (by simpa [enumD] using h)
    refine ⟨a, by simpa using h1, ?_⟩
    rw [h2, show k + 1 + i = k + (i + 1) by omega]
theorem items_zip {H : Hp} {S U : AS} {a b : Addr} {b1 b2 : Bool} {vs ws : List V} {ds es : List D} (h1 : H a = some (.lst vs) ∧ b1 = true ∨ H a = some (.tup vs) ∧ b1 = false) (h2 : H b = some (.lst ws) ∧ b2 = true ∨ H b = some (.tup ws) ∧ b2 = false)
    (n1 : ¬ S a) (n2 : ¬ S b) (d1 : DenL H U vs ds) (d2 : DenL H U ws es) (z : Sz H) : Items (Itw (goZ K b1 b2 a b) (valZ K b1 b2 a b) (stopZ K b1 b2 a b)) S U H (zipD ds es) where
  len := by rw [zipD_len, ← d1.length]; exact Nat.le_trans (Nat.min_le_left _ _) (sz_seq z h1)
  go := fun i H' l hi => by
    rw [zipD_len] at hi
    have i1 : i < vs.length := by rw [d1.length]; omega
    have i2 : i < ws.length := by rw [d2.length]; omega
    exact ⟨vs, ws, vs[i], ws[i], seq_later h1 n1 l, seq_later h2 n2 l, by simp [i1], by simp [i2]⟩
  stop := fun H' l => ⟨vs, ws, seq_later h1 n1 l, seq_later h2 n2 l, by rw [zipD_len, d1.length, d2.length]⟩
  yld := fun i x H' v H'' l lu hd y => by
    obtain ⟨T, vals, rfl, hn, rfl, ⟨x1, y1, rfl, f1, f2⟩, hl⟩ := y
    obtain ⟨d, e, g1, g2, rfl⟩ := zipD_get hd
    obtain ⟨u1, a1, a2⟩ := d1.get g1
    obtain ⟨u2, c1, c2⟩ := d2.get g2
    have p1 := f1 vs (seq_later h1 n1 l)
    have p2 := f2 ws (seq_later h2 n2 l)
    rw [a1] at p1; cases p1
    rw [c1] at p2; cases p2
    have up : ∀ aa o, H aa = some o → ¬ U aa → (upd H' T (.tup [x1, y1])) aa = some o := fun aa o q nn => upd_keep hn aa o (lu aa o q nn)
    refine ⟨upd_keep hn, fun zz => zz.upd fun xs q => ?_, fun U' hu nu => .tup upd_same (nu T hn) (.cons (a2.mono up hu) (.cons (c2.mono up hu) .nil))⟩
    rcases q with q | q <;> cases q
    show 2 ≤ sizeLine
    decide
theorem items_enum {H : Hp} {S U : AS} {a : Addr} {b : Bool} {vs : List V} {ds : List D} (h1 : H a = some (.lst vs) ∧ b = true ∨ H a = some (.tup vs) ∧ b = false)
    (n1 : ¬ S a) (d1 : DenL H U vs ds) (z : Sz H) : Items (Itw (goE K b a) (valE K b a) (stopE K b a)) S U H (enumD 0 ds) where
  len := by rw [enumD_len, ← d1.length]; exact sz_seq z h1
  go := fun i H' l hi => by
    rw [enumD_len] at hi
    have i1 : i < vs.length := by rw [d1.length]; omega
    exact ⟨vs, vs[i], seq_later h1 n1 l, by simp [i1]⟩
  stop := fun H' l => ⟨vs, seq_later h1 n1 l, by rw [enumD_len, d1.length]⟩
  yld := fun i x H' v H'' l lu hd y => by
    obtain ⟨T, vals, rfl, hn, rfl, ⟨x1, rfl, f1⟩, hl⟩ := y
    obtain ⟨d, g1, rfl⟩ := enumD_get hd
    obtain ⟨u1, a1, a2⟩ := d1.get g1
    have p1 := f1 vs (seq_later h1 n1 l)
    rw [a1] at p1; cases p1
    have up : ∀ aa o, H aa = some o → ¬ U aa → (upd H' T (.tup [.int (i : Nat), x1])) aa = some o := fun aa o q nn => upd_keep hn aa o (lu aa o q nn)
    refine ⟨upd_keep hn, fun zz => zz.upd fun xs q => ?_, fun U' hu nu => .tup upd_same (nu T hn) (.cons (by rw [Nat.zero_add]; exact .int _) (.cons (a2.mono up hu) .nil))⟩
    rcases q with q | q <;> cases q
    show 2 ≤ sizeLine
    decide
def itZip (f : Env → M (List D)) : Env → M (List D) := fun ρ => bnd (f ρ) fun l => match l with
  | [x, y] => bnd (seqD x) fun ds => bnd (seqD y) fun es => ret (zipD ds es)
  | _ => stuck
def itEnum (f : Env → M (List D)) : Env → M (List D) := fun ρ => bnd (f ρ) fun l => match l with
  | [x] => bnd (seqD x) fun ds => ret (enumD 0 ds)
  | _ => stuck
theorem semI_zip {t : TA} {f : Env → M (List D)} (h : SemA s Γ t f) : SemI s Γ (iZipB K t) (itZip f) := by
  intro c ρ ps σ H R' P hc r0 q k
  refine h c ρ ps σ H _ _ hc r0 q fun ds vs H1 q1 e1 d1 => ?_
  dsimp only at q1
  split at q1
  · rename_i x y
    obtain ⟨l1, z1, q1⟩ := seqD_get q1
    obtain ⟨l2, z2, q1⟩ := seqD_get q1
    cases d1 with
    | cons dx dr =>
      cases dr with
      | cons dy dr =>
        cases dr
        obtain ⟨a, us, b1, rfl, hs1, dn1, nu1, hh1⟩ := dx.seqU (K := K) z1
        obtain ⟨b, ws, b2, rfl, hs2, dn2, nu2, hh2⟩ := dy.seqU (K := K) z2
        exact ⟨a, b, b1, b2, us, ws, rfl, hs1, hs2, k _ _ H1 q1 e1 (items_zip hh1 hh2 nu1 nu2 dn1 dn2 (r0.stp e1).sz)⟩
  · cases q1
theorem semIc_zip {t : TA} {f : Env → M (List D)} (h : SemAV s Γ t f) : SemIc s Γ (iZipB K t) (itZip f) := by
  intro c ρ ps σ H R' P hc r0 q k
  refine h c ρ ps σ H _ _ hc r0 q fun ds vs H1 q1 e1 d1 => ?_
  dsimp only at q1
  split at q1
  · rename_i x y
    obtain ⟨l1, z1, q1⟩ := seqD_get q1
    obtain ⟨l2, z2, q1⟩ := seqD_get q1
    obtain ⟨v, w, rfl, dx, dy⟩ := d1.two
    have g := (r0.stp e1).gd
    obtain ⟨a, us, b1, rfl, hs1, dn1, nu1, hh1⟩ := dx.seqA (K := K) g.ok g.nA z1
    obtain ⟨b, ws, b2, rfl, hs2, dn2, nu2, hh2⟩ := dy.seqA (K := K) g.ok g.nA z2
    exact ⟨a, b, b1, b2, us, ws, rfl, hs1, hs2, k _ _ H1 q1 e1 (items_zip hh1 hh2 nu1 nu2 dn1 dn2 g.sz)⟩
  · cases q1
theorem semI_enum {t : TA} {f : Env → M (List D)} (h : SemA s Γ t f) : SemI s Γ (iEnumB K t) (itEnum f) := by
  intro c ρ ps σ H R' P hc r0 q k
  refine h c ρ ps σ H _ _ hc r0 q fun ds vs H1 q1 e1 d1 => ?_
  dsimp only at q1
  split at q1
  · rename_i x
    obtain ⟨l1, z1, q1⟩ := seqD_get q1
    cases d1 with
    | cons dx dr =>
      cases dr
      obtain ⟨a, us, b1, rfl, hs1, dn1, nu1, hh1⟩ := dx.seqU (K := K) z1
      exact ⟨a, b1, us, rfl, hs1, k _ _ H1 q1 e1 (items_enum hh1 nu1 dn1 (r0.stp e1).sz)⟩
  · cases q1
theorem semIc_enum {t : TA} {f : Env → M (List D)} (h : SemAV s Γ t f) : SemIc s Γ (iEnumB K t) (itEnum f) := by
  intro c ρ ps σ H R' P hc r0 q k
  refine h c ρ ps σ H _ _ hc r0 q fun ds vs H1 q1 e1 d1 => ?_
  dsimp only at q1
  split at q1
  · rename_i x
    obtain ⟨l1, z1, q1⟩ := seqD_get q1
    obtain ⟨v, rfl, dx⟩ := d1.one
    have g := (r0.stp e1).gd
    obtain ⟨a, us, b1, rfl, hs1, dn1, nu1, hh1⟩ := dx.seqA (K := K) g.ok g.nA z1
    exact ⟨a, b1, us, rfl, hs1, k _ _ H1 q1 e1 (items_enum hh1 nu1 dn1 g.sz)⟩
  · cases q1
end
end Py
/-! PyK: comprehensions. -/
namespace Py
open PySem L2 StX

section
variable {s : Sx} {Γ : List Md}
def wipeD (ρ : Env) : List Nat → Env
  | [] => ρ
  | v :: vs => (wipeD ρ vs).set v none
theorem R.wiped {c : Fx} {ρ : Env} {ps : List Addr} {σ : St} {H : Hp} (r : R c Γ ρ ps σ H) : ∀ {vs : List Nat}, (∀ i ∈ vs, Γ[i]? = some .fro) → R c Γ (wipeD ρ vs) ps (wipe σ vs) H
  | [], _ => r
  | v :: vs, h => (r.wiped fun i hi => h i (List.mem_cons_of_mem _ hi)).setNo (h v (List.mem_cons_self ..))
theorem wipe_get {σ : St} {i : Nat} : ∀ {vs : List Nat}, i ∈ vs → i < σ.length → (wipe σ vs)[i]? = some none
  | [], h, _ => absurd h (by simp)
  | v :: vs, h, hl => by
    unfold wipe
    by_cases e : v = i
    · subst e
      rw [List.getElem?_set_self (by rw [wipe_length]; exact hl)]
    · rw [List.getElem?_set_ne e]
      exact wipe_get ((List.mem_cons.mp h).resolve_left fun z => e z.symm) hl
theorem wipe_again {σ σ' : St} {vs ts : List Nat} (hl : σ'.length = (wipe σ vs).length) (hs : ∀ i, i ∉ ts → σ'[i]? = (wipe σ vs)[i]?) (ht : ∀ i ∈ ts, i ∈ vs) : wipe σ' vs = wipe σ vs := by
  apply List.ext_getElem?
  intro i
  have l1 := wipe_length σ vs
  by_cases hi : i ∈ vs
  · by_cases hz : i < σ.length
    · rw [wipe_get hi (by rw [hl, l1]; exact hz), wipe_get hi hz]
    · rw [List.getElem?_eq_none (by rw [wipe_length, hl, l1]; omega), List.getElem?_eq_none (by rw [l1]; omega)]
  · rw [wipe_out hi]
    exact hs i fun z => hi (ht i z)

theorem upd_off {H : Hp} {S : AS} {a p : Addr} {o : HO} (hp : S p) (n : ¬ S a) : upd H p o a = H a := upd_ne fun z => n (by rw [z]; exact hp)
theorem upd_offm {H : Hp} {S : AS} {a p : Addr} {o : HO} (hp : ¬ S p) (n : S a) : upd H p o a = H a := upd_ne fun z => hp (by rw [← z]; exact n)
/-- one more place that changes: the list that a comprehension makes -/
def Fx.plus (c : Fx) (p : Addr) : Fx := { c with U0 := fun a => c.U0 a ∨ a = p }
theorem SlotR.ofSrc {c c' : Fx} (e : c'.s = c.s) {H : Hp} {U : AS} {m : Md} {d : Option D} {o : Option V} {ps : List Addr} (h : SlotR c H U m d o ps) : SlotR c' H U m d o ps := by
  cases h with
  | no => exact .no
  | fro h => exact .fro h
  | own h1 h2 => exact .own h1 h2
  | lent h1 h2 => exact .lent h1 h2
  | own2 h1 h2 => exact .own2 h1 h2
  | dic h1 h2 => exact .dic h1 h2
  | lk h1 h2 => exact .lk h1 h2
  | src =>
    have q : c'.src = c.src := by show c'.s.src = c.s.src; rw [e]
    rw [← q]; exact .src
theorem Slots.ofSrc {c c' : Fx} (e : c'.s = c.s) {H : Hp} {U : AS} {ρ : Env} {σ : St} {ps : List Addr} (h : Slots c H U Γ ρ σ ps) : Slots c' H U Γ ρ σ ps := by
  induction h with
  | nil => exact .nil
  | cons h1 _ ih => exact .cons (h1.ofSrc e) ih
theorem R.fresh0 {c : Fx} {ρ : Env} {ps : List Addr} {σ : St} {H : Hp} (r : R c Γ ρ ps σ H) {p : Addr} (h : H p = none) : c.H0 p = none := by
  cases q : c.H0 p with
  | none => rfl
  | some o => obtain ⟨o', h'⟩ := r.there p o q; rw [h] at h'; cases h'
theorem R.nU0 {c : Fx} {ρ : Env} {ps : List Addr} {σ : St} {H : Hp} (r : R c Γ ρ ps σ H) {p : Addr} (h : H p = none) : ¬ c.U0 p := fun u => by
  obtain ⟨o, h', _⟩ := r.al p u
  rw [h] at h'; cases h'
theorem R.plus {c : Fx} {ρ : Env} {ps : List Addr} {σ : St} {H : Hp} (r : R c Γ ρ ps σ H) {p : Addr} (h : H p = none) : R (c.plus p) Γ ρ ps σ (upd H p (.lst [])) where
  ok := ⟨fun a q => .inl (r.ok.sub a q), r.ok.st⟩
  keep := fun a o q n => upd_keep h a o (r.keep a o q n)
  there := fun a o q => let ⟨o', q'⟩ := r.there a o q; ⟨o', upd_keep h a o' q'⟩
  inv := r.ok.st H _ r.inv fun a o _ q => upd_keep h a o q
  al := fun a u => by
    rcases u with u | rfl
    · obtain ⟨o, q, n⟩ := r.al a u
      exact ⟨o, upd_keep h a o q, n⟩
    · exact ⟨_, upd_same, fun xs z => by cases z⟩
  sz := r.sz.upd fun xs q => by rcases q with q | q <;> cases q; exact Nat.zero_le _
  sl := (Slots.ofSrc (c := c) (c' := c.plus p) rfl r.sl).mono (fun a _ o q => upd_keep h a o q) (fun a o q _ => upd_keep h a o q) fun a o q u => by
    rcases u with (u | rfl) | u
    · exact .inl u
    · rw [h] at q; cases q
    · exact .inr u
  nd := r.nd
  own := fun a ha => ⟨(r.own a ha).1, fun u => by
    rcases u with u | rfl
    · exact (r.own a ha).2 u
    · obtain ⟨xs, q, _⟩ := r.sl.loose a ha
      rw [h] at q; cases q⟩
/-- a list of the callers' changes (here: the comprehension's own) -/
theorem R.updU0 {c : Fx} {ρ : Env} {ps : List Addr} {σ : St} {H : Hp} (r : R c Γ ρ ps σ H) {p : Addr} {xs ys : List V} (hu : c.U0 p) (hA : ¬ c.A p) (h0 : c.H0 p = none) (h : H p = some (.lst xs)) (hz : ys.length ≤ sizeLine) : R c Γ ρ ps σ (upd H p (.lst ys)) where
  ok := r.ok
  keep := fun a o q n => by rw [upd_ne (ne_of_none q h0)]; exact r.keep a o q n
  there := fun a o q => by
    rw [upd_ne (ne_of_none q h0)]; exact r.there a o q
  inv := r.ok.st H _ r.inv fun a o u q => by rw [upd_offm (S := c.A) hA u]; exact q
  al := fun a u => by
    by_cases e : a = p
    · subst e; exact ⟨_, upd_same, fun xs z => by cases z⟩
    · rw [upd_ne e]; exact r.al a u
  sz := r.sz.upd fun zs q => by rcases q with q | q <;> cases q; exact hz
  sl := r.sl.mono (fun a ha o q => by rw [upd_off (S := c.U0) hu (r.own a ha).2]; exact q) (fun a o q n => by rw [upd_off (S := c.U ps) (.inl hu) n]; exact q) fun _ _ _ q => q
  nd := r.nd
  own := r.own

def lcW (tg : D → Env → M Env) (cond : Env → M Bool) (elt : Env → M D) (ρ : Env) : List D → M (List D)
  | [] => ret []
  | d :: ds => bnd (tg d ρ) fun ρ' => bnd (cond ρ') fun b => if b = true then bnd (elt ρ') fun y => bnd (lcW tg cond elt ρ ds) fun ys => ret (y :: ys) else lcW tg cond elt ρ ds
def eLc (its : Env → M (List D)) (tg : D → Env → M Env) (cond : Env → M Bool) (elt : Env → M D) (vs : List Nat) : Env → M (List D) := fun ρ => bnd (its ρ) fun ds => lcW tg cond elt (wipeD ρ vs) ds
def cYes : Env → M Bool := fun _ => ret true
theorem sem_yes : SemT s Γ tYes cYes := fun c ρ ps σ H Q P _ r q k => k true H q (Stp.refl c H)

/-- what holds between two turns of a comprehension -/
structure LcI (c : Fx) (Γ : List Md) (ρw : Env) (ps : List Addr) (σw : St) (H1 : Hp) (p : Addr) (n i : Nat) (H : Hp) (ys : List D) : Prop where
  keep : ∀ a o, H1 a = some o → ¬ c.A a → H a = some o
  there : ∀ a o, H1 a = some o → ∃ o', H a = some o'
  r : R (c.plus p) Γ ρw ps σw H
  acc : ∃ vs, H p = some (.lst vs) ∧ DenL H ((c.plus p).U ps) vs ys ∧ vs.length ≤ i
theorem sem_lc {wi : TI} {g : TG} {tt : TT} {te : TE} {vs ts : List Nat} {its : Env → M (List D)} {tg : D → Env → M Env} {cond : Env → M Bool} {elt : Env → M D}
    (hi : SemIc s Γ wi its) (hg : SemG s Γ g ts tg) (ht : SemT s Γ tt cond) (he : SemE s Γ te elt) (hv : ∀ i ∈ vs, Γ[i]? = some .fro) (hts : ∀ i ∈ ts, i ∈ vs) : SemL s Γ (tLc wi g tt te vs) (eLc its tg cond elt vs) := by
  intro c ρ ps σ H Q P hc r0 q k
  refine hi c ρ ps σ H _ _ hc r0 q fun ds J H1 q1 e1 it => ?_
  intro p hp
  have r1 := r0.stp e1
  have n0 := r1.fresh0 hp
  have nA : ¬ c.A p := fun z => r1.nU0 hp (r1.ok.sub p z)
  have rp := (r1.wiped hv).plus hp
  refine ⟨fun i m H' => m = ds.length - i ∧ i ≤ ds.length ∧ ∃ ys, LcI c Γ (wipeD ρ vs) ps (wipe σ vs) H1 p ds.length i H' ys ∧ lcW tg cond elt (wipeD ρ vs) (ds.drop i) (fun zs => P (ys ++ zs)),
    ⟨ds.length, by simp, Nat.zero_le _, [], ⟨fun a o h _ => upd_keep hp a o h, fun a o h => ⟨o, upd_keep hp a o h⟩, rp, ⟨[], upd_same, .nil, Nat.le_refl _⟩⟩, q1⟩, ?_⟩
  rintro i m H' ⟨rfl, hle, ys, I, w⟩
  have lA : Later c.A H1 H' := I.keep
  have lU : Later (c.U ps) H1 H' := fun a o h n => I.keep a o h fun z => n (.inl (r1.ok.sub a z))
  by_cases hlt : i < ds.length
  · refine .inr ⟨it.go i H' lA hlt, fun H'' => (ds.length - (i + 1) = ds.length - (i + 1) ∧ i + 1 ≤ ds.length ∧ ∃ zs, LcI c Γ (wipeD ρ vs) ps (wipe σ vs) H1 p ds.length (i + 1) H'' zs ∧ lcW tg cond elt (wipeD ρ vs) (ds.drop (i + 1)) (fun ws => P (zs ++ ws))),
      fun H'' h => ⟨ds.length - (i + 1), by omega, h⟩, fun x H'' y => ?_⟩
    have hd : ds[i]? = some ds[i] := by simp [hlt]
    obtain ⟨same, sz, den⟩ := it.yld i ds[i] H' x H'' lA lU hd y
    have stp2 : Stp (c.plus p) H' H'' := Stp.same I.r.ok same sz
    have r2 := I.r.stp stp2
    have dx : Den H'' ((c.plus p).U ps) x ds[i] := den _ (fun a o h u => by
      rcases u with (u | rfl) | u
      · exact .inl u
      · rw [hp] at h; cases h
      · exact .inr u) fun a h => I.r.new h
    rw [List.drop_eq_getElem_cons hlt] at w
    have hc' : (c.plus p).s = s := hc
    refine hg (c.plus p) (wipeD ρ vs) ps (wipe σ vs) H'' _ _ _ _ hc' r2 dx w fun ρ' σ' w2 r3 l3 s3 => ?_
    refine ⟨wipe_again l3 s3 hts, ?_⟩
    refine ht (c.plus p) ρ' ps σ' H'' _ _ hc' r3 w2 fun b H3 w3 e3 => ?_
    have r4 := r3.stp e3
    have kp3 : ∀ a o, H1 a = some o → ¬ c.A a → H3 a = some o := fun a o h n => e3.keep a o (same a o (I.keep a o h n)) n
    have th3 : ∀ a o, H1 a = some o → ∃ o', H3 a = some o' := fun a o h => let ⟨o1, h1⟩ := I.there a o h; e3.there a o1 (same a o1 h1)
    obtain ⟨acc, ha, dacc, hlen⟩ := I.acc
    have da3 : H3 p = some (.lst acc) ∧ DenL H3 ((c.plus p).U ps) acc ys := ⟨e3.keep _ _ (same _ _ ha) nA, (dacc.stp I.r.ok stp2).stp r3.ok e3⟩
    dsimp only at w3
    cases b with
    | true =>
      rw [if_pos rfl] at w3
      rw [if_pos rfl]
      refine he (c.plus p) ρ' ps σ' H3 _ _ hc' r4 w3 fun yd v H4 w4 e4 dv => ?_
      have ha4 : H4 p = some (.lst acc) := e4.keep _ _ da3.1 nA
      have d4 : DenL H4 ((c.plus p).U ps) acc ys := da3.2.stp r4.ok e4
      have lz : acc.length < sizeLine := Nat.lt_of_lt_of_le (Nat.lt_of_le_of_lt hlen hlt) it.len
      have hz : (acc ++ [v]).length ≤ sizeLine := by rw [List.length_append]; exact lz
      have rw4 : R (c.plus p) Γ (wipeD ρ vs) ps (wipe σ vs) H4 := (r2.stp e3).stp e4
      have up : ∀ a o, H4 a = some o → ¬ (c.plus p).U ps a → (upd H4 p (.lst (acc ++ [v]))) a = some o := fun a o h n => by
        rw [upd_off (S := (c.plus p).U ps) (.inl (.inr rfl)) n]; exact h
      refine ⟨acc, ha4, lz, rfl, hlt, ys ++ [yd], ⟨fun a o h n => ?_, fun a o h => ?_, rw4.updU0 (.inr rfl) nA n0 ha4 hz, ⟨acc ++ [v], upd_same, ?_, ?_⟩⟩, ?_⟩
      · rw [upd_ne (ne_of_none h hp)]; exact e4.keep a o (kp3 a o h n) n
      · rw [upd_ne (ne_of_none h hp)]
        obtain ⟨o1, h1⟩ := th3 a o h
        exact e4.there a o1 h1
      · exact (d4.mono up fun _ _ _ z => z).append (.cons (dv.mono up fun _ _ _ z => z) .nil)
      · rw [List.length_append]; exact Nat.succ_le_succ hlen
      · have w5 : lcW tg cond elt (wipeD ρ vs) (ds.drop (i + 1)) (fun zs => P (ys ++ (yd :: zs))) := w4
        have ee : (fun zs => P (ys ++ [yd] ++ zs)) = fun zs => P (ys ++ (yd :: zs)) := by
          funext zs
          rw [List.append_assoc]
          rfl
        rw [ee]
        exact w5
    | false =>
      rw [if_neg Bool.false_ne_true] at w3
      rw [if_neg Bool.false_ne_true]
      have rw3 : R (c.plus p) Γ (wipeD ρ vs) ps (wipe σ vs) H3 := r2.stp e3
      exact ⟨rfl, hlt, ys, ⟨kp3, th3, rw3, ⟨acc, da3.1, da3.2, Nat.le_succ_of_le hlen⟩⟩, w3⟩
  · have e : i = ds.length := by omega
    subst e
    rw [List.drop_length] at w
    have w' : P (ys ++ []) := w
    rw [List.append_nil] at w'
    obtain ⟨acc, ha, dacc, hlen⟩ := I.acc
    refine .inl ⟨it.stop H' lA, k ys p acc H' w' (e1.trans ⟨I.keep, I.there, fun _ => I.r.inv, fun _ a u => I.r.al a (.inl u), fun _ => I.r.sz⟩) (e1.fresh hp) ha (dacc.mono (fun a o h _ => h) fun a o h u => ?_)⟩
    rcases u with (u | u) | rfl
    · exact .inl (.inl u)
    · exact .inr u
    · exact .inl (.inr rfl)
end
end Py
/-! PyS: statements. -/
namespace Py
open PySem L2 StX

inductive Out where
  | nx (ρ : Env) | rt (d : D) | bk (ρ : Env) | ct (ρ : Env)

/-- what stands behind the code -/
structure Fin (c : Fx) (H : Hp) : Prop where
  keep : ∀ a o, c.H0 a = some o → ¬ c.A a → H a = some o
  there : ∀ a o, c.H0 a = some o → ∃ o', H a = some o'
  inv : c.J H
  al : Loose H c.U0
  sz : Sz H
section
variable {s : Sx} {Γ Γ' Γl : List Md}
theorem R.fin {c : Fx} {ρ : Env} {ps : List Addr} {σ : St} {H : Hp} (r : R c Γ ρ ps σ H) : Fin c H := ⟨r.keep, r.there, r.inv, r.al, r.sz⟩
structure Ek (c : Fx) (Γl Γ' : List Md) (P : Out → Prop) (E : Ends) : Prop where
  nx : ∀ ρ ps σ H, P (.nx ρ) → R c Γ' ρ ps σ H → E.nx σ H
  rt : ∀ d v H, P (.rt d) → Fin c H → Den H c.U0 v d → E.rt v H
  bk : ∀ ρ ps σ H, P (.bk ρ) → R c Γl ρ ps σ H → E.bk σ H
  ct : ∀ ρ ps σ H, P (.ct ρ) → R c Γl ρ ps σ H → E.ct σ H
def SemS (s : Sx) (Γl Γ Γ' : List Md) (t : TS) (f : Env → M Out) : Prop := ∀ c ρ ps σ H E P, c.s = s → R c Γ ρ ps σ H → f ρ P → Ek c Γl Γ' P E → t E σ H

/-! ### slots stored -/
theorem Slots.put {c : Fx} {H : Hp} {U : AS} {ρ : Env} {σ : St} {ps : List Addr} {m : Md} {d : Option D} {o : Option V} {qs : List Addr} (n : SlotR c H U m d o qs) (h : Slots c H U Γ ρ σ ps) (nd : ps.Nodup) (nq : qs.Nodup) (dj : ∀ a ∈ qs, a ∉ ps) :
    ∀ {i : Nat}, i < Γ.length → ∃ ps', Slots c H U (Γ.set i m) (ρ.set i d) (σ.set i o) ps' ∧ ps'.Nodup ∧ (∀ a ∈ ps', a ∈ ps ∨ a ∈ qs) := by
  induction h with
  | nil => intro i hi; exact absurd hi (by simp)
  | @cons m1 d1 o1 p1 q1 Γ1 ρ1 σ1 h1 h2 ih =>
    intro i hi
    have nd' := List.nodup_append.mp nd
    cases i with
    | zero =>
      refine ⟨qs ++ q1, .cons n h2, List.nodup_append.mpr ⟨nq, nd'.2.1, fun a ha b hb e => dj a ha (List.mem_append_right _ (e ▸ hb))⟩, fun a ha => ?_⟩
      rcases List.mem_append.mp ha with ha | ha
      · exact .inr ha
      · exact .inl (List.mem_append_right _ ha)
    | succ i =>
      obtain ⟨ps', s', n', m'⟩ := ih nd'.2.1 (fun a ha z => dj a ha (List.mem_append_right _ z)) (i := i) (by simpa using hi)
      refine ⟨p1 ++ ps', .cons h1 s', List.nodup_append.mpr ⟨nd'.1, n', fun a ha b hb e => ?_⟩, fun a ha => ?_⟩
      · subst e
        rcases m' a hb with z | z
        · exact nd'.2.2 a ha a z rfl
        · exact dj a z (List.mem_append_left _ ha)
      · rcases List.mem_append.mp ha with ha | ha
        · exact .inl (List.mem_append_left _ ha)
        · rcases m' a ha with z | z
          · exact .inl (List.mem_append_right _ z)
          · exact .inr z
/-- fewer own places -/
theorem R.ofSlots {c : Fx} {ρ ρ' : Env} {ps ps' qs : List Addr} {σ σ' : St} {H : Hp} {Γ' : List Md} (r : R c Γ ρ ps σ H) (sl : Slots c H (fun a => c.U ps a ∨ a ∈ qs) Γ' ρ' σ' ps') (nd : ps'.Nodup) (sub : ∀ a ∈ ps', a ∈ ps ∨ a ∈ qs) (nq : ∀ a ∈ qs, c.H0 a = none ∧ ¬ c.U0 a) :
    R c Γ' ρ' ps' σ' H :=
  { ok := r.ok, keep := r.keep, there := r.there, inv := r.inv, al := r.al, sz := r.sz, nd := nd
    sl := sl.mono (fun _ _ _ q => q) (fun _ _ q _ => q) fun a o q u => by
      rcases u with u | u
      · exact .inl (.inl u)
      · rcases sub a u with z | z
        · exact .inl (.inr z)
        · exact .inr z
    own := fun a ha => (sub a ha).elim (r.own a) (nq a) }
/-- a slot gets a datum: any mode behind -/
theorem R.put {c : Fx} {ρ : Env} {ps : List Addr} {σ : St} {H : Hp} (r : R c Γ ρ ps σ H) {i : Nat} {v : V} {d : D} (hi : i < Γ.length) (dn : Den H (c.U ps) v d) : ∃ ps', R c (Γ.set i .fro) (ρ.set i (some d)) ps' (σ.set i (some v)) H := by
  obtain ⟨ps', h1, h2, h3⟩ := r.sl.put (SlotR.fro dn) r.nd List.nodup_nil (fun a ha => absurd ha (by simp)) hi
  exact ⟨ps', r.ofSlots (qs := []) (h1.mono (fun _ _ _ q => q) (fun _ _ q _ => q) fun a o q u => u.elim id fun z => absurd z (by simp)) h2 h3 fun a ha => absurd ha (by simp)⟩
theorem R.forget {c : Fx} {ρ : Env} {ps : List Addr} {σ : St} {H : Hp} (r : R c Γ ρ ps σ H) {i : Nat} {m : Md} {o : Option V} (hi : i < Γ.length) : ∃ ps', R c (Γ.set i m) (ρ.set i none) ps' (σ.set i o) H := by
  obtain ⟨ps', h1, h2, h3⟩ := r.sl.put (SlotR.no (m := m) (o := o)) r.nd List.nodup_nil (fun a ha => absurd ha (by simp)) hi
  exact ⟨ps', r.ofSlots (qs := []) (h1.mono (fun _ _ _ q => q) (fun _ _ q _ => q) fun a o q u => u.elim id fun z => absurd z (by simp)) h2 h3 fun a ha => absurd ha (by simp)⟩
/-- a slot gets a new list as its own -/
theorem R.putOwn {c : Fx} {ρ : Env} {ps : List Addr} {σ : St} {H H' : Hp} (r : R c Γ ρ ps σ H) (e : Stp c H H') {i : Nat} {p : Addr} {vs : List V} {ds : List D} (hi : i < Γ.length) (hn : H p = none) (hp : H' p = some (.lst vs))
    (dn : DenL H' (fun a => c.U ps a ∨ a = p) vs ds) : ∃ ps', R c (Γ.set i .own) (ρ.set i (some (.list ds))) ps' (σ.set i (some (.ref p))) H' := by
  have r' := r.stp e
  have nU := r.new hn
  have sl' : Slots c H' (fun a => c.U ps a ∨ a ∈ [p]) Γ ρ σ ps := r.sl.mono (fun a ha o q => e.keep a o q (r.ownA ha)) (fun a o q n => e.keep a o q (r.nA n)) fun a o q u => u.elim id fun z => by
    rw [List.mem_singleton.mp z, hn] at q; cases q
  have dn' : DenL H' (fun a => c.U ps a ∨ a ∈ [p]) vs ds := dn.mono (fun _ _ q _ => q) fun a o q u => u.imp id fun z => List.mem_singleton.mp z
  obtain ⟨ps', h1, h2, h3⟩ := sl'.put (SlotR.own hp dn') r.nd (by simp) (fun a ha z => nU (.inr (by rw [List.mem_singleton.mp ha] at z; exact z))) hi
  exact ⟨ps', r'.ofSlots (qs := [p]) h1 h2 h3 fun a ha => by
    rw [List.mem_singleton.mp ha]
    exact ⟨r.fresh0 hn, r.nU0 hn⟩⟩

/-! ### blocks -/
def oThen (o : Out) (k : Env → M Out) : M Out := match o with
  | .nx ρ => k ρ
  | o => ret o
def sSeq (f g : Env → M Out) : Env → M Out := fun ρ => bnd (f ρ) fun o => oThen o g
def sNx : Env → M Out := fun ρ => ret (.nx ρ)
theorem sem_nx : SemS s Γl Γ Γ tNext sNx := fun c ρ ps σ H E P hc r q k => k.nx ρ ps σ H q r
theorem sem_seq {t u : TS} {f g : Env → M Out} {Γ1 : List Md} (h : SemS s Γl Γ Γ1 t f) (h' : SemS s Γl Γ1 Γ' u g) : SemS s Γl Γ Γ' (tSeq t u) (sSeq f g) := by
  intro c ρ ps σ H E P hc r q k
  refine h c ρ ps σ H _ _ hc r q ⟨fun ρ' ps' σ' H' p r' => ?_, fun d v H' p fi dn => k.rt d v H' p fi dn, fun ρ' ps' σ' H' p r' => k.bk ρ' ps' σ' H' p r', fun ρ' ps' σ' H' p r' => k.ct ρ' ps' σ' H' p r'⟩
  exact h' c ρ' ps' σ' H' _ _ hc r' p k
def sAsg (i : Nat) (e : Env → M D) : Env → M Out := fun ρ => bnd (e ρ) fun d => ret (.nx (ρ.set i (some d)))
theorem sem_asg {i : Nat} {t : TE} {e : Env → M D} (h : SemE s Γ t e) (hi : i < Γ.length) : SemS s Γl Γ (Γ.set i .fro) (tAsg t (gName i)) (sAsg i e) := by
  intro c ρ ps σ H E P hc r q k
  refine h c ρ ps σ H _ _ hc r q fun d v H1 q1 e1 dn => ?_
  obtain ⟨ps', r'⟩ := (r.stp e1).put hi dn
  exact k.nx _ ps' _ H1 q1 r'
def sOwn (i : Nat) (e : Env → M (List D)) : Env → M Out := fun ρ => bnd (e ρ) fun ds => ret (.nx (ρ.set i (some (.list ds))))
theorem sem_asgOwn {i : Nat} {t : TE} {e : Env → M (List D)} (h : SemL s Γ t e) (hi : i < Γ.length) : SemS s Γl Γ (Γ.set i .own) (tAsg t (gName i)) (sOwn i e) := by
  intro c ρ ps σ H E P hc r q k
  refine h c ρ ps σ H _ _ hc r q fun ds p vs H1 q1 e1 hn hp dn => ?_
  obtain ⟨ps', r'⟩ := r.putOwn e1 hi hn hp dn
  exact k.nx _ ps' _ H1 q1 r'
/-- a target of names: all data -/
def sTgt (e : Env → M D) (g : D → Env → M Env) : Env → M Out := fun ρ => bnd (e ρ) fun d => bnd (g d ρ) fun ρ' => ret (.nx ρ')
theorem sem_tgt {t : TE} {g : TG} {ts : List Nat} {e : Env → M D} {tg : D → Env → M Env} (h : SemE s Γ t e) (hg : SemG s Γ g ts tg) : SemS s Γl Γ Γ (tAsg t g) (sTgt e tg) := by
  intro c ρ ps σ H E P hc r q k
  refine h c ρ ps σ H _ _ hc r q fun d v H1 q1 e1 dn => ?_
  exact hg c ρ ps σ H1 d v _ _ hc (r.stp e1) dn q1 fun ρ' σ' p r' _ _ => k.nx ρ' ps σ' H1 p r'
/-- a, b = x, y (two names) -/
def sPar (i j : Nat) (f : Env → M (List D)) : Env → M Out := fun ρ => bnd (f ρ) fun l => match l with
  | [x, y] => ret (.nx ((ρ.set i (some x)).set j (some y)))
  | _ => stuck
theorem sem_par {i j : Nat} {t : TA} {f : Env → M (List D)} (h : SemA s Γ t f) (hi : Γ[i]? = some .fro) (hj : Γ[j]? = some .fro) : SemS s Γl Γ Γ (tPar i j t) (sPar i j f) := by
  intro c ρ ps σ H E P hc r q k
  refine h c ρ ps σ H _ _ hc r q fun ds vs H1 q1 e1 dn => ?_
  dsimp only at q1
  split at q1
  · cases dn with
    | cons d1 dr =>
      cases dr with
      | cons d2 dr =>
        cases dr
        exact ⟨_, _, rfl, k.nx _ ps _ H1 q1 (((r.stp e1).setFro d1 hi).setFro d2 hj)⟩
  · cases q1
def sPar3 (i j l : Nat) (f : Env → M (List D)) : Env → M Out := fun ρ => bnd (f ρ) fun w => match w with
  | [x, y, z] => ret (.nx (((ρ.set i (some x)).set j (some y)).set l (some z)))
  | _ => stuck
theorem sem_par3 {i j l : Nat} {t : TA} {f : Env → M (List D)} (h : SemA s Γ t f) (hi : Γ[i]? = some .fro) (hj : Γ[j]? = some .fro) (hl : Γ[l]? = some .fro) : SemS s Γl Γ Γ (tPar3 i j l t) (sPar3 i j l f) := by
  intro c ρ ps σ H E P hc r q k
  refine h c ρ ps σ H _ _ hc r q fun ds vs H1 q1 e1 dn => ?_
  dsimp only at q1
  split at q1
  · cases dn with
    | cons d1 dr =>
      cases dr with
      | cons d2 dr =>
        cases dr with
        | cons d3 dr =>
          cases dr
          exact ⟨_, _, _, rfl, k.nx _ ps _ H1 q1 ((((r.stp e1).setFro d1 hi).setFro d2 hj).setFro d3 hl)⟩
  · cases q1
def sRet (e : Env → M D) : Env → M Out := fun ρ => bnd (e ρ) fun d => ret (.rt d)
theorem sem_ret {t : TE} {e : Env → M D} (h : SemE s Γ t e) : SemS s Γl Γ Γ' (tRet t) (sRet e) := by
  intro c ρ ps σ H E P hc r q k
  refine h c ρ ps σ H _ _ hc r q fun d v H1 q1 e1 dn => ?_
  exact k.rt d v H1 q1 (r.stp e1).fin (dn.mono (fun _ _ z _ => z) fun a o z u => .inl u)
def sRetN : Env → M Out := fun _ => ret (.rt .none)
theorem sem_retN : SemS s Γl Γ Γ' tRetN sRetN := fun c ρ ps σ H E P hc r q k => k.rt _ _ H q r.fin .non
def sIf (g : Env → M Bool) (f f' : Env → M Out) : Env → M Out := fun ρ => bnd (g ρ) fun b => if b = true then f ρ else f' ρ
theorem sem_if {t : TT} {u w : TS} {g : Env → M Bool} {f f' : Env → M Out} (hg : SemT s Γ t g) (h : SemS s Γl Γ Γ' u f) (h' : SemS s Γl Γ Γ' w f') : SemS s Γl Γ Γ' (tIfS t u w) (sIf g f f') := by
  intro c ρ ps σ H E P hc r q k
  refine hg c ρ ps σ H _ _ hc r q fun b H1 q1 e1 => ?_
  dsimp only at q1
  cases b with
  | true =>
    rw [if_pos rfl] at q1
    exact iteT (h c ρ ps σ H1 _ _ hc (r.stp e1) q1 k)
  | false =>
    rw [if_neg Bool.false_ne_true] at q1
    exact iteF (h' c ρ ps σ H1 _ _ hc (r.stp e1) q1 k)
def sNever : Env → M Out := fun _ => stuck
theorem sem_never : SemS s Γl Γ Γ' tNever sNever := fun c ρ ps σ H E P hc r q k => False.elim q
def sBk : Env → M Out := fun ρ => ret (.bk ρ)
def sCt : Env → M Out := fun ρ => ret (.ct ρ)
theorem sem_bk : SemS s Γ Γ Γ' tBreak sBk := fun c ρ ps σ H E P hc r q k => k.bk ρ ps σ H q r
theorem sem_ct : SemS s Γ Γ Γ' tCont sCt := fun c ρ ps σ H E P hc r q k => k.ct ρ ps σ H q r

/-! ### own lists -/
theorem Slots.upd1 {c : Fx} {H H' : Hp} {U : AS} {ρ : Env} {σ : St} {ps : List Addr} {p : Addr} {vs : List V} {ds : List D} (h : Slots c H U Γ ρ σ ps) (nd : ps.Nodup) (same : ∀ a o, a ≠ p → H a = some o → H' a = some o) (hU : U p) (hp : H' p = some (.lst vs)) (dn : DenL H' U vs ds) :
    ∀ {i : Nat} {es : List D}, Γ[i]? = some .own → ρ[i]? = some (some (.list es)) → σ[i]? = some (some (.ref p)) → Slots c H' U Γ (ρ.set i (some (.list ds))) σ ps := by
  have e : ∀ a o, H a = some o → ¬ U a → H' a = some o := fun a o q n => same a o (fun z => n (by rw [z]; exact hU)) q
  induction h with
  | nil => intro i es h; simp at h
  | @cons m1 d1 o1 p1 q1 Γ1 ρ1 σ1 h1 h2 ih =>
    intro i es hm hd ho
    have nd' := List.nodup_append.mp nd
    cases i with
    | zero =>
      simp at hm hd ho
      subst hm hd ho
      cases h1 with
      | own a1 a2 =>
        refine .cons (.own hp dn) (h2.mono (fun a ha o q => same a o (fun z => ?_) q) e fun _ _ _ q => q)
        rw [z] at ha
        exact nd'.2.2 p (by simp) p ha rfl
    | succ i =>
      have hm' : Γ1[i]? = some .own := by simpa using hm
      have hd' : ρ1[i]? = some (some (.list es)) := by simpa using hd
      have ho' : σ1[i]? = some (some (.ref p)) := by simpa using ho
      obtain ⟨o, qs, e1, e2, e3⟩ := h2.get hm' hd'
      rw [ho'] at e1
      cases e1
      cases e2 with
      | own a1 a2 =>
        have hpq : p ∈ q1 := e3 p (by simp)
        refine .cons (h1.mono (fun a ha o q => same a o (fun z => ?_) q) e fun _ _ _ q => q) (ih nd'.2.1 hm' hd' ho')
        rw [z] at ha
        exact nd'.2.2 p ha p hpq rfl
/-- the own list in slot i becomes another one -/
theorem R.updOwn {c : Fx} {ρ : Env} {ps : List Addr} {σ : St} {H : Hp} (r : R c Γ ρ ps σ H) {i : Nat} {p : Addr} {xs vs : List V} {es ds : List D} (hm : Γ[i]? = some .own) (hd : ρ[i]? = some (some (.list es))) (ho : σ[i]? = some (some (.ref p)))
    (hp : p ∈ ps) (h : H p = some (.lst xs)) (hz : vs.length ≤ sizeLine) (dn : DenL H (c.U ps) vs ds) : R c Γ (ρ.set i (some (.list ds))) ps σ (upd H p (.lst vs)) where
  ok := r.ok
  keep := fun a o q n => by rw [upd_ne (ne_of_none q (r.own p hp).1)]; exact r.keep a o q n
  there := fun a o q => by rw [upd_ne (ne_of_none q (r.own p hp).1)]; exact r.there a o q
  inv := r.ok.st H _ r.inv fun a o u q => by rw [upd_offm (S := c.A) (r.ownA hp) u]; exact q
  al := fun a u => by rw [upd_offm (S := c.U0) (r.own p hp).2 u]; exact r.al a u
  sz := r.sz.upd fun zs q => by rcases q with q | q <;> cases q; exact hz
  sl := r.sl.upd1 r.nd (fun a o n q => by rw [upd_ne n]; exact q) (.inr hp) upd_same (dn.mono (fun a o q n => by rw [upd_off (S := c.U ps) (.inr hp) n]; exact q) fun _ _ _ q => q) hm hd ho
  nd := r.nd
  own := r.own
theorem R.ownAt {c : Fx} {ρ : Env} {ps : List Addr} {σ : St} {H : Hp} (r : R c Γ ρ ps σ H) {i : Nat} {d : D} (hm : Γ[i]? = some .own) (hd : ρ[i]? = some (some d)) : ∃ p xs ds, σ[i]? = some (some (.ref p)) ∧ d = .list ds ∧ p ∈ ps ∧ H p = some (.lst xs) ∧ DenL H (c.U ps) xs ds := by
  obtain ⟨o, qs, e1, e2, e3⟩ := r.sl.get hm hd
  cases e2 with
  | own a1 a2 => exact ⟨_, _, _, e1, rfl, e3 _ (by simp), a1, a2⟩
/-- i.append(e) -/
def sApp (i : Nat) (e : Env → M D) : Env → M Out := fun ρ => bnd (eVar i ρ) fun l => bnd (e ρ) fun d => match l with
  | .list ds => if lenOk (ds.length + 1) = true then ret (.nx (ρ.set i (some (.list (ds ++ [d]))))) else stuck
  | _ => stuck
theorem sem_app {K : PySem.W.Frag} {i : Nat} {t : TE} {e : Env → M D} (hm : Γ[i]? = some .own) (h : SemE s Γ t e) : SemS s Γl Γ Γ (tDrop (tBM K "list" rAppend (tVar i) (tCons t tNil))) (sApp i e) := by
  intro c ρ ps σ H E P hc r q k
  obtain ⟨l, hl, q⟩ := eVar_get q
  obtain ⟨p, xs, ds, ho, rfl, hp, h1, dn⟩ := r.ownAt hm hl
  refine ⟨_, ho, Or.inl ⟨rfl, _, SqL.of h1⟩, ?_⟩
  refine h c ρ ps σ H _ _ hc r q fun d v H1 q1 e1 d1 => ?_
  have q1 : (if lenOk (ds.length + 1) = true then ret (.nx (ρ.set i (some (.list (ds ++ [d]))))) else stuck) P := q1
  · split at q1
    · rename_i hz
      have hz' := lenOk_sz hz
      have r1 := r.stp e1
      have h1' : H1 p = some (.lst xs) := e1.keep _ _ h1 (r.ownA hp)
      have lz : xs.length < sizeLine := by rw [dn.length]; exact hz'
      refine ⟨p, xs, v, rfl, rfl, h1', lz, k.nx _ ps σ _ q1 (r1.updOwn hm hl ho hp h1' (by rw [List.length_append]; exact lz) ((dn.stp r.ok e1).append (.cons d1 .nil)))⟩
    · exact False.elim q1
/-- i[j] = e -/
def sSetI (i : Nat) (j e : Env → M D) : Env → M Out := fun ρ => bnd (e ρ) fun d => bnd (eVar i ρ) fun l => bnd (j ρ) fun x => match l, x with
  | .list ds, .int n => match ixN ds.length n with | some m => ret (.nx (ρ.set i (some (.list (ds.set m d))))) | none => stuck
  | _, _ => stuck
theorem sem_setI {i : Nat} {t u : TE} {e j : Env → M D} (hm : Γ[i]? = some .own) (h : SemE s Γ t e) (hj : SemV s Γ u j) : SemS s Γl Γ Γ (tAsg t (L2.gSub (tVar i) u rSetL)) (sSetI i j e) := by
  intro c ρ ps σ H E P hc r q k
  refine h c ρ ps σ H _ _ hc r q fun d v H1 q1 e1 d1 => ?_
  have r1 := r.stp e1
  obtain ⟨l, hl, q1⟩ := eVar_get q1
  obtain ⟨p, xs, ds, ho, rfl, hp, h1, dn⟩ := r1.ownAt hm hl
  refine ⟨_, ho, ?_⟩
  refine hj c ρ ps σ H1 _ _ hc r1 q1 fun x w H2 q2 e2 d2 => ?_
  have r2 := r1.stp e2
  cases x with
  | int n =>
    have q2 : (match ixN ds.length n with | some m => ret (Out.nx (ρ.set i (some (.list (ds.set m d))))) | none => (stuck : M Out)) P := q2
    cases z : ixN ds.length n with
    | none => rw [z] at q2; exact False.elim q2
    | some m =>
      rw [z] at q2
      have h2' : H2 p = some (.lst xs) := e2.keep _ _ h1 (r.ownA hp)
      have dn2 := dn.stp r.ok e2
      refine ⟨p, xs, n, m, rfl, d2.int, h2', by rw [dn.length]; exact z, k.nx _ ps σ _ q2 (r2.updOwn hm hl ho hp h2' (by rw [List.length_set]; exact r2.sz p xs (.inl h2')) (DenL.set (d1.stp r.ok e2) m dn2))⟩
  | _ => exact False.elim q2
/-- j = i, i own and not asked again: handed on as a datum -/
def sMove (j i : Nat) : Env → M Out := fun ρ => bnd (eVar i ρ) fun d => ret (.nx ((ρ.set i none).set j (some d)))
theorem R.frozen {c : Fx} {ρ : Env} {ps : List Addr} {σ : St} {H : Hp} (r : R c Γ ρ ps σ H) {i : Nat} {d : D} {p : Addr} (hm : Γ[i]? = some .own) (hd : ρ[i]? = some (some d)) (ho : σ[i]? = some (some (.ref p))) :
    ∃ ps', R c Γ (ρ.set i none) ps' σ H ∧ Den H (c.U ps') (.ref p) d ∧ ∀ a ∈ ps', a ∈ ps := by
  have key : ∀ {Γ : List Md} {ρ : Env} {σ : St} {ps : List Addr} {U : AS}, Slots c H U Γ ρ σ ps → ps.Nodup → ∀ {i : Nat}, Γ[i]? = some .own → ρ[i]? = some (some d) → σ[i]? = some (some (.ref p)) →
      ∃ ps', Slots c H U Γ (ρ.set i none) σ ps' ∧ ps'.Nodup ∧ (∀ a ∈ ps', a ∈ ps) ∧ p ∉ ps' ∧ ∃ vs ds, d = .list ds ∧ H p = some (.lst vs) ∧ DenL H U vs ds := by
    intro Γ ρ σ ps U h
    induction h with
    | nil => intro _ i hm; simp at hm
    | @cons m1 d1 o1 p1 q1 Γ1 ρ1 σ1 h1 h2 ih =>
      intro nd i hm hd ho
      have nd' := List.nodup_append.mp nd
      cases i with
      | zero =>
        simp at hm hd ho
        subst hm hd ho
        cases h1 with
        | own a1 a2 =>
          refine ⟨[] ++ q1, .cons .no h2, nd'.2.1, fun a ha => List.mem_append_right _ ha, fun z => nd'.2.2 p (by simp) p z rfl, _, _, rfl, a1, a2⟩
      | succ i =>
        obtain ⟨ps', s1, s2, s3, s4, s5⟩ := ih nd'.2.1 (i := i) (by simpa using hm) (by simpa using hd) (by simpa using ho)
        have hp : p ∈ q1 := by
          obtain ⟨o, qs, e1, e2, e3⟩ := h2.get (i := i) (by simpa using hm) (by simpa using hd)
          have ho' : σ1[i]? = some (some (.ref p)) := by simpa using ho
          rw [ho'] at e1; cases e1
          cases e2 with
          | own a1 a2 => exact e3 p (by simp)
        refine ⟨p1 ++ ps', .cons h1 s1, List.nodup_append.mpr ⟨nd'.1, s2, fun a ha b hb e => nd'.2.2 a ha b (s3 b hb) e⟩, fun a ha => ?_, fun z => ?_, s5⟩
        · rcases List.mem_append.mp ha with ha | ha
          · exact List.mem_append_left _ ha
          · exact List.mem_append_right _ (s3 a ha)
        · rcases List.mem_append.mp z with z | z
          · exact nd'.2.2 p z p hp rfl
          · exact s4 z
  obtain ⟨ps', h1, h2, h3, h4, vs, ds, rfl, h5, h6⟩ := key r.sl r.nd hm hd ho
  have mon : ∀ a o, H a = some o → c.U ps' a → c.U ps a := fun a o _ u => u.imp id (h3 a)
  have hp : p ∈ ps := by
    obtain ⟨q, xs, es, e1, e2, e3, _⟩ := r.ownAt hm hd
    rw [ho] at e1; cases e1
    exact e3
  refine ⟨ps', r.ofSlots (qs := []) (h1.mono (fun _ _ _ q => q) (fun _ _ q _ => q) fun a o q u => u.elim id fun z => absurd z (by simp)) h2 (fun a ha => .inl (h3 a ha)) fun a ha => absurd ha (by simp),
    .lst h5 (fun u => u.elim (r.own p hp).2 h4) (h6.mono (fun _ _ q _ => q) mon), h3⟩
theorem sem_move {i j : Nat} (hm : Γ[i]? = some .own) (hj : Γ[j]? = some .fro) : SemS s Γl Γ Γ (tAsg (tVar i) (gName j)) (sMove j i) := by
  intro c ρ ps σ H E P hc r q k
  obtain ⟨l, hl, q⟩ := eVar_get q
  obtain ⟨p, xs, ds, ho, e0, hp, h1, dn⟩ := r.ownAt hm hl
  obtain ⟨ps', r', d', _⟩ := r.frozen hm hl ho
  exact ⟨_, ho, k.nx _ ps' _ H q (r'.setFro d' hj)⟩
/-- return of an own list -/
def sRetOwn (i : Nat) : Env → M Out := fun ρ => bnd (eVar i ρ) fun d => ret (.rt d)
theorem sem_retOwn {i : Nat} (hm : Γ[i]? = some .own) : SemS s Γl Γ Γ' (tRet (tVar i)) (sRetOwn i) := by
  intro c ρ ps σ H E P hc r q k
  obtain ⟨l, hl, q⟩ := eVar_get q
  obtain ⟨p, xs, ds, ho, e0, hp, h1, dn⟩ := r.ownAt hm hl
  obtain ⟨ps', r', d', _⟩ := r.frozen hm hl ho
  exact ⟨_, ho, k.rt _ _ H q r.fin (d'.mono (fun _ _ z _ => z) fun a o z u => .inl u)⟩
/-- from here on the own list in slot i is a datum: a step without a text of its own -/
def sFrz (f : Env → M Out) : Env → M Out := f
theorem R.toFro {c : Fx} {ρ : Env} {ps : List Addr} {σ : St} {H : Hp} (r : R c Γ ρ ps σ H) {i : Nat} (hm : Γ[i]? = some .own) : ∃ ps', R c (Γ.set i .fro) ρ ps' σ H := by
  have hi : i < Γ.length := (List.getElem?_eq_some_iff.mp hm).1
  have hl := r.sl.len
  cases hd : ρ[i]? with
  | none => rw [List.getElem?_eq_none_iff] at hd; omega
  | some od =>
    cases od with
    | none =>
      have hs : i < σ.length := by omega
      obtain ⟨ps', r'⟩ := r.forget (i := i) (m := .fro) (o := σ[i]) hi
      have e1 : ρ.set i none = ρ := by
        apply List.ext_getElem?
        intro j
        by_cases e : i = j
        · subst e; rw [List.getElem?_set_self (by omega), hd]
        · rw [List.getElem?_set_ne e]
      rw [e1, List.set_getElem_self] at r'
      exact ⟨ps', r'⟩
    | some d =>
      obtain ⟨p, xs, ds, ho, e0, hp, h1, dn⟩ := r.ownAt hm hd
      obtain ⟨ps', r', d', sub⟩ := r.frozen hm hd ho
      obtain ⟨ps2, r2⟩ := r'.put hi d'
      have e1 : (ρ.set i none).set i (some d) = ρ := by
        rw [List.set_set]
        apply List.ext_getElem?
        intro j
        by_cases e : i = j
        · subst e; rw [List.getElem?_set_self (by omega), hd]
        · rw [List.getElem?_set_ne e]
      have e2 : σ.set i (some (.ref p)) = σ := by
        apply List.ext_getElem?
        intro j
        by_cases e : i = j
        · subst e; rw [List.getElem?_set_self (by omega), ho]
        · rw [List.getElem?_set_ne e]
      rw [e1, e2] at r2
      exact ⟨ps2, r2⟩
theorem sem_frz {i : Nat} {t : TS} {f : Env → M Out} (hm : Γ[i]? = some .own) (h : SemS s Γl (Γ.set i .fro) Γ' t f) : SemS s Γl Γ Γ' t (sFrz f) := by
  intro c ρ ps σ H E P hc r q k
  obtain ⟨ps', r'⟩ := r.toFro hm
  exact h c ρ ps' σ H E P hc r' q k
/-- .. at an end: the slot is forgotten, its mode free -/
theorem sem_end {i : Nat} {m : Md} {t : TS} {f : Env → M Out} (hi : i < Γ.length) (h : SemS s Γl (Γ.set i m) Γ' t f) (hf : ∀ ρ, f ρ = f (ρ.set i none)) : SemS s Γl Γ Γ' t f := by
  intro c ρ ps σ H E P hc r q k
  rw [hf] at q
  have hs : i < σ.length := by have := r.sl.len; omega
  obtain ⟨ps', r'⟩ := r.forget (i := i) (m := m) (o := σ[i]) hi
  rw [List.set_getElem_self] at r'
  exact h c _ ps' σ H E P hc r' q k
end
end Py
/-! PyL: loops. -/
namespace Py
open PySem L2 StX
section
variable {s : Sx} {Γ Γ' Γl : List Md}
/-- the same def, seen from a later place: what stands there is kept too -/
def Fx.at (c : Fx) (ps : List Addr) (H : Hp) : Fx := { c with H0 := fun a => if a ∈ ps then none else H a }
theorem Fx.at_none {c : Fx} {ps : List Addr} {H : Hp} {a : Addr} (h : (c.at ps H).H0 a = none) : a ∈ ps ∨ H a = none := by
  have h' : (if a ∈ ps then none else H a) = none := h
  by_cases q : a ∈ ps
  · exact .inl q
  · rw [if_neg q] at h'; exact .inr h'
theorem Fx.at_some {c : Fx} {ps : List Addr} {H : Hp} {a : Addr} {o : HO} (n : a ∉ ps) (h : H a = some o) : (c.at ps H).H0 a = some o := by
  show (if a ∈ ps then none else H a) = some o
  rw [if_neg n]; exact h
theorem R.enter {c : Fx} {ρ : Env} {ps : List Addr} {σ : St} {H : Hp} (r : R c Γ ρ ps σ H) : R (c.at ps H) Γ ρ ps σ H where
  ok := ⟨r.ok.sub, r.ok.st⟩
  keep := fun a o h _ => by
    have h' : (if a ∈ ps then none else H a) = some o := h
    by_cases q : a ∈ ps
    · rw [if_pos q] at h'; cases h'
    · rw [if_neg q] at h'; exact h'
  there := fun a o h => by
    have h' : (if a ∈ ps then none else H a) = some o := h
    by_cases q : a ∈ ps
    · rw [if_pos q] at h'; cases h'
    · rw [if_neg q] at h'; exact ⟨o, h'⟩
  inv := r.inv
  al := r.al
  sz := r.sz
  sl := Slots.ofSrc (c := c) (c' := c.at ps H) rfl r.sl
  nd := r.nd
  own := fun p hp => ⟨if_pos hp, (r.own p hp).2⟩
theorem R.leave {c : Fx} {ρ ρ0 : Env} {ps ps0 : List Addr} {σ σ0 : St} {H H1 : Hp} {Γ0 : List Md} (r0 : R c Γ0 ρ0 ps0 σ0 H1) (r : R (c.at ps0 H1) Γ ρ ps σ H) : R c Γ ρ ps σ H where
  ok := r0.ok
  keep := fun a o h n => r.keep a o (Fx.at_some (fun z => by rw [(r0.own a z).1] at h; cases h) (r0.keep a o h n)) n
  there := fun a o h => let ⟨o1, h1⟩ := r0.there a o h; r.there a o1 (Fx.at_some (fun z => by rw [(r0.own a z).1] at h; cases h) h1)
  inv := r.inv
  al := r.al
  sz := r.sz
  sl := Slots.ofSrc (c := c.at ps0 H1) (c' := c) rfl r.sl
  nd := r.nd
  own := fun p hp => ⟨(Fx.at_none (r.own p hp).1).elim (fun z => (r0.own p z).1) fun z => r0.fresh0 z, (r.own p hp).2⟩
theorem Fin.leave {c : Fx} {ρ0 : Env} {ps0 : List Addr} {σ0 : St} {H H1 : Hp} {Γ0 : List Md} (r0 : R c Γ0 ρ0 ps0 σ0 H1) (r : Fin (c.at ps0 H1) H) : Fin c H :=
  ⟨fun a o h n => r.keep a o (Fx.at_some (fun z => by rw [(r0.own a z).1] at h; cases h) (r0.keep a o h n)) n,
   fun a o h => let ⟨o1, h1⟩ := r0.there a o h; r.there a o1 (Fx.at_some (fun z => by rw [(r0.own a z).1] at h; cases h) h1), r.inv, r.al, r.sz⟩

def oLoop (o : Out) (k : Env → M Out) : M Out := match o with
  | .nx ρ => k ρ
  | .ct ρ => k ρ
  | .bk ρ => ret (.nx ρ)
  | .rt d => ret (.rt d)
def forW (tg : D → Env → M Env) (body : Env → M Out) : List D → Env → M Out
  | [], ρ => ret (.nx ρ)
  | d :: ds, ρ => bnd (tg d ρ) fun ρ' => bnd (body ρ') fun o => oLoop o (forW tg body ds)
def sFor (its : Env → M (List D)) (tg : D → Env → M Env) (body : Env → M Out) : Env → M Out := fun ρ => bnd (its ρ) fun ds => forW tg body ds ρ
theorem sem_for {wi : TI} {g : TG} {tb : TS} {ts : List Nat} {its : Env → M (List D)} {tg : D → Env → M Env} {body : Env → M Out} (hi : SemI s Γ wi its) (hg : SemG s Γ g ts tg) (hb : SemS s Γ Γ Γ tb body) :
    SemS s Γl Γ Γ (tFor wi g tb) (sFor its tg body) := by
  intro c ρ ps σ H E P hc r q k
  refine hi c ρ ps σ H _ _ hc r q fun ds J H1 q1 e1 it => ?_
  have r1 := r.stp e1
  refine ⟨fun i m σ' H' => m = ds.length - i ∧ i ≤ ds.length ∧ ∃ ρ' ps', R (c.at ps H1) Γ ρ' ps' σ' H' ∧ forW tg body (ds.drop i) ρ' P, ⟨ds.length, by simp, Nat.zero_le _, ρ, ps, r1.enter, q1⟩, ?_⟩
  rintro i m σ' H' ⟨rfl, hle, ρ', ps', r', w⟩
  have lU : Later (c.U ps) H1 H' := fun a o h n => r'.keep a o (Fx.at_some (fun z => n (.inr z)) h) fun z => n (.inl (r1.ok.sub a z))
  by_cases hlt : i < ds.length
  · refine .inr ⟨it.go i H' lU hlt, fun σ2 H2 => ds.length - (i + 1) = ds.length - (i + 1) ∧ i + 1 ≤ ds.length ∧ ∃ ρ2 ps2, R (c.at ps H1) Γ ρ2 ps2 σ2 H2 ∧ forW tg body (ds.drop (i + 1)) ρ2 P, fun σ2 H2 h => ⟨ds.length - (i + 1), by omega, h⟩, fun x H'' y => ?_⟩
    have hd : ds[i]? = some ds[i] := by simp [hlt]
    obtain ⟨same, sz, den⟩ := it.yld i ds[i] H' x H'' lU lU hd y
    have r2 := r'.stp (Stp.same r'.ok same sz)
    have dx : Den H'' ((c.at ps H1).U ps') x ds[i] := den _ (fun a o h u => by
      rcases u with u | u
      · exact .inl u
      · rcases Fx.at_none (r'.own a u).1 with z | z
        · exact .inr z
        · rw [h] at z; cases z) fun a h => r'.new h
    rw [List.drop_eq_getElem_cons hlt] at w
    have hc' : (c.at ps H1).s = s := hc
    refine hg (c.at ps H1) ρ' ps' σ' H'' _ _ _ _ hc' r2 dx w fun ρ2 σ2 w2 r3 _ _ => ?_
    refine hb (c.at ps H1) ρ2 ps' σ2 H'' _ _ hc' r3 w2 ⟨fun ρ3 ps3 σ3 H3 p r4 => ?_, fun d v H3 p fi dn => ?_, fun ρ3 ps3 σ3 H3 p r4 => ?_, fun ρ3 ps3 σ3 H3 p r4 => ?_⟩
    · exact ⟨rfl, hlt, ρ3, ps3, r4, p⟩
    · exact k.rt d v H3 p (fi.leave r1) dn
    · exact k.nx ρ3 ps3 σ3 H3 p (r1.leave r4)
    · exact ⟨rfl, hlt, ρ3, ps3, r4, p⟩
  · have e : i = ds.length := by omega
    subst e
    rw [List.drop_length] at w
    exact .inl ⟨it.stop H' lU, k.nx ρ' ps' σ' H' w (r1.leave r')⟩
def whW (g : Env → M Bool) (body : Env → M Out) : Nat → Env → M Out
  | 0, _ => stuck
  | n + 1, ρ => bnd (g ρ) fun b => if b = true then bnd (body ρ) fun o => oLoop o (whW g body n) else ret (.nx ρ)
def sWhile (fuel : Env → Nat) (g : Env → M Bool) (body : Env → M Out) : Env → M Out := fun ρ => whW g body (fuel ρ) ρ
theorem sem_while {t : TT} {tb : TS} {fuel : Env → Nat} {g : Env → M Bool} {body : Env → M Out} (hg : SemT s Γ t g) (hb : SemS s Γ Γ Γ tb body) : SemS s Γl Γ Γ (tWhile t tb) (sWhile fuel g body) := by
  intro c ρ ps σ H E P hc r q k
  refine ⟨fun m σ' H' => ∃ ρ' ps', R c Γ ρ' ps' σ' H' ∧ whW g body m ρ' P, ⟨fuel ρ, ρ, ps, r, q⟩, ?_⟩
  rintro m σ' H' ⟨ρ', ps', r', w⟩
  cases m with
  | zero => exact False.elim w
  | succ m =>
    refine hg c ρ' ps' σ' H' _ _ hc r' w fun b H1 q1 e1 => ?_
    dsimp only at q1
    cases b with
    | true =>
      rw [if_pos rfl] at q1
      rw [if_pos rfl]
      refine ⟨fun σ2 H2 => ∃ ρ2 ps2, R c Γ ρ2 ps2 σ2 H2 ∧ whW g body m ρ2 P, fun σ2 H2 h => ⟨m, Nat.lt_succ_self m, h⟩, ?_⟩
      exact hb c ρ' ps' σ' H1 _ _ hc (r'.stp e1) q1 ⟨fun ρ3 ps3 σ3 H3 p r4 => ⟨ρ3, ps3, r4, p⟩, fun d v H3 p fi dn => k.rt d v H3 p fi dn, fun ρ3 ps3 σ3 H3 p r4 => k.nx ρ3 ps3 σ3 H3 p r4, fun ρ3 ps3 σ3 H3 p r4 => ⟨ρ3, ps3, r4, p⟩⟩
    | false =>
      rw [if_neg Bool.false_ne_true] at q1
      rw [if_neg Bool.false_ne_true]
      exact k.nx ρ' ps' σ' H1 q1 (r'.stp e1)
end
end Py
/-! PyF: defs and their calls (no repr under way: guards). -/
namespace Py
open PySem PySem.Spec PyProof.Rows L2 StX

section
variable {P : Program} {w : World} {K : PySem.W.Frag} {mg : Str → Option Value} {base : Heap}
structure FnG (P : Program) (w : World) (K : PySem.W.Frag) (mg : Str → Option Value) (base : Heap) (k : Nat) (f : Addr) (fd : FuncData) (ps : List Str) (sp : Sp) : Prop where
  len : ∀ vs H Q E, sp vs H Q E → vs.length = ps.length
  run : ∀ (A : Around) (outer : List PySem.Env) (s : Shared) (H : Hp) (args : Args) (us : List Value) (vs : List V) (Q : VK) (E : XK), A.guards = some [] → Room k A → Env0 P w K mg base A outer s H → BindsTo s fd args (ps.zip us) → Vals vs us → sp vs H Q E →
    codeAny (model P w) A (.call (.ref f) args) (CR CX0 outer P w H s Q E) s
theorem FnG.mono {j k : Nat} {f : Addr} {fd : FuncData} {ps : List Str} {sp : Sp} (F : FnG P w K mg base j f fd ps sp) (h : j ≤ k) : FnG P w K mg base k f fd ps sp :=
  ⟨F.len, fun A outer s H args us vs Q E hg hr => F.run A outer s H args us vs Q E hg (hr.mono h)⟩
theorem guards_deeper (A : Around) (env : PySem.Env) : (A.deeper env).guards = A.guards := rfl
theorem fn_g {k : Nat} {x qual : Str} {st : Stmt} {f : Addr} {fd : FuncData} {N ps : List Str} {sp : Sp} (F : Fun K x qual st f fd) (S : FnScope N ps (defScope st)) (len : ∀ vs H Q E, sp vs H Q E → vs.length = ps.length)
    (hbody : ∀ (cdv : Value) (A : Around) (outer : List PySem.Env) (s : Shared) (H : Hp) (vs : List V) (Q : VK) (E : XK), A.guards = some [] → Room k (A.deeper (envOfC qual (defScope st) s.heap.objs.size f cdv)) → sp vs H Q E →
      ∃ t, PSs (cxOf CX0 P w K mg base N qual (defScope st) f cdv A outer s H E).nox (defBody st) t ∧ t { nx := fun _ H' => Q .non H', rt := Q } (start N vs) H) : FnG P w K mg base (k + 1) f fd ps sp := by
  obtain ⟨oc, od, kV, doc, pm, an, cdv, ct, osl, rfl, lk, hcd⟩ := F.ex
  refine ⟨len, fun A outer s H args us vs Q E hgd hr e0 hb r hsp => ?_⟩
  have hl := len _ _ _ _ hsp
  have inK : K.In s.heap := e0.mod.kin.keeps fun b o e => (e0.bs b o e).1
  have noL : s.heap.NoLimit := e0.mod.nolimit.keeps fun b o e => (e0.bs b o e).1
  have kinds : ∀ y ∈ ps.zip us, (defScope st).names.lookup y.1 = some .local ∨ ((defScope st).names.lookup y.1 = some .cell ∧ ((cellsFrom (s.heap.objs.size + 1) (defScope st).names []).lookup y.1).isSome = true) := by
    rintro ⟨n, v⟩ hy
    rcases S.par n (List.of_mem_zip hy).1 with z | z
    · exact .inl z
    · exact .inr ⟨z, PySem.W.cellsFrom_some _ _ _ (.inl z)⟩
  refine codeAny_call_function hr.depth (inK _ _ lk) rfl S.co S.gen rfl (PySem.W.codeRec_of inK hcd) (hb _ _ _ _ ?_)
  refine wpAny_newFunctionEnv_cells S.kind kinds fun env he s1 xx => ?_
  subst he
  refine ⟨noL.keeps xx.toInCall.keep, codeAny_func ?_⟩
  obtain ⟨t, ht, hq⟩ := hbody cdv A outer s H vs Q E hgd (hr.deeper _) hsp
  have In := inv_start (CX := CX0) (E := E) S hr.hd e0 hl r xx
  refine wpAny_mono (ht.nox.run [] s1 (start N vs) H _ In hq) (fun fl s' hs => ?_) fun e s' hs => hs
  cases fl with
  | ret u =>
    obtain ⟨v, σ', H', J, rv, q⟩ := hs
    exact ⟨v, H', J.os, J.bare, J.base, J.hok, rv, q⟩
  | next =>
    obtain ⟨σ', H', J, q⟩ := hs
    exact ⟨V.non, H', J.os, J.bare, J.base, J.hok, rfl, q⟩
  | brk =>
    obtain ⟨_, _, _, q⟩ := hs
    exact False.elim q
  | cont =>
    obtain ⟨_, _, _, q⟩ := hs
    exact False.elim q
end

section
variable {X : Cx} {k : Nat} {f : Addr} {fd : FuncData} {ps : List Str} {sp : Sp} {x : Str} {p pos : Pos} {e : Expr} {es : List Expr} {t : TA}
theorem run_g {pins : List (Addr × Obj)} {σ : L2.St} {H : Hp} {s : Shared} {Q : VK} {us : List Value} {vs : List V} (F : FnG X.prog X.w X.K X.mg X.base k f fd ps sp) (hgd : X.A.guards = some []) (hr : Room k X.A) (hb : Binds X.K fd ps [])
    (In : Inv X pins σ H s) (r : Vals vs us) (h : sp vs H Q E0) : wpAny (model X.prog X.w) X.A (call (.ref f) us) (EP X pins σ Q) X.xe s := by
  have hl : (us ++ []).length = ps.length := by rw [List.append_nil, ← r.length]; exact F.len _ _ _ _ h
  have hb' := hb s us In.kIn hl
  rw [List.append_nil] at hb'
  refine wpAny_call (codeAny_mono (F.run X.A X.stack s H ⟨us, []⟩ us vs Q E0 hgd hr In.env0 hb' r h) fun rr s' hq => ?_)
  cases rr with
  | error e => exact False.elim hq
  | ok fl =>
    cases fl with
    | ret u => exact In.after hq
    | next => exact False.elim hq
    | brk => exact False.elim hq
    | cont => exact False.elim hq
def tCallG (sp : Sp) (t : TA) : TE := fun σ H Q => t σ H fun vs H1 => sp vs H1 Q E0
theorem pe_callG (F : FnG X.prog X.w X.K X.mg X.base k f fd ps sp) (hgd : X.A.guards = some []) (hr : Room k X.A) (hg : Gl X x) (hm : X.mg x = some (.ref f)) (hk : PySem.W.keepIn X.K (.ref f) = true) (hb : Binds X.K fd ps [])
    (ha : PA X (e :: es) t) (hdb : (x == ("__debug__" : Str)) = false := by decide) (he : starEach (e :: es) X.env = (false, eval e X.env) :: starEach es X.env := by rfl) (hpl : (backTo pos (starEach es X.env)).any (·.1) = false := by rfl) :
    PE X (.Call (.Name x p) (e :: es) [] pos) (tCallG sp t) := by
  refine ⟨fun pn st sg Hh Qq In hw => ?_⟩
  refine wpAny_Call_Name_kw (ld_glob In hg hm ?_ hdb)
  refine PySem.W.callWith_K (h₀ := X.base) In.ok.mod.kin hk (thn (ha.run pos pn st sg Hh _ In hw) fun us s1 ⟨vs, H1, I1, r, q⟩ => ⟨I1.kIn, ?_⟩) he hpl
  exact run_g F hgd hr hb I1 r q
end

/-! ### promises by functions of data -/
def pureS : Sx := ⟨fun _ => False, fun _ => True, 0⟩
structure SxOk (s : Sx) : Prop where
  st : ∀ H H', s.J H → (∀ a o, s.A a → H a = some o → H' a = some o) → s.J H'
theorem pureOk : SxOk pureS := ⟨fun _ _ _ _ => trivial⟩
def outD : Out → M D
  | .rt d => ret d
  | .nx _ => ret .none
  | _ => stuck
/-- the function of data that a body is: N places, the parameters first -/
def fnD (m : Nat) (f : Env → M Out) : List D → M D := fun ds => bnd (f (ds.map some ++ List.replicate m none)) outD
/-- what a call wants: the arguments' data, what may change (U) -/
structure Call (s : Sx) (F : List D → M D) (vs : List V) (H : Hp) (Q : VK) (ds : List D) (U : AS) (P : D → Prop) : Prop where
  den : DenL H U vs ds
  sub : ∀ a, s.A a → U a
  al : Loose H U
  sz : Sz H
  inv : s.J H
  run : F ds P
  out : ∀ d v H', P d → Stp ⟨s, U, H⟩ H H' → Den H' U v d → Q v H'
def spP (n : Nat) (F : List D → M D) : Sp := fun vs H Q _ => vs.length = n ∧ ∃ ds U P, Call pureS F vs H Q ds U P
/-- the first argument is the source -/
def spS (s : Sx) (n : Nat) (F : List D → M D) : Sp := fun vs H Q _ => vs.length = n + 1 ∧ ∃ ws, vs = .ref s.src :: ws ∧ ∃ ds U P, Call s F ws H Q ds U P
theorem slots_start {c : Fx} {H : Hp} {U : AS} {Γr : List Md} : ∀ {vs : List V} {ds : List D}, DenL H U vs ds → Slots c H U (List.replicate ds.length .fro ++ Γr) (ds.map some ++ List.replicate Γr.length none) (vs.map some ++ List.replicate Γr.length none) []
  | _, _, .nil => by
    show Slots c H U Γr (List.replicate Γr.length none) (List.replicate Γr.length none) []
    induction Γr with
    | nil => exact .nil
    | cons m Γr ih =>
      have := Slots.cons (SlotR.no (c := c) (H := H) (U := U) (m := m) (o := none)) ih
      exact this
  | _, _, .cons h t => by
    have := Slots.cons (SlotR.fro (c := c) h) (slots_start (c := c) (Γr := Γr) t)
    exact this
theorem U_nil {c : Fx} : ∀ a, c.U [] a → c.U0 a := fun a u => u.elim id fun z => absurd z (by simp)
/-- the body of a def without the source -/
theorem body_p {n m : Nat} {N : List Str} {Γr Γ' Γl : List Md} {t : TS} {f : Env → M Out} {vs : List V} {H : Hp} {Q : VK} {E : XK} (h : SemS pureS Γl (List.replicate n .fro ++ Γr) Γ' t f) (hN : N.length = n + m) (hm : Γr.length = m)
    (hs : spP n (fnD m f) vs H Q E) : t { nx := fun _ H' => Q .non H', rt := Q } (start N vs) H := by
  obtain ⟨hl, ds, U, P, C⟩ := hs
  have dl : ds.length = n := by rw [← C.den.length]; exact hl
  have ok : Fx.Ok ⟨pureS, U, H⟩ := ⟨C.sub, pureOk.st⟩
  have r0 : R ⟨pureS, U, H⟩ (List.replicate n .fro ++ Γr) (ds.map some ++ List.replicate m none) [] (start N vs) H := by
    refine ⟨ok, fun a o q _ => q, fun a o q => ⟨o, q⟩, C.inv, C.al, C.sz, ?_, List.nodup_nil, fun p hp => absurd hp (by simp)⟩
    have e1 : L2.start N vs = vs.map some ++ List.replicate Γr.length none := by
      unfold L2.start
      rw [hN, hl, hm, Nat.add_sub_cancel_left]
    rw [e1, ← dl, ← hm]
    exact slots_start (C.den.mono (fun _ _ q _ => q) fun a _ _ u => U_nil a u)
  refine h ⟨pureS, U, H⟩ _ [] _ H _ _ rfl r0 C.run ⟨fun ρ ps σ H' p r => ?_, fun d v H' p fi dn => ?_, fun ρ ps σ H' p r => False.elim p, fun ρ ps σ H' p r => False.elim p⟩
  · exact C.out .none .non H' p ⟨fun a o q n => r.keep a o q n, r.there, fun _ => r.inv, fun _ => r.al, fun _ => r.sz⟩ .non
  · exact C.out d v H' p ⟨fun a o q n => fi.keep a o q n, fi.there, fun _ => fi.inv, fun _ => fi.al, fun _ => fi.sz⟩ dn
/-- with the source in the first place -/
def fnS (m : Nat) (f : Env → M Out) : List D → M D := fun ds => bnd (f (some .none :: (ds.map some ++ List.replicate m none))) outD
theorem body_s {s : Sx} (so : SxOk s) {n m : Nat} {N : List Str} {Γr Γ' Γl : List Md} {t : TS} {f : Env → M Out} {vs : List V} {H : Hp} {Q : VK} {E : XK} (h : SemS s Γl (.src :: (List.replicate n .fro ++ Γr)) Γ' t f) (hN : N.length = n + 1 + m) (hm : Γr.length = m)
    (hs : spS s n (fnS m f) vs H Q E) : t { nx := fun _ H' => Q .non H', rt := Q } (start N vs) H := by
  obtain ⟨hl, ws, rfl, ds, U, P, C⟩ := hs
  have hl' : ws.length = n := by simpa using hl
  have dl : ds.length = n := by rw [← C.den.length]; exact hl'
  have ok : Fx.Ok ⟨s, U, H⟩ := ⟨C.sub, so.st⟩
  have r0 : R ⟨s, U, H⟩ (.src :: (List.replicate n .fro ++ Γr)) (some .none :: (ds.map some ++ List.replicate m none)) [] (start N (.ref s.src :: ws)) H := by
    refine ⟨ok, fun a o q _ => q, fun a o q => ⟨o, q⟩, C.inv, C.al, C.sz, ?_, List.nodup_nil, fun p hp => absurd hp (by simp)⟩
    have e1 : L2.start N (.ref s.src :: ws) = some (.ref s.src) :: (ws.map some ++ List.replicate Γr.length none) := by
      unfold L2.start
      rw [hN, hl, hm, Nat.add_sub_cancel_left]
      rfl
    rw [e1, ← dl, ← hm]
    have q := slots_start (c := ⟨s, U, H⟩) (Γr := Γr) (C.den.mono (fun _ _ q _ => q) fun a _ _ u => U_nil (c := ⟨s, U, H⟩) a u)
    exact Slots.cons (SlotR.src (c := ⟨s, U, H⟩) (d := .none)) q
  refine h ⟨s, U, H⟩ _ [] _ H _ _ rfl r0 C.run ⟨fun ρ ps σ H' p r => ?_, fun d v H' p fi dn => ?_, fun ρ ps σ H' p r => False.elim p, fun ρ ps σ H' p r => False.elim p⟩
  · exact C.out .none .non H' p ⟨fun a o q n => r.keep a o q n, r.there, fun _ => r.inv, fun _ => r.al, fun _ => r.sz⟩ .non
  · exact C.out d v H' p ⟨fun a o q n => fi.keep a o q n, fi.there, fun _ => fi.inv, fun _ => fi.al, fun _ => fi.sz⟩ dn

section
variable {s : Sx} {Γ : List Md}
def eCall (n : Nat) (F : List D → M D) (f : Env → M (List D)) : Env → M D := fun ρ => bnd (f ρ) fun ds => if ds.length = n then F ds else stuck
theorem sem_call {n : Nat} {F : List D → M D} {t : TA} {f : Env → M (List D)} (h : SemA s Γ t f) : SemE s Γ (tCallG (spP n F) t) (eCall n F f) := by
  intro c ρ ps σ H Q P hc r q k
  refine h c ρ ps σ H _ _ hc r q fun ds vs H1 q1 e1 dn => ?_
  have r1 := r.stp e1
  dsimp only at q1
  split at q1
  · rename_i hl
    refine ⟨dn.length.trans hl, ds, c.U ps, P, dn, fun a z => False.elim z, r1.loose, r1.sz, trivial, q1, fun d v H2 p e2 d2 => ?_⟩
    have same : ∀ a o, H1 a = some o → H2 a = some o := fun a o q => e2.keep a o q fun z => False.elim z
    exact k d v H2 p (e1.trans (Stp.same r.ok same e2.sz)) d2
  · exact False.elim q1
/-- a call that draws from the source -/
def eCallS (i n : Nat) (F : List D → M D) (f : Env → M (List D)) : Env → M D := fun ρ => bnd (eVar i ρ) fun _ => eCall n F f ρ
theorem sem_callS {i n : Nat} {F : List D → M D} {t : TA} {f : Env → M (List D)} (hi : Γ[i]? = some .src) (h : SemA s Γ t f) : SemE s Γ (tCallG (spS s n F) (tCons (tVar i) t)) (eCallS i n F f) := by
  intro c ρ ps σ H Q P hc r q k
  subst hc
  obtain ⟨d0, hd, q⟩ := eVar_get q
  obtain ⟨o, qs, ho, hs, _⟩ := r.sl.get hi hd
  cases hs with
  | src =>
    refine ⟨_, ho, ?_⟩
    refine h c ρ ps σ H _ _ rfl r q fun ds vs H1 q1 e1 dn => ?_
    have r1 := r.stp e1
    dsimp only at q1
    split at q1
    · rename_i hl
      refine ⟨congrArg (· + 1) (dn.length.trans hl), vs, rfl, ds, c.U ps, P, dn, fun a z => .inl (r.ok.sub a z), r1.loose, r1.sz, r1.inv, q1, fun d v H2 p e2 d2 => ?_⟩
      exact k d v H2 p (e1.trans ⟨e2.keep, e2.there, e2.inv, fun _ a u => e2.al r1.loose a (.inl u), e2.sz⟩) d2
    · exact False.elim q1
end
end Py
section
set_option maxHeartbeats 1000000
/-! PyG: builtin functions: their readings over any data. -/
namespace Py
open PySem L2 StX PyProof.Rows
open PySem.W (AlikeAll minD maxD min_list_data min_tuple_data max_list_data max_tuple_data dataLe dataKind SortsAt AllAlike Sortable EachIs)

section
variable {X : Cx}
/-! ### in, not in -/
def rInX (neg : Bool) (K : PySem.W.Frag) : R2 := fun x y H Q => ∃ d ds, Dp K H x d ∧ (Dp K H y (.list ds) ∨ Dp K H y (.tuple ds)) ∧ shp d = true ∧ PyData.canLayAll0 ds = true ∧ Q (.bl (xor neg (ds.any fun z => PyData.eqv z d))) H
theorem room_shp {A : Around} {d : D} {n : Nat} (h : shp d = true) (hu : A.units + 65 < cLine) : A.units + 1 + min n d.depth < cLine := by
  have h' : (d.canLay0 && decide (d.depth ≤ 64)) = true := h
  rw [Bool.and_eq_true] at h'
  have := of_decide_eq_true h'.2
  omega
theorem op_inX (hu : X.A.units + 65 < cLine) : OpR X (compareOp .In) (rInX false X.K) := by
  intro pins s σ H x y v u Q I rx ry h
  obtain ⟨d, ds, hd, he, sd, se, q⟩ := h
  obtain ⟨as, r1⟩ := Dp.reads I d x v hd rx
  rcases he with he | he
  · obtain ⟨bs, r2⟩ := Dp.reads I (.list ds) y u he ry
    exact SeqAt.in_list_reads r2 r1 se (shp_lay sd) (room_shp sd hu) ⟨.bl _, H, I, rfl, by simpa using q⟩
  · obtain ⟨bs, r2⟩ := Dp.reads I (.tuple ds) y u he ry
    exact SeqAt.in_tuple_reads r2 r1 se (shp_lay sd) (room_shp sd hu) ⟨.bl _, H, I, rfl, by simpa using q⟩
theorem op_notInX (hu : X.A.units + 65 < cLine) : OpR X (compareOp .NotIn) (rInX true X.K) := by
  intro pins s σ H x y v u Q I rx ry h
  obtain ⟨d, ds, hd, he, sd, se, q⟩ := h
  obtain ⟨as, r1⟩ := Dp.reads I d x v hd rx
  rcases he with he | he
  · obtain ⟨bs, r2⟩ := Dp.reads I (.list ds) y u he ry
    exact SeqAt.notIn_list_reads r2 r1 se (shp_lay sd) (room_shp sd hu) ⟨.bl _, H, I, rfl, by simpa using q⟩
  · obtain ⟨bs, r2⟩ := Dp.reads I (.tuple ds) y u he ry
    exact SeqAt.notIn_tuple_reads r2 r1 se (shp_lay sd) (room_shp sd hu) ⟨.bl _, H, I, rfl, by simpa using q⟩

/-! ### < of alike data -/
def cmpOk (x y : D) : Bool := W.alike x y && shp x && !isNonD x
def rLtD (K : PySem.W.Frag) : R2 := fun x y H Q => ∃ d e, Dp K H x d ∧ Dp K H y e ∧ cmpOk d e = true ∧ Q (.bl (W.dataLt d e)) H
theorem ne_non {d : D} (h : isNonD d = false) : d ≠ .none := fun e => by rw [e] at h; cases h
theorem cmpOk_of {x y : D} (h : cmpOk x y = true) : W.alike x y = true ∧ x.depth ≤ 64 ∧ x ≠ .none := by
  unfold cmpOk at h
  rw [Bool.and_eq_true, Bool.and_eq_true] at h
  have h' : (x.canLay0 && decide (x.depth ≤ 64)) = true := h.1.2
  rw [Bool.and_eq_true] at h'
  exact ⟨h.1.1, of_decide_eq_true h'.2, ne_non (by simpa using h.2)⟩
theorem op_ltD (hu : X.A.units + 65 < cLine) : OpR X (compareOp .Lt) (rLtD X.K) := by
  intro pins s σ H x y v u Q I rx ry h
  obtain ⟨d, e, hd, he, ok, q⟩ := h
  obtain ⟨as, r1⟩ := Dp.reads I d x v hd rx
  obtain ⟨bs, r2⟩ := Dp.reads I e y u he ry
  obtain ⟨k1, k2, k3⟩ := cmpOk_of ok
  exact W.rcLt_alike d e _ s v u as bs r1 r2 k1 k3 (by omega) _ _ _ _ ⟨.bl _, H, I, rfl, q⟩

/-! ### min, max of a list or a tuple of alike data -/
theorem Dp.at' {K : PySem.W.Frag} {H : Hp} : ∀ {vs : List V} {ds : List D}, DpAll K H vs ds → ∀ {i : Nat} {v : V}, vs[i]? = some v → ∃ d, ds[i]? = some d ∧ Dp K H v d
  | _, _, .nil, i, v, e => by simp at e
  | _, _, .cons h t, 0, v, e => by simp at e; subst e; exact ⟨_, rfl, h⟩
  | _, _, .cons h t, i + 1, v, e => by
    obtain ⟨d, e1, e2⟩ := Dp.at' t (i := i) (by simpa using e)
    exact ⟨d, by simpa using e1, e2⟩
theorem vals_at' : ∀ {vs : List V} {us : List Value}, Vals vs us → ∀ {i : Nat} {u : Value}, us[i]? = some u → ∃ v, vs[i]? = some v ∧ RelV v u
  | _, _, .nil, i, u, e => by simp at e
  | _, _, .cons r t, 0, u, e => by simp at e; subst e; exact ⟨_, rfl, r⟩
  | _, _, .cons r t, i + 1, u, e => by
    obtain ⟨v, e1, e2⟩ := vals_at' t (i := i) (by simpa using e)
    exact ⟨v, by simpa using e1, e2⟩
def alls (ds : List D) : Bool := ds.all fun x => shp x && !isNonD x && ds.all fun y => W.alike x y
theorem alls_of {ds : List D} (h : alls ds = true) : AlikeAll ds ∧ PyData.depthAll ds ≤ 64 ∧ PyData.canLayAll0 ds = true ∧ (∀ d ∈ ds, d.depth ≤ 64) := by
  unfold alls at h
  have h1 : ∀ x ∈ ds, shp x = true ∧ isNonD x = false ∧ ∀ y ∈ ds, W.alike x y = true := fun x hx => by
    have h2 := List.all_eq_true.mp h x hx
    rw [Bool.and_eq_true, Bool.and_eq_true] at h2
    exact ⟨h2.1.1, by simpa using h2.1.2, fun y hy => List.all_eq_true.mp h2.2 y hy⟩
  have dp : ∀ d ∈ ds, d.depth ≤ 64 := fun d hd => by
    have h' : (d.canLay0 && decide (d.depth ≤ 64)) = true := (h1 d hd).1
    rw [Bool.and_eq_true] at h'
    exact of_decide_eq_true h'.2
  refine ⟨⟨fun x hx y hy => (h1 x hx).2.2 y hy, fun x hx => ne_non (h1 x hx).2.1⟩, ?_, ?_, dp⟩
  · clear h h1
    induction ds with
    | nil => exact Nat.zero_le _
    | cons d ds ih =>
      exact Nat.max_le.mpr ⟨dp d (by simp), ih fun x hx => dp x (by simp [hx])⟩
  · have h3 : ∀ d ∈ ds, d.canLay0 = true := fun d hd => shp_lay (h1 d hd).1
    clear h h1 dp
    induction ds with
    | nil => rfl
    | cons d ds ih =>
      show (d.canLay0 && PyData.canLayAll0 ds) = true
      rw [h3 d (by simp), ih fun x hx => h3 x (by simp [hx])]; rfl
/-- the items of a list or a tuple -/
def SqAny (K : PySem.W.Frag) (H : Hp) (a : Addr) (vs : List V) : Prop := SqL K H a vs ∨ SqT K H a vs
def rBest (f : D → List D → D) (K : PySem.W.Frag) : List V → Hp → VK → Prop := fun xs H Q => ∃ a vs d ds, xs = [.ref a] ∧ SqAny K H a vs ∧ DpAll K H vs (d :: ds) ∧ alls (d :: ds) = true ∧ ∀ (i : Nat) v, vs[i]? = some v → (d :: ds)[i]? = some (f d ds) → Q v H
theorem best_fin {pins : List (Addr × Obj)} {s : Shared} {σ : L2.St} {H : Hp} {Q : VK} {vs : List V} {its : List Value} {d : D} {ds : List D} {f : D → List D → D} (I : Inv X pins σ H s) (rv : Vals vs its) (hd : DpAll X.K H vs (d :: ds)) (ok : alls (d :: ds) = true) (hf : f d ds ∈ d :: ds)
    (q : ∀ (i : Nat) v, vs[i]? = some v → (d :: ds)[i]? = some (f d ds) → Q v H) {i : Nat} {v : Value} {h' : Heap} {tk : Nat} {bs : List Addr} (hv : its.toArray[i]? = some v) (r : Reads h' v (f d ds) bs) (hk : ∀ b o, s.heap.get? b = some o → h'.get? b = some o) :
    EP X pins σ Q v { s with heap := h', toks := tk } := by
  obtain ⟨w, e1, e2⟩ := vals_at' rv (i := i) (u := v) (by simpa using hv)
  obtain ⟨g, e3, e4⟩ := Dp.at' hd e1
  obtain ⟨cs, r'⟩ := Dp.reads I g w v e4 e2
  obtain ⟨ha, _, _, _⟩ := alls_of ok
  have hg : g ∈ d :: ds := List.mem_of_getElem? e3
  have e : g = f d ds := W.alike_unique g (f d ds) v cs bs (ha.1 g hg _ hf) (Reads.keeps hk r') r
  subst e
  exact ⟨w, H, I.kept hk, e2, q i w e1 e3⟩
theorem fold_mem (g : D → D → D) (hg : ∀ a y, g a y = a ∨ g a y = y) : ∀ (xs : List D) (x : D), xs.foldl g x ∈ x :: xs
  | [], x => by simp
  | y :: ys, x => by
    rw [List.foldl_cons]
    rcases List.mem_cons.mp (fold_mem g hg ys (g x y)) with h | h
    · rw [h]
      rcases hg x y with e | e <;> rw [e] <;> simp
    · simp [h]
theorem minD_mem (x : D) (xs : List D) : minD x xs ∈ x :: xs := fold_mem _ (fun a y => by
  by_cases h : W.dataLt y a = true
  · exact .inr (if_pos h)
  · exact .inl (if_neg h)) xs x
theorem maxD_mem (x : D) (xs : List D) : maxD x xs ∈ x :: xs := fold_mem _ (fun a y => by
  by_cases h : W.dataLt a y = true
  · exact .inr (if_pos h)
  · exact .inl (if_neg h)) xs x
theorem cr_minD (hc : X.calm = true) (hu : X.A.units + 66 < cLine) : CallR X (.builtin "min") (rBest minD X.K) := by
  intro pins s σ H xs us Q I r h
  obtain ⟨a, vs, d, ds, rfl, hs, hd, ok, q⟩ := h
  obtain ⟨ha, hdp, _, _⟩ := alls_of ok
  rw [Vals.ref1 r]
  rcases hs with hs | hs
  · obtain ⟨its, rv, hl, _⟩ := I.list hs
    obtain ⟨as, hr⟩ := Dp.readsAll I _ _ _ hd rv
    exact min_list_data (I.ok.hd hc) hl.isList (by simpa using hr) ha (by omega) fun i v h' tk bs hv hr' hk => best_fin I rv hd ok (minD_mem d ds) q hv hr' hk
  · obtain ⟨its, rv, hl, _⟩ := I.tuple hs
    obtain ⟨as, hr⟩ := Dp.readsAll I _ _ _ hd rv
    exact min_tuple_data (I.ok.hd hc) hl (by simpa using hr) ha (by omega) fun i v h' tk bs hv hr' hk => best_fin I rv hd ok (minD_mem d ds) q hv hr' hk
theorem cr_maxD (hc : X.calm = true) (hu : X.A.units + 66 < cLine) : CallR X (.builtin "max") (rBest maxD X.K) := by
  intro pins s σ H xs us Q I r h
  obtain ⟨a, vs, d, ds, rfl, hs, hd, ok, q⟩ := h
  obtain ⟨ha, hdp, _, _⟩ := alls_of ok
  rw [Vals.ref1 r]
  rcases hs with hs | hs
  · obtain ⟨its, rv, hl, _⟩ := I.list hs
    obtain ⟨as, hr⟩ := Dp.readsAll I _ _ _ hd rv
    exact max_list_data (I.ok.hd hc) hl.isList (by simpa using hr) ha (by omega) fun i v h' tk bs hv hr' hk => best_fin I rv hd ok (maxD_mem d ds) q hv hr' hk
  · obtain ⟨its, rv, hl, _⟩ := I.tuple hs
    obtain ⟨as, hr⟩ := Dp.readsAll I _ _ _ hd rv
    exact max_tuple_data (I.ok.hd hc) hl (by simpa using hr) ha (by omega) fun i v h' tk bs hv hr' hk => best_fin I rv hd ok (maxD_mem d ds) q hv hr' hk

/-! ### repr -/
def rpOk (d : D) : Bool := d.showable && !d.hasDict && d.canLay0 && decide (d.depth ≤ 64) && decide (d.shown.length ≤ sizeLine)
def rRepr (K : PySem.W.Frag) : List V → Hp → VK → Prop := fun xs H Q => ∃ x d, xs = [x] ∧ Dp K H x d ∧ rpOk d = true ∧ Q (.str d.shown) H
theorem cr_repr (hg : X.A.guards = some []) (hu : X.A.units + 66 < cLine) : CallR X (.builtin "repr") (rRepr X.K) := by
  intro pins s σ H xs us Q I r h
  obtain ⟨x, d, rfl, hd, ok, q⟩ := h
  unfold rpOk at ok
  simp only [Bool.and_eq_true, decide_eq_true_eq] at ok
  obtain ⟨⟨⟨⟨o1, o2⟩, o3⟩, o4⟩, o5⟩ := ok
  obtain ⟨u, rfl, rx⟩ := vals1 r
  have fin : ∀ tk t, EP X pins σ Q (.str d.shown t) { s with toks := tk } := fun tk t => ⟨.str d.shown, H, I.tok tk, ⟨t, rfl⟩, q⟩
  have obj : ∀ a, u = .ref a → wpAny (model X.prog X.w) X.A (call (.builtin "repr") [u]) (EP X pins σ Q) X.xe s := fun a e => by
    obtain ⟨as, rd⟩ := Dp.reads I d x u hd rx
    rw [e] at rd ⊢
    exact repr_of_reads' rd o1 (fun z => by rw [z] at o2; cases o2) hg (by omega) (fun _ _ q => q) (fun h' t tk hk => ⟨.str d.shown, H, I.kept hk, ⟨t, rfl⟩, q⟩) o5
  cases hd with
  | non =>
    cases rx
    exact P.repr_of_none (fin _ _)
  | bl b =>
    cases rx
    exact P.repr_of_bool (by
      have := fin (s.toks + 1) s.toks
      cases b <;> exact this)
  | int i =>
    obtain ⟨t, rfl⟩ := rx
    exact P.repr_of_int (of_decide_eq_true o1) (fin _ _)
  | str w =>
    obtain ⟨t, rfl⟩ := rx
    exact P.repr_of_str (fin _ _) o5
  | lst hs ha => cases rx; exact obj _ rfl
  | tup hs ha => cases rx; exact obj _ rfl
end
end Py
end
section
set_option maxHeartbeats 1000000
/-! PyH: sorted of data (a first empty tuple among them too), tuple * int. -/
namespace Py
open PySem L2 StX PyProof.Rows PySem.Calls
open PySem.W (AlikeAll dataLe dataKind SortsAt AllAlike Sortable EachIs kas_first_eq kas_mapM looks_reads sortingHeap copyHeap sorted_vals sortVals_data each_keys dataKind_some dataKind_inv rcLt_alike eqAt_alikeAll rcLt_alikeAll firstLt_toks Looks)

section
variable {prog : Program} {w : World} {M : Model} {A : Around} {E : Value → Shared → Prop} {s : Shared}
/-- the first items of tuples, or none -/
theorem firsts_any : ∀ (vs : List Value) (xss : List (List Value)) {Q : List (Option Value) → Shared → Prop}, EachIs (fun v xs => ∃ a o n, v = Value.ref a ∧ s.heap.get? a = some o ∧ o.cls = .type "tuple" ∧ o.data = .seq (List.toArray xs) n) vs xss → Q (xss.map fun xs => xs[0]?) s →
    wpAny M A (vs.mapM firstOfTuple') Q E s
  | [], _, _, t, h => by cases t; rw [List.mapM_nil]; exact wpAny_pure h
  | v :: vs, _, Q, t, h => by
    cases t with
    | @cons _ xs _ xss t1 t2 =>
      obtain ⟨a, o, n, rfl, ho, hc, hd⟩ := t1
      rw [List.mapM_cons]
      refine wpAny_bind ?_
      rw [kas_first_eq]
      refine wpAny_bind (Looks.here (show Looks M s.heap (typeOf (.ref a)) o.cls from (Looks.ld ho).andThen .now) ?_)
      rw [hc, if_neg (by first | decide | simp)]
      refine wpAny_bind (listItems_at ho hd (wpAny_pure ?_))
      exact wpAny_bind (firsts_any vs xss (Q := fun bs s' => wpAny M A (pure ((List.toArray xs)[0]? :: bs)) Q E s') t2 (wpAny_pure (by simpa using h)))
theorem kind_empty {v : Value} {vs : List Value} {xss : List (List Value)} {Q : SortKind → Shared → Prop} (t : EachIs (fun v xs => ∃ a o n, v = Value.ref a ∧ s.heap.get? a = some o ∧ o.cls = .type "tuple" ∧ o.data = .seq (List.toArray xs) n) (v :: vs) ([] :: xss)) (h : Q oneType' s) :
    wpAny M A (keyKind' (List.toArray (v :: vs))) Q E s := by
  have hT : ∀ u ∈ v :: vs, Looks M s.heap (typeOf u) (.type "tuple") := fun u hu => by
    obtain ⟨xs, _, a, o, n, rfl, ho, hc, hd⟩ := t.left u hu
    rw [← hc]
    exact (Looks.ld ho).andThen .now
  rw [keyKind'_eq, List.mapM_toArray, map_eq_pure_bind]
  refine wpAny_bind (wpAny_bind (firsts_any _ _ t (wpAny_pure ?_)))
  rw [if_neg (by simp), if_neg (by simp)]
  rw [oneTypeOnly'_eq, List.mapM_toArray, map_eq_pure_bind]
  refine wpAny_bind (wpAny_bind (wpAny_bind (kas_mapM (r := Value.type "tuple") _ (fun v hv Q' hq => (hT v hv).here hq) (wpAny_pure ?_))))
  have hall : ((List.map (fun _ => Value.type "tuple") (v :: vs)).toArray.all fun x => x == Value.type "tuple") = true := by
    simp only [List.all_toArray, List.all_map, List.all_eq_true]
    intro _ _
    exact beq_self_eq_true _
  have h0 : (List.map (fun _ => Value.type "tuple") (v :: vs)).toArray[0]? = some (Value.type "tuple") := by simp
  rw [h0]
  simp only [hall, if_true]
  exact wpAny_pure (wpAny_pure h)
theorem oneLt_tuple {xs ys : List D} {a b : Value} {as bs : List Addr} {Q : Bool → Shared → Prop} (ra : Reads s.heap a (.tuple xs) as) (rb : Reads s.heap b (.tuple ys) bs) (h : W.alikeAll xs ys = true)
    (hu : A.units + min (PyData.depth (.tuple xs)) (PyData.depth (.tuple ys)) < cLine) (hq : Q (W.dataLt (.tuple xs) (.tuple ys)) s) : wpAny (model prog w) A (oneLt' true a b) Q E s := by
  cases ra with
  | @tuple l o vs n _ as₁ h1 h2 h3 h4 =>
    cases rb with
    | @tuple l' o' vs' n' _ bs₁ k1 k2 k3 k4 =>
      have n1 : vs.size = xs.length := by simpa using SeqAt.ReadsAll.length _ _ _ h4
      have n2 : vs'.size = ys.length := by simpa using SeqAt.ReadsAll.length _ _ _ k4
      rw [W.dataLt_tuple, ← W.firstLt_toks xs ys h, ← n1, ← n2] at hq
      rw [oneLt'_eq]
      simp only [if_true]
      refine wpAny_bind (wpAny_cRoomFor (SeqAt.room_here hu) ?_)
      obtain ⟨cls, dd, data, sl⟩ := o
      obtain ⟨cls', dd', data', sl'⟩ := o'
      simp only at h2 h3 k2 k3
      subst h2 h3 k2 k3
      refine wpAny_bind (wpAny_callSpecialIfBound?_slot (T := "tuple") ⟨_, h1, rfl⟩ F.slot_tuple_lt (call_meets F.slot_tuple_lt ⟨_, h1, rfl⟩ F.entry_tuple_lt (F.args_tuple_lt_2 _ _) (SeqAt.tuple_ltAt l l' vs vs' n n' dd dd' sl sl' (SeqAt.pairEq xs ys) fun j => W.dataLt (xs.getD j .none) (ys.getD j .none))
        ⟨h1, k1, fun j j1 j2 => ?_, fun j j1 j2 hj => ?_, ?_⟩))
      · have := W.eqAt_alikeAll xs ys A.in1 s vs.toList vs'.toList _ _ h4 k4 h (SeqAt.room_in hu) j (by simpa using j1) (by simpa using j2)
        simpa using this
      · have := W.rcLt_alikeAll xs ys A.in1 s vs.toList vs'.toList _ _ h4 k4 h (SeqAt.room_in hu) j (by simpa using j1) (by simpa using j2) hj
        simpa using this
      · exact wpAny_truthy_bool hq
end

section
variable {prog : Program} {w : World} {A : Around} {s : Shared}
/-- tuples, the first an empty one -/
def FirstEmpty (ds : List D) : Prop := (∃ r, ds = .tuple [] :: r) ∧ ∀ d ∈ ds, ∃ xs, d = .tuple xs
theorem sorts_empty {vs : List Value} {ds : List D} (e : EachIs (fun v d => ∃ as, Reads s.heap v d as) vs ds) (hal : AllAlike ds) (hk : FirstEmpty ds) (hu : ∀ d, d ∈ ds → A.units + d.depth < cLine) : SortsAt prog w A s (dataKind s.heap ds) vs := by
  refine ⟨fun v hv => ?_, oneType', ?_, fun h2 E Q hq => ?_⟩
  · obtain ⟨d, hd, as, r⟩ := e.left v hv
    exact ⟨_, dataKind_some hal hd r⟩
  · intro E x y a b Q ha hb hq
    obtain ⟨d, as, hd, ra, rfl⟩ := dataKind_inv ha
    obtain ⟨d', as', hd', rb, rfl⟩ := dataKind_inv hb
    obtain ⟨xs, rfl⟩ := hk.2 d hd
    obtain ⟨ys, rfl⟩ := hk.2 d' hd'
    rw [keyLt'_oneType]
    exact oneLt_tuple ra rb (by have := hal _ hd _ hd'; simpa [W.alike] using this) (Nat.lt_of_le_of_lt (Nat.add_le_add_left (Nat.min_le_left _ _) _) (hu _ hd)) hq
  · obtain ⟨r, er⟩ := hk.1
    subst er
    cases e with
    | @cons v _ vs _ e1 e2 =>
      have go : ∀ {us : List Value} {es : List D}, EachIs (fun v d => ∃ as, Reads s.heap v d as) us es → (∀ d ∈ es, ∃ xs, d = .tuple xs) → ∃ xss, EachIs (fun v xs => ∃ a o n, v = Value.ref a ∧ s.heap.get? a = some o ∧ o.cls = .type "tuple" ∧ o.data = .seq (List.toArray xs) n) us xss := by
        intro us es h
        induction h with
        | nil => intro _; exact ⟨[], .nil⟩
        | cons h1 _ ih =>
          intro ht
          obtain ⟨xss, t⟩ := ih fun d hd => ht d (List.mem_cons_of_mem _ hd)
          obtain ⟨xs, rfl⟩ := ht _ (List.mem_cons_self ..)
          obtain ⟨as, r⟩ := h1
          cases r with
          | @tuple l o vs n _ _ k1 k2 k3 k4 =>
            exact ⟨vs.toList :: xss, .cons ⟨l, o, n, rfl, k1, k2, by simpa using k3⟩ t⟩
      obtain ⟨xss, t⟩ := go e2 fun d hd => hk.2 d (List.mem_cons_of_mem _ hd)
      obtain ⟨as, r1⟩ := e1
      cases r1 with
      | @tuple l o vs0 n _ _ k1 k2 k3 k4 =>
        have k5 : vs0.toList = [] := by
          have := SeqAt.ReadsAll.length _ _ _ k4
          exact List.eq_nil_of_length_eq_zero this
        refine kind_empty (.cons ⟨l, o, n, rfl, k1, k2, ?_⟩ t) hq
        have : vs0 = List.toArray [] := by
          apply Array.toList_inj.mp
          rw [k5]
        rw [this] at k3
        exact k3
def isTup1 : D → Bool
  | .tuple (_ :: _) => true
  | _ => false
def isTupD : D → Bool
  | .tuple _ => true
  | _ => false
def srtOk (ds : List D) : Bool := alls ds && (ds.all isTup1 || ds.all (fun d => !isTupD d) || (match ds with | .tuple [] :: _ => ds.all isTupD | _ => false))
theorem srtOk_of {ds : List D} (h : srtOk ds = true) : alls ds = true ∧ (Sortable ds ∨ FirstEmpty ds) := by
  unfold srtOk at h
  rw [Bool.and_eq_true, Bool.or_eq_true, Bool.or_eq_true] at h
  refine ⟨h.1, ?_⟩
  obtain ⟨ha, hb⟩ := h
  rcases hb with (hb | hb) | hb
  · refine .inl (.inl fun d hd => ?_)
    have := List.all_eq_true.mp hb d hd
    unfold isTup1 at this
    split at this
    · exact ⟨_, _, rfl⟩
    · cases this
  · refine .inl (.inr fun d hd => ⟨(alls_of ha).1.2 d hd, fun xs e => ?_⟩)
    have := List.all_eq_true.mp hb d hd
    rw [e] at this
    cases this
  · refine .inr ?_
    split at hb
    · refine ⟨⟨_, rfl⟩, fun d hd => ?_⟩
      have := List.all_eq_true.mp hb d hd
      unfold isTupD at this
      split at this
      · exact ⟨_, rfl⟩
      · cases this
    · cases hb
theorem sorts_any {vs : List Value} {ds : List D} (e : EachIs (fun v d => ∃ as, Reads s.heap v d as) vs ds) (h : srtOk ds = true) (hu : A.units + 65 < cLine) : SortsAt prog w A s (dataKind s.heap ds) vs := by
  obtain ⟨ha, hk⟩ := srtOk_of h
  obtain ⟨⟨h1, _⟩, _, _, h2⟩ := alls_of ha
  rcases hk with hk | hk
  · exact SortsAt.data e h1 hk fun d hd => by have := h2 d hd; omega
  · exact sorts_empty e h1 hk fun d hd => by have := h2 d hd; omega
end

section
variable {X : Cx}
def leD : D → D → Bool := dataLe false id
/-- the items with their data, sorted by these -/
def rSortD (K : PySem.W.Frag) : List V → Hp → VK → Prop := fun xs H Q => ∃ a vs ds, xs = [.ref a] ∧ SqL K H a vs ∧ DpAll K H vs ds ∧ srtOk ds = true ∧ ∀ p, H p = none → Q (.ref p) (upd H p (.lst (((vs.zip ds).mergeSort fun x y => leD x.2 y.2).map (·.1))))
theorem zip_each {R : Value → V × D → Prop} : ∀ {its : List Value} {vs : List V} {ds : List D}, Vals vs its → vs.length = ds.length → (∀ v u d, RelV v u → (v, d) ∈ vs.zip ds → R u (v, d)) → EachIs R its (vs.zip ds)
  | _, _, [], .nil, _, _ => .nil
  | _, _, d :: ds, .cons r t, hl, h => .cons (h _ _ _ r (by simp)) (zip_each t (by simpa using hl) fun v u e r' hm => h v u e r' (by simp [hm]))
theorem each_vals : ∀ {its : List Value} {bs : List (V × D)}, EachIs (fun u b => RelV b.1 u) its bs → Vals (bs.map (·.1)) its
  | _, _, .nil => .nil
  | _, _, .cons r t => .cons r (each_vals t)
theorem DpAll.len {K : PySem.W.Frag} {H : Hp} : ∀ {vs : List V} {ds : List D}, DpAll K H vs ds → vs.length = ds.length
  | _, _, .nil => rfl
  | _, _, .cons _ t => congrArg (· + 1) (DpAll.len t)
theorem cr_sortD (hu : X.A.units + 67 < cLine) : CallR X (.builtin "sorted") (rSortD X.K) := by
  intro pins s σ H xs us Q I r h
  obtain ⟨a, vs, ds, rfl, hs, hd, ok, q⟩ := h
  rw [Vals.ref1 r]
  obtain ⟨its, rv, hl, hz⟩ := I.list hs
  have hl2 := DpAll.len hd
  have rds : ∀ v u d, RelV v u → (v, d) ∈ vs.zip ds → ∃ as, Reads s.heap u d as := fun v u d rr hm => by
    obtain ⟨i, hi, e⟩ := List.getElem_of_mem hm
    have e1 : vs[i]? = some v := by
      have := congrArg Prod.fst e
      simp at this
      rw [← this]
      simp
    obtain ⟨d', e2, dp⟩ := Dp.at' hd e1
    have e3 : ds[i]? = some d := by
      have := congrArg Prod.snd e
      simp at this
      rw [← this]
      simp
    rw [e3] at e2
    cases e2
    exact Dp.reads I d v u dp rr
  have er : EachIs (fun v (b : V × D) => ∃ as, Reads s.heap v b.2 as) its (vs.zip ds) := zip_each rv hl2 fun v u d rr hm => rds v u d rr hm
  have ev : EachIs (fun u (b : V × D) => RelV b.1 u) its (vs.zip ds) := zip_each rv hl2 fun v u d rr hm => rr
  have em : (vs.zip ds).map (·.2) = ds := by
    rw [List.map_snd_zip]
    omega
  have er' : EachIs (fun v (b : V × D) => ∃ as, Reads (sortingHeap (copyHeap s.heap its) (s.heap.objs.size + 1) its) v b.2 as) its (vs.zip ds) := er.mono fun _ _ ⟨as, r⟩ => ⟨as, PyProof.Rows.Reads.keeps (fun _ _ => W.sorting_copy_old) r⟩
  have hal : AllAlike ((vs.zip ds).map fun b => b.2) := by
    rw [em]
    exact (alls_of (srtOk_of ok).1).1.1
  have S : SortsAt X.prog X.w X.A.in1.in1 { s with heap := sortingHeap (copyHeap s.heap its) (s.heap.objs.size + 1) its } (dataKind (sortingHeap (copyHeap s.heap its) (s.heap.objs.size + 1) its) ((vs.zip ds).map fun b => b.2)) its := by
    have e1 : srtOk ((vs.zip ds).map fun b => b.2) = true := by rw [em]; exact ok
    exact sorts_any (s := { s with heap := sortingHeap (copyHeap s.heap its) (s.heap.objs.size + 1) its }) (W.each_map (R := fun v d => ∃ as, Reads (sortingHeap (copyHeap s.heap its) (s.heap.objs.size + 1) its) v d as) (fun b : V × D => b.2) er') e1 (by show X.A.units + 1 + 1 + 65 < cLine; omega)
  have hout := sortVals_data (enc := fun b : V × D => b.2) (R := fun u (b : V × D) => RelV b.1 u) false ev er' hal
  refine sorted_vals hl.isList S (by rw [← rv.length]; exact hz) ?_
  generalize W.sortVals (dataKind (sortingHeap (copyHeap s.heap its) (s.heap.objs.size + 1) its) ((vs.zip ds).map fun b => b.2)) false its its = out at hout ⊢
  have hv := each_vals hout
  have hm : (vs.zip ds).mergeSort (dataLe false fun b : V × D => b.2) = (vs.zip ds).mergeSort fun x y => leD x.2 y.2 := rfl
  rw [hm] at hv
  have hlen : (((vs.zip ds).mergeSort fun x y => leD x.2 y.2).map (·.1)).length ≤ sizeLine := by
    rw [List.length_map, List.length_mergeSort, List.length_zip]
    exact Nat.le_trans (Nat.min_le_left _ _) hz
  generalize (((vs.zip ds).mergeSort fun x y => leD x.2 y.2).map (·.1)) = ws at hv hlen q
  obtain ⟨ep, he'⟩ := PyProof.Rows.sortedAll_at s.heap its (List.toArray out)
  exact ⟨.ref _, upd H (s.heap.objs.size + 1) (.lst ws), I.laid (t' := s.toks) (fun _ _ => PyProof.Rows.sortedAll_old) (Nat.le_succ _) ⟨hlen, out, ep, hv, he'⟩, rfl, q _ (I.hok.fresh (Nat.le_succ _))⟩
end
end Py
namespace Py
open PySem L2 StX PySem.Spec PyProof.Rows PySem.Calls
open PySem.AutoSeq1 (wpAny_loadPart')
theorem tuple_mul1 (l : Addr) (items : Array Value) (n : Nat) (dd : Option Addr) (sl : Array (Option Value)) (u : Tok) :
    Meets (Builtin.«tuple.__mul__» ⟨[.ref l, .int 1 u], []⟩) (fun _ R s => s.heap.get? l = some { cls := .type "tuple", dict := dd, data := .seq items n, slots := sl } ∧
      R (.ok (.ret (Value.ref l))) s) :=
  .of_wp fun prog w A R s h => by
    obtain ⟨hp, g, d, tk, os⟩ := s
    obtain ⟨hl, h⟩ := h
    have f1 := AutoSeq1.idx_int
    have c1 : (items.isEmpty || (1 : Int) == 1) = true := by simp
    wp_walk using wpAny_loadPart' hl
    repeat (first
      | (refine wpAny_ite_false (decide_eq_false (by decide)) ?_; wp_walk using wpAny_loadPart' hl)
      | (refine wpAny_ite_true (decide_eq_true c1) ?_; wp_walk using wpAny_loadPart' hl))
    exact ⟨_, rfl, h⟩
def rRep1 (K : PySem.W.Frag) : R2 := fun x y H Q => ∃ l xs, x = .ref l ∧ y = .int 1 ∧ SqT K H l xs ∧ Q x H
theorem op_rep1 {X : Cx} : OpR X (binaryOp .Mult) (rRep1 X.K) := by
  intro pins s σ H x y v u Q I rx ry h
  obtain ⟨l, xs, rfl, rfl, hT, q⟩ := h
  cases rx
  obtain ⟨t, rfl⟩ := ry
  obtain ⟨its, r, ⟨⟨cls, dd, data, sl⟩, ho, hc, n, hd⟩, hs⟩ := I.tuple hT
  simp only at hc hd
  subst hc hd
  exact wpAny_binaryOp_repeat_ref (T := "tuple") (U := "int") (by decide) ⟨_, ho, rfl⟩ (fun s' => typeIs_int s' 1 t) noFill_tuple_mul F.fills_int_mul F.slot_int_rmul repeat_tuple F.slot_int_index.lookup
    (call_meets F.slot_int_rmul (typeIs_int s 1 t) F.entry_int_rmul (F.args_int_rmul_2 _ _) (int_rmul_tuple 1 t l its.toArray n dd sl)
      ⟨ho, rfl, ⟨_, ho, rfl⟩, call_meets F.slot_tuple_mul ⟨_, ho, rfl⟩ F.entry_tuple_mul (F.args_tuple_mul_2 _ _) (tuple_mul1 l its.toArray n dd sl t) ⟨ho, ⟨.ref l, H, I, rfl, q⟩⟩⟩)
def rMulX (K : PySem.W.Frag) : R2 := fun x y H Q => rMulA K x y H Q ∨ (rRepT K x y H Q ∨ rRep1 K x y H Q)
theorem op_mulX {X : Cx} : OpR X (binaryOp .Mult) (rMulX X.K) := op_mulA.or (op_repT.or op_rep1)
def gMulX : D → D → M D := fun x y => match x, y with
  | .tuple a, .int n => if decide (1 ≤ n ∧ n ≤ 1000 ∧ a ≠ [] ∧ a.length ≤ 100) = true then ret (.tuple (repD n.toNat a)) else stuck
  | x, y => gMul x y
theorem repD_one (a : List D) : repD 1 a = a := by simp [repD]
theorem oe_mulX {s : Sx} {K : PySem.W.Frag} : OpE s (rMulX K) gMulX := by
  intro c ps H x y u v Q P hc G hx hy q k
  unfold gMulX at q
  split at q
  · split at q
    · rename_i a n hl
      have hb := of_decide_eq_true hl
      obtain ⟨p1, vs, rfl, h1, dn1, n1⟩ := hx.tup
      have hv : vs.length ≤ 100 := by rw [dn1.length]; exact hb.2.2.2
      have hne : vs ≠ [] := fun e => hb.2.2.1 (dn1.nil_iff.mp e)
      by_cases e1 : n = 1
      · subst e1
        refine .inr (.inr ⟨p1, vs, rfl, hy.int, SqT.of h1, ?_⟩)
        have q' : P (.tuple (repD 1 a)) := q
        rw [repD_one] at q'
        exact k _ _ H q' (Stp.refl c H) (.tup h1 n1 dn1)
      · refine .inr (.inl ⟨p1, n, vs, rfl, hy.int, SqT.of h1, hne, by omega, hb.2.1, by omega, fun p hp => ?_⟩)
        have h3 : vs.length * n.toNat ≤ 100 * 1000 := Nat.mul_le_mul hv (by omega)
        have e := Stp.tup G.ok (xs := (List.replicate n.toNat vs).flatten) hp (by rw [List.length_flatten, List.map_replicate, List.sum_replicate_nat, Nat.mul_comm]; exact Nat.le_trans h3 (by decide))
        exact k _ _ _ q e (.tup upd_same (G.new hp) ((dn1.stp G.ok e).rep _))
    · cases q
  · exact .inl (oe_mul c ps H x y u v Q P hc G hx hy q k)
end Py
end
section
set_option maxHeartbeats 1000000
/-! PyM: builtin functions over data. -/
namespace Py
open PySem L2 StX
open PySem.W (minD maxD)
/-- r reckons G of the arguments: a datum -/
def CaE (s : Sx) (r : List V → Hp → VK → Prop) (g : List D → M D) : Prop := ∀ c ps H vs ds Q P, c.s = s → Gd c ps H → Views c ps H vs ds → g ds P → (∀ d w H', P d → Stp c H H' → Den H' (c.U ps) w d → Q w H') → r vs H Q
def CaL (s : Sx) (r : List V → Hp → VK → Prop) (g : List D → M (List D)) : Prop := ∀ c ps H vs ds Q P, c.s = s → Gd c ps H → Views c ps H vs ds → g ds P →
  (∀ es p ws H', P es → Stp c H H' → H p = none → H' p = some (.lst ws) → DenL H' (fun a => c.U ps a ∨ a = p) ws es → Q (.ref p) H') → r vs H Q
section
variable {s : Sx} {Γ : List Md} {K : PySem.W.Frag}
def cal (g : List D → M D) (f : Env → M (List D)) : Env → M D := fun ρ => bnd (f ρ) g
def calL (g : List D → M (List D)) (f : Env → M (List D)) : Env → M (List D) := fun ρ => bnd (f ρ) g
theorem sem_cb {r : List V → Hp → VK → Prop} {g : List D → M D} {t : TA} {f : Env → M (List D)} (o : CaE s r g) (h : SemAV s Γ t f) : SemE s Γ (tCB r t) (cal g f) := by
  intro c ρ ps σ H Q P hc r0 q k
  refine h c ρ ps σ H _ _ hc r0 q fun ds vs H1 q1 e1 d1 => ?_
  exact o c ps H1 vs ds Q P hc (r0.stp e1).gd d1 q1 fun d w H2 p e2 dn => k d w H2 p (e1.trans e2) dn
theorem sem_cbL {r : List V → Hp → VK → Prop} {g : List D → M (List D)} {t : TA} {f : Env → M (List D)} (o : CaL s r g) (h : SemAV s Γ t f) : SemL s Γ (tCB r t) (calL g f) := by
  intro c ρ ps σ H Q P hc r0 q k
  refine h c ρ ps σ H _ _ hc r0 q fun ds vs H1 q1 e1 d1 => ?_
  exact o c ps H1 vs ds Q P hc (r0.stp e1).gd d1 q1 fun es p ws H2 pp e2 hn hp dn => k es p ws H2 pp (e1.trans e2) (e1.fresh hn) hp dn
theorem View.seqK {c : Fx} {ps : List Addr} {H : Hp} {v : V} {d : D} {ds : List D} (h : View c ps H v d) (e : d = .list ds ∨ d = .tuple ds) : ∃ a vs, v = .ref a ∧ SqAny K H a vs ∧ DenL H (c.U ps) vs ds ∧ vs.length = ds.length := by
  obtain ⟨a, vs, rfl, h1, dn⟩ := h.seq e
  refine ⟨a, vs, rfl, ?_, dn, dn.length⟩
  rcases h1 with ⟨_, h1⟩ | ⟨_, h1⟩
  · exact .inl (SqL.of h1)
  · exact .inr (SqT.of h1)
/-- len -/
def cLen : List D → M D
  | [.list ds] => ret (.int ds.length)
  | [.tuple ds] => ret (.int ds.length)
  | _ => stuck
def rLenA (K : PySem.W.Frag) : List V → Hp → VK → Prop := fun xs H Q => ∃ p ys, xs = [.ref p] ∧ (SqL K H p ys ∨ SqT K H p ys) ∧ Q (.int ys.length) H
theorem ca_len : CaE s (rLenA K) cLen := by
  intro c ps H vs ds Q P hc G hv q k
  unfold cLen at q
  split at q
  · obtain ⟨v, rfl, hw⟩ := hv.one
    obtain ⟨a, ws, rfl, hs, dn, hl⟩ := hw.seqK (K := K) (.inl rfl)
    exact ⟨a, ws, rfl, hs, by rw [hl]; exact k _ _ H q (Stp.refl c H) (.int _)⟩
  · obtain ⟨v, rfl, hw⟩ := hv.one
    obtain ⟨a, ws, rfl, hs, dn, hl⟩ := hw.seqK (K := K) (.inr rfl)
    exact ⟨a, ws, rfl, hs, by rw [hl]; exact k _ _ H q (Stp.refl c H) (.int _)⟩
  · cases q
/-- abs, int, min and max of two -/
def cAbs : List D → M D
  | [.int i] => ret (.int (if i < 0 then -i else i))
  | _ => stuck
def rAbs : List V → Hp → VK → Prop := fun xs H Q => ∃ i, xs = [.int i] ∧ Q (.int (if i < 0 then -i else i)) H
theorem ca_abs : CaE s rAbs cAbs := by
  intro c ps H vs ds Q P hc G hv q k
  unfold cAbs at q
  split at q
  · obtain ⟨v, rfl, hw⟩ := hv.one
    exact ⟨_, by rw [hw.int], k _ _ H q (Stp.refl c H) (.int _)⟩
  · cases q
def cInt : List D → M D
  | [.int i] => ret (.int i)
  | [.bool b] => ret (.int (if b then 1 else 0))
  | _ => stuck
def rInt1 : List V → Hp → VK → Prop := fun xs H Q => (∃ i, xs = [.int i] ∧ Q (.int i) H) ∨ ∃ k, xs = [.bl k] ∧ Q (.int (if k then 1 else 0)) H
theorem ca_int : CaE s rInt1 cInt := by
  intro c ps H vs ds Q P hc G hv q k
  unfold cInt at q
  split at q
  · obtain ⟨v, rfl, hw⟩ := hv.one
    exact .inl ⟨_, by rw [hw.int], k _ _ H q (Stp.refl c H) (.int _)⟩
  · obtain ⟨v, rfl, hw⟩ := hv.one
    exact .inr ⟨_, by rw [hw.bl], k _ _ H q (Stp.refl c H) (.int _)⟩
  · cases q
def cMax2 : List D → M D
  | [.int i, .int j] => ret (.int (if j > i then j else i))
  | _ => stuck
def cMin2 : List D → M D
  | [.int i, .int j] => ret (.int (if j < i then j else i))
  | _ => stuck
abbrev rMx2 : List V → Hp → VK → Prop := fun xs H Q => ∃ i j, xs = [.int i, .int j] ∧ Q (.int (if j > i then j else i)) H
abbrev rMn2 : List V → Hp → VK → Prop := fun xs H Q => ∃ i j, xs = [.int i, .int j] ∧ Q (.int (if j < i then j else i)) H
theorem ca_max2 : CaE s rMx2 cMax2 := by
  intro c ps H vs ds Q P hc G hv q k
  unfold cMax2 at q
  split at q
  · obtain ⟨v, w, rfl, h1, h2⟩ := hv.two
    exact ⟨_, _, by rw [h1.int, h2.int], k _ _ H q (Stp.refl c H) (.int _)⟩
  · cases q
theorem ca_min2 : CaE s rMn2 cMin2 := by
  intro c ps H vs ds Q P hc G hv q k
  unfold cMin2 at q
  split at q
  · obtain ⟨v, w, rfl, h1, h2⟩ := hv.two
    exact ⟨_, _, by rw [h1.int, h2.int], k _ _ H q (Stp.refl c H) (.int _)⟩
  · cases q
def cGcd : List D → M D
  | [.int i, .int j] => ret (.int ((Nat.gcd i.natAbs j.natAbs : Nat) : Int))
  | _ => stuck
theorem ca_gcd : CaE s rGcd cGcd := by
  intro c ps H vs ds Q P hc G hv q k
  unfold cGcd at q
  split at q
  · obtain ⟨v, w, rfl, h1, h2⟩ := hv.two
    exact ⟨_, _, by rw [h1.int, h2.int], k _ _ H q (Stp.refl c H) (.int _)⟩
  · cases q
/-- lists of ints, of bools -/
def intsD : List D → Option (List Int)
  | [] => some []
  | .int i :: r => (intsD r).map (i :: ·)
  | _ => none
def boolsD : List D → Option (List Bool)
  | [] => some []
  | .bool i :: r => (boolsD r).map (i :: ·)
  | _ => none
theorem DenL.ints {H : Hp} {U : AS} : ∀ {ds : List D} {vs : List V} {ns : List Int}, DenL H U vs ds → intsD ds = some ns → vs = ns.map V.int
  | [], _, ns, h, e => by cases h; cases e; rfl
  | d :: ds, _, ns, h, e => by
    cases h with
    | cons h1 h2 =>
      unfold intsD at e
      split at e
      · rename_i he; cases he
      · rename_i i r he
        cases he
        obtain ⟨ms, e1, rfl⟩ := Option.map_eq_some_iff.mp e
        cases h1
        rw [h2.ints e1]; rfl
      · cases e
theorem DenL.bools {H : Hp} {U : AS} : ∀ {ds : List D} {vs : List V} {ns : List Bool}, DenL H U vs ds → boolsD ds = some ns → vs = ns.map V.bl
  | [], _, ns, h, e => by cases h; cases e; rfl
  | d :: ds, _, ns, h, e => by
    cases h with
    | cons h1 h2 =>
      unfold boolsD at e
      split at e
      · rename_i he; cases he
      · rename_i i r he
        cases he
        obtain ⟨ms, e1, rfl⟩ := Option.map_eq_some_iff.mp e
        cases h1
        rw [h2.bools e1]; rfl
      · cases e
def cSum : List D → M D
  | [.list ds] => match intsD ds with | some ns => ret (.int ns.sum) | none => stuck
  | _ => stuck
theorem ca_sum : CaE s (rSum K) cSum := by
  intro c ps H vs ds Q P hc G hv q k
  unfold cSum at q
  split at q
  · cases e : intsD _ with
    | none => rw [e] at q; cases q
    | some ns =>
      rw [e] at q
      obtain ⟨v, rfl, hw⟩ := hv.one
      obtain ⟨a, ws, rfl, h1, dn⟩ := hw.lst
      exact ⟨a, ns, rfl, by rw [← dn.ints e]; exact SqL.of h1, k _ _ H q (Stp.refl c H) (.int _)⟩
  · cases q
def cAll : List D → M D
  | [.list ds] => match boolsD ds with | some ns => ret (.bool (ns.all id)) | none => stuck
  | _ => stuck
def cAny : List D → M D
  | [.list ds] => match boolsD ds with | some ns => ret (.bool (ns.any id)) | none => stuck
  | _ => stuck
theorem ca_all : CaE s (rAll K) cAll := by
  intro c ps H vs ds Q P hc G hv q k
  unfold cAll at q
  split at q
  · cases e : boolsD _ with
    | none => rw [e] at q; cases q
    | some ns =>
      rw [e] at q
      obtain ⟨v, rfl, hw⟩ := hv.one
      obtain ⟨a, ws, rfl, h1, dn⟩ := hw.lst
      exact ⟨a, ns, rfl, by rw [← dn.bools e]; exact SqL.of h1, k _ _ H q (Stp.refl c H) (.bl _)⟩
  · cases q
theorem ca_any : CaE s (rAny K) cAny := by
  intro c ps H vs ds Q P hc G hv q k
  unfold cAny at q
  split at q
  · cases e : boolsD _ with
    | none => rw [e] at q; cases q
    | some ns =>
      rw [e] at q
      obtain ⟨v, rfl, hw⟩ := hv.one
      obtain ⟨a, ws, rfl, h1, dn⟩ := hw.lst
      exact ⟨a, ns, rfl, by rw [← dn.bools e]; exact SqL.of h1, k _ _ H q (Stp.refl c H) (.bl _)⟩
  · cases q
/-- min, max of a sequence of alike data -/
def cBest (f : D → List D → D) : List D → M D
  | [.list (d :: ds)] => if alls (d :: ds) = true then ret (f d ds) else stuck
  | [.tuple (d :: ds)] => if alls (d :: ds) = true then ret (f d ds) else stuck
  | _ => stuck
theorem ca_best {f : D → List D → D} : CaE s (rBest f K) (cBest f) := by
  intro c ps H vs ds Q P hc G hv q k
  have fin : ∀ (x : D) d es, (x = .list (d :: es) ∨ x = .tuple (d :: es)) → ds = [x] → alls (d :: es) = true → ret (f d es) P → rBest f K vs H Q := fun x d es hx e ok q' => by
    subst e
    obtain ⟨v, rfl, hw⟩ := hv.one
    obtain ⟨a, ws, rfl, hs, dn, _⟩ := hw.seqK (K := K) hx
    refine ⟨a, ws, d, es, rfl, hs, dn.dp (alls_of ok).2.2.1, ok, fun i w e1 e2 => ?_⟩
    obtain ⟨w', e3, dw⟩ := dn.get e2
    rw [e1] at e3
    cases e3
    exact k _ w H q' (Stp.refl c H) dw
  unfold cBest at q
  split at q
  · split at q
    · exact fin _ _ _ (.inl rfl) rfl (by assumption) q
    · cases q
  · split at q
    · exact fin _ _ _ (.inr rfl) rfl (by assumption) q
    · cases q
  · cases q
/-- tuple(x) -/
def cTup : List D → M D
  | [.list ds] => ret (.tuple ds)
  | [.tuple ds] => ret (.tuple ds)
  | _ => stuck
def rTupOf (K : PySem.W.Frag) : List V → Hp → VK → Prop := fun xs H Q => ∃ p ys, xs = [.ref p] ∧ ((SqL K H p ys ∧ ∀ l, H l = none → Q (.ref l) (upd H l (.tup ys))) ∨ (SqT K H p ys ∧ Q (.ref p) H))
theorem ca_tup : CaE s (rTupOf K) cTup := by
  intro c ps H vs ds Q P hc G hv q k
  unfold cTup at q
  split at q
  · obtain ⟨v, rfl, hw⟩ := hv.one
    obtain ⟨a, ws, rfl, h1, dn⟩ := hw.lst
    refine ⟨a, ws, rfl, .inl ⟨SqL.of h1, fun l hl => ?_⟩⟩
    have e := Stp.tup G.ok (xs := ws) hl (G.sz a ws (.inl h1))
    exact k _ _ _ q e (.tup upd_same (G.new hl) (dn.stp G.ok e))
  · obtain ⟨v, rfl, hw⟩ := hv.one
    obtain ⟨a, ws, rfl, h1, dn, hn⟩ := hw.tup
    exact ⟨a, ws, rfl, .inr ⟨SqT.of h1, k _ _ H q (Stp.refl c H) (.tup h1 hn dn)⟩⟩
  · cases q
/-- list(x) -/
def cLst : List D → M (List D)
  | [.list ds] => ret ds
  | [.tuple ds] => ret ds
  | _ => stuck
def rLstOf (K : PySem.W.Frag) : List V → Hp → VK → Prop := fun xs H Q => ∃ p ys, xs = [.ref p] ∧ (SqL K H p ys ∨ SqT K H p ys) ∧ ∀ l, H l = none → Q (.ref l) (upd H l (.lst ys))
theorem DenL.plus' {H : Hp} {U : AS} {p : Addr} {vs : List V} {ds : List D} {o : HO} (hp : H p = none) (h : DenL H U vs ds) : DenL (upd H p o) (fun a => U a ∨ a = p) vs ds := h.plus hp
theorem ca_lst : CaL s (rLstOf K) cLst := by
  intro c ps H vs ds Q P hc G hv q k
  have fin : ∀ (x : D) es, (x = .list es ∨ x = .tuple es) → ds = [x] → ret es P → rLstOf K vs H Q := fun x es hx e q' => by
    subst e
    obtain ⟨v, rfl, hw⟩ := hv.one
    obtain ⟨a, ws, rfl, h1, dn⟩ := hw.seq hx
    have hz : ws.length ≤ sizeLine := by
      rcases h1 with ⟨_, h1⟩ | ⟨_, h1⟩
      · exact G.sz a ws (.inl h1)
      · exact G.sz a ws (.inr h1)
    refine ⟨a, ws, rfl, ?_, fun l hl => ?_⟩
    · rcases h1 with ⟨_, h1⟩ | ⟨_, h1⟩
      · exact .inl (SqL.of h1)
      · exact .inr (SqT.of h1)
    · exact k es l ws _ q' (Stp.lst G.ok (xs := ws) hl hz) hl upd_same (dn.plus hl)
  unfold cLst at q
  split at q
  · exact fin _ _ (.inl rfl) rfl q
  · exact fin _ _ (.inr rfl) rfl q
  · cases q
/-- sorted(list) -/
def cSrt : List D → M (List D)
  | [.list ds] => if srtOk ds = true then ret (ds.mergeSort leD) else stuck
  | _ => stuck
theorem DenL.mem {H : Hp} {U : AS} : ∀ {vs : List V} {ds : List D}, DenL H U vs ds → ∀ b ∈ vs.zip ds, Den H U b.1 b.2
  | _, _, .nil, b, h => by simp at h
  | _, _, .cons h t, b, hb => by
    rcases List.mem_cons.mp hb with rfl | hb
    · exact h
    · exact t.mem b hb
theorem denL_of {H : Hp} {U : AS} : ∀ {bs : List (V × D)}, (∀ b ∈ bs, Den H U b.1 b.2) → DenL H U (bs.map (·.1)) (bs.map (·.2))
  | [], _ => .nil
  | b :: bs, h => .cons (h b (by simp)) (denL_of fun x hx => h x (by simp [hx]))
theorem DenL.srt {H : Hp} {U : AS} {vs : List V} {ds : List D} (h : DenL H U vs ds) : DenL H U (((vs.zip ds).mergeSort fun x y => leD x.2 y.2).map (·.1)) (ds.mergeSort leD) := by
  have e : ((vs.zip ds).mergeSort fun x y => leD x.2 y.2).map (·.2) = ds.mergeSort leD := by
    have := List.map_mergeSort (r := fun x y : V × D => leD x.2 y.2) (s := leD) (f := fun x : V × D => x.2) (l := vs.zip ds) (fun a _ b _ => rfl)
    rw [this, List.map_snd_zip]
    have := h.length
    omega
  rw [← e]
  exact denL_of fun b hb => h.mem b ((List.mergeSort_perm _ _).mem_iff.mp hb)
theorem ca_srt : CaL s (rSortD K) cSrt := by
  intro c ps H vs ds Q P hc G hv q k
  unfold cSrt at q
  split at q
  · split at q
    · rename_i es ok
      obtain ⟨v, rfl, hw⟩ := hv.one
      obtain ⟨a, ws, rfl, h1, dn⟩ := hw.lst
      have d2 := dn.srt
      refine ⟨a, ws, es, rfl, SqL.of h1, dn.dp (alls_of (srtOk_of ok).1).2.2.1, ok, fun p hp => ?_⟩
      have hz : (((ws.zip es).mergeSort fun x y => leD x.2 y.2).map (·.1)).length ≤ sizeLine := by
        rw [List.length_map, List.length_mergeSort, List.length_zip]
        exact Nat.le_trans (Nat.min_le_left _ _) (G.sz a ws (.inl h1))
      exact k _ p _ _ q (Stp.lst G.ok hp hz) hp upd_same (d2.plus hp)
    · cases q
  · cases q
/-- repr -/
def cRepr : List D → M D
  | [d] => if rpOk d = true then ret (.str d.shown) else stuck
  | _ => stuck
theorem ca_repr : CaE s (rRepr K) cRepr := by
  intro c ps H vs ds Q P hc G hv q k
  unfold cRepr at q
  split at q
  · split at q
    · rename_i d ok
      obtain ⟨v, rfl, hw⟩ := hv.one
      have lay : d.canLay0 = true := by
        have ok' := ok
        unfold rpOk at ok'
        simp only [Bool.and_eq_true] at ok'
        exact ok'.1.1.2
      exact ⟨v, d, rfl, hw.dp lay, ok, k _ _ H q (Stp.refl c H) (.str _)⟩
    · cases q
  · cases q
/-- in, not in -/
def gIn (neg : Bool) : D → D → M D
  | d, .list ds => if (shp d && PyData.canLayAll0 ds) = true then ret (.bool (xor neg (ds.any fun z => PyData.eqv z d))) else stuck
  | d, .tuple ds => if (shp d && PyData.canLayAll0 ds) = true then ret (.bool (xor neg (ds.any fun z => PyData.eqv z d))) else stuck
  | _, _ => stuck
theorem oe_in {neg : Bool} : OpE s (rInX neg K) (gIn neg) := by
  intro c ps H x y u v Q P hc G hx hy q k
  unfold gIn at q
  split at q
  · split at q
    · rename_i ds z
      rw [Bool.and_eq_true] at z
      exact ⟨_, ds, hx.dp (shp_lay z.1), .inl (hy.dp (by simpa [PyData.canLay0] using z.2)), z.1, z.2, k _ _ H q (Stp.refl c H) (.bl _)⟩
    · cases q
  · split at q
    · rename_i ds z
      rw [Bool.and_eq_true] at z
      exact ⟨_, ds, hx.dp (shp_lay z.1), .inr (hy.dp (by simpa [PyData.canLay0] using z.2)), z.1, z.2, k _ _ H q (Stp.refl c H) (.bl _)⟩
    · cases q
  · cases q
/-- < of tuples -/
def gLtD : D → D → M D := fun x y => if (cmpOk x y && shp y) = true then ret (.bool (W.dataLt x y)) else stuck
theorem oe_ltD : OpE s (rLtD K) gLtD := by
  intro c ps H x y u v Q P hc G hx hy q k
  unfold gLtD at q
  split at q
  · rename_i z
    rw [Bool.and_eq_true] at z
    have z1 := z.1
    unfold cmpOk at z1
    simp only [Bool.and_eq_true] at z1
    exact ⟨x, y, hx.dp (shp_lay z1.1.2), hy.dp (shp_lay z.2), z.1, k _ _ H q (Stp.refl c H) (.bl _)⟩
  · cases q
/-- isinstance -/
def tyD : D → String
  | .none => "NoneType"
  | .bool _ => "bool"
  | .int _ => "int"
  | .str _ => "str"
  | .list _ => "list"
  | .tuple _ => "tuple"
  | .dict _ => "dict"
def tIsi (K : PySem.W.Frag) (t : TE) (n : String) : TE := tCB (rIsi K) (tCons t (tCons (tC (.ty n)) tNil))
def gIsi (n : String) : D → M D := fun d => match kitB (tyD d) n with | some b => ret (.bool b) | none => stuck
theorem View.tyx {c : Fx} {ps : List Addr} {H : Hp} {v : V} {d : D} (h : View c ps H v d) : TyX K H v (.type (tyD d)) := by
  cases h with
  | den h =>
    cases h with
    | non => exact .base .non
    | bl b => exact .base (.bl b)
    | int i => exact .base (.int i)
    | str x => exact .base (.str x)
    | lst h1 => exact .base (.lst h1)
    | tup h1 => exact .base (.tup h1)
    | dct h1 => exact .base (.dK h1)
    | dcT h1 => exact .base (.dT h1)
  | own h1 => exact .base (.lst h1)
theorem sem_isi {t : TE} {e : Env → M D} {n : String} (h : SemV s Γ t e) : SemE s Γ (tIsi K t n) (una (gIsi n) e) := by
  intro c ρ ps σ H Q P hc r0 q k
  refine h c ρ ps σ H _ _ hc r0 q fun d v H1 q1 e1 d1 => ?_
  unfold gIsi at q1
  cases hb : kitB (tyD d) n with
  | none => rw [hb] at q1; cases q1
  | some b =>
    rw [hb] at q1
    exact ⟨v, .ty n, _, _, b, rfl, .ty n, d1.tyx, kit_ty hb, k _ _ H1 q1 e1 (.bl _)⟩
end
end Py
end
section
set_option maxHeartbeats 1000000
/-! PyN: small things for printed walks. -/
namespace Py
open PySem L2 StX
theorem bt_len : bootBuiltins "len" = some (.builtin "len") := PySem.boot_len
theorem bt_abs : bootBuiltins "abs" = some (.builtin "abs") := by decide +kernel
theorem bt_max : bootBuiltins "max" = some (.builtin "max") := by decide +kernel
theorem bt_min : bootBuiltins "min" = some (.builtin "min") := by decide +kernel
theorem bt_sum : bootBuiltins "sum" = some (.builtin "sum") := by decide +kernel
theorem bt_all : bootBuiltins "all" = some (.builtin "all") := by decide +kernel
theorem bt_any : bootBuiltins "any" = some (.builtin "any") := by decide +kernel
theorem bt_repr : bootBuiltins "repr" = some (.builtin "repr") := by decide +kernel
theorem bt_sorted : bootBuiltins "sorted" = some (.builtin "sorted") := by decide +kernel
theorem bt_isinstance : bootBuiltins "isinstance" = some (.builtin "isinstance") := by decide +kernel
theorem bt_int : bootBuiltins "int" = some (.type "int") := by decide +kernel
theorem bt_bool : bootBuiltins "bool" = some (.type "bool") := by decide +kernel
theorem bt_str : bootBuiltins "str" = some (.type "str") := by decide +kernel
theorem bt_list : bootBuiltins "list" = some (.type "list") := by decide +kernel
theorem bt_tuple : bootBuiltins "tuple" = some (.type "tuple") := by decide +kernel
theorem bt_dict : bootBuiltins "dict" = some (.type "dict") := by decide +kernel
theorem _root_.L2.Room.u65 {k : Nat} {A : Around} (r : Room k A) : A.units + 65 < cLine := by have := r.un; omega
theorem _root_.L2.Room.u66 {k : Nat} {A : Around} (r : Room k A) : A.units + 66 < cLine := by have := r.un; omega
theorem _root_.L2.Room.u67 {k : Nat} {A : Around} (r : Room k A) : A.units + 67 < cLine := by have := r.un; omega
def froAt (Γ : List Md) (i : Nat) : Bool := match Γ[i]? with | some .fro => true | _ => false
theorem allFro {Γ : List Md} {vs : List Nat} (h : vs.all (froAt Γ) = true) : ∀ i ∈ vs, Γ[i]? = some .fro := fun i hi => by
  have := List.all_eq_true.mp h i hi
  unfold froAt at this
  split at this
  · assumption
  · cases this
section
variable {s : Sx} {Γ : List Md}
theorem DenL.rg {H : Hp} {U : AS} (a b : Int) : DenL H U (rgV a b) (rangeD a (b - a).toNat) := by
  unfold rgV rangeD
  generalize (b - a).toNat = n
  induction n with
  | zero => exact .nil
  | succ n ih =>
    rw [List.range_succ, List.map_append, List.map_append]
    exact ih.append (.cons (.int _) .nil)
def eTupRg (e : Env → M D) : Env → M D := fun ρ => bnd (e ρ) fun d => match d with
  | .int n => if rngOk n = true then ret (.tuple (rangeD 0 (n - 0).toNat)) else stuck
  | _ => stuck
theorem sem_tupRg {t : TE} {e : Env → M D} (h : SemV s Γ t e) : SemE s Γ (tTupRg (tRg1 t)) (eTupRg e) := by
  intro c ρ ps σ H Q P hc r0 q k
  refine h c ρ ps σ H _ _ hc r0 q fun d v H1 q1 e1 d1 => ?_
  dsimp only at q1
  split at q1
  · split at q1
    · rename_i n hr
      have hb := rngOk_b hr
      refine ⟨n, d1.int, (⟨by omega, by omega, by omega, by omega, by omega⟩ : RgOk 0 n), fun p hp => ?_⟩
      have r1 := r0.stp e1
      have e := Stp.tup r1.ok (xs := rgV 0 n) hp (by rw [rgV_length]; exact sz_1e5 (by omega))
      exact k _ _ _ q1 (e1.trans e) (.tup upd_same (r1.new hp) (DenL.rg 0 n))
    · cases q1
  · cases q1
end

/-! ### the walk's rules with K said -/
section
variable {X : Cx} {K : PySem.W.Frag}
theorem kIx (h : X.K = K := by rfl) : IxR X (rIx K) := by subst h; exact ix_seq
theorem kSl (h : X.K = K := by rfl) : SlR X (rSlLT K) := by subst h; exact sl_any
theorem kAdd (h : X.K = K := by rfl) : OpR X (binaryOp .Add) (rAddA K) := by subst h; exact op_addA
theorem kMul (h : X.K = K := by rfl) : OpR X (binaryOp .Mult) (rMulX K) := by subst h; exact op_mulX
theorem kEq {k : Nat} (r : Room k X.A) (h : X.K = K := by rfl) : OpR X (compareOp .Eq) (rEqD K) := by subst h; exact op_eqD r.units
theorem kNe {k : Nat} (r : Room k X.A) (h : X.K = K := by rfl) : OpR X (compareOp .NotEq) (rNeD K) := by subst h; exact op_neD r.units
theorem kIn {k : Nat} (r : Room k X.A) (h : X.K = K := by rfl) : OpR X (compareOp .In) (rInX false K) := by subst h; exact op_inX r.u65
theorem kNotIn {k : Nat} (r : Room k X.A) (h : X.K = K := by rfl) : OpR X (compareOp .NotIn) (rInX true K) := by subst h; exact op_notInX r.u65
theorem kLtD {k : Nat} (r : Room k X.A) (h : X.K = K := by rfl) : OpR X (compareOp .Lt) (rLtD K) := by subst h; exact op_ltD r.u65
theorem kLen (h : X.K = K := by rfl) : CallR X (.builtin "len") (rLenA K) := by subst h; exact call_len_seq
theorem kSum (hc : X.calm = true) (h : X.K = K := by rfl) : CallR X (.builtin "sum") (rSum K) := by subst h; exact cr_sum hc
theorem kAll (hc : X.calm = true) (h : X.K = K := by rfl) : CallR X (.builtin "all") (rAll K) := by subst h; exact cr_all hc
theorem kAny (hc : X.calm = true) (h : X.K = K := by rfl) : CallR X (.builtin "any") (rAny K) := by subst h; exact cr_any hc
theorem kTup (h : X.K = K := by rfl) : CallR X (.type "tuple") (rTupOf K) := by subst h; exact call_tuple_of
theorem kLst (h : X.K = K := by rfl) : CallR X (.type "list") (rLstOf K) := by subst h; exact call_list_of
theorem kMin {k : Nat} (hc : X.calm = true) (r : Room k X.A) (h : X.K = K := by rfl) : CallR X (.builtin "min") (rBest PySem.W.minD K) := by subst h; exact cr_minD hc r.u66
theorem kMax {k : Nat} (hc : X.calm = true) (r : Room k X.A) (h : X.K = K := by rfl) : CallR X (.builtin "max") (rBest PySem.W.maxD K) := by subst h; exact cr_maxD hc r.u66
theorem kSrt {k : Nat} (r : Room k X.A) (h : X.K = K := by rfl) : CallR X (.builtin "sorted") (rSortD K) := by subst h; exact cr_sortD r.u67
theorem kRepr {k : Nat} (hg : X.A.guards = some []) (r : Room k X.A) (h : X.K = K := by rfl) : CallR X (.builtin "repr") (rRepr K) := by subst h; exact cr_repr hg r.u66
theorem kIsi (h : X.K = K := by rfl) : CallR X (.builtin "isinstance") (rIsi K) := by subst h; exact call_isi
theorem piSeq {tg l : Expr} {tl : TE} (hl : PE X l tl) (h : X.K = K := by rfl) : PI X tg l (iSeq K tl) := by subst h; exact pi_seq hl
theorem paStar {e : Expr} {es : List Expr} {te : TE} {t : TA} {p : Pos} (he : PE X e te) (hr : PA X es t) (h : X.K = K := by rfl) (hs : starEach (.Starred e p :: es) X.env = (true, eval e X.env) :: starEach es X.env := by rfl) : PA X (.Starred e p :: es) (tStar K te t) := by
  subst h; exact pa_star he hr hs
theorem piZip {e e2 : Expr} {ta : TA} {p pos tpos : Pos} {elts : List Expr} {kk : Nat} (hg : Gl X "zip") (hm : X.mg "zip" = none) (ha : PA X [e, e2] ta) (h : X.K = K := by rfl)
    (hs : starEach [e, e2] X.env = (false, eval e X.env) :: starEach [e2] X.env := by rfl) (hs2 : (backTo pos (starEach [e2] X.env)).any (·.1) = false := by rfl) :
    PI X (.Tuple elts kk tpos) (.Call (.Name "zip" p) [e, e2] [] pos) (iZipB K ta) := by subst h; exact pi_zipB hg hm ha hs hs2
theorem piEnum {e : Expr} {ta : TA} {p pos tpos : Pos} {elts : List Expr} {kk : Nat} (hg : Gl X "enumerate") (hm : X.mg "enumerate" = none) (ha : PA X [e] ta) (h : X.K = K := by rfl) (hs : starEach [e] X.env = [(false, eval e X.env)] := by rfl) :
    PI X (.Tuple elts kk tpos) (.Call (.Name "enumerate" p) [e] [] pos) (iEnumB K ta) := by subst h; exact pi_enumB hg hm ha hs
theorem pgTup {es : List Expr} {k : Nat} {t : TGs} {n : Nat} {pos : Pos} (hc : X.calm = true) (hp : PGs X es t) (h : X.K = K := by rfl) (hn : (assignEach es X.env).length = n := by rfl) (hst : (assignEach es X.env).findIdx? (·.1) = none := by rfl) :
    PG X (.Tuple es k pos) (gTup K n t) := by subst h; exact pg_tup hc hp hn hst
theorem ptTru {a : Expr} {ta : TE} (ha : PE X a ta) (he : ∀ whole, isTrue a X.env whole = (do let v ← whole; standAt a.pos; holding [v] (truthy v)) := by intro _; rfl) (h : X.K = K := by rfl) :
    PT X a (fun σ H Q => ta σ H fun x H' => ∃ k, TruV K x H' k ∧ Q k H') := by subst h; exact pt_truth ha he
end
end Py
end
section
set_option maxHeartbeats 1000000
/-! PyP: the laws' own source of numbers: a dict with a list of cells. -/
namespace Py
open PySem L2 StX
/-- the dict at src, its cells at cl -/
def kCells : Key := .inr "cells"
def kLeft : Key := .inr "left"
def kMixed : Key := .inr "mixed"
def kTurn : Key := .inr "turn"
def srcKv (cl : Addr) (l m t : Int) : List (Key × V) := [(kCells, .ref cl), (kLeft, .int l), (kMixed, .int m), (kTurn, .int t)]
structure Src (src cl : Addr) (H : Hp) (ns : List Int) (l m t : Int) : Prop where
  d : H src = some (.dK (srcKv cl l m t))
  c : H cl = some (.lst (ns.map V.int))
theorem k_lc : kLeft ≠ kCells := by decide +kernel
theorem k_mc : kMixed ≠ kCells := by decide +kernel
theorem k_tc : kTurn ≠ kCells := by decide +kernel
theorem k_ml : kMixed ≠ kLeft := by decide +kernel
theorem k_tl : kTurn ≠ kLeft := by decide +kernel
theorem k_tm : kTurn ≠ kMixed := by decide +kernel
section
variable {cl : Addr} {l m t : Int}
theorem src_cells : valV (srcKv cl l m t) kCells = some (.ref cl) := by
  simp [valV, srcKv]
theorem src_left : valV (srcKv cl l m t) kLeft = some (.int l) := by
  simp [valV, srcKv, k_lc.symm]
theorem src_mixed : valV (srcKv cl l m t) kMixed = some (.int m) := by
  simp [valV, srcKv, k_mc.symm, k_ml.symm]
theorem src_turn : valV (srcKv cl l m t) kTurn = some (.int t) := by
  simp [valV, srcKv, k_tc.symm, k_tl.symm, k_tm.symm]
theorem put_left (x : Int) : putK (srcKv cl l m t) kLeft (.int x) = srcKv cl x m t := by
  simp [putK, srcKv, k_lc.symm, k_ml, k_tl]
theorem put_turn (x : Int) : putK (srcKv cl l m t) kTurn (.int x) = srcKv cl l m x := by
  simp [putK, srcKv, k_tc.symm, k_tl.symm, k_tm.symm]
theorem put_mixed (x : Int) : putK (srcKv cl l m t) kMixed (.int x) = srcKv cl l x t := by
  simp [putK, srcKv, k_mc.symm, k_ml.symm, k_tm]
end
def sxOf (src cl : Addr) : Sx := ⟨fun a => a = src ∨ a = cl, fun H => src ≠ cl ∧ ∃ ns l m t, Src src cl H ns l m t, src⟩
theorem sxOk (src cl : Addr) : SxOk (sxOf src cl) := ⟨fun H H' ⟨h0, ns, l, m, t, h⟩ e => ⟨h0, ns, l, m, t, e _ _ (.inl rfl) h.d, e _ _ (.inr rfl) h.c⟩⟩
/-- what pick gives: any number below -/
def anyBelow (n : Int) : M D := fun P => ∀ k : Int, 0 ≤ k → k < n → P (.int k)
def F_pick : List D → M D := fun ds => match ds with
  | [.int n] => if n < 2 then ret (.int 0) else if n < 1073741824 then anyBelow n else stuck
  | _ => stuck
theorem Src.stp {src cl : Addr} {U : AS} {H H' : Hp} {ns ns' : List Int} {l m t l' m' t' : Int} (ne : src ≠ cl) (h : Src src cl H ns l m t) (h' : Src src cl H' ns' l' m' t') (o : ∀ a, a ≠ src → a ≠ cl → H' a = H a) (hl : ns'.length ≤ ns.length) : Stp ⟨sxOf src cl, U, H⟩ H H' where
  keep := fun a x q n => by rw [o a (fun e => n (.inl e)) (fun e => n (.inr e))]; exact q
  there := fun a x q => by
    by_cases e1 : a = src
    · subst e1; exact ⟨_, h'.d⟩
    · by_cases e2 : a = cl
      · subst e2; exact ⟨_, h'.c⟩
      · exact ⟨x, by rw [o a e1 e2]; exact q⟩
  inv := fun _ => ⟨ne, _, _, _, _, h'⟩
  al := fun lo a u => by
    by_cases e1 : a = src
    · subst e1; exact ⟨_, h'.d, fun xs z => by cases z⟩
    · by_cases e2 : a = cl
      · subst e2; exact ⟨_, h'.c, fun xs z => by cases z⟩
      · rw [o a e1 e2]; exact lo a u
  sz := fun z a xs q => by
    by_cases e1 : a = src
    · subst e1; rw [h'.d] at q; rcases q with q | q <;> cases q
    · by_cases e2 : a = cl
      · subst e2
        rw [h'.c] at q
        rcases q with q | q <;> cases q
        have := z a _ (.inl h.c)
        simp only [List.length_map] at this ⊢
        omega
      · rw [o a e1 e2] at q; exact z a xs q
theorem Src.put {src cl : Addr} {H : Hp} {ns : List Int} {l m t l' m' t' : Int} (ne : src ≠ cl) (h : Src src cl H ns l m t) : Src src cl (upd H src (.dK (srcKv cl l' m' t'))) ns l' m' t' :=
  ⟨upd_same, by rw [upd_ne ne.symm]; exact h.c⟩
def cStr (x : Str) : TE := tC (.str x)
def tPick (K : PySem.W.Frag) : TS :=
  tSeq (tIfS (tTest (tOp (rI0 fun i j => .bl (decide (i < j))) (tVar 1) (tC (.int 2)))) (tRet (tC (.int 0))) tNext)
  (tSeq (tAsg (tDGet (tVar 0) (tC (.str "cells"))) (gName 2))
  (tSeq (tWhile (tAnd (tTest (tOp (rI0 fun i j => .bl (decide (i < j))) (tDGet (tVar 0) (tC (.str "left"))) (tC (.int 2)))) (tTest (tOp (rI0 fun i j => .bl (decide (j < i))) (tCB (rLenA K) (tCons (tVar 2) tNil)) (tC (.int 0)))))
    (sDPut (tVar 0) (tC (.str "left")) (tBM0 K "list" rPop (tVar 2))))
  (tSeq (tAsg (tDGet (tVar 0) (tC (.str "left"))) (gName 3))
  (tSeq (tIfS (tTest (tOp (rI0 fun i j => .bl (decide (j < i))) (tVar 3) (tC (.int 1)))) (tSeq (sDPut (tVar 0) (tC (.str "left")) (tOp (rI CDiv fun i j => .int (i / j)) (tVar 3) (tVar 1))) (tRet (tOp (rI (fun _ j => 0 < j) fun i j => .int (i % j)) (tCB rInt1 (tCons (tVar 3) tNil)) (tVar 1)))) tNext)
  (tSeq (sDPut (tVar 0) (tC (.str "turn")) (tOp (rI0 fun i j => .int (i + j)) (tDGet (tVar 0) (tC (.str "turn"))) (tC (.int 1))))
  (tSeq (tAsg (tDGet (tVar 0) (tC (.str "turn"))) (gName 4))
  (tSeq (tAsg (tOp (rI (fun _ j => 0 < j) fun i j => .int (i % j)) (tCB rInt1 (tCons (tOp (rI0 fun i j => .int (i + j)) (tDGet (tVar 0) (tC (.str "mixed"))) (tOp (rI CMul fun i j => .int (i * j)) (tVar 4) (tC (.int 104729)))) tNil)) (tC (.int 998244353))) (gName 5))
  (tSeq (tAsg (tOp (rI (fun _ j => 0 < j) fun i j => .int (i % j)) (tCB rInt1 (tCons (tOp (rI0 fun i j => .int (i + j)) (tOp (rI CMul fun i j => .int (i * j)) (tVar 5) (tVar 5)) (tOp (rI CMul fun i j => .int (i * j)) (tVar 4) (tC (.int 17)))) tNil)) (tC (.int 2147483647))) (gName 5))
  (tRet (tOp (rI (fun _ j => 0 < j) fun i j => .int (i % j)) (tCB rInt1 (tCons (tOp (rI CDiv fun i j => .int (i / j)) (tVar 5) (tC (.int 16))) tNil)) (tVar 1)))))))))))
theorem last_map {α β : Type} (f : α → β) (xs : List α) (h : xs ≠ []) : (xs.map f)[(xs.map f).length - 1]? = some (f (xs.getLast h)) := by
  rw [List.getElem?_map, List.length_map, ← List.getLast?_eq_getElem?, List.getLast?_eq_some_getLast h]; rfl
theorem pick_body {K : PySem.W.Frag} {src cl : Addr} {N : List Str} {vs : List V} {H : Hp} {Q : VK} {E : XK} (hN : N.length = 6) (h : spS (sxOf src cl) 1 F_pick vs H Q E) : tPick K { nx := fun _ H' => Q .non H', rt := Q } (L2.start N vs) H := by
  obtain ⟨hl, ws, rfl, ds, U, P, C⟩ := h
  obtain ⟨ne, ns, l, m, t, hs⟩ := C.inv
  have run := C.run
  unfold F_pick at run
  split at run
  · rename_i n
    have e0 := C.den
    cases e0 with
    | cons d1 d2 =>
      cases d2
      cases d1
      have est : L2.start N [V.ref src, .int n] = [some (.ref src), some (.int n), none, none, none, none] := by
        unfold L2.start
        rw [hN]; rfl
      show tPick K _ (L2.start N [V.ref src, .int n]) H
      rw [est]
      by_cases h2 : n < 2
      · rw [if_pos h2] at run
        refine ⟨_, rfl, n, 2, rfl, rfl, true, congrArg V.bl (decide_eq_true h2), iteT ?_⟩
        exact C.out _ _ H run (Stp.refl _ H) (.int 0)
      · rw [if_neg h2] at run
        by_cases h3 : n < 1073741824
        · rw [if_pos h3] at run
          have fin : ∀ k : Int, ∀ H' ns' l' m' t', 0 ≤ k → k < n → Src src cl H' ns' l' m' t' → (∀ a, a ≠ src → a ≠ cl → H' a = H a) → ns'.length ≤ ns.length → Q (.int k) H' := fun k H' ns' l' m' t' k0 k1 s' o hl' =>
            C.out _ _ H' (run k k0 k1) (hs.stp ne s' o hl') (.int k)
          refine ⟨_, rfl, n, 2, rfl, rfl, false, congrArg V.bl (decide_eq_false h2), iteF ?_⟩
          -- cells
          refine ⟨_, rfl, src, .ref cl, rfl, ?_, ?_⟩
          · have := DGet.k (k := kCells) hs.d
            rw [src_cells] at this; exact this
          -- while
          refine ⟨fun k σ H' => ∃ ns' l', σ = [some (.ref src), some (.int n), some (.ref cl), none, none, none] ∧ k = ns'.length ∧ Src src cl H' ns' l' m t ∧ (∀ a, a ≠ src → a ≠ cl → H' a = H a) ∧ ns'.length ≤ ns.length, ⟨ns.length, ns, l, rfl, rfl, hs, fun _ _ _ => rfl, Nat.le_refl _⟩, ?_⟩
          rintro k σ H' ⟨ns', l', rfl, rfl, s', o', hl'⟩
          have g1 : ∀ {H' ns' l' m' t'}, Src src cl H' ns' l' m' t' → DGet H' src (.str "left") (some (.int l')) := fun s => by
            have := DGet.k (k := kLeft) s.d
            rw [src_left] at this; exact this
          have g2 : ∀ {H' ns' l' m' t'}, Src src cl H' ns' l' m' t' → DGet H' src (.str "turn") (some (.int t')) := fun s => by
            have := DGet.k (k := kTurn) s.d
            rw [src_turn] at this; exact this
          have g3 : ∀ {H' ns' l' m' t'}, Src src cl H' ns' l' m' t' → DGet H' src (.str "mixed") (some (.int m')) := fun s => by
            have := DGet.k (k := kMixed) s.d
            rw [src_mixed] at this; exact this
          have p1 : ∀ {H' ns' l' m' t'} (x : Int), Src src cl H' ns' l' m' t' → DPut H' src (.str "left") (.int x) (upd H' src (.dK (srcKv cl x m' t'))) := fun x s => by
            have := DPut.k (k := kLeft) (v := .int x) s.d (by show 4 < sizeLine; decide)
            rw [put_left] at this; exact this
          have p2 : ∀ {H' ns' l' m' t'} (x : Int), Src src cl H' ns' l' m' t' → DPut H' src (.str "turn") (.int x) (upd H' src (.dK (srcKv cl l' m' x))) := fun x s => by
            have := DPut.k (k := kTurn) (v := .int x) s.d (by show 4 < sizeLine; decide)
            rw [put_turn] at this; exact this
          have oput : ∀ {H' : Hp} {o : HO}, (∀ a, a ≠ src → a ≠ cl → H' a = H a) → ∀ a, a ≠ src → a ≠ cl → (upd H' src o) a = H a := fun o' a a1 a2 => by rw [upd_ne a1]; exact o' a a1 a2
          -- behind the loop
          have after : ∀ ns' l' H', Src src cl H' ns' l' m t → (∀ a, a ≠ src → a ≠ cl → H' a = H a) → ns'.length ≤ ns.length → ∀ D : Ends, D.rt = Q → (tSeq (tAsg (tDGet (tVar 0) (tC (.str "left"))) (gName 3))
            (tSeq (tIfS (tTest (tOp (rI0 fun i j => .bl (decide (j < i))) (tVar 3) (tC (.int 1)))) (tSeq (sDPut (tVar 0) (tC (.str "left")) (tOp (rI CDiv fun i j => .int (i / j)) (tVar 3) (tVar 1))) (tRet (tOp (rI (fun _ j => 0 < j) fun i j => .int (i % j)) (tCB rInt1 (tCons (tVar 3) tNil)) (tVar 1)))) tNext)
            (tSeq (sDPut (tVar 0) (tC (.str "turn")) (tOp (rI0 fun i j => .int (i + j)) (tDGet (tVar 0) (tC (.str "turn"))) (tC (.int 1))))
            (tSeq (tAsg (tDGet (tVar 0) (tC (.str "turn"))) (gName 4))
            (tSeq (tAsg (tOp (rI (fun _ j => 0 < j) fun i j => .int (i % j)) (tCB rInt1 (tCons (tOp (rI0 fun i j => .int (i + j)) (tDGet (tVar 0) (tC (.str "mixed"))) (tOp (rI CMul fun i j => .int (i * j)) (tVar 4) (tC (.int 104729)))) tNil)) (tC (.int 998244353))) (gName 5))
            (tSeq (tAsg (tOp (rI (fun _ j => 0 < j) fun i j => .int (i % j)) (tCB rInt1 (tCons (tOp (rI0 fun i j => .int (i + j)) (tOp (rI CMul fun i j => .int (i * j)) (tVar 5) (tVar 5)) (tOp (rI CMul fun i j => .int (i * j)) (tVar 4) (tC (.int 17)))) tNil)) (tC (.int 2147483647))) (gName 5))
            (tRet (tOp (rI (fun _ j => 0 < j) fun i j => .int (i % j)) (tCB rInt1 (tCons (tOp (rI CDiv fun i j => .int (i / j)) (tVar 5) (tC (.int 16))) tNil)) (tVar 1)))))))))
              D [some (.ref src), some (.int n), some (.ref cl), none, none, none] H' := by
            intro ns' l' H' s' o' hl' D hD
            refine ⟨_, rfl, src, .int l', rfl, g1 s', ?_⟩
            by_cases h5 : 1 < l'
            · refine ⟨_, rfl, l', 1, rfl, rfl, true, congrArg V.bl (decide_eq_true h5), iteT ?_⟩
              refine ⟨_, rfl, _, rfl, l', n, rfl, rfl, ⟨by omega, h3⟩, _, rfl, src, _, rfl, p1 (l' / n) s', ?_⟩
              refine ⟨_, rfl, .inl ⟨l', rfl, _, rfl, l', n, rfl, rfl, by omega, ?_⟩⟩
              show D.rt (.int (l' % n)) _
              rw [hD]
              exact fin (l' % n) _ ns' _ m t (Int.emod_nonneg _ (by omega)) (Int.emod_lt_of_pos _ (by omega)) (s'.put ne) (oput o') hl'
            · refine ⟨_, rfl, l', 1, rfl, rfl, false, congrArg V.bl (decide_eq_false h5), iteF ?_⟩
              refine ⟨_, rfl, src, .int t, rfl, g2 s', t, 1, rfl, rfl, _, rfl, src, _, rfl, p2 (t + 1) s', ?_⟩
              have s2 : Src src cl (upd H' src (.dK (srcKv cl l' m (t + 1)))) ns' l' m (t + 1) := s'.put ne
              refine ⟨_, rfl, src, .int (t + 1), rfl, g2 s2, ?_⟩
              have b1 : 0 ≤ (m + (t + 1) * 104729) % 998244353 ∧ (m + (t + 1) * 104729) % 998244353 < 998244353 := by omega
              have c1 : CMul ((m + (t + 1) * 104729) % 998244353) ((m + (t + 1) * 104729) % 998244353) := .inl (by omega)
              have c2 : CMul (t + 1) 104729 := .inr (by decide)
              have c3 : CMul (t + 1) 17 := .inr (by decide)
              have c4 : ∀ i : Int, CDiv i 16 := fun i => by unfold CDiv; decide
              refine ⟨_, rfl, src, .int m, rfl, g3 s2, _, rfl, t + 1, 104729, rfl, rfl, c2, m, _, rfl, rfl, .inl ⟨_, rfl, _, 998244353, rfl, rfl, (show (0 : Int) < 998244353 by decide), ?_⟩⟩
              refine ⟨_, rfl, _, rfl, _, _, rfl, rfl, c1, _, rfl, t + 1, 17, rfl, rfl, c3, _, _, rfl, rfl, .inl ⟨_, rfl, _, 2147483647, rfl, rfl, (show (0 : Int) < 2147483647 by decide), ?_⟩⟩
              refine ⟨_, rfl, _, 16, rfl, rfl, c4 _, .inl ⟨_, rfl, _, rfl, _, n, rfl, rfl, (show (0 : Int) < n by omega), ?_⟩⟩
              show D.rt (.int (_ % n)) _
              rw [hD]
              exact fin _ _ ns' l' m (t + 1) (Int.emod_nonneg _ (by omega)) (Int.emod_lt_of_pos _ (by omega)) s2 (oput o') hl'
          refine ⟨_, rfl, src, .int l', rfl, g1 s', l', 2, rfl, rfl, ?_⟩
          by_cases h6 : l' < 2
          · refine ⟨true, congrArg V.bl (decide_eq_true h6), iteT ?_⟩
            refine ⟨_, rfl, cl, ns'.map V.int, rfl, .inl (SqL.of s'.c), _, 0, rfl, rfl, ?_⟩
            by_cases h7 : ns' = []
            · subst h7
              refine ⟨false, rfl, iteF ?_⟩
              exact after [] l' H' s' o' hl' _ rfl
            · have hp : 0 < ns'.length := List.length_pos_iff.mpr h7
              refine ⟨true, congrArg V.bl (decide_eq_true (show (0 : Int) < ((ns'.map V.int).length : Int) by rw [List.length_map]; omega)), iteT ?_⟩
              refine ⟨fun σ2 H2 => ∃ ns2 l2, σ2 = [some (.ref src), some (.int n), some (.ref cl), none, none, none] ∧ ns2.length < ns'.length ∧ Src src cl H2 ns2 l2 m t ∧ (∀ a, a ≠ src → a ≠ cl → H2 a = H a) ∧ ns2.length ≤ ns.length,
                fun σ2 H2 ⟨ns2, l2, a, b, c, d, e⟩ => ⟨ns2.length, b, ns2, l2, a, rfl, c, d, e⟩, ?_⟩
              refine ⟨_, rfl, .inl ⟨rfl, _, SqL.of s'.c⟩, cl, ns'.map V.int, _, rfl, rfl, s'.c, last_map V.int ns' h7, ?_⟩
              have s2 : Src src cl (upd H' cl (.lst (ns'.map V.int).dropLast)) ns'.dropLast l' m t := ⟨by rw [upd_ne ne]; exact s'.d, by rw [upd_same, List.map_dropLast]⟩
              refine ⟨_, rfl, src, _, rfl, p1 _ s2, ns'.dropLast, _, rfl, by rw [List.length_dropLast]; omega, s2.put ne, fun a a1 a2 => ?_, by rw [List.length_dropLast]; omega⟩
              rw [upd_ne a1, upd_ne a2]
              exact o' a a1 a2
          · refine ⟨false, congrArg V.bl (decide_eq_false h6), iteF ?_⟩
            refine iteF ?_
            exact after ns' l' H' s' o' hl' _ rfl
        · rw [if_neg h3] at run
          exact False.elim run
  · exact False.elim run

/-! ### how it is opened -/
/-- all that stood stands; a new source -/
def spOpen (K : PySem.W.Frag) : Sp := fun vs H Q _ => ∃ (a : Addr) (ns : List Int), vs = [.ref a] ∧ SqL K H a (ns.map V.int) ∧ ns.length ≤ 100000 ∧ Sz H ∧ ∀ H' src cl, (∀ b o, H b = some o → H' b = some o) → src ≠ cl → (∃ ns l m t, Src src cl H' ns l m t) → Sz H' → Q (.ref src) H'
def tOpen (K : PySem.W.Frag) : TS :=
  tSeq (tAsg (tC (.int 11)) (gName 1))
  (tSeq (tFor (iList K (tVar 0)) (gName 2) (tAsg (tOp (rI (fun _ j => 0 < j) fun i j => .int (i % j)) (tCB rInt1 (tCons (tOp (rI0 fun i j => .int (i + j)) (tOp (rI0 fun i j => .int (i + j)) (tOp (rI CMul fun i j => .int (i * j)) (tVar 1) (tC (.int 69069))) (tOp (rI CMul fun i j => .int (i * j)) (tVar 2) (tC (.int 31)))) (tC (.int 5))) tNil)) (tC (.int 2147483629))) (gName 1)))
  (tSeq (tAsg (tLc (iList K (tVar 0)) (gName 2) tYes (tCB rAbs (tCons (tVar 2) tNil)) [2]) (gName 3))
  (tRet (tDisp [(tC (.str "cells"), tRevL K (tVar 3)), (tC (.str "left"), tC (.int 1)), (tC (.str "mixed"), tVar 1), (tC (.str "turn"), tC (.int 0))]))))
theorem seq_up {K : PySem.W.Frag} {H H' : Hp} {a : Addr} {xs : List V} (e : ∀ b o, H b = some o → H' b = some o) (h : SqL K H a xs) : SqL K H' a xs := Evl.ex_l e h
def absI (i : Int) : Int := if i < 0 then -i else i
theorem merge_src {cl : Addr} {l m t : Int} : mergeK [] (srcKv cl l m t) = srcKv cl l m t := by
  simp [mergeK, putK, srcKv, k_lc.symm, k_mc.symm, k_tc.symm, k_ml.symm, k_tl.symm, k_tm.symm]
theorem open_body {K : PySem.W.Frag} {N : List Str} {vs : List V} {H : Hp} {Q : VK} {E : XK} (hN : N.length = 4) (h : spOpen K vs H Q E) : tOpen K { nx := fun _ H' => Q .non H', rt := Q } (L2.start N vs) H := by
  obtain ⟨a, ns, rfl, hS, hlen, hz, q⟩ := h
  have est : L2.start N [V.ref a] = [some (.ref a), none, none, none] := by
    unfold L2.start
    rw [hN]; rfl
  show tOpen K _ (L2.start N [V.ref a]) H
  rw [est]
  have lz : (ns.map V.int).length < sizeLine := by rw [List.length_map]; exact Nat.lt_of_le_of_lt hlen (by decide)
  refine ⟨_, rfl, a, rfl, ⟨_, hS⟩, for_list (K := K) (a := a) (xs := ns.map V.int) (fun i σ H' => ∃ x2 st, σ = [some (.ref a), some (.int st), x2, none] ∧ H' = H) ⟨none, 11, rfl, rfl⟩ (fun i σ H' _ ⟨_, _, _, e⟩ => by rw [e]; exact hS) (fun i x σ H' hx ⟨x2, st, e1, e2⟩ => ?_) (fun σ H' ⟨x2, st, e1, e2⟩ => ?_)⟩
  · subst e1 e2
    rw [List.getElem?_map, Option.map_eq_some_iff] at hx
    obtain ⟨n, hn, rfl⟩ := hx
    exact ⟨_, rfl, st, 69069, rfl, rfl, .inr (by decide), _, rfl, n, 31, rfl, rfl, .inr (by decide), _, _, rfl, rfl, _, _, rfl, rfl, .inl ⟨_, rfl, _, 2147483629, rfl, rfl, (show (0 : Int) < 2147483629 by decide), some (.int n), _, rfl, rfl⟩⟩
  · subst e1 e2
    refine ⟨_, rfl, a, rfl, ⟨_, hS⟩, fun Dd hD => ?_⟩
    have up1 : ∀ zs b o, H' b = some o → (upd H' Dd (.lst zs)) b = some o := fun zs b o e => by rw [upd_ne (ne_of_none e hD)]; exact e
    refine lc_list (K := K) (a := a) (xs := ns.map V.int) (fun i H2 => H2 = upd H' Dd (.lst (((ns.take i).map absI).map V.int))) rfl (fun i H2 _ e => by rw [e]; exact seq_up (up1 _) hS) (fun i x H2 hx e => ?_) (fun H2 e => ?_)
    · subst e
      rw [List.getElem?_map, Option.map_eq_some_iff] at hx
      obtain ⟨n, hn, rfl⟩ := hx
      refine ⟨rfl, ?_⟩
      refine iteT (B := False) ?_
      refine ⟨_, rfl, n, rfl, _, upd_same, ?_, ?_⟩
      · rw [List.length_map, List.length_map, List.length_take]
        exact Nat.lt_of_le_of_lt (Nat.min_le_right _ _) (by rw [List.length_map] at lz; exact lz)
      · rw [upd_upd]
        congr 2
        rw [List.take_add_one, hn]
        simp [absI]
    · subst e
      rw [List.length_map, List.take_length]
      intro p hp
      have hDp : Dd ≠ p := fun e => by rw [e, upd_same] at hp; cases hp
      refine ⟨_, rfl, Dd, _, rfl, SqL.of (by rw [upd_ne hDp, upd_same]), fun c hc => ?_⟩
      have hcp : c ≠ p := fun e => by rw [e, upd_same] at hc; cases hc
      refine ⟨_, rfl, by rw [upd_ne hcp.symm, upd_same], srcKv c 1 st 0, rfl, by show 4 ≤ 15; decide, ?_⟩
      rw [merge_src]
      have hHp : H' p = none := by rw [upd_ne hDp.symm] at hp; exact hp
      have hHc : H' c = none := by
        rw [upd_ne hcp] at hc
        by_cases e : c = Dd
        · rw [e, upd_same] at hc; cases hc
        · rw [upd_ne e] at hc; exact hc
      have e1 : ∀ ys : List Int, ((ys.map V.int).reverse) = (ys.reverse).map V.int := fun ys => by rw [List.map_reverse]
      refine q _ p c (fun b o e => ?_) hcp.symm ⟨_, 1, st, 0, upd_same, by rw [upd_ne hcp, upd_same, e1]⟩ ?_
      · rw [upd_ne (ne_of_none e hHp), upd_ne (ne_of_none e hHc), upd_ne (ne_of_none e hHp), upd_ne (ne_of_none e hD)]; exact e
      · have lz2 : ∀ ys : List V, ys.length = ns.length → ys.length ≤ sizeLine := fun ys e => by rw [e]; exact Nat.le_trans hlen (by decide)
        refine Sz.upd (Sz.upd (Sz.upd (Sz.upd hz ?_) ?_) ?_) ?_
        · intro xs e; rcases e with e | e <;> cases e; exact lz2 _ (by simp)
        · intro xs e; rcases e with e | e <;> cases e
        · intro xs e; rcases e with e | e <;> cases e; exact lz2 _ (by simp)
        · intro xs e; rcases e with e | e <;> cases e
end Py
end
section
set_option maxHeartbeats 1000000
/-! PyQ: calls with the source, the law's own body, the head. -/
namespace Py
open PySem PySem.Spec PyProof.Rows L2 StX
/-- the first argument is some source -/
def spX (n : Nat) (F : List D → M D) : Sp := fun vs H Q E => ∃ src cl, spS (sxOf src cl) n F vs H Q E
theorem spX_len {n : Nat} {F : List D → M D} {vs : List V} {H : Hp} {Q : VK} {E : XK} (h : spX n F vs H Q E) : vs.length = n + 1 := by
  obtain ⟨_, _, h⟩ := h
  exact h.1
section
variable {src cl : Addr} {Γ : List Md}
theorem sem_callX {i n : Nat} {F : List D → M D} {t : TA} {f : Py.Env → M (List D)} (hi : Γ[i]? = some .src) (h : SemA (sxOf src cl) Γ t f) : SemE (sxOf src cl) Γ (tCallG (spX n F) (tCons (tVar i) t)) (eCallS i n F f) := by
  intro c ρ ps σ H Q P hc r q k
  obtain ⟨d0, hd, q⟩ := eVar_get q
  obtain ⟨o, qs, ho, hs, _⟩ := r.sl.get hi hd
  cases hs with
  | src =>
    refine ⟨_, ho, ?_⟩
    refine h c ρ ps σ H _ _ hc r q fun ds vs H1 q1 e1 dn => ?_
    have r1 := r.stp e1
    dsimp only at q1
    split at q1
    · rename_i hl
      have hs : c.src = src := by show c.s.src = src; rw [hc]; rfl
      have hA : ∀ a, (sxOf src cl).A a → c.U ps a := fun a z => .inl (r.ok.sub a (by show c.s.A a; rw [hc]; exact z))
      refine ⟨src, cl, congrArg (· + 1) (dn.length.trans hl), vs, by rw [hs]; rfl, ds, c.U ps, P, dn, hA, r1.loose, r1.sz, by have := r1.inv; unfold Fx.J at this; rw [hc] at this; exact this, q1, fun d v H2 p e2 d2 => ?_⟩
      refine k d v H2 p (e1.trans ⟨fun a o q n => e2.keep a o q fun z => n (by show c.s.A a; rw [hc]; exact z), e2.there, fun z => by show c.s.J H2; rw [hc]; exact e2.inv (by have z' : c.s.J H1 := z; rw [hc] at z'; exact z'), fun _ a u => e2.al r1.loose a (.inl u), e2.sz⟩) d2
    · exact False.elim q1
end
/-- the body of a def with the source in its first place -/
theorem body_x {n m : Nat} {N : List Str} {Γr Γ' Γl : List Md} {t : TS} {f : Py.Env → M Out} {vs : List V} {H : Hp} {Q : VK} {E : XK} (h : ∀ src cl, SemS (sxOf src cl) Γl (.src :: (List.replicate n .fro ++ Γr)) Γ' t f) (hN : N.length = n + 1 + m) (hm : Γr.length = m)
    (hs : spX n (fnS m f) vs H Q E) : t { nx := fun _ H' => Q .non H', rt := Q } (L2.start N vs) H := by
  obtain ⟨src, cl, hs⟩ := hs
  exact body_s (sxOk src cl) (h src cl) hN hm hs
theorem pick_x {K : PySem.W.Frag} {N : List Str} {vs : List V} {H : Hp} {Q : VK} {E : XK} (hN : N.length = 6) (h : spX 1 F_pick vs H Q E) : tPick K { nx := fun _ H' => Q .non H', rt := Q } (L2.start N vs) H := by
  obtain ⟨src, cl, h⟩ := h
  exact pick_body hN h

/-! ### the law's own body -/
def spLaw (K : PySem.W.Frag) : Sp := fun vs H Q _ => ∃ (a : Addr) (ns : List Int), vs = [.ref a] ∧ SqL K H a (ns.map V.int) ∧ ns.length ≤ 63 ∧ Sz H ∧ ∀ H', Q (.bl true) H'
/-- behind source = open(script) -/
theorem law_rest {K : PySem.W.Frag} {N : List Str} {to : TA} {Γr Γ' : List Md} {t : TS} {f : Py.Env → M Out} {vs : List V} {H : Hp} {Q : VK} {E : XK} (h : ∀ src cl, SemS (sxOf src cl) [] (.fro :: .src :: Γr) Γ' t f) (hN : N.length = Γr.length + 2)
    (hf : f (none :: some .none :: List.replicate Γr.length none) fun o => o = .rt (.bool true)) (hs : spLaw K vs H Q E) :
    tSeq (tAsg (tCallG (spOpen K) (tCons (tVar 0) tNil)) (gName 1)) t { nx := fun _ H' => Q .non H', rt := Q } (L2.start N vs) H := by
  obtain ⟨a, ns, rfl, hS, hl, hz, q⟩ := hs
  have est : L2.start N [V.ref a] = some (.ref a) :: none :: List.replicate Γr.length none := by
    unfold L2.start
    rw [hN]; rfl
  rw [est]
  refine ⟨_, rfl, a, ns, rfl, hS, by omega, hz, fun H' src cl up ne inv hz' => ?_⟩
  obtain ⟨xs, l, m, tt, hsrc⟩ := inv
  have ok : Fx.Ok ⟨sxOf src cl, fun z => z = src ∨ z = cl, H'⟩ := ⟨fun z q => q, (sxOk src cl).st⟩
  have slots : ∀ Γ : List Md, Slots ⟨sxOf src cl, fun z => z = src ∨ z = cl, H'⟩ H' (Fx.U ⟨sxOf src cl, fun z => z = src ∨ z = cl, H'⟩ []) Γ (List.replicate Γ.length none) (List.replicate Γ.length none) [] := by
    intro Γ
    induction Γ with
    | nil => exact .nil
    | cons m Γ ih => exact Slots.cons (SlotR.no (m := m) (o := none)) ih
  have r0 : R ⟨sxOf src cl, fun z => z = src ∨ z = cl, H'⟩ (.fro :: .src :: Γr) (none :: some .none :: List.replicate Γr.length none) [] (some (.ref a) :: some (.ref src) :: List.replicate Γr.length none) H' := by
    refine ⟨ok, fun z o q _ => q, fun z o q => ⟨o, q⟩, ⟨ne, xs, l, m, tt, hsrc⟩, fun z u => ?_, hz', ?_, List.nodup_nil, fun p hp => absurd hp (by simp)⟩
    · rcases u with rfl | rfl
      · exact ⟨_, hsrc.d, fun xs z => by cases z⟩
      · exact ⟨_, hsrc.c, fun xs z => by cases z⟩
    · exact Slots.cons (SlotR.no (m := .fro) (o := some (.ref a))) (Slots.cons (SlotR.src (c := ⟨sxOf src cl, fun z => z = src ∨ z = cl, H'⟩) (d := .none)) (slots Γr))
  show t _ (some (.ref a) :: some (.ref src) :: List.replicate Γr.length none) H'
  refine h src cl _ _ [] _ H' _ _ rfl r0 hf ⟨(fun ρ ps σ H2 p r => nomatch p), (fun d v H2 p fi dn => ?_), (fun ρ ps σ H2 p r => nomatch p), (fun ρ ps σ H2 p r => nomatch p)⟩
  cases p
  cases dn
  exact q H2

/-! ### the head: as L2.law_call, for a def that may ask for texts of values (no repr is under way) -/
theorem sz_only {H : Hp} (h : Only H) : Sz H := fun a xs q => by
  rcases h a with z | ⟨o, ys, z⟩
  · rw [z] at q; rcases q with q | q <;> cases q
  · rw [z] at q; rcases q with q | q <;> cases q
theorem heap_of {P : Program} {w : World} {K : PySem.W.Frag} {sh : Shared} {a : Addr} {us : List Value} {ns : List Int} (kin : K.In sh.heap) (ob : sh.heap.get? a = some { cls := .type "list", data := .seq us.toArray }) (hi : IntsAre us ns) (hl : ns.length ≤ sizeLine) :
    ∃ H : Hp, Only H ∧ SqL K H a (ns.map V.int) ∧ HOk P w H sh.heap ∧ (∀ b, H b ≠ none → b = a) ∧ (H a ≠ none → K.lookup a = none) := by
  have rel : Vals (ns.map V.int) us := vals_ints hi
  have ln := hi.length
  cases hk : K.lookup a with
  | some o =>
    have eo := kin a o hk
    rw [ob] at eo
    cases eo
    refine ⟨fun _ => none, fun _ => .inl rfl, .inr ⟨_, us.toArray, _, hk, rfl, rfl, rfl, ?_, ?_⟩, fun b u z => ?_, fun b z => absurd rfl z, fun z => absurd rfl z⟩
    · rw [List.size_toArray, ln]; exact hl
    · simpa using rel
    · have z' : (none : Option HO) = some u := z
      cases z'
  | none =>
    let ho : HO := .frz { cls := .type "list", data := .seq us.toArray } (.lst (ns.map V.int))
    let H : Hp := fun b => if b = a then some ho else none
    have at_a : H a = some ho := if_pos rfl
    have off : ∀ {b}, b ≠ a → H b = none := fun e => if_neg e
    refine ⟨H, fun b => ?_, .inl (.inr ⟨_, at_a⟩), fun b u z => ?_, fun b z => ?_, fun _ => rfl⟩
    · by_cases e : b = a
      · subst e; exact .inr ⟨_, _, at_a⟩
      · exact .inl (off e)
    · by_cases e : b = a
      · subst e
        rw [at_a] at z
        cases z
        exact ⟨ob, by rw [List.length_map]; exact hl, us, _, rel, ob⟩
      · rw [off e] at z; cases z
    · by_cases e : b = a
      · exact e
      · exact absurd (off e) z
theorem callG {P : Program} {w : World} {K : PySem.W.Frag} {mg mb : Str → Option Value} {k : Nat} {fa a : Addr} {fd : FuncData} {x : Str} {sp : Sp} {sh : Shared} {us : List Value} {ns : List Int}
    (kin : K.In sh.heap) (gl : sh.heap.Ns mainGlobals mg) (bl : sh.heap.Ns builtinsNs mb) (bo : ∀ y : Str, y ≠ "__name__" → mb y = bootBuiltins y) (lim : sh.heap.NoLimit) (gn : sh.gens = #[])
    (ob : sh.heap.get? a = some { cls := .type "list", data := .seq us.toArray }) (hi : IntsAre us ns) (hl : ns.length ≤ sizeLine) (hr : Room k callerA)
    (F : ∀ base : Heap, K.In base → base.Ns mainGlobals mg → FnG P w K mg base k fa fd [x] sp) (bind : ∀ (z : Shared) (u : Value), BindsTo z fd ⟨[u], []⟩ [(x, u)])
    (hsp : ∀ H : Hp, Only H → SqL K H a (ns.map V.int) → sp [.ref a] H (fun v _ => v = .bl true) fun _ _ _ => False) :
    codeAny (model P w) callerA (.call (.ref fa) ⟨[.ref a], []⟩) (fun r z => r = .ok (.ret (.bool true)) ∧ OldK sh.heap z.heap ∧ z.os = sh.os ∧ AllBare z.gens) sh := by
  obtain ⟨H, only, seq, hok, hA, hK⟩ := heap_of (P := P) (w := w) kin ob hi hl
  have hid : ∀ {b : Addr} {o : Obj}, sh.heap.get? b = some o → H b = none → (hidT sh.heap H).get? b = some o := fun e n => hidT_get e n
  have notA : ∀ {b : Addr} {o : Obj}, sh.heap.get? b = some o → (∀ es ep, o.data = .dict es ep → H b = none) := fun {b o} e es ep d => by
    cases q : H b with
    | none => rfl
    | some u =>
      have eb : b = a := hA b (by rw [q]; simp)
      rw [eb, ob] at e
      cases e
      have d' : Data.seq us.toArray _ = Data.dict es ep := d
      cases d'
  have ns' : ∀ {b : Addr} {g : Str → Option Value}, sh.heap.Ns b g → (hidT sh.heap H).Ns b g := fun {b g} ⟨o, es, ep, e, d, r⟩ => ⟨o, es, ep, hid e (notA e es ep d), d, r⟩
  have kin' : K.In (hidT sh.heap H) := fun b o e => hid (kin b o e) (by
    cases q : H b with
    | none => rfl
    | some u =>
      have eb : b = a := hA b (by rw [q]; simp)
      rw [eb] at e q
      rw [hK (by rw [q]; simp)] at e
      cases e)
  have md : Mod K mg (hidT sh.heap H) := ⟨kin', ns' gl, ⟨mb, ns' bl, bo⟩, let ⟨mc, h1, h2⟩ := lim; ⟨mc, ns' h1, h2⟩⟩
  have en : Env0 P w K mg (hidT sh.heap H) callerA [] sh H := ⟨rfl, md, fun b o e => of_hidT e, Nat.le_of_eq (hidT_size _ _), trivial, fun b hb => absurd (show b ∈ ([] : List Addr) from hb) (by simp), hok, .of_eq gn⟩
  refine codeAny_mono ((F _ kin' (ns' gl)).run callerA [] sh H ⟨[.ref a], []⟩ [.ref a] [.ref a] _ _ rfl hr en (bind sh (.ref a)) (.cons rfl .nil) (hsp H only seq)) fun r z h => ?_
  cases r with
  | error e => exact (show False from h).elim
  | ok fl =>
    cases fl with
    | ret u =>
      obtain ⟨v, H', os, bare, un, hok', r', q⟩ := h
      have q' : v = .bl true := q
      subst q'
      obtain rfl : u = Value.bool true := r'
      refine ⟨rfl, OldK.of_keep fun b o e => ?_, os, bare⟩
      cases q : H b with
      | none => exact un.keep b o e q (by intro z; exact absurd (show b ∈ ([] : List Addr) from z) (by simp)) (by simp)
      | some y =>
        rcases only b with z | ⟨ob2, xs, z⟩
        · rw [q] at z; cases z
        · have z2 := un.frzs b ob2 _ z
          obtain ⟨e1, _⟩ := hok b _ z
          obtain ⟨e2, _⟩ := hok' b _ z2
          rw [e] at e1
          cases e1
          exact e2
    | _ => exact (show False from h).elim
theorem walkG {l : PySem.W.OpenLaw} {n k : Nat} {q : Program} {loose : List Str} {XP : (Str → Option Value) → Heap → Prop} {YP : World → Heap → Prop} {d : DefRec} {K : Params → PySem.W.Frag} {x : Str}
    (hn : l.most = some n) (hn2 : n ≤ 63) (hdf : d.params.defaults = []) (hr : Room k callerA) (hY : ∀ (w : World) (h : Heap), YP w h → (K w.params).In h)
    (F : ∀ (w : World) (mg : Str → Option Value) (fa : Addr) (h : Heap), (K w.params).In h → h.Ns mainGlobals mg → mg d.name = some (.ref fa) →
      ∃ fd : FuncData, (∀ (z : Shared) (u : Value), BindsTo z fd ⟨[u], []⟩ [(x, u)]) ∧ ∀ base : Heap, (K w.params).In base → base.Ns mainGlobals mg → FnG l.prog w (K w.params) mg base k fa fd [x] (spLaw (K w.params))) :
    PySem.W.WalkO q loose XP YP l.row.toRowW d [] (fun f vs => PySem.call f vs) := by
  refine Att.attach_call hn hdf fun w z0 z1 mg mb fa o pm cd doc a us ns G Y ho hd hcd hmg hobj hints hlen hg => ?_
  have kin := hY w _ Y
  obtain ⟨fd, bd, hF⟩ := F w mg fa _ kin G.T.g hmg
  exact callG kin G.T.g G.T.b G.T.builtins G.T.nolimit hg hobj hints (Nat.le_trans (Nat.le_trans hlen hn2) (by decide)) hr hF bd fun H on seq => ⟨a, ns, rfl, seq, Nat.le_trans hlen hn2, sz_only on, fun _ => rfl⟩
end Py
end
section
set_option maxHeartbeats 1000000
/-! PyV: a list of lists of one's own; a list times an int. -/
namespace Py
open PySem L2 StX
section
variable {s : Sx} {Γ Γ' Γl : List Md} {K : PySem.W.Frag}
/-! ### [x] * n -/
def repL (a b : Env → M D) : Env → M (List D) := fun ρ => bnd (a ρ) fun x => bnd (b ρ) fun y => match x, y with
  | .list ds, .int n => if decide (0 ≤ n ∧ n ≤ 1000 ∧ ds.length ≤ 100) = true then ret (repD n.toNat ds) else stuck
  | _, _ => stuck
theorem sem_repL {ta tb : TE} {a b : Env → M D} (ha : SemV s Γ ta a) (hb : SemV s Γ tb b) : SemL s Γ (tOp (rMulX K) ta tb) (repL a b) := by
  intro c ρ ps σ H Q P hc r0 q k
  refine ha c ρ ps σ H _ _ hc r0 q fun x u H1 q1 e1 d1 => ?_
  refine hb c ρ ps σ H1 _ _ hc (r0.stp e1) q1 fun y v H2 q2 e2 d2 => ?_
  have r2 := (r0.stp e1).stp e2
  have d1 := d1.stp r0.ok r2.gd.nA e2
  dsimp only at q2
  split at q2
  · split at q2
    · rename_i ds n _ hl
      have hb := of_decide_eq_true hl
      obtain ⟨p1, vs, rfl, h1, dn1⟩ := d1.lst
      have hv : vs.length ≤ 100 := by rw [dn1.length]; exact hb.2.2
      have h3 : vs.length * n.toNat ≤ 100 * 1000 := Nat.mul_le_mul hv (by omega)
      have hz : vs.length * n.toNat ≤ sizeLine := Nat.le_trans h3 (by decide)
      refine .inl (.inr ⟨p1, n, vs, rfl, d2.int, h1, by omega, by omega, hz, fun p hp => ?_⟩)
      have hz2 : (List.replicate n.toNat vs).flatten.length ≤ sizeLine := by rw [List.length_flatten, List.map_replicate, List.sum_replicate_nat, Nat.mul_comm]; exact hz
      have e := Stp.lst r0.ok (xs := (List.replicate n.toNat vs).flatten) hp hz2
      exact k _ p _ _ q2 ((e1.trans e2).trans e) ((e1.trans e2).fresh hp) upd_same ((dn1.rep _).plus hp)
    · cases q2
  · cases q2

/-! ### rows of one's own -/
theorem Rows.len {H : Hp} {U : AS} : ∀ {qs : List Addr} {dss : List (List D)}, Rows H U qs dss → qs.length = dss.length
  | _, _, .nil => rfl
  | _, _, .cons _ _ t => congrArg (· + 1) t.len
theorem Rows.get {H : Hp} {U : AS} : ∀ {qs : List Addr} {dss : List (List D)} {j : Nat} {ds : List D}, Rows H U qs dss → dss[j]? = some ds → ∃ q vs, qs[j]? = some q ∧ H q = some (.lst vs) ∧ DenL H U vs ds
  | _, _, _, _, .nil, e => by simp at e
  | _, _, 0, _, .cons h1 h2 _, e => by simp at e; subst e; exact ⟨_, _, rfl, h1, h2⟩
  | _, _, j + 1, _, .cons _ _ t, e => by
    obtain ⟨q, vs, a, b, c⟩ := t.get (j := j) (by simpa using e)
    exact ⟨q, vs, by simpa using a, b, c⟩
theorem Rows.set {H : Hp} {U : AS} {q : Addr} {vs : List V} {ds : List D} (h1 : H q = some (.lst vs)) (h2 : DenL H U vs ds) : ∀ {qs : List Addr} {dss : List (List D)} (j : Nat), Rows H U qs dss → Rows H U (qs.set j q) (dss.set j ds)
  | _, _, _, .nil => .nil
  | _, _, 0, .cons _ _ t => .cons h1 h2 t
  | _, _, j + 1, .cons a b t => .cons a b (Rows.set h1 h2 j t)
theorem Slots.updP {c : Fx} {H H' : Hp} {U : AS} {Γ : List Md} {ρ : Env} {σ : St} {ps : List Addr} (h : Slots c H U Γ ρ σ ps) {q : Addr} (hU : U q) (same : ∀ a o, a ≠ q → H a = some o → H' a = some o) {m : Md} {d d' : Option D} {o : Option V} {qs0 qs' : List Addr} (hq : q ∈ qs0) (new : SlotR c H' U m d' o qs') (pm : qs'.Perm qs0) :
    ∀ {i : Nat}, ps.Nodup → (∀ qs, SlotR c H U m d o qs → qs = qs0) → Γ[i]? = some m → ρ[i]? = some d → σ[i]? = some o → ∃ ps', Slots c H' U Γ (ρ.set i d') σ ps' ∧ ps'.Perm ps := by
  have e : ∀ a u, H a = some u → ¬ U a → H' a = some u := fun a u q1 n => same a u (fun z => n (by rw [z]; exact hU)) q1
  induction h with
  | nil => intro i _ _ hm; simp at hm
  | @cons m1 d1 o1 p1 q1 Γ1 ρ1 σ1 h1 h2 ih =>
    intro i nd un hm hd ho
    have nd' := List.nodup_append.mp nd
    cases i with
    | zero =>
      simp at hm hd ho
      subst hm hd ho
      have ep := un _ h1
      subst ep
      refine ⟨qs' ++ q1, .cons new (h2.mono (fun a ha u w => same a u (fun z => ?_) w) e fun _ _ _ w => w), pm.append_right _⟩
      rw [z] at ha
      exact nd'.2.2 q hq q ha rfl
    | succ i =>
      have hm' : Γ1[i]? = some m := by simpa using hm
      have hd' : ρ1[i]? = some d := by simpa using hd
      have ho' : σ1[i]? = some o := by simpa using ho
      obtain ⟨ps', s', p'⟩ := ih (i := i) nd'.2.1 un hm' hd' ho'
      obtain ⟨o2, qs2, e1, e2, e3⟩ := h2.get hm' hd'
      rw [ho'] at e1; cases e1
      have eq2 := un _ e2
      subst eq2
      refine ⟨p1 ++ ps', .cons (h1.mono (fun a ha u w => same a u (fun z => ?_) w) e fun _ _ _ w => w) s', p'.append_left _⟩
      rw [z] at ha
      exact nd'.2.2 q ha q (e3 q hq) rfl
/-- own places in another order -/
theorem R.perm {c : Fx} {ρ : Env} {ps ps' : List Addr} {σ : St} {H : Hp} (r : R c Γ ρ ps σ H) {ρ' : Env} {H' : Hp} (keep : ∀ a o, a ∉ ps → H a = some o → H' a = some o) (there : ∀ a, a ∈ ps → ∃ o, H' a = some o) (sz : Sz H') (sl : Slots c H' (c.U ps) Γ ρ' σ ps') (pm : ps'.Perm ps) : R c Γ ρ' ps' σ H' where
  ok := r.ok
  keep := fun a o q n => keep a o (fun z => by rw [(r.own a z).1] at q; cases q) (r.keep a o q n)
  there := fun a o q => let ⟨o', q'⟩ := r.there a o q; ⟨o', keep a o' (fun z => by rw [(r.own a z).1] at q; cases q) q'⟩
  inv := r.ok.st H _ r.inv fun a o u q => keep a o (fun z => r.ownA z u) q
  al := fun a u => let ⟨o, h1, h2⟩ := r.al a u; ⟨o, keep a o (fun z => (r.own a z).2 u) h1, h2⟩
  sz := sz
  sl := sl.mono (fun _ _ _ q => q) (fun _ _ q _ => q) fun a o q u => u.imp id fun z => pm.mem_iff.mp z
  nd := pm.nodup_iff.mpr r.nd
  own := fun a ha => r.own a (pm.mem_iff.mp ha)
theorem R.own2At {c : Fx} {ρ : Env} {ps : List Addr} {σ : St} {H : Hp} (r : R c Γ ρ ps σ H) {i : Nat} {d : D} (hm : Γ[i]? = some .own2) (hd : ρ[i]? = some (some d)) :
    ∃ p qs dss, σ[i]? = some (some (.ref p)) ∧ d = .list (dss.map .list) ∧ H p = some (.lst (qs.map V.ref)) ∧ Rows H (c.U ps) qs dss ∧ (∀ a ∈ p :: qs, a ∈ ps) ∧ (p :: qs).Nodup := by
  have key : ∀ {Γ : List Md} {ρ : Env} {σ : St} {ps : List Addr} {U : AS}, Slots c H U Γ ρ σ ps → ps.Nodup → ∀ {i : Nat}, Γ[i]? = some .own2 → ρ[i]? = some (some d) →
      ∃ p qs dss, σ[i]? = some (some (.ref p)) ∧ d = .list (dss.map .list) ∧ H p = some (.lst (qs.map V.ref)) ∧ Rows H U qs dss ∧ (∀ a ∈ p :: qs, a ∈ ps) ∧ (p :: qs).Nodup := by
    intro Γ ρ σ ps U h
    induction h with
    | nil => intro _ i hm; simp at hm
    | @cons m1 d1 o1 p1 q1 Γ1 ρ1 σ1 h1 h2 ih =>
      intro nd i hm hd
      have nd' := List.nodup_append.mp nd
      cases i with
      | zero =>
        simp at hm hd
        subst hm hd
        cases h1 with
        | @own2 p qs dss a1 a2 => exact ⟨p, qs, dss, rfl, rfl, a1, a2, fun a ha => List.mem_append_left _ ha, nd'.1⟩
      | succ i =>
        obtain ⟨p, qs, dss, a, b, c1, d1, e1, f1⟩ := ih nd'.2.1 (i := i) (by simpa using hm) (by simpa using hd)
        exact ⟨p, qs, dss, by simpa using a, b, c1, d1, fun x hx => List.mem_append_right _ (e1 x hx), f1⟩
  exact key r.sl r.nd hm hd
theorem atI_map {α β : Type} (f : α → β) (xs : List α) (i : Int) : L2.atI (xs.map f) i = (L2.atI xs i).map f := by
  unfold L2.atI
  rw [List.length_map]
  cases ixN xs.length i with
  | none => rfl
  | some j => simp
/-- rows[a][b] -/
theorem sem_ix2 {i : Nat} {ta tb : TE} {a b : Env → M D} (hm : Γ[i]? = some .own2) (ha : SemV s Γ ta a) (hb : SemV s Γ tb b) : SemE s Γ (tOp (rIx K) (tOp (rIx K) (tVar i) ta) tb) (bin gIx (bin gIx (eVar i) a) b) := by
  intro c ρ ps σ H Q P hc r q k
  obtain ⟨d, hd, q⟩ := eVar_get q
  obtain ⟨p, qs, dss, ho, rfl, hp, rw0, sub, nd⟩ := r.own2At hm hd
  refine ⟨_, ho, ?_⟩
  refine ha c ρ ps σ H _ _ hc r q fun x u H1 q1 e1 d1 => ?_
  have r1 := r.stp e1
  have hp1 : H1 p = some (.lst (qs.map V.ref)) := e1.keep _ _ hp (r.ownA (sub p (by simp)))
  have rw1 : Rows H1 (c.U ps) qs dss := rw0.monoOn (fun z o q n => e1.keep z o q (r.nA n)) (fun _ _ _ q => q) fun z hz o q => e1.keep z o q (r.ownA (sub z (by simp [hz])))
  cases x with
  | int n =>
    have q1 : (match L2.atI (dss.map PyData.list) n with | some d => ret d | none => (stuck : M D)) (fun y => bnd (b ρ) (fun z => gIx y z) P) := q1
    rw [atI_map] at q1
    cases hz : L2.atI dss n with
    | none => rw [hz] at q1; exact False.elim q1
    | some row =>
      rw [hz] at q1
      have q2 : bnd (b ρ) (fun z => gIx (.list row) z) P := q1
      have hj : ∃ j, ixN dss.length n = some j ∧ dss[j]? = some row := by
        unfold L2.atI at hz
        cases zz : ixN dss.length n with
        | none => rw [zz] at hz; cases hz
        | some j => rw [zz] at hz; exact ⟨j, rfl, hz⟩
      obtain ⟨j, j1, j2⟩ := hj
      obtain ⟨qa, vs, g1, g2, g3⟩ := rw1.get j2
      have hat : L2.atI (qs.map V.ref) n = some (.ref qa) := by
        rw [atI_map]
        unfold L2.atI
        rw [rw1.len, j1]
        simp [g1]
      refine .inl ⟨p, _, n, _, rfl, d1.int, SqL.of hp1, hat, ?_⟩
      refine hb c ρ ps σ H1 _ _ hc r1 q2 fun y v H2 q3 e2 d2 => ?_
      have qin : qa ∈ ps := sub qa (by simp [List.mem_of_getElem? g1])
      have g2' : H2 qa = some (.lst vs) := e2.keep _ _ g2 (r.ownA qin)
      have dn2 := g3.stp r.ok e2
      cases y with
      | int m =>
        have q3 : (match L2.atI row m with | some d => ret d | none => (stuck : M D)) P := q3
        cases z : L2.atI row m with
        | none => rw [z] at q3; exact False.elim q3
        | some d =>
          rw [z] at q3
          obtain ⟨w, w1, w2⟩ := dn2.atI z
          exact .inl ⟨qa, vs, m, w, rfl, d2.int, SqL.of g2', w1, k _ _ H2 q3 (e1.trans e2) w2⟩
      | _ => exact False.elim q3
  | _ => exact False.elim q1
/-- len(rows) -/
theorem sem_len2 {i : Nat} (hm : Γ[i]? = some .own2) : SemE s Γ (tCB (rLenA K) (tCons (tVar i) tNil)) (cal cLen (aCons (eVar i) aNil)) := by
  intro c ρ ps σ H Q P hc r q k
  obtain ⟨d, hd, q⟩ := eVar_get q
  obtain ⟨p, qs, dss, ho, rfl, hp, rw0, sub, nd⟩ := r.own2At hm hd
  have q' : P (.int ((dss.map PyData.list).length : Nat)) := q
  refine ⟨_, ho, p, _, rfl, .inl (SqL.of hp), ?_⟩
  have e : (qs.map V.ref).length = (dss.map PyData.list).length := by rw [List.length_map, List.length_map, rw0.len]
  rw [e]
  exact k _ _ H q' (Stp.refl c H) (.int _)
/-- rows[a][b] = e -/
def putRow (i : Nat) (l x row y d : D) (ρ : Env) : M Out := match l, x, row, y with
  | .list rows, .int n, .list r, .int m => match ixN rows.length n with
    | some j => match ixN r.length m with
      | some k => ret (.nx (ρ.set i (some (.list (rows.set j (.list (r.set k d)))))))
      | none => stuck
    | none => stuck
  | _, _, _, _ => stuck
def sSet2 (i : Nat) (a b e : Env → M D) : Env → M Out := fun ρ => bnd (e ρ) fun d => bnd (eVar i ρ) fun l => bnd (a ρ) fun x => bnd (gIx l x) fun row => bnd (b ρ) fun y => putRow i l x row y d ρ
theorem own2_uniq {c : Fx} {H : Hp} {U : AS} {p : Addr} {qs : List Addr} {d : D} (hp : H p = some (.lst (qs.map V.ref))) : ∀ qs', SlotR c H U .own2 (some d) (some (.ref p)) qs' → qs' = p :: qs := by
  intro qs' h
  cases h with
  | @own2 _ qs2 dss a1 a2 =>
    rw [hp] at a1
    have e : qs.map V.ref = qs2.map V.ref := by injection a1 with a1; injection a1
    have inj : ∀ x y : List Addr, x.map V.ref = y.map V.ref → x = y := by
      intro x
      induction x with
      | nil => intro y e; cases y with | nil => rfl | cons _ _ => simp at e
      | cons a x ih =>
        intro y e
        cases y with
        | nil => simp at e
        | cons b y =>
          simp only [List.map_cons, List.cons.injEq, V.ref.injEq] at e
          rw [e.1, ih y e.2]
    rw [inj _ _ e]
theorem sem_set2 {i : Nat} {t u w : TE} {e a b : Env → M D} (hm : Γ[i]? = some .own2) (he : SemE s Γ t e) (ha : SemV s Γ u a) (hb : SemV s Γ w b) : SemS s Γl Γ Γ (tAsg t (L2.gSub (tOp (rIx K) (tVar i) u) w rSetL)) (sSet2 i a b e) := by
  intro c ρ ps σ H E P hc r q k
  refine he c ρ ps σ H _ _ hc r q fun d v H0 q0 e0 d0 => ?_
  have r0 := r.stp e0
  obtain ⟨l, hl, q0⟩ := eVar_get q0
  obtain ⟨p, qs, dss, ho, rfl, hp, rw0, sub, nd⟩ := r0.own2At hm hl
  refine ⟨_, ho, ?_⟩
  refine ha c ρ ps σ H0 _ _ hc r0 q0 fun x ux H1 q1 e1 d1 => ?_
  have r1 := r0.stp e1
  have hp1 : H1 p = some (.lst (qs.map V.ref)) := e1.keep _ _ hp (r.ownA (sub p (by simp)))
  have rw1 : Rows H1 (c.U ps) qs dss := rw0.monoOn (fun z o q n => e1.keep z o q (r0.nA n)) (fun _ _ _ q => q) fun z hz o q => e1.keep z o q (r.ownA (sub z (by simp [hz])))
  cases x with
  | int n =>
    have q1 : (match L2.atI (dss.map PyData.list) n with | some d => ret d | none => (stuck : M D)) (fun row => bnd (b ρ) (fun y => putRow i (.list (dss.map .list)) (.int n) row y d ρ) P) := q1
    rw [atI_map] at q1
    cases hz : L2.atI dss n with
    | none => rw [hz] at q1; exact False.elim q1
    | some row =>
      rw [hz] at q1
      have q2 : bnd (b ρ) (fun y => putRow i (.list (dss.map .list)) (.int n) (.list row) y d ρ) P := q1
      obtain ⟨j, j1, j2⟩ : ∃ j, ixN dss.length n = some j ∧ dss[j]? = some row := by
        unfold L2.atI at hz
        cases zz : ixN dss.length n with
        | none => rw [zz] at hz; cases hz
        | some j => rw [zz] at hz; exact ⟨j, rfl, hz⟩
      obtain ⟨qa, vs, g1, g2, g3⟩ := rw1.get j2
      have hat : L2.atI (qs.map V.ref) n = some (.ref qa) := by
        rw [atI_map]
        unfold L2.atI
        rw [rw1.len, j1]
        simp [g1]
      refine .inl ⟨p, _, n, _, rfl, d1.int, SqL.of hp1, hat, ?_⟩
      refine hb c ρ ps σ H1 _ _ hc r1 q2 fun y v2 H2 q3 e2 d2 => ?_
      have qin : qa ∈ ps := sub qa (by simp [List.mem_of_getElem? g1])
      have r2 := r1.stp e2
      have g2' : H2 qa = some (.lst vs) := e2.keep _ _ g2 (r.ownA qin)
      have dn2 := g3.stp r.ok e2
      have hp2 : H2 p = some (.lst (qs.map V.ref)) := e2.keep _ _ hp1 (r.ownA (sub p (by simp)))
      have rw2 : Rows H2 (c.U ps) qs dss := rw1.monoOn (fun z o q n => e2.keep z o q (r1.nA n)) (fun _ _ _ q => q) fun z hz o q => e2.keep z o q (r.ownA (sub z (by simp [hz])))
      cases y with
      | int m =>
        have q3 : (match ixN (dss.map PyData.list).length n with
          | some j => match ixN row.length m with
            | some k => ret (Out.nx (ρ.set i (some (.list ((dss.map PyData.list).set j (.list (row.set k d)))))))
            | none => stuck
          | none => (stuck : M Out)) P := q3
        rw [List.length_map, j1] at q3
        cases z : ixN row.length m with
        | none => rw [z] at q3; exact False.elim q3
        | some kk =>
          rw [z] at q3
          have q4 : P (Out.nx (ρ.set i (some (.list ((dss.map PyData.list).set j (.list (row.set kk d))))))) := q3
          have dv : Den H2 (c.U ps) v d := (d0.stp r.ok e1).stp r.ok e2
          refine ⟨qa, vs, m, kk, rfl, d2.int, g2', by rw [g3.length]; exact z, ?_⟩
          -- the new heap
          have pq : p ≠ qa := fun e => (List.nodup_cons.mp nd).1 (by rw [e]; exact List.mem_of_getElem? g1)
          have hU : c.U ps qa := .inr qin
          have same : ∀ a o, a ≠ qa → H2 a = some o → (upd H2 qa (.lst (vs.set kk v))) a = some o := fun a o n e => by rw [upd_ne n]; exact e
          have off : ∀ a o, H2 a = some o → ¬ c.U ps a → (upd H2 qa (.lst (vs.set kk v))) a = some o := fun a o e n => same a o (fun z => n (by rw [z]; exact hU)) e
          have d3 : DenL (upd H2 qa (.lst (vs.set kk v))) (c.U ps) (vs.set kk v) (row.set kk d) := (DenL.set dv kk dn2).mono off fun _ _ _ q => q
          have rw3 : Rows (upd H2 qa (.lst (vs.set kk v))) (c.U ps) qs (dss.set j (row.set kk d)) := by
            have nq : qs.Nodup := (List.nodup_cons.mp nd).2
            have go : ∀ {qs : List Addr} {dss : List (List D)} {j : Nat}, Rows H2 (c.U ps) qs dss → qs.Nodup → qs[j]? = some qa → Rows (upd H2 qa (.lst (vs.set kk v))) (c.U ps) qs (dss.set j (row.set kk d)) := by
              intro qs dss j h
              induction h generalizing j with
              | nil => intro _ e; simp at e
              | @cons q0 qs0 vs0 ds0 dss0 a1 a2 a3 ih =>
                intro nq0 e
                have nq1 := List.nodup_cons.mp nq0
                cases j with
                | zero =>
                  simp at e
                  subst e
                  exact .cons upd_same d3 (a3.monoOn off (fun _ _ _ q => q) fun z hz o q => same z o (fun e => nq1.1 (by rw [← e]; exact hz)) q)
                | succ j =>
                  have e' : qs0[j]? = some qa := by simpa using e
                  have nz : q0 ≠ qa := fun e2 => nq1.1 (by rw [e2]; exact List.mem_of_getElem? e')
                  exact .cons (same _ _ nz a1) (a2.mono off fun _ _ _ q => q) (ih nq1.2 e')
            exact go rw2 nq g1
          have hp3 : (upd H2 qa (.lst (vs.set kk v))) p = some (.lst (qs.map V.ref)) := same _ _ pq hp2
          have eset : (dss.map PyData.list).set j (.list (row.set kk d)) = (dss.set j (row.set kk d)).map PyData.list := by rw [List.map_set]
          rw [eset] at q4
          obtain ⟨ps', sl, pm⟩ := r2.sl.updP (q := qa) (H' := upd H2 qa (.lst (vs.set kk v))) hU same (qs0 := p :: qs) (qs' := p :: qs) (by simp [List.mem_of_getElem? g1]) (SlotR.own2 hp3 rw3) (List.Perm.refl _) r2.nd (own2_uniq hp2) hm hl ho
          refine k.nx _ ps' σ _ q4 (r2.perm (fun a o n e => same a o (fun z => n (by rw [z]; exact qin)) e) (fun a ha => ?_) (r2.sz.upd fun zs q => ?_) sl pm)
          · by_cases e : a = qa
            · subst e; exact ⟨_, upd_same⟩
            · obtain ⟨xs, hx, hy⟩ := r2.sl.loose a ha
              exact ⟨xs, same a _ e hx⟩
          · rcases q with q | q <;> cases q
            rw [List.length_set]
            exact r2.sz qa vs (.inl g2')
      | _ => exact False.elim q3
  | _ => exact False.elim q1

/-- rows[k], rows[some[0]] = rows[some[0]], rows[k] -/
def swapR (i : Nat) (l s x : D) (ρ : Env) : M Out := match l, s, x with
  | .list rows, .list (.int m :: _), .int n => match ixN rows.length n with
    | some a => match ixN rows.length m with
      | some b => match rows[a]? with
        | some ra => match rows[b]? with
          | some rb => ret (.nx (ρ.set i (some (.list ((rows.set a rb).set b ra)))))
          | none => stuck
        | none => stuck
      | none => stuck
    | none => stuck
  | _, _, _ => stuck
def sSwap (i ik is : Nat) : Env → M Out := fun ρ => bnd (eVar i ρ) fun l => bnd (eVar is ρ) fun s => bnd (eVar ik ρ) fun x => swapR i l s x ρ
theorem swapR_get {i : Nat} {rows : List D} {s x : D} {ρ : Env} {P : Out → Prop} (h : swapR i (.list rows) s x ρ P) : ∃ m tl n a b ra rb, s = .list (.int m :: tl) ∧ x = .int n ∧ ixN rows.length n = some a ∧ ixN rows.length m = some b ∧ rows[a]? = some ra ∧ rows[b]? = some rb ∧ P (.nx (ρ.set i (some (.list ((rows.set a rb).set b ra))))) := by
  cases s with
  | list ss =>
    cases ss with
    | nil => exact False.elim h
    | cons hd tl =>
      cases hd with
      | int m =>
        cases x with
        | int n =>
          have h : (match ixN rows.length n with
            | some a => match ixN rows.length m with
              | some b => match rows[a]? with
                | some ra => match rows[b]? with
                  | some rb => ret (Out.nx (ρ.set i (some (.list ((rows.set a rb).set b ra)))))
                  | none => stuck
                | none => stuck
              | none => stuck
            | none => (stuck : M Out)) P := h
          cases ea : ixN rows.length n with
          | none => rw [ea] at h; exact False.elim h
          | some a =>
            rw [ea] at h
            cases eb : ixN rows.length m with
            | none => rw [eb] at h; exact False.elim h
            | some b =>
              rw [eb] at h
              dsimp only at h
              cases ra : rows[a]? with
              | none => rw [ra] at h; exact False.elim h
              | some x =>
                rw [ra] at h
                cases rb : rows[b]? with
                | none => rw [rb] at h; exact False.elim h
                | some y =>
                  rw [rb] at h
                  exact ⟨m, tl, n, a, b, x, y, rfl, rfl, ea, eb, ra, rb, h⟩
        | _ => exact False.elim h
      | _ => cases x <;> exact False.elim h
  | _ => cases x <;> exact False.elim h
theorem perm_swap {α : Type} : ∀ {xs : List α} {a b : Nat} {x y : α}, xs[a]? = some x → xs[b]? = some y → ((xs.set a y).set b x).Perm xs := by
  intro xs a b x y ha hb
  obtain ⟨la, ea⟩ := List.getElem?_eq_some_iff.mp ha
  obtain ⟨lb, eb⟩ := List.getElem?_eq_some_iff.mp hb
  subst ea eb
  exact List.set_set_perm la lb
theorem sem_swap {i ik is : Nat} (hm : Γ[i]? = some .own2) (hk : Γ[ik]? = some .fro) (hs : Γ[is]? = some .fro) :
    SemS s Γl Γ Γ (tAsg (tTup (tCons (tOp (rIx K) (tVar i) (tOp (rIx K) (tVar is) (tC (.int 0)))) (tCons (tOp (rIx K) (tVar i) (tVar ik)) tNil)))
      (gTup K 2 (gCons (L2.gSub (tVar i) (tVar ik) rSetL) (gCons (L2.gSub (tVar i) (tOp (rIx K) (tVar is) (tC (.int 0))) rSetL) gNil)))) (sSwap i ik is) := by
  intro c ρ ps σ H E P hc r q k
  obtain ⟨l, hl, q⟩ := eVar_get q
  obtain ⟨sd, hsd, q⟩ := eVar_get q
  obtain ⟨xd, hxd, q⟩ := eVar_get q
  obtain ⟨p, qs, dss, ho, rfl, hp, rw0, sub, nd⟩ := r.own2At hm hl
  obtain ⟨m, tl, n, a, b, ra, rb, rfl, rfl, ea, eb, eRa, eRb, q⟩ := swapR_get q
  rw [List.length_map] at ea eb
  rw [List.getElem?_map, Option.map_eq_some_iff] at eRa eRb
  obtain ⟨da, hda, rfl⟩ := eRa
  obtain ⟨db, hdb, rfl⟩ := eRb
  obtain ⟨qa, va, ga, _, _⟩ := rw0.get hda
  obtain ⟨qb, vb, gb, _, _⟩ := rw0.get hdb
  obtain ⟨os, _, hos, sls, _⟩ := r.sl.get hs hsd
  obtain ⟨ok, _, hok, slk, _⟩ := r.sl.get hk hxd
  cases sls with
  | fro ds =>
    cases slk with
    | fro dk =>
      cases dk
      cases ds with
      | @lst sa xs _ h1 h2 h3 =>
        cases h3 with
        | @cons v0 xs0 _ _ d1 d2 =>
          cases d1
          have pin : p ∈ ps := sub p (by simp)
          have lq : qs.length = dss.length := rw0.len
          have at0 : ∀ H', H' sa = some (.lst (.int m :: xs0)) → ∀ Q : VK, Q (.int m) H' → tOp (rIx K) (tVar is) (tC (.int 0)) σ H' Q := fun H' e Q q => ⟨_, hos, .inl ⟨sa, _, 0, .int m, rfl, rfl, SqL.of e, atI_nat (j := 0) rfl, q⟩⟩
          have ixA : L2.atI (qs.map V.ref) n = some (.ref qa) := by
            rw [atI_map]; unfold L2.atI; rw [lq, ea]; simp [ga]
          have ixB : L2.atI (qs.map V.ref) m = some (.ref qb) := by
            rw [atI_map]; unfold L2.atI; rw [lq, eb]; simp [gb]
          refine ⟨_, ho, at0 H h1 _ ?_⟩
          refine .inl ⟨p, _, m, _, rfl, rfl, SqL.of hp, ixB, ?_⟩
          refine ⟨_, ho, _, hok, .inl ⟨p, _, n, _, rfl, rfl, SqL.of hp, ixA, ?_⟩⟩
          refine ⟨by show 2 ≤ sizeLine; decide, fun T hT => ?_⟩
          have sT : ∀ z o, H z = some o → (upd H T (.tup [.ref qb, .ref qa])) z = some o := fun z o e => upd_keep hT z o e
          have hpT := sT p _ hp
          refine ⟨T, _, rfl, SqT.of upd_same, rfl, _, _, rfl, ?_⟩
          refine ⟨_, ho, _, hok, p, _, n, a, rfl, rfl, hpT, by rw [List.length_map, lq]; exact ea, ?_⟩
          have psa : sa ≠ p := fun e => h2 (.inr (by rw [e]; exact pin))
          refine ⟨_, _, rfl, _, ho, at0 _ (by rw [upd_ne psa]; exact sT sa _ h1) _ ?_⟩
          refine ⟨p, _, m, b, rfl, rfl, upd_same, by rw [List.length_set, List.length_map, lq]; exact eb, ?_⟩
          refine ⟨rfl, ?_⟩
          rw [upd_upd]
          have eq1 : (((qs.map V.ref).set a (.ref qb)).set b (.ref qa)) = ((qs.set a qb).set b qa).map V.ref := by rw [List.map_set, List.map_set]
          rw [eq1]
          have eq2 : (((dss.map PyData.list).set a (.list db)).set b (.list da)) = ((dss.set a db).set b da).map PyData.list := by rw [List.map_set, List.map_set]
          rw [eq2] at q
          have pmq : ((qs.set a qb).set b qa).Perm qs := perm_swap ga gb
          have hU : c.U ps p := .inr pin
          have rT : R c Γ ρ ps σ (upd H T (.tup [.ref qb, .ref qa])) := r.stp (Stp.tup r.ok hT (by show 2 ≤ sizeLine; decide))
          have rowsT : Rows (upd H T (.tup [.ref qb, .ref qa])) (c.U ps) qs dss := rw0.monoOn (fun z o q _ => sT z o q) (fun _ _ _ q => q) fun z hz o q => sT z o q
          have same : ∀ z o, z ≠ p → (upd H T (.tup [.ref qb, .ref qa])) z = some o → (upd (upd H T (.tup [.ref qb, .ref qa])) p (.lst (((qs.set a qb).set b qa).map V.ref))) z = some o := fun z o n e => by rw [upd_ne n]; exact e
          have off : ∀ z o, (upd H T (.tup [.ref qb, .ref qa])) z = some o → ¬ c.U ps z → (upd (upd H T (.tup [.ref qb, .ref qa])) p (.lst (((qs.set a qb).set b qa).map V.ref))) z = some o := fun z o e n => same z o (fun w => n (by rw [w]; exact hU)) e
          have nq := List.nodup_cons.mp nd
          have rows2 : Rows (upd (upd H T (.tup [.ref qb, .ref qa])) p (.lst (((qs.set a qb).set b qa).map V.ref))) (c.U ps) qs dss := rowsT.monoOn off (fun _ _ _ q => q) fun z hz o q => same z o (fun e => nq.1 (by rw [← e]; exact hz)) q
          obtain ⟨qa', va', ga', ha1, ha2⟩ := rows2.get hda
          obtain ⟨qb', vb', gb', hb1, hb2⟩ := rows2.get hdb
          rw [ga] at ga'; cases ga'
          rw [gb] at gb'; cases gb'
          have rows3 := Rows.set ha1 ha2 b (Rows.set hb1 hb2 a rows2)
          obtain ⟨ps', sl, pm⟩ := rT.sl.updP (q := p) hU same (qs0 := p :: qs) (qs' := p :: ((qs.set a qb).set b qa)) (by simp) (SlotR.own2 upd_same rows3) (pmq.cons p) rT.nd (own2_uniq hpT) hm hl ho
          refine k.nx _ ps' σ _ q (rT.perm (fun z o n e => same z o (fun w => n (by rw [w]; exact pin)) e) (fun z hz => ?_) (rT.sz.upd fun zs q => ?_) sl pm)
          · by_cases e : z = p
            · subst e; exact ⟨_, upd_same⟩
            · obtain ⟨xs, hx, hy⟩ := rT.sl.loose z hz
              exact ⟨xs, same z _ e hx⟩
          · rcases q with q | q <;> cases q
            have := rT.sz p _ (.inl hpT)
            rw [List.length_map] at this ⊢
            rw [pmq.length_eq]; exact this

/-- rows, u, w = [list(row) for row in rows], 1, 1 -/
def rowsD : List D → Option (List (List D))
  | [] => some []
  | .list r :: t => (rowsD t).map (r :: ·)
  | .tuple r :: t => (rowsD t).map (r :: ·)
  | _ => none
def sMk2 (i j l : Nat) (x y : Int) : Env → M Out := fun ρ => bnd (eVar i ρ) fun d => bnd (seqD d) fun ds => match rowsD ds with
  | some dss => ret (.nx (((ρ.set i (some (.list (dss.map .list)))).set j (some (.int x))).set l (some (.int y))))
  | none => stuck
theorem rowsD_get : ∀ {ds : List D} {dss : List (List D)}, rowsD ds = some dss → ∀ {k : Nat} {d : D}, ds[k]? = some d → ∃ r, dss[k]? = some r ∧ (d = .list r ∨ d = .tuple r)
  | [], _, h, k, d, e => by simp at e
  | .list r :: t, _, h, k, d, e => by
    simp only [rowsD, Option.map_eq_some_iff] at h
    obtain ⟨u, hu, rfl⟩ := h
    cases k with
    | zero => simp at e; subst e; exact ⟨r, rfl, .inl rfl⟩
    | succ k =>
      obtain ⟨r', e1, e2⟩ := rowsD_get hu (k := k) (by simpa using e)
      exact ⟨r', by simpa using e1, e2⟩
  | .tuple r :: t, _, h, k, d, e => by
    simp only [rowsD, Option.map_eq_some_iff] at h
    obtain ⟨u, hu, rfl⟩ := h
    cases k with
    | zero => simp at e; subst e; exact ⟨r, rfl, .inr rfl⟩
    | succ k =>
      obtain ⟨r', e1, e2⟩ := rowsD_get hu (k := k) (by simpa using e)
      exact ⟨r', by simpa using e1, e2⟩
  | .none :: _, _, h, _, _, _ => by simp [rowsD] at h
  | .bool _ :: _, _, h, _, _, _ => by simp [rowsD] at h
  | .int _ :: _, _, h, _, _, _ => by simp [rowsD] at h
  | .str _ :: _, _, h, _, _, _ => by simp [rowsD] at h
  | .dict _ :: _, _, h, _, _, _ => by simp [rowsD] at h
theorem rowsD_len : ∀ {ds : List D} {dss : List (List D)}, rowsD ds = some dss → dss.length = ds.length
  | [], _, h => by simp [rowsD] at h; subst h; rfl
  | .list r :: t, _, h => by
    simp only [rowsD, Option.map_eq_some_iff] at h
    obtain ⟨u, hu, rfl⟩ := h
    simp [rowsD_len hu]
  | .tuple r :: t, _, h => by
    simp only [rowsD, Option.map_eq_some_iff] at h
    obtain ⟨u, hu, rfl⟩ := h
    simp [rowsD_len hu]
  | .none :: _, _, h => by simp [rowsD] at h
  | .bool _ :: _, _, h => by simp [rowsD] at h
  | .int _ :: _, _, h => by simp [rowsD] at h
  | .str _ :: _, _, h => by simp [rowsD] at h
  | .dict _ :: _, _, h => by simp [rowsD] at h
/-- lists that H2 holds at qs, of what H1 knows -/
inductive RowsF (H1 H2 : Hp) (U : AS) : List Addr → List (List D) → Prop
  | nil : RowsF H1 H2 U [] []
  | snoc {q : Addr} {qs : List Addr} {vs : List V} {ds : List D} {dss : List (List D)} : RowsF H1 H2 U qs dss → H2 q = some (.lst vs) → DenL H1 U vs ds → RowsF H1 H2 U (qs ++ [q]) (dss ++ [ds])
theorem Rows.snoc {H : Hp} {U : AS} {q : Addr} {vs : List V} {ds : List D} (h1 : H q = some (.lst vs)) (h2 : DenL H U vs ds) : ∀ {qs : List Addr} {dss : List (List D)}, Rows H U qs dss → Rows H U (qs ++ [q]) (dss ++ [ds])
  | _, _, .nil => .cons h1 h2 .nil
  | _, _, .cons a b t => .cons a b (Rows.snoc h1 h2 t)
theorem RowsF.rows {H1 H2 : Hp} {U U' : AS} (e : ∀ a o, H1 a = some o → H2 a = some o) (u : ∀ a o, H1 a = some o → U' a → U a) {qs : List Addr} {dss : List (List D)} (h : RowsF H1 H2 U qs dss) : Rows H2 U' qs dss := by
  induction h with
  | nil => exact .nil
  | snoc _ h1 h2 ih => exact ih.snoc h1 (h2.mono (fun a o q _ => e a o q) u)
theorem RowsF.keep {H1 H2 H3 : Hp} {U : AS} {qs : List Addr} {dss : List (List D)} (h : RowsF H1 H2 U qs dss) (e : ∀ q ∈ qs, ∀ o, H2 q = some o → H3 q = some o) : RowsF H1 H3 U qs dss := by
  induction h with
  | nil => exact .nil
  | snoc _ h1 h2 ih => exact .snoc (ih fun q hq => e q (List.mem_append_left _ hq)) (e _ (by simp) _ h1) h2
theorem sem_mk2 {i j l r : Nat} {x y : Int} (hi : Γ[i]? = some .fro) (hj : Γ[j]? = some .fro) (hl : Γ[l]? = some .fro) (hij : i ≠ j) (hil : i ≠ l) (hr : Γ[r]? = some .fro) (hri : r ≠ i) :
    SemS s Γl Γ (Γ.set i .own2) (tAsg (tTup (tCons (tLc (iSeq K (tVar i)) (gName r) tYes (tCB (rLstOf K) (tCons (tVar r) tNil)) [r]) (tCons (tC (.int x)) (tCons (tC (.int y)) tNil))))
      (gTup K 3 (gCons (gName i) (gCons (gName j) (gCons (gName l) gNil))))) (sMk2 i j l x y) := by
  intro c ρ ps σ H E P hc r0 q k
  obtain ⟨d, hd, q⟩ := eVar_get q
  obtain ⟨ds, ed, q⟩ := seqD_get q
  obtain ⟨o, _, ho, sl, _⟩ := r0.sl.get hi hd
  cases hrw : rowsD ds with
  | none => rw [hrw] at q; exact False.elim q
  | some dss =>
    rw [hrw] at q
    have q : P (Out.nx (((ρ.set i (some (.list (dss.map .list)))).set j (some (.int x))).set l (some (.int y)))) := q
    cases sl with
    | @fro d0 v dn0 =>
      obtain ⟨a, xs, b, rfl, _, dn, nu, hh⟩ := dn0.seqU (K := K) ed
      have len := dn.length
      have lrs := rowsD_len hrw
      have main : ∀ J : It, (∀ n H', (∀ a o, H a = some o → H' a = some o) → n < ds.length → J.go n H') → (∀ H', (∀ a o, H a = some o → H' a = some o) → J.stop ds.length H') →
          (∀ n xv H' H'', (∀ a o, H a = some o → H' a = some o) → J.yld n H' xv H'' → H'' = H' ∧ xs[n]? = some xv) → ∀ Dd, H Dd = none → ∀ Qd : Hp → Prop, (∀ H2 qs, (∀ a o, H a = some o → H2 a = some o) → Sz H2 → H2 Dd = some (.lst (qs.map V.ref)) → RowsF H H2 (c.U ps) qs dss → (Dd :: qs).Nodup → (∀ z ∈ qs, H z = none) → Qd H2) →
          ∃ W : Nat → Nat → Hp → Prop, (∃ m, W 0 m (upd H Dd (.lst []))) ∧ ∀ i m H', W i m H' → (J.stop i H' ∧ Qd H') ∨ (J.go i H' ∧ ∃ Nx : Hp → Prop, (∀ H', Nx H' → ∃ m', m' < m ∧ W (i + 1) m' H') ∧ ∀ x H'', J.yld i H' x H'' → gName r x (wipe σ [r]) H'' fun σ2 H2 => wipe σ2 [r] = wipe σ [r] ∧ tYes σ2 H2 fun b H3 =>
            if b = true then tCB (rLstOf K) (tCons (tVar r) tNil) σ2 H3 fun y H4 => ∃ acc, H4 Dd = some (.lst acc) ∧ acc.length < sizeLine ∧ Nx (upd H4 Dd (.lst (acc ++ [y]))) else Nx H3) := by
        intro J hgo hstop hyld Dd hD Qd fin
        have lz : ds.length ≤ sizeLine := by rw [← len]; exact sz_seq r0.sz hh
        refine ⟨fun n m H' => m = ds.length - n ∧ n ≤ ds.length ∧ ∃ qs, (∀ a o, H a = some o → H' a = some o) ∧ Sz H' ∧ H' Dd = some (.lst (qs.map V.ref)) ∧ RowsF H H' (c.U ps) qs (dss.take n) ∧ (Dd :: qs).Nodup ∧ (∀ z ∈ qs, H z = none) ∧ qs.length = n,
          ⟨ds.length, by simp, Nat.zero_le _, [], fun a o e => upd_keep hD a o e, r0.sz.upd fun zs q => by rcases q with q | q <;> cases q; exact Nat.zero_le _, upd_same, .nil, by simp, fun z hz => absurd hz (by simp), rfl⟩, ?_⟩
        rintro n m H' ⟨rfl, hle, qs, up, sz, hDd, rf, nd, fr, lq⟩
        by_cases hlt : n < ds.length
        · refine .inr ⟨hgo n H' up hlt, fun H'' => n + 1 ≤ ds.length ∧ ∃ qs, (∀ a o, H a = some o → H'' a = some o) ∧ Sz H'' ∧ H'' Dd = some (.lst (qs.map V.ref)) ∧ RowsF H H'' (c.U ps) qs (dss.take (n + 1)) ∧ (Dd :: qs).Nodup ∧ (∀ z ∈ qs, H z = none) ∧ qs.length = n + 1,
            fun H'' h => ⟨ds.length - (n + 1), by omega, rfl, h⟩, fun xv H'' yl => ?_⟩
          obtain ⟨rfl, hxv⟩ := hyld n xv H' H'' up yl
          have hdn : ds[n]? = some ds[n] := by simp [hlt]
          obtain ⟨row, er, ekind⟩ := rowsD_get hrw hdn
          obtain ⟨w, ew, dw⟩ := dn.get hdn
          rw [hxv] at ew
          cases ew
          obtain ⟨ra, ys, rb, rfl, _, dny, nuy, hhy⟩ := dw.seqU (K := K) ekind
          have hrs : r < σ.length := by have h1 := (List.getElem?_eq_some_iff.mp hr).1; have := r0.sl.len; omega
          have hget : ((wipe σ [r]).set r (some (.ref ra)))[r]? = some (some (.ref ra)) := by
            rw [List.getElem?_set_self (by show r < (wipe σ [r]).length; rw [wipe_length]; exact hrs)]
          refine ⟨by show ((σ.set r none).set r _).set r none = σ.set r none; simp, ?_⟩
          refine iteT (B := False) ?_
          have hys : SqL K H'' ra ys ∨ SqT K H'' ra ys := by
            rcases hhy with ⟨h1, _⟩ | ⟨h1, _⟩
            · exact .inl (SqL.of (up _ _ h1))
            · exact .inr (SqT.of (up _ _ h1))
          refine ⟨_, hget, ra, ys, rfl, hys, fun lq' hlq => ?_⟩
          have ne : Dd ≠ lq' := ne_of_none hDd hlq
          refine ⟨_, by rw [upd_ne ne]; exact hDd, by rw [List.length_map, lq]; omega, hlt, qs ++ [lq'], fun z o e => ?_, ?_, ?_, ?_, ?_, ?_, by rw [List.length_append, lq]; rfl⟩
          · rw [upd_ne (ne_of_none e hD)]; exact upd_keep hlq z o (up z o e)
          · refine Sz.upd (Sz.upd sz ?_) ?_
            · intro zs q; rcases q with q | q <;> cases q; exact sz_seq r0.sz hhy
            · intro zs q; rcases q with q | q <;> cases q
              rw [List.length_append, List.length_map, lq]; show n + 1 ≤ sizeLine; omega
          · rw [upd_same, List.map_append]; rfl
          · rw [List.take_add_one, er]
            refine RowsF.snoc (rf.keep fun z hz o e => ?_) (vs := ys) ?_ dny
            · have zn : z ≠ Dd := fun w => (List.nodup_cons.mp nd).1 (by rw [← w]; exact hz)
              rw [upd_ne zn]; exact upd_keep hlq z o e
            · rw [upd_ne ne.symm, upd_same]
          · have nd' := List.nodup_cons.mp nd
            have nq : lq' ∉ qs := fun z => by
              have key : ∀ {qs : List Addr} {dss : List (List D)}, RowsF H H'' (c.U ps) qs dss → ∀ z ∈ qs, ∃ vs, H'' z = some (.lst vs) := by
                intro qs dss h
                induction h with
                | nil => intro z hz; simp at hz
                | snoc _ h1 _ ih =>
                  intro z hz
                  rcases List.mem_append.mp hz with hz | hz
                  · exact ih z hz
                  · rw [List.mem_singleton.mp hz]; exact ⟨_, h1⟩
              obtain ⟨vs, hv⟩ := key rf _ z
              rw [hlq] at hv; cases hv
            refine List.nodup_cons.mpr ⟨fun z => ?_, List.nodup_append.mpr ⟨nd'.2, by simp, fun x hx y hy e => ?_⟩⟩
            · rcases List.mem_append.mp z with z | z
              · exact nd'.1 z
              · exact ne (List.mem_singleton.mp z)
            · rw [List.mem_singleton.mp hy] at e; rw [e] at hx; exact nq hx
          · intro z hz
            rcases List.mem_append.mp hz with hz | hz
            · exact fr z hz
            · rw [List.mem_singleton.mp hz]
              cases q : H lq' with
              | none => rfl
              | some o => rw [up _ _ q] at hlq; cases hlq
        · have e : n = ds.length := by omega
          subst e
          rw [← lrs, List.take_length] at rf
          exact .inl ⟨hstop H' up, fin H' qs up sz hDd rf nd fr⟩
      have Up : ∀ {b : Addr} {o : HO} {H' : Hp}, (∀ a o, H a = some o → H' a = some o) → H b = some o → H' b = some o := fun u e => u _ _ e
      -- behind the comprehension
      have after : ∀ Dd, H Dd = none → ∀ H2 qs, (∀ a o, H a = some o → H2 a = some o) → Sz H2 → H2 Dd = some (.lst (qs.map V.ref)) → RowsF H H2 (c.U ps) qs dss → (Dd :: qs).Nodup → (∀ z ∈ qs, H z = none) →
          ([V.ref Dd, V.int x, V.int y].length ≤ sizeLine ∧ ∀ T, H2 T = none → (gTup K 3 (gCons (gName i) (gCons (gName j) (gCons (gName l) gNil)))) (.ref T) σ (upd H2 T (.tup [V.ref Dd, V.int x, V.int y])) E.nx) := by
        intro Dd hD H2 qs up sz hDd rf nd fr
        refine ⟨by show 3 ≤ sizeLine; decide, fun T hT => ⟨T, _, rfl, SqT.of upd_same, rfl, _, _, rfl, _, _, rfl, _, _, rfl, rfl, ?_⟩⟩
        have e2 : Stp c H H2 := Stp.same r0.ok up fun _ => sz
        have eT : Stp c H2 (upd H2 T (.tup [V.ref Dd, V.int x, V.int y])) := Stp.tup r0.ok hT (by show 3 ≤ sizeLine; decide)
        have rT := (r0.stp e2).stp eT
        have upT : ∀ a o, H a = some o → (upd H2 T (.tup [V.ref Dd, V.int x, V.int y])) a = some o := fun a o e => upd_keep hT a o (up a o e)
        have frA : ∀ z ∈ Dd :: qs, H z = none := fun z hz => by
          rcases List.mem_cons.mp hz with rfl | hz
          · exact hD
          · exact fr z hz
        have rows : Rows (upd H2 T (.tup [V.ref Dd, V.int x, V.int y])) (fun a => c.U ps a ∨ a ∈ Dd :: qs) qs dss := by
          have rfT : RowsF H (upd H2 T (.tup [V.ref Dd, V.int x, V.int y])) (c.U ps) qs dss := rf.keep fun z hz o e => upd_keep hT z o e
          exact rfT.rows upT fun a o e u => u.elim id fun z => by rw [frA a z] at e; cases e
        have hDT : (upd H2 T (.tup [V.ref Dd, V.int x, V.int y])) Dd = some (.lst (qs.map V.ref)) := upd_keep hT _ _ hDd
        have slT : Slots c (upd H2 T (.tup [V.ref Dd, V.int x, V.int y])) (fun a => c.U ps a ∨ a ∈ Dd :: qs) Γ ρ σ ps := r0.sl.mono (fun a ha o e => upT a o e) (fun a o e _ => upT a o e) fun a o e u => u.elim id fun z => by rw [frA a z] at e; cases e
        have hilt : i < Γ.length := (List.getElem?_eq_some_iff.mp hi).1
        obtain ⟨ps', s1, n1, m1⟩ := slT.put (SlotR.own2 hDT rows) r0.nd nd (fun a ha z => by
          obtain ⟨xs, e, _⟩ := r0.sl.loose a z
          rw [frA a ha] at e; cases e) hilt
        have rN : R c (Γ.set i .own2) (ρ.set i (some (.list (dss.map .list)))) ps' (σ.set i (some (.ref Dd))) _ := rT.ofSlots (qs := Dd :: qs) s1 n1 m1 fun a ha => ⟨r0.fresh0 (frA a ha), r0.nU0 (frA a ha)⟩
        have gj : (Γ.set i .own2)[j]? = some .fro := by rw [List.getElem?_set_ne hij]; exact hj
        have gl : (Γ.set i .own2)[l]? = some .fro := by rw [List.getElem?_set_ne hil]; exact hl
        exact k.nx _ ps' _ _ q ((rN.setFro (Den.int x) gj).setFro (Den.int y) gl)
      rcases hh with ⟨h1, _⟩ | ⟨h1, _⟩
      · refine ⟨_, ho, .inl ⟨a, rfl, ⟨xs, SqL.of h1⟩, fun Dd hD => main (Itl K a) (fun n H' up hn => ⟨xs, xs[n]'(by rw [len]; exact hn), SqL.of (up _ _ h1), by simp [len, hn]⟩) (fun H' up => ⟨xs, SqL.of (up _ _ h1), by rw [len]; exact Nat.le_refl _⟩) (fun n xv H' H'' up yl => ⟨yl.1, yl.2 xs (SqL.of (up _ _ h1))⟩) Dd hD _ fun H2 qs a1 a2 a3 a4 a5 a6 => after Dd hD H2 qs a1 a2 a3 a4 a5 a6⟩⟩
      · refine ⟨_, ho, .inr ⟨a, rfl, ⟨xs, SqT.of h1⟩, fun Dd hD => main (Itt K a) (fun n H' up hn => ⟨xs, xs[n]'(by rw [len]; exact hn), SqT.of (up _ _ h1), by simp [len, hn]⟩) (fun H' up => ⟨xs, SqT.of (up _ _ h1), by rw [len]; exact Nat.le_refl _⟩) (fun n xv H' H'' up yl => ⟨yl.1, yl.2 xs (SqT.of (up _ _ h1))⟩) Dd hD _ fun H2 qs a1 a2 a3 a4 a5 a6 => after Dd hD H2 qs a1 a2 a3 a4 a5 a6⟩⟩
end
end Py
end
section
set_option maxHeartbeats 1000000
/-! PyO: enumerate(zip(a, b)): the inner pair stays within the outer one. -/
namespace Py
open PySem PySem.Spec PyProof.Rows L2 StX
open PySem.W (kdx_alive)

/-- a zip's record, whatever became of the tuple that it gave last -/
abbrev ZipR (h : Heap) (z TI TO : Addr) (g : Value) (f : Bool) : Prop := h.get? z = some { cls := .type "zip", dict := none, data := .fields #[g, .bool f, .bool false, .ref TI, .ref TO], slots := #[] }
def LastOk (g : Value) : Prop := g = .none ∨ ∃ T : Addr, g = rawInt T
section
variable {prog : Program} {w : World} {A : Around} {E : Value → Shared → Prop} {s : Shared} {z TI TO i1 i2 : Addr} {l1 l2 : List Addr} {n1 n2 i : Nat} {P1 P2 : Nat → Value → Prop} {S1 S2 : Nat → Heap → Prop} {g : Value} {f : Bool}
theorem free_or {Q : Bool → Shared → Prop} (zr : ZipR s.heap z TI TO g f) (lk : LastOk g) (yes : Q true s) (no : ∀ h', ZipR h' z TI TO g true → Heap.SameBut z s.heap h' → Q false { s with heap := h' }) :
    wpAny (model prog w) A (Builtin.SmallTypes.ownedTupleIsFree (.ref z)) Q E s := by
  unfold Builtin.SmallTypes.ownedTupleIsFree
  rcases lk with e | ⟨T, e⟩
  · subst e
    exact wpAny_bind (wpAny_field zr rfl (x := .none) rfl (wpAny_pure yes))
  · subst e
    refine wpAny_bind (wpAny_field zr rfl (x := rawInt T) rfl ?_)
    show wpAny _ _ (loadIfAlive ((T : Int).toNat) >>= _) _ _ s
    rw [Int.toNat_natCast]
    cases q : s.heap.get? T with
    | some o =>
      refine wpAny_bind (kdx_alive q ?_)
      simp only [Option.isNone_some, Bool.false_eq_true, if_false]
      refine wpAny_bind (wpAny_field zr rfl (x := .bool f) rfl ?_)
      cases f with
      | true =>
        rw [if_neg (show ¬ ((Value.bool true != Value.bool true) = true) from Bool.false_ne_true)]
        exact wpAny_pure (no s.heap zr (Heap.SameBut.refl _ _))
      | false =>
        rw [if_pos (show (Value.bool false != Value.bool true) = true from rfl)]
        exact wpAny_bind (wpAny_setField_rec zr (by simp) fun h1 r1 k1 => wpAny_pure (no h1 r1 k1))
    | none =>
      have gone : ∀ {R : Option Obj → Shared → Prop}, R none s → wpAny (model prog w) A (loadIfAlive T) R E s := fun {R} r => by
        have r' : R (s.heap.get? T) s := by rw [q]; exact r
        exact fun _ _ _ => r'
      refine wpAny_bind (gone ?_)
      simp only [Option.isNone_none, if_true]
      exact wpAny_pure yes
/-- the cells of such a zip lie apart -/
theorem put2 {T : Addr} {a1 a2 x : Value} {k : Nat} {Q : Unit → Shared → Prop} (t : IsTupOf2 s.heap T a1 a2) (h : ∀ h', h'.get? T = some { cls := .type "tuple", data := .seq ((#[a1, a2] : Array Value).setIfInBounds k x) } → Heap.SameBut T s.heap h' → Q () { s with heap := h' }) :
    wpAny (model prog w) A (updateSeq T (·.setIfInBounds k x)) Q E s := updateSeq_IsTupOf2 t h
/-- what a draw leaves -/
structure Drew (z TI TO i1 i2 : Addr) (S1 S2 : Nat → Heap → Prop) (i : Nat) (h h' : Heap) : Prop where
  rcd : ∃ g f, ZipR h' z TI TO g f ∧ LastOk g
  out : ∃ a1 a2, IsTupOf2 h' TO a1 a2
  st1 : S1 (i + 1) h'
  st2 : S2 (i + 1) h'
  big : h.objs.size ≤ h'.objs.size
  keep : ∀ c o, c ≠ z → c ≠ TO → c ≠ i1 → c ≠ i2 → h.get? c = some o → h'.get? c = some o
theorem zip_item (Z : ZipSep2 z TI TO i1 i2 l1 l2) (U1 : Draws prog w A i1 l1 n1 P1 S1) (U2 : Draws prog w A i2 l2 n2 P2 S2) {b1 b2 : Value} (zr : ZipR s.heap z TI TO g f) (lk : LastOk g)
    (tI : IsTupOf2 s.heap TI (.ref i1) (.ref i2)) (tO : IsTupOf2 s.heap TO b1 b2) (q1 : S1 i s.heap) (q2 : S2 i s.heap) (c1 : i < n1) (c2 : i < n2) {Q : Value → Shared → Prop}
    (fin : ∀ T x y h' tk, P1 i x → P2 i y → s.heap.objs.size ≤ T → IsTupOf2 h' T x y → Drew z TI TO i1 i2 S1 S2 i s.heap h' → Q (.ref T) { s with heap := h', toks := tk }) :
    wpAny (model prog w) A (Builtin.«zip.__next__» ⟨[.ref z], []⟩) (fun r s' => ∃ v, r = .done (.ret v) ∧ Q v s') E s := by
  obtain ⟨hp, gs, dr, tk0, os⟩ := s
  show wpAny _ _ (field (.ref z) 2 >>= _) _ _ _
  refine wpAny_bind (wpAny_field zr rfl (x := .bool false) rfl ?_)
  show wpAny _ _ (field (.ref z) 3 >>= _) _ _ _
  refine wpAny_bind (wpAny_field zr rfl (x := .ref TI) rfl ?_)
  refine wpAny_bind (wpAny_seqItems tI rfl ?_)
  show wpAny _ _ (Builtin.SmallTypes.ownedTupleIsFree (.ref z) >>= _) _ _ _
  refine wpAny_bind (free_or zr lk ?_ fun h1 r1 k1 => ?_)
  · simp only [if_true]
    refine wpAny_bind (wpAny_rule ?_)
    refine wpAny_bind (wpAny_field zr rfl (x := .ref TO) rfl ?_)
    refine wpAny_bind (wpAny_setField_rec zr (by simp) fun m0 zr0 k0 => ?_)
    replace zr0 : ZipR m0 z TI TO .ellipsis f := zr0
    replace k0 : Heap.SameBut z hp m0 := k0
    refine wpAny_bind ?_
    simp only [List.zipIdx_cons, List.zipIdx_nil, List.forIn_cons, List.forIn_nil]
    refine wpAny_bind (wpAny_bind (wpAny_onRaise ?_))
    show wpAny _ _ (Builtin.SmallTypes.nextOf (.ref i1) >>= _) _ _ ⟨m0, gs, dr, tk0, os⟩
    refine wpAny_bind (U1.item i _ _ _ c1 (U1.over q1 k0 Z.zf1) fun x m1 tk1 px sx j1 => wpAny_pure ?_)
    replace j1 : Heap.SameBut i1 m0 m1 := j1
    have t1 : IsTupOf2 m1 TO b1 b2 := j1.extBut _ _ Z.Ti1 (k0.extBut _ _ Z.TOz tO)
    refine wpAny_bind (wpAny_seqItems (s := ⟨m1, gs, dr, tk1, os⟩) t1 rfl ?_)
    refine wpAny_bind (put2 (s := ⟨m1, gs, dr, tk1, os⟩) t1 fun m2 t2 j2 => ?_)
    replace t2 : IsTupOf2 m2 TO x b2 := t2
    replace j2 : Heap.SameBut TO m1 m2 := j2
    refine wpAny_bind (wpAny_letGo (wpAny_pure ?_))
    refine wpAny_bind (wpAny_bind (wpAny_onRaise ?_))
    show wpAny _ _ (Builtin.SmallTypes.nextOf (.ref i2) >>= _) _ _ ⟨m2, gs, dr, tk1, os⟩
    refine wpAny_bind (U2.item i _ _ _ c2 (U2.over (U2.over (U2.over q2 k0 Z.zf2) j1 Z.sep1_2) j2 Z.Tf2) fun y m3 tk2 py sy j3 => wpAny_pure ?_)
    replace j3 : Heap.SameBut i2 m2 m3 := j3
    have t3 : IsTupOf2 m3 TO x b2 := j3.extBut _ _ Z.Ti2 t2
    refine wpAny_bind (wpAny_seqItems (s := ⟨m3, gs, dr, tk2, os⟩) t3 rfl ?_)
    refine wpAny_bind (put2 (s := ⟨m3, gs, dr, tk2, os⟩) t3 fun m4 t4 j4 => ?_)
    replace t4 : IsTupOf2 m4 TO x y := t4
    replace j4 : Heap.SameBut TO m3 m4 := j4
    refine wpAny_bind (wpAny_letGo (wpAny_pure (wpAny_pure ?_)))
    refine wpAny_bind (wpAny_seqItems (s := ⟨m4, gs, dr, tk2, os⟩) t4 rfl ?_)
    refine wpAny_bind (wpAny_newTuple ?_)
    have sz4 : m4.objs.size = hp.objs.size := by rw [j4.1, j3.1, j2.1, j1.1, k0.1]
    have zr4 : ZipR m4 z TI TO .ellipsis f := j4.extBut _ _ Z.TOz.symm (j3.extBut _ _ Z.zi2 (j2.extBut _ _ Z.TOz.symm (j1.extBut _ _ Z.zi1 zr0)))
    have kp : ∀ c o, c ≠ z → c ≠ TO → c ≠ i1 → c ≠ i2 → hp.get? c = some o → m4.get? c = some o := fun c o cz ct d1 d2 e => j4.extBut _ _ ct (j3.extBut _ _ d2 (j2.extBut _ _ ct (j1.extBut _ _ d1 (k0.extBut _ _ cz e))))
    have s1 : S1 (i + 1) m4 := U1.over (U1.over (U1.over sx j2 Z.Tf1) j3 Z.sep2_1) j4 Z.Tf1
    have s2 : S2 (i + 1) m4 := U2.over sy j4 Z.Tf2
    have zlt : z < m4.objs.size := Heap.lt_size zr4
    show wpAny _ _ (Builtin.SmallTypes.ownedTupleHandOut (.ref z) (.ref m4.objs.size) >>= _) _ _ ⟨m4.push { cls := .type "tuple", data := .seq #[x, y] }, gs, dr, tk2, os⟩
    refine wpAny_bind ?_
    unfold Builtin.SmallTypes.ownedTupleHandOut
    have zr5 : ZipR (m4.push { cls := .type "tuple", data := .seq #[x, y] }) z TI TO .ellipsis f := Heap.get?_push_of_some _ zr4
    refine wpAny_bind (wpAny_setField_rec zr5 (by simp) fun m6 zr6 j6 => ?_)
    replace zr6 : ZipR m6 z TI TO (rawInt m4.objs.size) f := zr6
    refine wpAny_setField_rec zr6 (by simp) fun m7 zr7 j7 => ?_
    replace zr7 : ZipR m7 z TI TO (rawInt m4.objs.size) false := zr7
    replace j6 : Heap.SameBut z (m4.push { cls := .type "tuple", data := .seq #[x, y] }) m6 := j6
    replace j7 : Heap.SameBut z m6 m7 := j7
    have up : ∀ c o, c ≠ z → m4.get? c = some o → m7.get? c = some o := fun c o n e => j7.extBut _ _ n (j6.extBut _ _ n (Heap.get?_push_of_some _ e))
    have tN : IsTupOf2 m7 m4.objs.size x y := j7.extBut _ _ (Nat.ne_of_gt zlt) (j6.extBut _ _ (Nat.ne_of_gt zlt) (Heap.get?_push_size _ rfl))
    have sz7 : m7.objs.size = m4.objs.size + 1 := by rw [j7.1, j6.1, Heap.size_push]
    refine wpAny_pure ⟨_, rfl, ?_⟩
    show Q (.ref m4.objs.size) ⟨m7, gs, dr, tk2, os⟩
    refine fin m4.objs.size x y m7 tk2 px py (by show hp.objs.size ≤ _; omega) tN ⟨⟨_, _, zr7, .inr ⟨_, rfl⟩⟩, ⟨_, _, up _ _ Z.TOz t4⟩, U1.frame _ _ _ s1 fun b hb o e => up b o (fun w => Z.zf1 (w ▸ hb)) e, U2.frame _ _ _ s2 fun b hb o e => up b o (fun w => Z.zf2 (w ▸ hb)) e, ?_, fun c o cz ct d1 d2 e => up c o cz (kp c o cz ct d1 d2 e)⟩
    show hp.objs.size ≤ m7.objs.size
    omega
  · replace k1 : Heap.SameBut z hp h1 := k1
    simp only [Bool.false_eq_true, if_false]
    refine wpAny_bind ?_
    rw [← Array.forIn_toList]
    simp only [List.forIn_cons, List.forIn_nil]
    refine wpAny_bind (wpAny_bind (wpAny_holding ?_))
    show wpAny _ _ (Builtin.SmallTypes.nextOf (.ref i1) >>= _) _ _ ⟨h1, gs, dr, tk0, os⟩
    refine wpAny_bind (U1.item i _ _ _ c1 (U1.over q1 k1 Z.zf1) fun x m1 tk1 px sx j1 => wpAny_pure ?_)
    replace j1 : Heap.SameBut i1 h1 m1 := j1
    refine wpAny_pure ?_
    refine wpAny_bind (wpAny_bind (wpAny_holding ?_))
    show wpAny _ _ (Builtin.SmallTypes.nextOf (.ref i2) >>= _) _ _ ⟨m1, gs, dr, tk1, os⟩
    refine wpAny_bind (U2.item i _ _ _ c2 (U2.over (U2.over q2 k1 Z.zf2) j1 Z.sep1_2) fun y m2 tk2 py sy j2 => wpAny_pure ?_)
    replace j2 : Heap.SameBut i2 m1 m2 := j2
    refine wpAny_pure (wpAny_pure ?_)
    show wpAny _ _ (newTuple [x, y] >>= _) _ _ ⟨m2, gs, dr, tk2, os⟩
    refine wpAny_bind (wpAny_newTuple ?_)
    have sz2 : m2.objs.size = hp.objs.size := by rw [j2.1, j1.1, k1.1]
    have zr2 : ZipR m2 z TI TO g true := j2.extBut _ _ Z.zi2 (j1.extBut _ _ Z.zi1 r1)
    have kp : ∀ c o, c ≠ z → c ≠ i1 → c ≠ i2 → hp.get? c = some o → m2.get? c = some o := fun c o cz d1 d2 e => j2.extBut _ _ d2 (j1.extBut _ _ d1 (k1.extBut _ _ cz e))
    have up : ∀ c o, m2.get? c = some o → (m2.push { cls := .type "tuple", data := .seq #[x, y] }).get? c = some o := fun c o e => Heap.get?_push_of_some _ e
    refine wpAny_pure ⟨_, rfl, ?_⟩
    show Q (.ref m2.objs.size) ⟨m2.push { cls := .type "tuple", data := .seq #[x, y] }, gs, dr, tk2, os⟩
    refine fin m2.objs.size x y _ tk2 px py (by show hp.objs.size ≤ _; omega) (Heap.get?_push_size _ rfl) ⟨⟨_, _, up _ _ zr2, lk⟩, ⟨_, _, up _ _ (kp _ _ Z.TOz Z.Ti1 Z.Ti2 tO)⟩, U1.frame _ _ _ (U1.over sx j2 Z.sep2_1) fun b _ o e => up b o e, U2.frame _ _ _ sy fun b _ o e => up b o e, ?_, fun c o cz _ d1 d2 e => up c o (kp c o cz d1 d2 e)⟩
    show hp.objs.size ≤ (m2.push _).objs.size
    rw [Heap.size_push]; omega
theorem zip_stop (Z : ZipSep2 z TI TO i1 i2 l1 l2) (U1 : Draws prog w A i1 l1 n1 P1 S1) (U2 : Draws prog w A i2 l2 n2 P2 S2) {b1 b2 : Value} (zr : ZipR s.heap z TI TO g f) (lk : LastOk g)
    (tI : IsTupOf2 s.heap TI (.ref i1) (.ref i2)) (tO : IsTupOf2 s.heap TO b1 b2) (q1 : S1 i s.heap) (q2 : S2 i s.heap) (c1 : i ≤ n1) (c2 : i ≤ n2) (over : i = n1 ∨ i = n2) {Q : PySem.Fin → Shared → Prop}
    (fin : ∀ h' tk e, (∀ c o, c ≠ z → c ≠ TO → c ≠ i1 → c ≠ i2 → s.heap.get? c = some o → h'.get? c = some o) → (∃ o, h'.get? e = some o ∧ o.cls = .type "StopIteration") → E (.ref e) { s with heap := h', toks := tk }) :
    wpAny (model prog w) A (Builtin.«zip.__next__» ⟨[.ref z], []⟩) Q E s := by
  obtain ⟨hp, gs, dr, tk0, os⟩ := s
  show wpAny _ _ (field (.ref z) 2 >>= _) _ _ _
  refine wpAny_bind (wpAny_field zr rfl (x := .bool false) rfl ?_)
  show wpAny _ _ (field (.ref z) 3 >>= _) _ _ _
  refine wpAny_bind (wpAny_field zr rfl (x := .ref TI) rfl ?_)
  refine wpAny_bind (wpAny_seqItems tI rfl ?_)
  show wpAny _ _ (Builtin.SmallTypes.ownedTupleIsFree (.ref z) >>= _) _ _ _
  refine wpAny_bind (free_or zr lk ?_ fun h1 r1 k1 => ?_)
  · simp only [if_true]
    refine wpAny_bind (wpAny_rule ?_)
    refine wpAny_bind (wpAny_field zr rfl (x := .ref TO) rfl ?_)
    refine wpAny_bind (wpAny_setField_rec zr (by simp) fun m0 zr0 k0 => ?_)
    replace zr0 : ZipR m0 z TI TO .ellipsis f := zr0
    replace k0 : Heap.SameBut z hp m0 := k0
    refine wpAny_bind ?_
    simp only [List.zipIdx_cons, List.zipIdx_nil, List.forIn_cons, List.forIn_nil]
    refine wpAny_bind (wpAny_bind (wpAny_onRaise ?_))
    show wpAny _ _ (Builtin.SmallTypes.nextOf (.ref i1) >>= _) _ _ ⟨m0, gs, dr, tk0, os⟩
    by_cases lt : i < n1
    · refine wpAny_bind (U1.item i _ _ _ lt (U1.over q1 k0 Z.zf1) fun x m1 tk1 px sx j1 => wpAny_pure ?_)
      replace j1 : Heap.SameBut i1 m0 m1 := j1
      have t1 : IsTupOf2 m1 TO b1 b2 := j1.extBut _ _ Z.Ti1 (k0.extBut _ _ Z.TOz tO)
      refine wpAny_bind (wpAny_seqItems (s := ⟨m1, gs, dr, tk1, os⟩) t1 rfl ?_)
      refine wpAny_bind (put2 (s := ⟨m1, gs, dr, tk1, os⟩) t1 fun m2 t2 j2 => ?_)
      replace j2 : Heap.SameBut TO m1 m2 := j2
      refine wpAny_bind (wpAny_letGo (wpAny_pure ?_))
      have ei : i = n2 := by omega
      refine wpAny_bind (wpAny_bind (wpAny_onRaise ?_))
      show wpAny _ _ (Builtin.SmallTypes.nextOf (.ref i2) >>= _) _ _ ⟨m2, gs, dr, tk1, os⟩
      refine wpAny_bind (U2.done ⟨m2, gs, dr, tk1, os⟩ _ _ (by rw [← ei]; exact U2.over (U2.over (U2.over q2 k0 Z.zf2) j1 Z.sep1_2) j2 Z.Tf2) fun m3 e j3 he => ?_)
      replace j3 : Heap.ExtBut i2 m2 m3 := j3
      obtain ⟨oe, ho, hc⟩ := he
      replace ho : m3.get? e = some oe := ho
      have zr3 : ZipR m3 z TI TO .ellipsis f := j3 _ _ Z.zi2 (j2.extBut _ _ Z.TOz.symm (j1.extBut _ _ Z.zi1 zr0))
      have ne : e ≠ z := fun x => by subst x; rw [zr3] at ho; cases ho; simp at hc
      refine wpAny_setField_rec (s := ⟨m3, gs, dr, tk1, os⟩) zr3 (by simp) fun m4 _ j4 => ?_
      replace j4 : Heap.SameBut z m3 m4 := j4
      exact fin m4 tk1 e (fun c o cz ct d1 d2 x => j4.extBut _ _ cz (j3 _ _ d2 (j2.extBut _ _ ct (j1.extBut _ _ d1 (k0.extBut _ _ cz x))))) ⟨oe, j4.extBut _ _ ne ho, hc⟩
    · have ei : i = n1 := by omega
      refine wpAny_bind (U1.done ⟨m0, gs, dr, tk0, os⟩ _ _ (by rw [← ei]; exact U1.over q1 k0 Z.zf1) fun m3 e j3 he => ?_)
      replace j3 : Heap.ExtBut i1 m0 m3 := j3
      obtain ⟨oe, ho, hc⟩ := he
      replace ho : m3.get? e = some oe := ho
      have zr3 : ZipR m3 z TI TO .ellipsis f := j3 _ _ Z.zi1 zr0
      have ne : e ≠ z := fun x => by subst x; rw [zr3] at ho; cases ho; simp at hc
      refine wpAny_setField_rec (s := ⟨m3, gs, dr, tk0, os⟩) zr3 (by simp) fun m4 _ j4 => ?_
      replace j4 : Heap.SameBut z m3 m4 := j4
      exact fin m4 tk0 e (fun c o cz ct d1 d2 x => j4.extBut _ _ cz (j3 _ _ d1 (k0.extBut _ _ cz x))) ⟨oe, j4.extBut _ _ ne ho, hc⟩
  · replace k1 : Heap.SameBut z hp h1 := k1
    simp only [Bool.false_eq_true, if_false]
    refine wpAny_bind ?_
    rw [← Array.forIn_toList]
    simp only [List.forIn_cons, List.forIn_nil]
    refine wpAny_bind (wpAny_bind (wpAny_holding ?_))
    show wpAny _ _ (Builtin.SmallTypes.nextOf (.ref i1) >>= _) _ _ ⟨h1, gs, dr, tk0, os⟩
    by_cases lt : i < n1
    · refine wpAny_bind (U1.item i _ _ _ lt (U1.over q1 k1 Z.zf1) fun x m1 tk1 px sx j1 => wpAny_pure ?_)
      replace j1 : Heap.SameBut i1 h1 m1 := j1
      refine wpAny_pure ?_
      have ei : i = n2 := by omega
      refine wpAny_bind (wpAny_bind (wpAny_holding ?_))
      show wpAny _ _ (Builtin.SmallTypes.nextOf (.ref i2) >>= _) _ _ ⟨m1, gs, dr, tk1, os⟩
      refine wpAny_bind (U2.done ⟨m1, gs, dr, tk1, os⟩ _ _ (by rw [← ei]; exact U2.over (U2.over q2 k1 Z.zf2) j1 Z.sep1_2) fun m3 e j3 he => ?_)
      replace j3 : Heap.ExtBut i2 m1 m3 := j3
      exact fin m3 tk1 e (fun c o cz ct d1 d2 x => j3 _ _ d2 (j1.extBut _ _ d1 (k1.extBut _ _ cz x))) he
    · have ei : i = n1 := by omega
      refine wpAny_bind (U1.done ⟨h1, gs, dr, tk0, os⟩ _ _ (by rw [← ei]; exact U1.over q1 k1 Z.zf1) fun m3 e j3 he => ?_)
      replace j3 : Heap.ExtBut i1 h1 m3 := j3
      exact fin m3 tk0 e (fun c o cz ct d1 d2 x => j3 _ _ d1 (k1.extBut _ _ cz x)) he
end

/-! ### two new objects at once -/
theorem turned2 {X : Cx} {pins : List (Addr × Obj)} {σ : L2.St} {H : Hp} {s : Shared} {h' : Heap} {t' : Nat} {ch : List Addr} {T1 T2 : Addr} {o1 o2 : HO} (I : Inv X pins σ H s) (k : ∀ b o, b ∉ ch → s.heap.get? b = some o → h'.get? b = some o) (hf : ∀ b ∈ ch, FpOk X pins H b)
    (g1 : s.heap.objs.size ≤ T1) (g2 : s.heap.objs.size ≤ T2) (new1 : ObjOk X.prog X.w (upd (upd H T1 o1) T2 o2) h' T1 o1) (new2 : ObjOk X.prog X.w (upd (upd H T1 o1) T2 o2) h' T2 o2) (ne : T1 ≠ T2) : Inv X pins σ (upd (upd H T1 o1) T2 o2) { s with heap := h', toks := t' } := by
  have f1 : H T1 = none := I.hok.fresh g1
  have f2 : H T2 = none := I.hok.fresh g2
  have same : ∀ b u, H b = some u → (upd (upd H T1 o1) T2 o2) b = some u := fun b u e => by rw [upd_ne (ne_of_none e f2), upd_ne (ne_of_none e f1)]; exact e
  have nit : ∀ b u, H b = some u → b ∉ ch := fun b u e z => by
    have q := (hf b z).1
    rw [q] at e; cases e
  refine I.step (g' := s.gens) (d' := s.drawn) (ch := ch) (fun b hb => let ⟨_, a2, _, a4, a5, a6⟩ := hf b hb; ⟨a4, a2, a5, a6⟩) (fun b o _ _ hc e _ => k b o hc e) (fun b o _ _ hc e _ => ⟨_, k b o hc e⟩)
    (fun b o _ e n => ?_) (fun b o hc e => ⟨_, k b o hc e⟩) (fun b xs e => same b _ e) (fun b o u e => same b _ e) (fun b ps e => ⟨#[], ?_⟩) (fun m hm => ?_) (fun b u e => ?_) I.bare
  · have lt := Heap.lt_size e
    rw [upd_ne (Nat.ne_of_lt (Nat.lt_of_lt_of_le lt g2)), upd_ne (Nat.ne_of_lt (Nat.lt_of_lt_of_le lt g1))]; exact n
  · rw [same b _ e]; simp
  · obtain ⟨o, es, ep, ho, r⟩ := hm
    exact ⟨o, es, ep, k _ o (fun z => (hf _ z).2.1 rfl) ho, r⟩
  · by_cases b2 : b = T2
    · subst b2
      rw [upd_same] at e
      cases e
      exact new2
    · rw [upd_ne b2] at e
      by_cases b1 : b = T1
      · subst b1
        rw [upd_same] at e
        cases e
        exact new1
      · rw [upd_ne b1] at e
        exact (I.hok b u e).stay (fun c v hc q => k c v (hc.elim (fun w => by rw [w]; exact nit b u e) fun w => nit c _ w) q) (fun c q => same c _ q) fun c xs q => same c _ q

/-! ### enumerate over such a zip -/
def itEZ (K : PySem.W.Frag) (b1 b2 : Bool) (a b : Addr) : It :=
  ⟨goZ K b1 b2 a b, fun i H v H' => ∃ T1 T2 x y, v = .ref T2 ∧ H T1 = none ∧ H T2 = none ∧ T1 ≠ T2 ∧ H' = upd (upd H T1 (.tup [x, y])) T2 (.tup [.int (i : Nat), .ref T1]) ∧ valZ K b1 b2 a b i H [x, y], stopZ K b1 b2 a b⟩
def tnEZ (b1 b2 : Bool) (e z TI TO i1 i2 a b : Addr) : Nat → Heap → Prop := fun i h => (∃ old, IsEnum h e z (0 + ((i : Nat) : Int)) old) ∧ (∃ g f, ZipR h z TI TO g f ∧ LastOk g) ∧ IsTupOf2 h TI (.ref i1) (.ref i2) ∧ (∃ a1 a2, IsTupOf2 h TO a1 a2) ∧ ItB b1 h i1 a i ∧ ItB b2 h i2 b i
theorem next_zip {prog : Program} {w : World} {A : Around} {E : Value → Shared → Prop} {s : Shared} {z TI TO : Addr} {g : Value} {f : Bool} {Q : Value → Shared → Prop} (zr : ZipR s.heap z TI TO g f)
    (h : wpAny (model prog w) A.in1 (Builtin.«zip.__next__» ⟨[.ref z], []⟩) (fun r s' => ∃ v, r = .done (.ret v) ∧ Q v s') E s) : wpAny (model prog w) A (Builtin.SmallTypes.nextOf (.ref z)) Q E s := by
  have ty : s.TypeIs (.ref z) "zip" := ⟨_, zr, rfl⟩
  unfold Builtin.SmallTypes.nextOf
  refine wpAny_bind (wpAny_callSpecial?_slot (name := Str.ofString "__next__") ty F.slot_zip_next (wpAny_call_entry F.slot_zip_next ty F.entry_zip_next ?_ (F.args_zip_next_1 _)))
  refine wpAny_mono h (fun r s' hr => ?_) fun _ _ q => q
  obtain ⟨v, e, q⟩ := hr
  subst e
  exact ⟨_, rfl, wpAny_pure q⟩

section
variable {prog : Program} {w : World} {A : Around} {E : Value → Shared → Prop} {s : Shared} {e z TI TO i1 i2 : Addr} {l1 l2 : List Addr} {n1 n2 i : Nat} {P1 P2 : Nat → Value → Prop} {S1 S2 : Nat → Heap → Prop} {g : Value} {f : Bool} {c : Int} {old : Value}
theorem ez_item (Z : ZipSep2 z TI TO i1 i2 l1 l2) (U1 : Draws prog w A.in1 i1 l1 n1 P1 S1) (U2 : Draws prog w A.in1 i2 l2 n2 P2 S2) (he : IsEnum s.heap e z c old) {b1 b2 : Value} (zr : ZipR s.heap z TI TO g f) (lk : LastOk g)
    (tI : IsTupOf2 s.heap TI (.ref i1) (.ref i2)) (tO : IsTupOf2 s.heap TO b1 b2) (q1 : S1 i s.heap) (q2 : S2 i s.heap) (c1 : i < n1) (c2 : i < n2) (ez : e ≠ z) (eO : e ≠ TO) (e1 : e ∉ l1) (e2 : e ∉ l2) {Q : Value → Shared → Prop}
    (fin : ∀ T1 T2 x y t h' tk, P1 i x → P2 i y → s.heap.objs.size ≤ T1 → s.heap.objs.size ≤ T2 → T1 ≠ T2 → IsTupOf2 h' T1 x y → h'.get? T2 = some { cls := .type "tuple", data := .seq #[.int c t, .ref T1] } → IsEnumOut h' e z (c + 1) (.ref T1) T2 → Drew z TI TO i1 i2 S1 S2 i s.heap h'  ∨ True →
      (∃ g f, ZipR h' z TI TO g f ∧ LastOk g) → (∃ a1 a2, IsTupOf2 h' TO a1 a2) → S1 (i + 1) h' → S2 (i + 1) h' → (∀ c o, c ≠ e → c ≠ z → c ≠ TO → c ≠ i1 → c ≠ i2 → s.heap.get? c = some o → h'.get? c = some o) → Q (.ref T2) { s with heap := h', toks := tk }) :
    wpAny (model prog w) A (Builtin.«enumerate.__next__» ⟨[.ref e], []⟩) (fun r s' => ∃ v, r = .done (.ret v) ∧ Q v s') E s := by
  obtain ⟨hp, gs, dr, tk0, os⟩ := s
  have ne1 : e ≠ i1 := fun w => e1 (by rw [w]; exact Z.mem1)
  have ne2 : e ≠ i2 := fun w => e2 (by rw [w]; exact Z.mem2)
  show wpAny _ _ (field (.ref e) 2 >>= _) _ _ _
  refine wpAny_bind (wpAny_field he rfl (x := .ref z) rfl ?_)
  refine wpAny_bind (next_zip zr (zip_item Z U1 U2 zr lk tI tO q1 q2 c1 c2 fun T1 x y m1 tk1 px py g1 tN dw => ?_))
  replace g1 : hp.objs.size ≤ T1 := g1
  have big1 : hp.objs.size ≤ m1.objs.size := dw.big
  have he1 : IsEnum m1 e z c old := dw.keep _ _ ez eO ne1 ne2 he
  have l1 : T1 < m1.objs.size := Heap.lt_size tN
  have eT : e ≠ T1 := Nat.ne_of_lt (Nat.lt_of_lt_of_le (Heap.lt_size (show hp.get? e = _ from he)) g1)
  show wpAny _ _ (field (.ref e) 3 >>= _) _ _ ⟨m1, gs, dr, tk1, os⟩
  refine wpAny_bind (wpAny_field he1 rfl (x := rawInt c) rfl ?_)
  show wpAny _ _ (field (.ref e) 4 >>= _) _ _ ⟨m1, gs, dr, tk1, os⟩
  refine wpAny_bind (wpAny_field he1 rfl (x := .none) rfl ?_)
  show wpAny _ _ (mkInt c >>= _) _ _ ⟨m1, gs, dr, tk1, os⟩
  refine wpAny_bind (wpAny_mkInt ?_)
  show wpAny _ _ (setField (.ref e) 3 (rawInt (c + 1)) >>= _) _ _ ⟨m1, gs, dr, tk1 + 1, os⟩
  refine wpAny_bind (wpAny_setField_rec he1 (by simp) fun m2 he2 k2 => ?_)
  replace k2 : Heap.SameBut e m1 m2 := k2
  replace he2 : IsEnum m2 e z (c + 1) old := he2
  show wpAny _ _ (setField (.ref e) 4 .none >>= _) _ _ ⟨m2, gs, dr, tk1 + 1, os⟩
  refine wpAny_bind (wpAny_setField_rec he2 (by simp) fun m3 he3 k3 => ?_)
  replace k3 : Heap.SameBut e m2 m3 := k3
  replace he3 : IsEnum m3 e z (c + 1) old := he3
  show wpAny _ _ (newTuple [.int c tk1, .ref T1] >>= _) _ _ ⟨m3, gs, dr, tk1 + 1, os⟩
  refine wpAny_bind (wpAny_newTuple ?_)
  have sz3 : m3.objs.size = m1.objs.size := by rw [k3.1, k2.1]
  have he4 : IsEnum (m3.push { cls := .type "tuple", data := .seq #[.int c tk1, .ref T1] }) e z (c + 1) old := Heap.get?_push_of_some _ he3
  have t4 : (m3.push { cls := .type "tuple", data := .seq #[.int c tk1, .ref T1] }).get? m3.objs.size = some { cls := .type "tuple", data := .seq #[.int c tk1, .ref T1] } := Heap.get?_push_size _ rfl
  have up4 : ∀ b o, b ≠ e → m1.get? b = some o → (m3.push { cls := .type "tuple", data := .seq #[.int c tk1, .ref T1] }).get? b = some o := fun b o n q => Heap.get?_push_of_some _ (k3.extBut _ _ n (k2.extBut _ _ n q))
  have neT : e ≠ m3.objs.size := Nat.ne_of_lt (Heap.lt_size he3)
  generalize (m3.push { cls := .type "tuple", data := .seq #[.int c tk1, .ref T1] }) = m4 at he4 t4 up4
  show wpAny _ _ (Builtin.SmallTypes.ownedTupleIsFree (.ref e) >>= _) _ _ ⟨m4, gs, dr, tk1 + 1, os⟩
  refine wpAny_bind ?_
  unfold Builtin.SmallTypes.ownedTupleIsFree
  refine wpAny_bind (wpAny_field he4 rfl (x := .none) rfl (wpAny_pure ?_))
  simp only [if_true]
  refine wpAny_bind (wpAny_rule ?_)
  refine wpAny_bind (wpAny_field he4 rfl (x := old) rfl ?_)
  refine wpAny_bind (wpAny_setField_rec he4 (by simp) fun m5 he5 k5 => ?_)
  replace k5 : Heap.SameBut e m4 m5 := k5
  replace he5 : IsEnum m5 e z (c + 1) (.ref T1) := he5
  show wpAny _ _ (Builtin.SmallTypes.ownedTupleHandOut (.ref e) (.ref m3.objs.size) >>= _) _ _ ⟨m5, gs, dr, tk1 + 1, os⟩
  refine wpAny_bind ?_
  unfold Builtin.SmallTypes.ownedTupleHandOut
  refine wpAny_bind (wpAny_setField_rec he5 (by simp) fun m6 he6 k6 => ?_)
  replace k6 : Heap.SameBut e m5 m6 := k6
  replace he6 : IsEnumOut m6 e z (c + 1) (.ref T1) m3.objs.size := he6
  refine wpAny_setField_rec he6 (by simp) fun m7 he7 k7 => ?_
  replace k7 : Heap.SameBut e m6 m7 := k7
  replace he7 : IsEnumOut m7 e z (c + 1) (.ref T1) m3.objs.size := he7
  have up7 : ∀ b o, b ≠ e → m4.get? b = some o → m7.get? b = some o := fun b o n q => k7.extBut _ _ n (k6.extBut _ _ n (k5.extBut _ _ n q))
  have up : ∀ b o, b ≠ e → m1.get? b = some o → m7.get? b = some o := fun b o n q => up7 b o n (up4 b o n q)
  obtain ⟨gg, ff, zr1, lk1⟩ := dw.rcd
  obtain ⟨a1, a2, tO1⟩ := dw.out
  refine wpAny_bind (wpAny_letGo (wpAny_pure ⟨_, rfl, ?_⟩))
  refine fin T1 m3.objs.size x y tk1 m7 (tk1 + 1) px py g1 (by show hp.objs.size ≤ _; omega) (Nat.ne_of_lt (by omega)) (up _ _ eT.symm tN) (up7 _ _ neT.symm t4) he7 (.inr trivial) ⟨gg, ff, up _ _ ez.symm zr1, lk1⟩ ⟨a1, a2, up _ _ eO.symm tO1⟩
    (U1.frame _ _ _ dw.st1 fun b hb o q => up b o (fun w => e1 (w ▸ hb)) q) (U2.frame _ _ _ dw.st2 fun b hb o q => up b o (fun w => e2 (w ▸ hb)) q) fun b o ne nz nO n1 n2 q => up b o ne (dw.keep b o nz nO n1 n2 q)
end
theorem turn_ez {P : Program} {w : World} {K : PySem.W.Frag} {b1 b2 : Bool} {e z TI TO i1 i2 a b : Addr} {elts : List Expr} {k : Nat} {pos : Pos} (Z : ZipSep2 z TI TO i1 i2 [i1, a] [i2, b]) (ha : a ≠ i1) (hb : b ≠ i2) (ez : e ≠ z) (eI : e ≠ TI) (eO : e ≠ TO) (e1 : e ∉ [i1, a]) (e2 : e ∉ [i2, b]) :
    Turn P w K (.Tuple elts k pos) (itEZ K b1 b2 a b) [e, z, TI, TO, i1, i2] e (tnEZ b1 b2 e z TI TO i1 i2 a b) where
  mem := by simp
  obj := fun i h st c hc => by
    obtain ⟨⟨old, he⟩, ⟨g, f, zr, _⟩, tI, ⟨x, y, tO⟩, h1, h2⟩ := st
    have e' : c = e ∨ c = z ∨ c = TI ∨ c = TO ∨ c = i1 ∨ c = i2 := by simpa using hc
    rcases e' with q | q | q | q | q | q
    · rw [q]; exact ⟨_, he, fun v q => nomatch q⟩
    · rw [q]; exact ⟨_, zr, fun v q => nomatch q⟩
    · rw [q]; exact ⟨_, tI, fun v q => nomatch q⟩
    · rw [q]; exact ⟨_, tO, fun v q => nomatch q⟩
    · rw [q]; exact h1.obj
    · rw [q]; exact h2.obj
  keep := fun i h h' st kp => by
    obtain ⟨⟨old, he⟩, ⟨g, f, zr, lk⟩, tI, ⟨x, y, tO⟩, h1, h2⟩ := st
    exact ⟨⟨old, kp e (by simp) _ he⟩, ⟨g, f, kp z (by simp) _ zr, lk⟩, kp TI (by simp) _ tI, ⟨x, y, kp TO (by simp) _ tO⟩, h1.at fun o q => kp i1 (by simp) o q, h2.at fun o q => kp i2 (by simp) o q⟩
  item := by
    intro X hP hw hK hc i pins s σ H E Iv hf st hg
    have hh := Iv.ok.hd hc
    subst hP hw hK
    obtain ⟨⟨old, he⟩, ⟨g, f, zr, lk⟩, tI, ⟨x0, y0, tO⟩, h1, h2⟩ := st
    obtain ⟨xs, ys, x, y, hqx, hqy, hx, hy⟩ := hg
    obtain ⟨its, rv, p, la⟩ := hqx.raw Iv
    obtain ⟨its2, rv2, p2, lb⟩ := hqy.raw Iv
    have hi1 : i < xs.length := (List.getElem?_eq_some_iff.mp hx).1
    have hi2 : i < ys.length := (List.getElem?_eq_some_iff.mp hy).1
    have l1 := rv.length
    have l2 := rv2.length
    have ty : s.TypeIs (.ref e) "enumerate" := ⟨_, he, rfl⟩
    unfold pyNext
    refine wpAny_bind (wpAny_attempt (wpAny_callSpecial?_slot (name := Str.ofString "__next__") ty F.slot_enumerate_next (wpAny_call_entry F.slot_enumerate_next ty F.entry_enumerate_next ?_ (F.args_enumerate_next_1 _))))
    refine ez_item Z (draws_b (A := X.A.in1.in1) hh b1 i1 a ha its.toArray) (draws_b (A := X.A.in1.in1) hh b2 i2 b hb its2.toArray) he zr lk tI tO ⟨h1, p⟩ ⟨h2, p2⟩ (by simp only [List.size_toArray]; omega) (by simp only [List.size_toArray]; omega) ez eO e1 e2 fun T1 T2 u1 u2 t h' tk px py g1 g2 ne12 tN t2 eo _ zr' tO' s1 s2 kp => ?_
    refine wpAny_pure ⟨_, rfl, ?_⟩
    refine wpAny_letOwnedTupleGo_enum eo fun h'' he' k2 => ?_
    replace k2 : Heap.SameBut e h' h'' := k2
    obtain ⟨v1, hv1, r1⟩ := rv.get hx
    obtain ⟨v2, hv2, r2⟩ := rv2.get hy
    have q1 : v1 = u1 := Option.some.inj (hv1.symm.trans (by simpa using px))
    have q2 : v2 = u2 := Option.some.inj (hv2.symm.trans (by simpa using py))
    subst q1 q2
    have lte : e < s.heap.objs.size := Heap.lt_size he
    have tN' : IsTupOf2 h'' T1 v1 v2 := k2.extBut _ _ (Nat.ne_of_gt (Nat.lt_of_lt_of_le lte g1)) tN
    have t2' := k2.extBut _ _ (Nat.ne_of_gt (Nat.lt_of_lt_of_le lte g2)) t2
    obtain ⟨gg, ff, zr1, lk1⟩ := zr'
    obtain ⟨a1, a2, tO1⟩ := tO'
    have f1 : H T1 = none := Iv.hok.fresh g1
    have f2 : H T2 = none := Iv.hok.fresh g2
    have ltTI : TI ≠ i1 ∧ TI ≠ i2 ∧ TI ≠ TO ∧ TI ≠ z := ⟨Z.TIi1, Z.TIi2, Z.TITO, Z.TIz⟩
    refine ⟨.ref T2, _, turned2 (s := s) (h' := h'') (t' := tk) (ch := [e, z, TI, TO, i1, i2]) (o1 := .tup [x, y]) (o2 := .tup [.int (i : Nat), .ref T1]) Iv (fun c o hc q => ?_) hf g1 g2 ?_ ?_ ne12, rfl, ⟨T1, T2, x, y, rfl, f1, f2, ne12, rfl, x, y, rfl, fun l hl => by rw [hl.inj Iv hqx]; exact hx, fun l hl => by rw [hl.inj Iv hqy]; exact hy⟩, ?_, fun c hc => ?_⟩
    · have n : c ≠ e ∧ c ≠ z ∧ c ≠ TI ∧ c ≠ TO ∧ c ≠ i1 ∧ c ≠ i2 := by simpa using hc
      exact k2.extBut _ _ n.1 (kp c o n.1 n.2.1 n.2.2.2.1 n.2.2.2.2.1 n.2.2.2.2.2 q)
    · exact ⟨by show 2 ≤ sizeLine; decide, [v1, v2], .cons r1 (.cons r2 .nil), ⟨_, tN', rfl, _, rfl⟩⟩
    · exact ⟨by show 2 ≤ sizeLine; decide, [.int (0 + (i : Int)) t, .ref T1], .cons ⟨t, by rw [Int.zero_add]⟩ (.cons rfl .nil), ⟨_, t2', rfl, _, rfl⟩⟩
    · have nx : (0 : Int) + ((i + 1 : Nat) : Int) = 0 + (i : Int) + 1 := by omega
      refine ⟨⟨.ref T1, by rw [nx]; exact he'⟩, ⟨gg, ff, k2.extBut _ _ ez.symm zr1, lk1⟩, k2.extBut _ _ eI.symm (kp TI _ eI.symm ltTI.2.2.2 ltTI.2.2.1 ltTI.1 ltTI.2.1 tI), ⟨a1, a2, k2.extBut _ _ eO.symm tO1⟩, s1.1.at fun o q => k2.extBut _ _ (fun w => e1 (by rw [w]; simp)) q, s2.1.at fun o q => k2.extBut _ _ (fun w => e2 (by rw [w]; simp)) q⟩
    · have hc' : c = e ∨ c = z ∨ c = TI ∨ c = TO ∨ c = i1 ∨ c = i2 := by simpa using hc
      have ex : ∃ o, s.heap.get? c = some o := by
        rcases hc' with q | q | q | q | q | q
        · rw [q]; exact ⟨_, he⟩
        · rw [q]; exact ⟨_, zr⟩
        · rw [q]; exact ⟨_, tI⟩
        · rw [q]; exact ⟨_, tO⟩
        · rw [q]; obtain ⟨o, ho, _⟩ := h1.obj; exact ⟨o, ho⟩
        · rw [q]; obtain ⟨o, ho, _⟩ := h2.obj; exact ⟨o, ho⟩
      obtain ⟨o, ho⟩ := ex
      have lt := Heap.lt_size ho
      rw [upd_ne (Nat.ne_of_lt (Nat.lt_of_lt_of_le lt g2)), upd_ne (Nat.ne_of_lt (Nat.lt_of_lt_of_le lt g1))]
      exact (hf c hc).1
  done := by
    intro X hP hw hK hc i pins s σ H E Iv hf st hg
    have hh := Iv.ok.hd hc
    subst hP hw hK
    obtain ⟨⟨old, he⟩, ⟨g, f, zr, lk⟩, tI, ⟨x0, y0, tO⟩, h1, h2⟩ := st
    obtain ⟨xs, ys, hqx, hqy, hi⟩ := hg
    obtain ⟨its, rv, p, la⟩ := hqx.raw Iv
    obtain ⟨its2, rv2, p2, lb⟩ := hqy.raw Iv
    have l1 := rv.length
    have l2 := rv2.length
    have ty : s.TypeIs (.ref e) "enumerate" := ⟨_, he, rfl⟩
    unfold pyNext
    refine wpAny_bind (wpAny_attempt (wpAny_callSpecial?_slot (name := Str.ofString "__next__") ty F.slot_enumerate_next (wpAny_call_entry F.slot_enumerate_next ty F.entry_enumerate_next ?_ (F.args_enumerate_next_1 _))))
    show wpAny _ _ (field (.ref e) 2 >>= _) _ _ _
    refine wpAny_bind (wpAny_field he rfl (x := .ref z) rfl ?_)
    refine wpAny_bind (next_zip zr (zip_stop Z (draws_b (A := X.A.in1.in1) hh b1 i1 a ha its.toArray) (draws_b (A := X.A.in1.in1) hh b2 i2 b hb its2.toArray) zr lk tI tO ⟨h1, p⟩ ⟨h2, p2⟩ (by simp only [List.size_toArray]; omega) (by simp only [List.size_toArray]; omega) (by simp only [List.size_toArray]; omega) fun h' tk e' kp hx => ?_))
    obtain ⟨o, ho, hc'⟩ := hx
    refine wpAny_bind (wpAny_isInstance (T := "StopIteration") (b := true) ⟨o, ho, hc'⟩ isSubtype_stop ?_)
    refine wpAny_pure ⟨rfl, ?_⟩
    exact Iv.turnedL (ch := [e, z, TI, TO, i1, i2]) (fun c o hc q => by
      have n : c ≠ e ∧ c ≠ z ∧ c ≠ TI ∧ c ≠ TO ∧ c ≠ i1 ∧ c ≠ i2 := by simpa using hc
      exact kp c o n.2.1 n.2.2.2.1 n.2.2.2.2.1 n.2.2.2.2.2 q) hf
  self := fun A i s Q E st h => let ⟨⟨_, he⟩, _⟩ := st; wpAny_pyIter_enum he h

theorem meets_enumZ {z TI TO : Addr} :
    Meets (Builtin.«enumerate.__new__» ⟨[.type "enumerate", .ref z], []⟩) (fun _ R s => IsZip s.heap z TI TO .none ∧
      R (.ok (.ret (.ref s.heap.objs.size))) { s with heap := s.heap.push { cls := .type "enumerate", data := .fields #[.none, .bool false, .ref z, rawInt 0, .none, .none] } }) :=
  .of_wp fun prog w A R s h => by
    obtain ⟨hp, g, d, tk, os⟩ := s; obtain ⟨hl, h⟩ := h
    have hsub := sub_enumerate
    have q1 : ∀ {A' : Around} {E : Value → Shared → Prop} {Q : Value → Shared → Prop}, Q (.ref z) ⟨hp, g, d, tk, os⟩ → wpAny (model prog w) A' (pyIter (.ref z)) Q E ⟨hp, g, d, tk, os⟩ :=
      fun q => wpAny_pyIter_zip (s := ⟨hp, g, d, tk, os⟩) hl q
    wp_walk
    refine wpAny_stack_any fun st => wpAny_pure ?_
    split
    · rename_i c _ _ _ _ _
      cases (c == Value.type "enumerate")
      · wp_walk using q1
        exact ⟨_, rfl, h⟩
      · wp_walk using q1
        exact ⟨_, rfl, h⟩
    · wp_walk using q1
      exact ⟨_, rfl, h⟩
theorem enum_zip {prog : Program} {w : World} {A : Around} {E : Value → Shared → Prop} {s : Shared} {z TI TO : Addr} {Q : Value → Shared → Prop} (hz : IsZip s.heap z TI TO .none)
    (h : ∀ h', IsEnum h' s.heap.objs.size z 0 .none → (∀ b u, s.heap.get? b = some u → h'.get? b = some u) → Q (.ref s.heap.objs.size) { s with heap := h' }) :
    wpAny (model prog w) A (call (.type "enumerate") [.ref z]) Q E s := by
  refine callType_new F.called_enumerate (by decide) (F.typeCall_enumerate_1 _) (F.newCall_enumerate_1 _) (fun obj => F.args_object_init_2 obj _) F.entry_enumerate_new (meets_enumZ (TI := TI) (TO := TO)) ⟨hz, ?_⟩
  have he : IsEnum (s.heap.push { cls := .type "enumerate", data := .fields #[.none, .bool false, .ref z, rawInt 0, .none, .none] }) s.heap.objs.size z 0 .none := Heap.get?_push_size _ rfl
  exact ⟨⟨_, he, rfl⟩, h _ he fun b u x => Heap.get?_push_of_some _ x⟩
def iEZ (K : PySem.W.Frag) (ta : TA) : TI := fun σ H R => ta σ H fun vs H1 => ∃ a b b1 b2 xs ys, vs = [.ref a, .ref b] ∧ SqB K b1 H1 a xs ∧ SqB K b2 H1 b ys ∧ R (itEZ K b1 b2 a b) H1
theorem pi_ez {X : Cx} {e e2 : Expr} {ta : TA} {p pos p2 pos2 tpos : Pos} {elts : List Expr} {kk : Nat} (hg0 : Gl X "enumerate") (hm0 : X.mg "enumerate" = none) (hg : Gl X "zip") (hm : X.mg "zip" = none) (ha : PA X [e, e2] ta)
    (hs0 : starEach [.Call (.Name "zip" p2) [e, e2] [] pos2] X.env = (false, eval (.Call (.Name "zip" p2) [e, e2] [] pos2) X.env) :: starEach [] X.env := by rfl)
    (hs : starEach [e, e2] X.env = (false, eval e X.env) :: starEach [e2] X.env := by rfl) (hpl : (backTo pos2 (starEach [e2] X.env)).any (·.1) = false := by rfl) :
    PI X (.Tuple elts kk tpos) (.Call (.Name "enumerate" p) [.Call (.Name "zip" p2) [e, e2] [] pos2] [] pos) (iEZ X.K ta) := by
  refine ⟨fun pn st sg Hh Rr In hw => ?_⟩
  refine Call_ (ld_blt In hg0 hm0 boot_enumerate ?_)
  refine PyProof.Rows.callWith_type1 (PyProof.Rows.args_cons ?_ hs0) hs0 rfl
  refine Call_ (ld_blt In hg hm PyProof.Rows.boot_zip (PyProof.Rows.callWith_type1 (thn (ha.run pos2 pn st sg Hh _ In hw) fun us s1 ⟨vs, H1, I1, r1, q1⟩ => ?_) hs hpl))
  obtain ⟨a, b, b1, b2, xs, ys, ex, hqx, hqy, q⟩ := q1
  subst ex
  cases r1 with
  | cons r rr =>
    cases rr with
    | cons r' rr =>
      cases rr
      cases r
      cases r'
      obtain ⟨its, rv, p1, la⟩ := hqx.raw I1
      obtain ⟨its2, rv2, p2', lb⟩ := hqy.raw I1
      refine zip_begins2 (begins_b b1 a its.toArray) (begins_b b2 b its2.toArray) p1 p2' fun h' hz hTI hTO h1 h2 hsz hk => PyProof.Rows.args_nil ?_
      refine enum_zip (s := { s1 with heap := h' }) hz fun h3 he hk3 => wpAny_pyIter_enum (s := { s1 with heap := h3 }) he ?_
      have I2 : Inv X pn sg H1 { s1 with heap := h3 } := I1.kept (t' := s1.toks) fun b o q => hk3 b o (hk b o q)
      have S := zip_sep2 (N := s1.heap.objs.size) (fp1 := [a]) (fp2 := [b]) (by simpa using la) (by simpa using lb)
      have big : s1.heap.objs.size + 5 ≤ h'.objs.size := by rw [hsz]; exact Nat.le_refl _
      have ez : h'.objs.size ≠ s1.heap.objs.size + 4 := by omega
      have eI : h'.objs.size ≠ s1.heap.objs.size + 2 := by omega
      have eO : h'.objs.size ≠ s1.heap.objs.size + 3 := by omega
      have ea : h'.objs.size ≠ a := Nat.ne_of_gt (Nat.lt_of_lt_of_le la (by omega))
      have eb : h'.objs.size ≠ b := Nat.ne_of_gt (Nat.lt_of_lt_of_le lb (by omega))
      have ef1 : h'.objs.size ∉ [s1.heap.objs.size, a] := fun w => by
        rcases List.mem_cons.mp w with w | w
        · omega
        · exact ea (List.mem_singleton.mp w)
      have ef2 : h'.objs.size ∉ [s1.heap.objs.size + 1, b] := fun w => by
        rcases List.mem_cons.mp w with w | w
        · omega
        · exact eb (List.mem_singleton.mp w)
      refine ⟨h'.objs.size, [h'.objs.size, s1.heap.objs.size + 4, s1.heap.objs.size + 2, s1.heap.objs.size + 3, s1.heap.objs.size, s1.heap.objs.size + 1], _, _, H1, rfl, I2,
        turn_ez (b1 := b1) (b2 := b2) S (Nat.ne_of_lt la) (Nat.ne_of_lt (Nat.lt_succ_of_lt lb)) ez eI eO ef1 ef2,
        ⟨⟨.none, he⟩, ⟨.none, false, hk3 _ _ hz, .inl rfl⟩, hk3 _ _ hTI, ⟨_, _, hk3 _ _ hTO⟩, ItB.start (hk3 _ _ h1), ItB.start (hk3 _ _ h2)⟩, fun c hcm => ?_, q⟩
      have e' : c = h'.objs.size ∨ c = s1.heap.objs.size + 4 ∨ c = s1.heap.objs.size + 2 ∨ c = s1.heap.objs.size + 3 ∨ c = s1.heap.objs.size ∨ c = s1.heap.objs.size + 1 := by simpa using hcm
      have hle : s1.heap.objs.size ≤ c := by
        rcases e' with z | z | z | z | z | z <;> rw [z] <;> omega
      exact I1.fpOk hle (I1.hok.fresh hle)
theorem piEZ {X : Cx} {K : PySem.W.Frag} {e e2 : Expr} {ta : TA} {p pos p2 pos2 tpos : Pos} {elts : List Expr} {kk : Nat} (hg0 : Gl X "enumerate") (hm0 : X.mg "enumerate" = none) (hg : Gl X "zip") (hm : X.mg "zip" = none) (ha : PA X [e, e2] ta) (h : X.K = K := by rfl)
    (hs0 : starEach [.Call (.Name "zip" p2) [e, e2] [] pos2] X.env = (false, eval (.Call (.Name "zip" p2) [e, e2] [] pos2) X.env) :: starEach [] X.env := by rfl)
    (hs : starEach [e, e2] X.env = (false, eval e X.env) :: starEach [e2] X.env := by rfl) (hpl : (backTo pos2 (starEach [e2] X.env)).any (·.1) = false := by rfl) :
    PI X (.Tuple elts kk tpos) (.Call (.Name "enumerate" p) [.Call (.Name "zip" p2) [e, e2] [] pos2] [] pos) (iEZ K ta) := by subst h; exact pi_ez hg0 hm0 hg hm ha hs0 hs hpl

section
variable {s : Sx} {Γ : List Md} {K : PySem.W.Frag}
theorem items_ez {H : Hp} {S U : AS} {a b : Addr} {b1 b2 : Bool} {vs ws : List V} {ds es : List D} (h1 : H a = some (.lst vs) ∧ b1 = true ∨ H a = some (.tup vs) ∧ b1 = false) (h2 : H b = some (.lst ws) ∧ b2 = true ∨ H b = some (.tup ws) ∧ b2 = false)
    (n1 : ¬ S a) (n2 : ¬ S b) (d1 : DenL H U vs ds) (d2 : DenL H U ws es) (z : Sz H) : Items (itEZ K b1 b2 a b) S U H (enumD 0 (zipD ds es)) where
  len := by rw [enumD_len, zipD_len, ← d1.length]; exact Nat.le_trans (Nat.min_le_left _ _) (sz_seq z h1)
  go := fun i H' l hi => by
    rw [enumD_len, zipD_len] at hi
    have i1 : i < vs.length := by rw [d1.length]; omega
    have i2 : i < ws.length := by rw [d2.length]; omega
    exact ⟨vs, ws, vs[i], ws[i], seq_later h1 n1 l, seq_later h2 n2 l, by simp [i1], by simp [i2]⟩
  stop := fun H' l => ⟨vs, ws, seq_later h1 n1 l, seq_later h2 n2 l, by rw [enumD_len, zipD_len, d1.length, d2.length]⟩
  yld := fun i x H' v H'' l lu hd y => by
    obtain ⟨T1, T2, x1, y1, rfl, k1, k2, ne, rfl, _, _, ev, f1, f2⟩ := y
    cases ev
    obtain ⟨dd, g0, rfl⟩ := enumD_get hd
    obtain ⟨d, e, g1, g2, rfl⟩ := zipD_get g0
    obtain ⟨u1, a1, a2⟩ := d1.get g1
    obtain ⟨u2, c1, c2⟩ := d2.get g2
    have p1 := f1 vs (seq_later h1 n1 l)
    have p2 := f2 ws (seq_later h2 n2 l)
    rw [a1] at p1; cases p1
    rw [c1] at p2; cases p2
    have kk : (upd H' T1 (.tup [x1, y1])) T2 = none := by rw [upd_ne ne.symm]; exact k2
    have up0 : ∀ aa o, H' aa = some o → (upd (upd H' T1 (.tup [x1, y1])) T2 (.tup [.int (i : Nat), .ref T1])) aa = some o := fun aa o q => upd_keep kk aa o (upd_keep k1 aa o q)
    have up : ∀ aa o, H aa = some o → ¬ U aa → (upd (upd H' T1 (.tup [x1, y1])) T2 (.tup [.int (i : Nat), .ref T1])) aa = some o := fun aa o q nn => up0 aa o (lu aa o q nn)
    refine ⟨up0, fun zz => Sz.upd (Sz.upd zz fun xs q => ?_) fun xs q => ?_, fun U' hu nu => .tup upd_same (nu T2 k2) (.cons (by rw [Nat.zero_add]; exact .int _) (.cons (.tup (by rw [upd_ne ne, upd_same]) (nu T1 k1) (.cons (a2.mono up hu) (.cons (c2.mono up hu) .nil))) .nil))⟩
    · rcases q with q | q <;> cases q
      show 2 ≤ sizeLine
      decide
    · rcases q with q | q <;> cases q
      show 2 ≤ sizeLine
      decide
def itEZip (f : Py.Env → M (List D)) : Py.Env → M (List D) := fun ρ => bnd (f ρ) fun l => match l with
  | [x, y] => bnd (seqD x) fun ds => bnd (seqD y) fun es => ret (enumD 0 (zipD ds es))
  | _ => stuck
theorem semIc_ez {t : TA} {f : Py.Env → M (List D)} (h : SemAV s Γ t f) : SemIc s Γ (iEZ K t) (itEZip f) := by
  intro c ρ ps σ H R' P hc r0 q k
  refine h c ρ ps σ H _ _ hc r0 q fun ds vs H1 q1 e1 d1 => ?_
  dsimp only at q1
  split at q1
  · rename_i x y
    obtain ⟨l1, z1, q1⟩ := seqD_get q1
    obtain ⟨l2, z2, q1⟩ := seqD_get q1
    obtain ⟨v, w, rfl, dx, dy⟩ := d1.two
    have g := (r0.stp e1).gd
    obtain ⟨a, us, b1, rfl, hs1, dn1, nu1, hh1⟩ := dx.seqA (K := K) g.ok g.nA z1
    obtain ⟨b, ws, b2, rfl, hs2, dn2, nu2, hh2⟩ := dy.seqA (K := K) g.ok g.nA z2
    exact ⟨a, b, b1, b2, us, ws, rfl, hs1, hs2, k _ _ H1 q1 e1 (items_ez hh1 hh2 nu1 nu2 dn1 dn2 g.sz)⟩
  · cases q1
theorem semI_ez {t : TA} {f : Py.Env → M (List D)} (h : SemA s Γ t f) : SemI s Γ (iEZ K t) (itEZip f) := by
  intro c ρ ps σ H R' P hc r0 q k
  refine h c ρ ps σ H _ _ hc r0 q fun ds vs H1 q1 e1 d1 => ?_
  dsimp only at q1
  split at q1
  · rename_i x y
    obtain ⟨l1, z1, q1⟩ := seqD_get q1
    obtain ⟨l2, z2, q1⟩ := seqD_get q1
    cases d1 with
    | cons dx dr =>
      cases dr with
      | cons dy dr =>
        cases dr
        obtain ⟨a, us, b1, rfl, hs1, dn1, nu1, hh1⟩ := dx.seqU (K := K) z1
        obtain ⟨b, ws, b2, rfl, hs2, dn2, nu2, hh2⟩ := dy.seqU (K := K) z2
        exact ⟨a, b, b1, b2, us, ws, rfl, hs1, hs2, k _ _ H1 q1 e1 (items_ez hh1 hh2 nu1 nu2 dn1 dn2 (r0.stp e1).sz)⟩
  · cases q1
end
end Py
end
/-! PyE: combinators reckoned: equations f ρ = ret x. -/
namespace Py
open PySem L2 StX
@[simp] theorem bnd_ret' {α β : Type} (a : α) (k : α → M β) : bnd (ret a) k = k a := (rfl)
@[simp] theorem bnd_stuck' {α β : Type} (k : α → M β) : bnd stuck k = (stuck : M β) := (rfl)
@[simp] theorem oThen_nx (ρ : Env) (k : Env → M Out) : oThen (.nx ρ) k = k ρ := (rfl)
@[simp] theorem oThen_rt (d : D) (k : Env → M Out) : oThen (.rt d) k = ret (.rt d) := (rfl)
@[simp] theorem oLoop_nx (ρ : Env) (k : Env → M Out) : oLoop (.nx ρ) k = k ρ := (rfl)
@[simp] theorem oLoop_rt (d : D) (k : Env → M Out) : oLoop (.rt d) k = ret (.rt d) := (rfl)
@[simp] theorem outD_rt (d : D) : outD (.rt d) = ret d := (rfl)
@[simp] theorem outD_nx (ρ : Env) : outD (.nx ρ) = ret .none := (rfl)
@[simp] theorem lenOk_def (n : Nat) : (lenOk n = true) = (n ≤ 100000) := by simp [lenOk]
theorem ite_t {α : Type} {c : Prop} [Decidable c] {a b : α} (h : c) : (if c then a else b) = a := if_pos h

/-! ### data -/
def dInts (xs : List Int) : List D := xs.map .int
def tupI (xs : List Int) : D := .tuple (dInts xs)
def lstI (xs : List Int) : D := .list (dInts xs)
/-- a table: a tuple of tuples; a list of lists -/
def dT (M : List (List Int)) : D := .tuple (M.map tupI)
def dL (M : List (List Int)) : D := .list (M.map lstI)
@[simp] theorem dInts_len (xs : List Int) : (dInts xs).length = xs.length := by simp [dInts]
theorem intsD_dInts : ∀ xs : List Int, intsD (dInts xs) = some xs
  | [] => rfl
  | x :: xs => by
    show (intsD (dInts xs)).map (x :: ·) = some (x :: xs)
    rw [intsD_dInts xs]; rfl
theorem boolsD_bools : ∀ xs : List Bool, boolsD (xs.map .bool) = some xs
  | [] => rfl
  | x :: xs => by
    show (boolsD (xs.map .bool)).map (x :: ·) = some (x :: xs)
    rw [boolsD_bools xs]; rfl

/-! ### comprehensions -/
theorem lcW_map {α : Type} {tg : D → Env → M Env} {cond : Env → M Bool} {elt : Env → M D} {ρ : Env} (f : α → D) (c : α → Bool) (e : α → D) : ∀ (xs : List α), (∀ x ∈ xs, ∃ ρ', tg (f x) ρ = ret ρ' ∧ cond ρ' = ret (c x) ∧ (c x = true → elt ρ' = ret (e x))) →
    lcW tg cond elt ρ (xs.map f) = ret ((xs.filter c).map e)
  | [], _ => rfl
  | x :: xs, h => by
    obtain ⟨ρ', h1, h2, h3⟩ := h x (by simp)
    have ih := lcW_map f c e xs fun y hy => h y (by simp [hy])
    show bnd (tg (f x) ρ) (fun ρ' => bnd (cond ρ') fun b => if b = true then bnd (elt ρ') fun y => bnd (lcW tg cond elt ρ (xs.map f)) fun ys => ret (y :: ys) else lcW tg cond elt ρ (xs.map f)) = _
    rw [h1, ih]
    simp only [bnd_ret', h2]
    cases hc : c x with
    | true => simp [h3 hc, hc]
    | false => simp [hc]
theorem lcW_all {α : Type} {tg : D → Env → M Env} {elt : Env → M D} {ρ : Env} (f : α → D) (e : α → D) (xs : List α) (h : ∀ x ∈ xs, ∃ ρ', tg (f x) ρ = ret ρ' ∧ elt ρ' = ret (e x)) : lcW tg cYes elt ρ (xs.map f) = ret (xs.map e) := by
  have := lcW_map (tg := tg) (cond := cYes) (elt := elt) (ρ := ρ) f (fun _ => true) e xs fun x hx => by
    obtain ⟨ρ', h1, h2⟩ := h x hx
    exact ⟨ρ', h1, rfl, fun _ => h2⟩
  rw [List.filter_eq_self.mpr (by simp)] at this
  exact this
theorem lcW_allL {α : Type} {tg : D → Env → M Env} {elt : Env → M D} {ρ : Env} {ds : List D} (f : α → D) (e : α → D) (xs : List α) (hd : ds = xs.map f) (h : ∀ x ∈ xs, ∃ ρ', tg (f x) ρ = ret ρ' ∧ elt ρ' = ret (e x)) : lcW tg cYes elt ρ ds = ret (xs.map e) := by
  rw [hd]; exact lcW_all f e xs h
theorem rangeD_eq (lo : Int) (n : Nat) : rangeD lo n = (List.range n).map fun i => .int (lo + (i : Nat)) := rfl

/-! ### loops: each turn leads from one state to the next -/
theorem forW_fold {α : Type} {tg : D → Env → M Env} {body : Env → M Out} (f : α → D) (St : List α → Env) : ∀ (done xs : List α), (∀ done x rest, done ++ x :: rest = done ++ x :: rest → ∃ ρ', tg (f x) (St done) = ret ρ' ∧ body ρ' = ret (.nx (St (done ++ [x])))) → forW tg body (xs.map f) (St done) = ret (.nx (St (done ++ xs)))
  | done, [], _ => by rw [List.append_nil]; rfl
  | done, x :: xs, h => by
    obtain ⟨ρ', h1, h2⟩ := h done x xs rfl
    show bnd (tg (f x) (St done)) (fun ρ' => bnd (body ρ') fun o => oLoop o (forW tg body (xs.map f))) = _
    rw [h1]
    simp only [bnd_ret', h2, oLoop_nx]
    rw [forW_fold f St (done ++ [x]) xs h, List.append_assoc]
    rfl

/-! ### what the combinators do, as equations -/
def toB : D → M Bool
  | .bool b => ret b
  | _ => stuck
@[simp] theorem toB_b (b : Bool) : toB (.bool b) = ret b := (rfl)
def toI : D → M (Option Int)
  | .int i => ret (some i)
  | _ => stuck
@[simp] theorem toI_i (i : Int) : toI (.int i) = ret (some i) := (rfl)
def optM : Option D → M D
  | some d => ret d
  | none => stuck
@[simp] theorem optM_some (d : D) : optM (some d) = ret d := (rfl)
@[simp] theorem x_eVar (i : Nat) (ρ : Env) : eVar i ρ = optM ((ρ[i]?).getD none) := by
  unfold eVar
  cases h : ρ[i]? with
  | none => rfl
  | some o => cases o <;> rfl
@[simp] theorem x_tst (e : Env → M D) (ρ : Env) : tst e ρ = bnd (e ρ) toB := by
  unfold tst
  congr 1
@[simp] theorem x_tru (e : Env → M D) (ρ : Env) : tru e ρ = bnd (e ρ) truD := (rfl)
@[simp] theorem x_oPart (e : Env → M D) (ρ : Env) : oPart e ρ = bnd (e ρ) toI := by
  unfold oPart
  congr 1
@[simp] theorem x_tupRg (e : Env → M D) (ρ : Env) (n : Int) (h : e ρ = ret (.int n)) (hn : rngOk n = true) : eTupRg e ρ = ret (.tuple (rangeD 0 (n - 0).toNat)) := by
  unfold eTupRg
  rw [h]
  show (if rngOk n = true then ret (PyData.tuple (rangeD 0 (n - 0).toNat)) else stuck) = _
  rw [if_pos hn]
def zip2 : List D → M (List D)
  | [x, y] => bnd (seqD x) fun ds => bnd (seqD y) fun es => ret (zipD ds es)
  | _ => stuck
@[simp] theorem zip2_2 (x y : D) : zip2 [x, y] = bnd (seqD x) fun ds => bnd (seqD y) fun es => ret (zipD ds es) := (rfl)
@[simp] theorem x_itZip (f : Env → M (List D)) (ρ : Env) : itZip f ρ = bnd (f ρ) zip2 := by
  unfold itZip
  congr 1
@[simp] theorem x_itEZip (f : Env → M (List D)) (ρ : Env) : itEZip f ρ = bnd (f ρ) fun l => bnd (zip2 l) fun ds => ret (enumD 0 ds) := by
  unfold itEZip
  congr 1
  funext l
  match l with
  | [] => rfl
  | [x] => rfl
  | [x, y] =>
    show bnd (seqD x) _ = bnd (bnd (seqD x) fun ds => bnd (seqD y) fun es => ret (zipD ds es)) _
    rfl
  | x :: y :: z :: r => rfl
def enum1 : List D → M (List D)
  | [x] => bnd (seqD x) fun ds => ret (enumD 0 ds)
  | _ => stuck
@[simp] theorem enum1_1 (x : D) : enum1 [x] = bnd (seqD x) fun ds => ret (enumD 0 ds) := (rfl)
@[simp] theorem x_itEnum (f : Env → M (List D)) (ρ : Env) : itEnum f ρ = bnd (f ρ) enum1 := by
  unfold itEnum
  congr 1
def rng1 : List D → M (List D)
  | [.int n] => if rngOk n = true then ret (rangeD 0 n.toNat) else stuck
  | _ => stuck
@[simp] theorem rng1_i (n : Int) : rng1 [.int n] = if rngOk n = true then ret (rangeD 0 n.toNat) else stuck := (rfl)
@[simp] theorem x_itRng1 (f : Env → M (List D)) (ρ : Env) : itRng1 f ρ = bnd (f ρ) rng1 := by
  unfold itRng1
  congr 1
def rng2 : List D → M (List D)
  | [.int m, .int n] => if (rngOk m && rngOk n) = true then ret (rangeD m (n - m).toNat) else stuck
  | _ => stuck
@[simp] theorem rng2_i (m n : Int) : rng2 [.int m, .int n] = if (rngOk m && rngOk n) = true then ret (rangeD m (n - m).toNat) else stuck := (rfl)
@[simp] theorem x_itRng2 (f : Env → M (List D)) (ρ : Env) : itRng2 f ρ = bnd (f ρ) rng2 := by
  unfold itRng2
  congr 1
def par2 (i j : Nat) (ρ : Env) : List D → M Out
  | [x, y] => ret (.nx ((ρ.set i (some x)).set j (some y)))
  | _ => stuck
@[simp] theorem par2_2 (i j : Nat) (ρ : Env) (x y : D) : par2 i j ρ [x, y] = ret (.nx ((ρ.set i (some x)).set j (some y))) := (rfl)
@[simp] theorem x_sPar (i j : Nat) (f : Env → M (List D)) (ρ : Env) : sPar i j f ρ = bnd (f ρ) (par2 i j ρ) := by
  unfold sPar
  congr 1
def par3 (i j l : Nat) (ρ : Env) : List D → M Out
  | [x, y, z] => ret (.nx (((ρ.set i (some x)).set j (some y)).set l (some z)))
  | _ => stuck
@[simp] theorem par3_3 (i j l : Nat) (ρ : Env) (x y z : D) : par3 i j l ρ [x, y, z] = ret (.nx (((ρ.set i (some x)).set j (some y)).set l (some z))) := (rfl)
@[simp] theorem x_sPar3 (i j k : Nat) (f : Env → M (List D)) (ρ : Env) : sPar3 i j k f ρ = bnd (f ρ) (par3 i j k ρ) := by
  unfold sPar3
  congr 1
theorem cSum_dInts (xs : List Int) : cSum [.list (dInts xs)] = ret (.int xs.sum) := by
  show (match intsD (dInts xs) with | some ns => ret (PyData.int ns.sum) | none => stuck) = _
  rw [intsD_dInts]
theorem cAll_bools (xs : List Bool) : cAll [.list (xs.map .bool)] = ret (.bool (xs.all id)) := by
  show (match boolsD (xs.map .bool) with | some ns => ret (PyData.bool (ns.all id)) | none => stuck) = _
  rw [boolsD_bools]
theorem cAny_bools (xs : List Bool) : cAny [.list (xs.map .bool)] = ret (.bool (xs.any id)) := by
  show (match boolsD (xs.map .bool) with | some ns => ret (PyData.bool (ns.any id)) | none => stuck) = _
  rw [boolsD_bools]
theorem gIx_l {ds : List D} {i : Int} {d : D} (h : L2.atI ds i = some d) : gIx (.list ds) (.int i) = ret d := by
  show (match L2.atI ds i with | some d => ret d | none => (stuck : M D)) = _
  rw [h]
theorem gIx_t {ds : List D} {i : Int} {d : D} (h : L2.atI ds i = some d) : gIx (.tuple ds) (.int i) = ret d := by
  show (match L2.atI ds i with | some d => ret d | none => (stuck : M D)) = _
  rw [h]
@[simp] theorem x_eC (d : D) (ρ : Env) : eC d ρ = ret d := (rfl)
@[simp] theorem x_bin (g : D → D → M D) (a b : Env → M D) (ρ : Env) : bin g a b ρ = bnd (a ρ) fun x => bnd (b ρ) fun y => g x y := (rfl)
@[simp] theorem x_una (g : D → M D) (a : Env → M D) (ρ : Env) : una g a ρ = bnd (a ρ) g := (rfl)
@[simp] theorem x_bAnd (a b : Env → M Bool) (ρ : Env) : bAnd a b ρ = bnd (a ρ) fun x => if x = true then b ρ else ret false := (rfl)
@[simp] theorem x_bOr (a b : Env → M Bool) (ρ : Env) : bOr a b ρ = bnd (a ρ) fun x => if x = true then ret true else b ρ := (rfl)
@[simp] theorem x_bNot (a : Env → M Bool) (ρ : Env) : bNot a ρ = bnd (a ρ) fun x => ret (!x) := (rfl)
@[simp] theorem x_eAnd (a b : Env → M D) (ρ : Env) : eAnd a b ρ = bnd (tst a ρ) fun x => if x = true then b ρ else ret (.bool false) := (rfl)
@[simp] theorem x_eOr (a b : Env → M D) (ρ : Env) : eOr a b ρ = bnd (tst a ρ) fun x => if x = true then ret (.bool true) else b ρ := (rfl)
@[simp] theorem x_eNot (a : Env → M D) (ρ : Env) : eNot a ρ = bnd (tst a ρ) fun x => ret (.bool (!x)) := (rfl)
@[simp] theorem x_eIf (g : Env → M Bool) (a b : Env → M D) (ρ : Env) : eIf g a b ρ = bnd (g ρ) fun x => if x = true then a ρ else b ρ := (rfl)
@[simp] theorem x_eChain (g g' : D → D → M D) (a b e : Env → M D) (ρ : Env) : eChain g g' a b e ρ = bnd (a ρ) fun x => bnd (b ρ) fun y => bnd (g x y) fun z => bnd (toB z) fun k => if k = true then bnd (e ρ) fun w => g' y w else ret (.bool false) := by
  unfold eChain
  congr 1; funext x; congr 1; funext y; congr 1; funext z
  cases z <;> rfl
@[simp] theorem x_eSl (e : Env → M D) (lo hi : Env → M (Option Int)) (ρ : Env) : eSl e lo hi ρ = bnd (e ρ) fun d => bnd (lo ρ) fun l => bnd (hi ρ) fun h => gSl d l h := (rfl)
@[simp] theorem x_oNo (ρ : Env) : oNo ρ = ret none := (rfl)
@[simp] theorem x_aNil (ρ : Env) : aNil ρ = ret [] := (rfl)
@[simp] theorem x_aCons (a : Env → M D) (r : Env → M (List D)) (ρ : Env) : aCons a r ρ = bnd (a ρ) fun d => bnd (r ρ) fun ds => ret (d :: ds) := (rfl)
@[simp] theorem x_aStar (a : Env → M D) (r : Env → M (List D)) (ρ : Env) : aStar a r ρ = bnd (a ρ) fun d => bnd (seqD d) fun xs => bnd (r ρ) fun ds => ret (xs ++ ds) := (rfl)
@[simp] theorem x_eTup (f : Env → M (List D)) (ρ : Env) : eTup f ρ = bnd (f ρ) fun ds => if lenOk ds.length = true then ret (.tuple ds) else stuck := (rfl)
@[simp] theorem x_lDisp (f : Env → M (List D)) (ρ : Env) : lDisp f ρ = bnd (f ρ) fun ds => if lenOk ds.length = true then ret ds else stuck := (rfl)
@[simp] theorem x_tgN (i : Nat) (d : D) (ρ : Env) : tgN i d ρ = ret (ρ.set i (some d)) := (rfl)
@[simp] theorem x_tgsNil (ρ : Env) : tgsNil [] ρ = ret ρ := (rfl)
@[simp] theorem x_tgsCons (g : D → Env → M Env) (r : List D → Env → M Env) (d : D) (ds : List D) (ρ : Env) : tgsCons g r (d :: ds) ρ = bnd (g d ρ) fun ρ' => r ds ρ' := (rfl)
@[simp] theorem x_tgTup (n : Nat) (g : List D → Env → M Env) (ds : List D) (ρ : Env) : tgTup n g (.tuple ds) ρ = if ds.length = n then g ds ρ else stuck := (rfl)
@[simp] theorem x_itSeq (e : Env → M D) (ρ : Env) : itSeq e ρ = bnd (e ρ) seqD := (rfl)
@[simp] theorem x_eLc (its : Env → M (List D)) (tg : D → Env → M Env) (cond : Env → M Bool) (elt : Env → M D) (vs : List Nat) (ρ : Env) : eLc its tg cond elt vs ρ = bnd (its ρ) fun ds => lcW tg cond elt (wipeD ρ vs) ds := (rfl)
@[simp] theorem x_cYes (ρ : Env) : cYes ρ = ret true := (rfl)
@[simp] theorem x_mkL (f : Env → M (List D)) (ρ : Env) : mkL f ρ = bnd (f ρ) fun ds => ret (.list ds) := (rfl)
@[simp] theorem x_sSeq (f g : Env → M Out) (ρ : Env) : sSeq f g ρ = bnd (f ρ) fun o => oThen o g := (rfl)
@[simp] theorem x_sNx (ρ : Env) : sNx ρ = ret (.nx ρ) := (rfl)
@[simp] theorem x_sAsg (i : Nat) (e : Env → M D) (ρ : Env) : sAsg i e ρ = bnd (e ρ) fun d => ret (.nx (ρ.set i (some d))) := (rfl)
@[simp] theorem x_sOwn (i : Nat) (e : Env → M (List D)) (ρ : Env) : sOwn i e ρ = bnd (e ρ) fun ds => ret (.nx (ρ.set i (some (.list ds)))) := (rfl)
@[simp] theorem x_sTgt (e : Env → M D) (g : D → Env → M Env) (ρ : Env) : sTgt e g ρ = bnd (e ρ) fun d => bnd (g d ρ) fun ρ' => ret (.nx ρ') := (rfl)
@[simp] theorem x_sRet (e : Env → M D) (ρ : Env) : sRet e ρ = bnd (e ρ) fun d => ret (.rt d) := (rfl)
@[simp] theorem x_sRetN (ρ : Env) : sRetN ρ = ret (.rt .none) := (rfl)
@[simp] theorem x_sIf (g : Env → M Bool) (f f' : Env → M Out) (ρ : Env) : sIf g f f' ρ = bnd (g ρ) fun b => if b = true then f ρ else f' ρ := (rfl)
@[simp] theorem x_sFor (its : Env → M (List D)) (tg : D → Env → M Env) (body : Env → M Out) (ρ : Env) : sFor its tg body ρ = bnd (its ρ) fun ds => forW tg body ds ρ := (rfl)
@[simp] theorem x_sRetOwn (i : Nat) (ρ : Env) : sRetOwn i ρ = bnd (eVar i ρ) fun d => ret (.rt d) := (rfl)
@[simp] theorem x_cal (g : List D → M D) (f : Env → M (List D)) (ρ : Env) : cal g f ρ = bnd (f ρ) g := (rfl)
@[simp] theorem x_calL (g : List D → M (List D)) (f : Env → M (List D)) (ρ : Env) : calL g f ρ = bnd (f ρ) g := (rfl)
@[simp] theorem x_eCall (n : Nat) (F : List D → M D) (f : Env → M (List D)) (ρ : Env) : eCall n F f ρ = bnd (f ρ) fun ds => if ds.length = n then F ds else stuck := (rfl)
@[simp] theorem x_eCallS (i n : Nat) (F : List D → M D) (f : Env → M (List D)) (ρ : Env) : eCallS i n F f ρ = bnd (eVar i ρ) fun _ => bnd (f ρ) fun ds => if ds.length = n then F ds else stuck := (rfl)
@[simp] theorem x_fnD (m : Nat) (f : Env → M Out) (ds : List D) : fnD m f ds = bnd (f (ds.map some ++ List.replicate m none)) outD := (rfl)
@[simp] theorem x_fnS (m : Nat) (f : Env → M Out) (ds : List D) : fnS m f ds = bnd (f (some .none :: (ds.map some ++ List.replicate m none))) outD := (rfl)
@[simp] theorem x_seqD_l (ds : List D) : seqD (.list ds) = ret ds := (rfl)
@[simp] theorem x_seqD_t (ds : List D) : seqD (.tuple ds) = ret ds := (rfl)
@[simp] theorem x_gI_i (f : Int → Int → D) (i j : Int) : gI f (.int i) (.int j) = ret (f i j) := (rfl)
@[simp] theorem x_gIc_i (p : Int → Int → Bool) (f : Int → Int → D) (i j : Int) : gIc p f (.int i) (.int j) = if p i j = true then ret (f i j) else stuck := (rfl)
@[simp] theorem x_gNeg_i (i : Int) : gNeg (.int i) = ret (.int (-i)) := (rfl)
@[simp] theorem x_gAdd_i (i j : Int) : gAdd (.int i) (.int j) = ret (.int (i + j)) := (rfl)
@[simp] theorem x_gAdd_t (a b : List D) : gAdd (.tuple a) (.tuple b) = if lenOk (a.length + b.length) = true then ret (.tuple (a ++ b)) else stuck := (rfl)
@[simp] theorem x_gAdd_l (a b : List D) : gAdd (.list a) (.list b) = if lenOk (a.length + b.length) = true then ret (.list (a ++ b)) else stuck := (rfl)
@[simp] theorem x_gMulX_i (i j : Int) : gMulX (.int i) (.int j) = if mulOk i j = true then ret (.int (i * j)) else stuck := (rfl)
@[simp] theorem x_cTup_l (ds : List D) : cTup [.list ds] = ret (.tuple ds) := (rfl)
@[simp] theorem x_cTup_t (ds : List D) : cTup [.tuple ds] = ret (.tuple ds) := (rfl)
@[simp] theorem x_cLst_l (ds : List D) : cLst [.list ds] = ret ds := (rfl)
@[simp] theorem x_cLst_t (ds : List D) : cLst [.tuple ds] = ret ds := (rfl)
@[simp] theorem x_cLen_l (ds : List D) : cLen [.list ds] = ret (.int ds.length) := (rfl)
@[simp] theorem x_cLen_t (ds : List D) : cLen [.tuple ds] = ret (.int ds.length) := (rfl)
@[simp] theorem x_cInt_b (b : Bool) : cInt [.bool b] = ret (.int (if b then 1 else 0)) := (rfl)
@[simp] theorem x_cInt_i (i : Int) : cInt [.int i] = ret (.int i) := (rfl)
@[simp] theorem x_cAbs_i (i : Int) : cAbs [.int i] = ret (.int (if i < 0 then -i else i)) := (rfl)
@[simp] theorem x_gIsN_ (d e : D) : gIsN d e = ret (.bool (isNonD d)) := (rfl)
@[simp] theorem x_wipeD_nil (ρ : Env) : wipeD ρ [] = ρ := (rfl)
@[simp] theorem x_wipeD_cons (ρ : Env) (v : Nat) (vs : List Nat) : wipeD ρ (v :: vs) = (wipeD ρ vs).set v none := (rfl)
end Py
/-! PyR: what repr shows of nested data, its length and its letters. -/
namespace Py
open PySem hiding ret
open PyData (strOk)
theorem strOk_def (x : Str) : strOk x = true ↔ ∀ c ∈ x.cps, c < 0x110000 := by
  unfold strOk
  rw [Array.all_eq_true]
  constructor
  · intro h c hc
    obtain ⟨i, hi, e⟩ := Array.mem_iff_getElem.mp hc
    rw [← e]
    simpa using h i hi
  · intro h i hi
    simpa using h _ (Array.getElem_mem hi)
theorem ok_ofString (s : String) : strOk (Str.ofString s) = true := by
  rw [strOk_def, Str.ofString_eq_toList]
  intro c hc
  have : c ∈ s.toList.map Char.toNat := by simpa using hc
  obtain ⟨x, -, rfl⟩ := List.mem_map.mp this
  rcases x.valid with h | h
  · exact Nat.lt_trans h (by decide)
  · exact h.2
theorem ok_app {a b : Str} (ha : strOk a = true) (hb : strOk b = true) : strOk (a ++ b) = true := by
  rw [strOk_def] at *
  intro c hc
  have : c ∈ a.cps ++ b.cps := hc
  rcases Array.mem_append.mp this with h | h
  · exact ha c h
  · exact hb c h
theorem ok_joins {sep : Str} (hs : strOk sep = true) : ∀ ts : List Str, (∀ t ∈ ts, strOk t = true) → strOk (Str.join sep ts) = true
  | [], _ => by
    show strOk Str.empty = true
    decide +kernel
  | [x], h => h x (by simp)
  | x :: y :: rest, h => ok_app (ok_app (h x (by simp)) hs) (ok_joins hs (y :: rest) fun t ht => h t (by simp [List.mem_cons.mp ht] ))
theorem ok_tupleText {ts : List Str} (h : ∀ t ∈ ts, strOk t = true) : strOk (tupleText ts) = true := by
  unfold tupleText
  refine ok_app (ok_app (ok_ofString _) (ok_joins (ok_ofString _) ts h)) ?_
  split <;> exact ok_ofString _
theorem ok_textFrom : ∀ (ts : List Str) (k : Nat) (acc : Str), strOk acc = true → (∀ t ∈ ts, strOk t = true) → strOk (textFrom k acc ts) = true
  | [], _, acc, ha, _ => ha
  | t :: ts, k, acc, ha, h => ok_textFrom ts (k + 1) _ (ok_app (ok_app ha (ok_ofString _)) (h t (by simp))) fun x hx => h x (List.mem_cons_of_mem _ hx)
theorem ok_listText {ts : List Str} (h : ∀ t ∈ ts, strOk t = true) : strOk (listText ts) = true := ok_app (ok_textFrom ts 0 _ (ok_ofString _) h) (ok_ofString _)
mutual
def sz : D → Nat
  | .none => 4
  | .bool _ => 5
  | .int i => i.natAbs.log2 + 2
  | .str x => (reprText x).length
  | .list xs => szAll xs + 3
  | .tuple xs => szAll xs + 3
  | .dict _ => 0
def szAll : List D → Nat
  | [] => 0
  | x :: xs => sz x + 2 + szAll xs
end
mutual
def ptx : D → Bool
  | .none => true
  | .bool _ => true
  | .int i => decide (i.natAbs.log2 < 1920)
  | .str x => strOk (reprText x) && strOk x
  | .list xs => ptxAll xs
  | .tuple xs => ptxAll xs
  | .dict _ => false
def ptxAll : List D → Bool
  | [] => true
  | x :: xs => ptx x && ptxAll xs
end
mutual
theorem ptx_shown : ∀ d : D, ptx d = true → strOk d.shown = true ∧ d.shown.length ≤ sz d ∧ d.showable = true ∧ d.canLay0 = true
  | .none, _ => ⟨ok_ofString _, by decide +kernel, by simp [PyData.showable], by simp [PyData.canLay0]⟩
  | .bool b, _ => ⟨by cases b <;> exact ok_ofString _, by cases b <;> decide +kernel, by simp [PyData.showable], by simp [PyData.canLay0]⟩
  | .int i, h => by
    have h' : i.natAbs.log2 < 1920 := by simpa [ptx] using h
    refine ⟨ok_ofString _, ?_, by simpa [PyData.showable] using h', by simp [PyData.canLay0]⟩
    show (Str.ofString (toString i)).length ≤ i.natAbs.log2 + 2
    have := int_text_length_le (a := i) (k := i.natAbs.log2 + 1) (by omega) (by omega)
    rw [show (Str.ofString (toString i)).length = (toString i).length by rw [Str.ofString_eq_toList]; simp [Str.length, String.length]]
    omega
  | .str x, h => by
    have h' : strOk (reprText x) = true ∧ strOk x = true := by simpa [ptx] using h
    exact ⟨by simpa [PyData.shown] using h'.1, by simp [PyData.shown, sz], by simp [PyData.showable], by simpa [PyData.canLay0] using h'.2⟩
  | .list xs, h => by
    obtain ⟨h1, h2, h3, h4⟩ := ptx_all xs (by simpa [ptx] using h)
    refine ⟨by simpa [PyData.shown] using ok_listText h1, ?_, by simpa [PyData.showable] using h3, by simpa [PyData.canLay0] using h4⟩
    have := listText_len_le (PyData.shownAll xs)
    simp only [PyData.shown, sz]
    omega
  | .tuple xs, h => by
    obtain ⟨h1, h2, h3, h4⟩ := ptx_all xs (by simpa [ptx] using h)
    refine ⟨by simpa [PyData.shown] using ok_tupleText h1, ?_, by simpa [PyData.showable] using h3, by simpa [PyData.canLay0] using h4⟩
    have := tupleText_len_le (PyData.shownAll xs)
    simp only [PyData.shown, sz]
    omega
  | .dict _, h => by simp [ptx] at h
theorem ptx_all : ∀ xs : List D, ptxAll xs = true → (∀ t ∈ PyData.shownAll xs, strOk t = true) ∧ ((PyData.shownAll xs).map (·.length)).sum + 2 * (PyData.shownAll xs).length ≤ szAll xs ∧ PyData.showableAll xs = true ∧ PyData.canLayAll0 xs = true
  | [], _ => ⟨by simp [PyData.shownAll], by simp [PyData.shownAll, szAll], by simp [PyData.showableAll], by simp [PyData.canLayAll0]⟩
  | x :: xs, h => by
    have h' : ptx x = true ∧ ptxAll xs = true := by simpa [ptxAll] using h
    obtain ⟨a1, a2, a3, a4⟩ := ptx_shown x h'.1
    obtain ⟨b1, b2, b3, b4⟩ := ptx_all xs h'.2
    refine ⟨?_, ?_, by simp [PyData.showableAll, a3, b3], by simp [PyData.canLayAll0, a4, b4]⟩
    · intro t ht
      rcases List.mem_cons.mp (by simpa [PyData.shownAll] using ht) with rfl | h
      · exact a1
      · exact b1 t h
    · simp only [PyData.shownAll, List.map_cons, List.sum_cons, List.length_cons, szAll]
      omega
end
/-- what repr and the comparing of two texts want -/
def rok (d : D) : Prop := ptx d = true ∧ d.depth ≤ 64 ∧ sz d ≤ 16777216
theorem rok.rp {d : D} (h : rok d) : rpOk d = true := by
  obtain ⟨h1, h2, h3⟩ := h
  obtain ⟨a1, a2, a3, a4⟩ := ptx_shown d h1
  unfold rpOk
  simp only [Bool.and_eq_true, decide_eq_true_eq, a3, a4, PyData.hasDict_of_canLay d a4, h2]
  exact ⟨by simp, Nat.le_trans a2 (Nat.le_trans h3 (by decide))⟩
theorem rok.shp {d : D} (h : rok d) : shp (.str d.shown) = true := by
  have := (ptx_shown d h.1).1
  show SeqAt.shaped _ = true
  unfold SeqAt.shaped
  simp [PyData.canLay0, this, PyData.depth]
theorem cRepr_ok {d : D} (h : rok d) : cRepr [d] = ret (.str d.shown) := if_pos h.rp
theorem gNe_rep {d : D} (h : rok d) : gNe (.str d.shown) (.str d.shown) = ret (.bool false) := by
  show (if (Py.shp (.str d.shown) && Py.shp (.str d.shown)) = true then ret (PyData.bool (!PyData.eqv (.str d.shown) (.str d.shown))) else stuck) = _
  rw [h.shp, Bool.and_self, if_pos rfl]
  simp [PyData.eqv]
theorem rep_ne {a b : Py.Env → M D} {ρ : Py.Env} {d : D} (ha : a ρ = ret d) (hb : b ρ = ret d) (h : rok d) : bin gNe (cal cRepr (aCons a aNil)) (cal cRepr (aCons b aNil)) ρ = ret (.bool false) := by
  simp only [x_bin, x_cal, x_aCons, x_aNil, ha, hb, bnd_ret', cRepr_ok h, gNe_rep h]
/-- the same with bounds of depth and of size kept apart -/
def rk (m s : Nat) (d : D) : Prop := ptx d = true ∧ d.depth ≤ m ∧ sz d ≤ s
theorem rk.mono {m s m' s' : Nat} {d : D} (h : rk m s d) (hm : m ≤ m') (hs : s ≤ s') : rk m' s' d := ⟨h.1, Nat.le_trans h.2.1 hm, Nat.le_trans h.2.2 hs⟩
theorem rk.ok {m s : Nat} {d : D} (h : rk m s d) (hm : m ≤ 64 := by decide) (hs : s ≤ 16777216 := by decide) : rok d := ⟨h.1, Nat.le_trans h.2.1 hm, Nat.le_trans h.2.2 hs⟩
theorem rk_int {k : Nat} {i : Int} (h : i.natAbs ≤ 2 ^ k) (hk : k < 1919) : rk 0 (k + 3) (.int i) := by
  have l : i.natAbs.log2 < k + 1 := by
    by_cases z : i.natAbs = 0
    · rw [z, show Nat.log2 0 = 0 from by decide]; omega
    · rw [Nat.log2_lt z]
      exact Nat.lt_of_le_of_lt h (Nat.pow_lt_pow_right (by decide) (by omega))
  refine ⟨?_, ?_, ?_⟩
  · simp only [ptx, decide_eq_true_eq]; omega
  · simp [PyData.depth]
  · simp only [sz]; omega
theorem rk_bool (b : Bool) : rk 0 5 (.bool b) := ⟨by simp [ptx], by simp [PyData.depth], by simp [sz]⟩
theorem rk_none : rk 0 4 (.none : D) := ⟨by simp [ptx], by simp [PyData.depth], by simp [sz]⟩
theorem rkAll {m s : Nat} : ∀ {ds : List D}, (∀ d ∈ ds, rk m s d) → ptxAll ds = true ∧ PyData.depthAll ds ≤ m ∧ szAll ds ≤ ds.length * (s + 2)
  | [], _ => ⟨by simp [ptxAll], by simp [PyData.depthAll], by simp [szAll]⟩
  | d :: ds, h => by
    obtain ⟨a1, a2, a3⟩ := h d (by simp)
    obtain ⟨b1, b2, b3⟩ := rkAll (ds := ds) fun x hx => h x (List.mem_cons_of_mem _ hx)
    refine ⟨by simp [ptxAll, a1, b1], by simp only [PyData.depthAll]; omega, ?_⟩
    simp only [szAll, List.length_cons, Nat.succ_mul]; omega
theorem rk_tuple {m s n : Nat} {ds : List D} (h : ∀ d ∈ ds, rk m s d) (hn : ds.length ≤ n) : rk (m + 1) (n * (s + 2) + 3) (.tuple ds) := by
  obtain ⟨b1, b2, b3⟩ := rkAll h
  have := Nat.mul_le_mul_right (s + 2) hn
  refine ⟨by simpa [ptx] using b1, by simp only [PyData.depth]; omega, by simp only [sz]; omega⟩
theorem rk_list {m s n : Nat} {ds : List D} (h : ∀ d ∈ ds, rk m s d) (hn : ds.length ≤ n) : rk (m + 1) (n * (s + 2) + 3) (.list ds) := by
  obtain ⟨b1, b2, b3⟩ := rkAll h
  have := Nat.mul_le_mul_right (s + 2) hn
  refine ⟨by simpa [ptx] using b1, by simp only [PyData.depth]; omega, by simp only [sz]; omega⟩
theorem rk_ints {k n : Nat} {xs : List Int} (h : ∀ x ∈ xs, x.natAbs ≤ 2 ^ k) (hk : k < 1919) (hn : xs.length ≤ n) : rk 1 (n * (k + 5) + 3) (tupI xs) :=
  rk_tuple (m := 0) (s := k + 3) (fun d hd => by
    obtain ⟨x, hx, rfl⟩ := List.mem_map.mp hd
    exact rk_int (h x hx) hk) (by rw [dInts_len]; exact hn)
/-- a comprehension over mapped values -/
theorem comp_all {α : Type} {its : Env → M (List D)} {tg : D → Env → M Env} {elt : Env → M D} {vs : List Nat} {ρ : Env} (f : α → D) (e : α → D) (xs : List α) (hi : its ρ = ret (xs.map f)) (h : ∀ x ∈ xs, ∃ ρ', tg (f x) (wipeD ρ vs) = ret ρ' ∧ elt ρ' = ret (e x)) : mkL (eLc its tg cYes elt vs) ρ = ret (.list (xs.map e)) := by
  rw [x_mkL, x_eLc, hi, bnd_ret', lcW_all f e xs h, bnd_ret']
theorem comp_map {α : Type} {its : Env → M (List D)} {tg : D → Env → M Env} {cond : Env → M Bool} {elt : Env → M D} {vs : List Nat} {ρ : Env} (f : α → D) (c : α → Bool) (e : α → D) (xs : List α) (hi : its ρ = ret (xs.map f)) (h : ∀ x ∈ xs, ∃ ρ', tg (f x) (wipeD ρ vs) = ret ρ' ∧ cond ρ' = ret (c x) ∧ (c x = true → elt ρ' = ret (e x))) : mkL (eLc its tg cond elt vs) ρ = ret (.list ((xs.filter c).map e)) := by
  rw [x_mkL, x_eLc, hi, bnd_ret', lcW_map f c e xs h, bnd_ret']
/-- one statement after another -/
theorem seq_nx {f g : Env → M Out} {ρ ρ' : Env} (h : f ρ = ret (.nx ρ')) : sSeq f g ρ = g ρ' := by rw [x_sSeq, h, bnd_ret', oThen_nx]
theorem asg_nx {i : Nat} {e : Env → M D} {g : Env → M Out} {ρ : Env} {d : D} (h : e ρ = ret d) : sSeq (sAsg i e) g ρ = g (ρ.set i (some d)) := by rw [x_sSeq, x_sAsg, h, bnd_ret', bnd_ret', oThen_nx]
theorem if_no {c : Env → M Bool} {f g : Env → M Out} {ρ : Env} (h : c ρ = ret false) : sSeq (sIf c f sNx) g ρ = g ρ := by rw [x_sSeq, x_sIf, h, bnd_ret', if_neg (by decide), x_sNx, bnd_ret', oThen_nx]
theorem or_no {a b : Env → M Bool} {ρ : Env} (h : a ρ = ret false) (h' : b ρ = ret false) : bOr a b ρ = ret false := by rw [x_bOr, h, bnd_ret', if_neg (by decide), h']
theorem tst_b {e : Env → M D} {ρ : Env} {b : Bool} (h : e ρ = ret (.bool b)) : tst e ρ = ret b := by rw [x_tst, h, bnd_ret', toB_b]
theorem var_eq {i : Nat} {ρ : Env} {d : D} (h : ρ[i]? = some (some d)) : eVar i ρ = ret d := by rw [x_eVar, h]; rfl
end Py
section
set_option maxHeartbeats 1000000
/-! PyT: a dict of one's own whose keys are tuples of ints: made, stored into, its length, sorted. -/
namespace Py
open PySem L2 StX PySem.Spec PyProof.Rows
open PySem.W (SortsAt AllAlike dataKind EachIs sortingHeap sortVals_data sortVals)
def keyT (ks : List (List Int)) : List D := ks.map fun k => .tuple (k.map .int)
section
variable {X : Cx}
def rSortDT : List V → Hp → VK → Prop := fun xs H Q => ∃ d kvs ks, xs = [V.ref d] ∧ H d = some (.dT kvs) ∧ kvs.map (·.1) = ks.map (fun k : List Int => k.map Sum.inl) ∧ srtOk (keyT ks) = true ∧
  ∀ p bs, H p = none → IsKeys H kvs bs → Q (.ref p) (upd H p (.lst ((((bs.map V.ref).zip (keyT ks)).mergeSort fun x y => leD x.2 y.2).map (·.1))))
theorem keys_dp {K : PySem.W.Frag} {H : Hp} : ∀ {kvs : List (List L2.Key × V)} {ks : List (List Int)} {bs : List Addr}, kvs.map (·.1) = ks.map (fun k : List Int => k.map Sum.inl) → IsKeys H kvs bs → DpAll K H (bs.map V.ref) (keyT ks)
  | _, [], _, e, h => by
    have e' := congrArg List.length e
    cases h with
    | nil => exact .nil
    | cons _ _ => simp at e'
  | _, k :: ks, _, e, h => by
    cases h with
    | nil => simp at e
    | @cons p b l m h1 h2 =>
      simp only [List.map_cons, List.cons.injEq] at e
      obtain ⟨e1, e2⟩ := e
      have h1' : H b = some (.tup (p.1.map kV)) := h1
      refine .cons (.tup (xs := p.1.map kV) (SqT.of h1') ?_) (keys_dp e2 h2)
      rw [e1]
      clear e1 h1 h1'
      induction k with
      | nil => exact .nil
      | cons i k ih => exact .cons (.int i) ih
theorem cr_sortDT (hcalm : X.calm = true) (hu : X.A.units + 67 < cLine) : CallR X (.builtin "sorted") rSortDT := by
  intro pins s σ H xs us Q I r h
  obtain ⟨d, kvs, ksI, rfl, hd, hks, ok, q⟩ := h
  obtain ⟨u, rfl, rx⟩ := r.one
  cases rx
  obtain ⟨z, hs, ks, pr, o, es, ep, ho, hx, hdt, he, hn⟩ := (show ObjOk X.prog X.w H s.heap d (.dT kvs) from I.hok d _ hd)
  have l1 : es.size = ks.length := size_of_entries he
  have l2 : kvs.length = ks.length := Paired.length pr
  refine Calls.call_function_entry PyProof.Rows.kind_sorted PyProof.Rows.plain_sorted PyProof.Rows.entry_sorted (PyProof.Rows.args_sorted1 _) ?_
  unfold Builtin.«sorted»
  refine wpAny_bind (m := checkCount "sorted" 1 1 _) (wpAny_pure ?_)
  refine wpAny_bind (PySem.W.kdu_collect (A := X.A.in1) (kdl_raw hs hx hdt) (I.ok.hd hcalm) ho (by omega) fun h' tk acc' kp it => ?_)
  have ea : acc'.toList = ks.map fun x => Value.ref x.2.1 := by
    have hl : acc'.toList.length = ks.length := by rw [Array.length_toList, it.1]; exact l1
    apply List.ext_getElem?
    intro j
    rw [List.getElem?_map]
    cases hj : acc'.toList[j]? with
    | none =>
      have h1 := List.getElem?_eq_none_iff.mp hj
      rw [List.getElem?_eq_none (by omega)]
      rfl
    | some v =>
      obtain ⟨en, hen, hv⟩ := it.2 j v (by rw [← Array.getElem?_toList]; exact hj)
      have qe := entry_at he j
      rw [hen] at qe
      cases hb : ks[j]? with
      | none =>
        rw [hb] at qe
        exact nomatch (show some en = none from qe)
      | some b =>
        rw [hb] at qe
        have e2 : en = entryOfKey (tupleKind (mixKind X.prog X.w)) b := Option.some.inj qe
        rw [hv, e2]
        rfl
  have eb : acc'.toList = (ks.map fun x => x.2.1).map Value.ref := by rw [ea, List.map_map]; rfl
  obtain ⟨its, hits⟩ : ∃ its, its = acc'.toList := ⟨_, rfl⟩
  rw [← hits] at eb ⊢
  have rv : Vals ((ks.map fun x => x.2.1).map V.ref) its := by rw [eb]; exact vals_refs _
  have isk : IsKeys H kvs (ks.map fun x => x.2.1) := isKeys_of pr
  have hd2 := keys_dp (K := X.K) hks isk
  generalize (ks.map fun x => x.2.1) = bs at eb rv isk hd2
  have hz : its.length ≤ sizeLine := by rw [← rv.length, List.length_map, ← (Paired.length isk)]; omega
  have I1 : Inv X pins σ H { s with heap := h', toks := tk } := I.kept kp
  refine wpAny_bind (wpAny_newList ?_ hz)
  have hoL : (h'.push (seqObj "list" its.toArray 0)).get? h'.objs.size = some (seqObj "list" its.toArray 0) := Heap.get?_push_size _ rfl
  show wpAny _ _ _ _ _ { s with heap := h'.push (seqObj "list" its.toArray 0), toks := tk }
  have old : ∀ b u, h'.get? b = some u → (sortingHeap (h'.push (seqObj "list" its.toArray 0)) h'.objs.size its).get? b = some u := fun b u e =>
    PySem.W.sortingHeap_old (Nat.ne_of_lt (Heap.lt_size e)) (Heap.get?_push_of_some _ e)
  have hl2 : (bs.map V.ref).length = (keyT ksI).length := DpAll.len hd2
  have rds : ∀ v u d, RelV v u → (v, d) ∈ (bs.map V.ref).zip (keyT ksI) → ∃ as, Reads h' u d as := fun v u d rr hm => by
    obtain ⟨i, hi, e⟩ := List.getElem_of_mem hm
    have e1 : (bs.map V.ref)[i]? = some v := by
      have := congrArg Prod.fst e
      simp only [List.getElem_zip] at this
      rw [← this]
      exact List.getElem?_eq_getElem _
    obtain ⟨d', e2, dp⟩ := Dp.at' hd2 e1
    have e3 : (keyT ksI)[i]? = some d := by
      have := congrArg Prod.snd e
      simp only [List.getElem_zip] at this
      rw [← this]
      exact List.getElem?_eq_getElem _
    rw [e3] at e2
    cases e2
    exact Dp.reads I1 d v u dp rr
  have ev : EachIs (fun u (b : V × D) => RelV b.1 u) its ((bs.map V.ref).zip (keyT ksI)) := zip_each rv hl2 fun v u d rr hm => rr
  have er' : EachIs (fun v (b : V × D) => ∃ as, Reads (sortingHeap (h'.push (seqObj "list" its.toArray 0)) h'.objs.size its) v b.2 as) its ((bs.map V.ref).zip (keyT ksI)) :=
    zip_each rv hl2 fun v u d rr hm => let ⟨as, r⟩ := rds v u d rr hm; ⟨as, PyProof.Rows.Reads.keeps (fun b o e => old b o e) r⟩
  have em : ((bs.map V.ref).zip (keyT ksI)).map (·.2) = keyT ksI := by
    rw [List.map_snd_zip]
    omega
  have hal : AllAlike (((bs.map V.ref).zip (keyT ksI)).map fun b => b.2) := by
    rw [em]
    exact (alls_of (srtOk_of ok).1).1.1
  have S : SortsAt X.prog X.w X.A.in1.in1 { s with heap := sortingHeap (h'.push (seqObj "list" its.toArray 0)) h'.objs.size its, toks := tk } (dataKind (sortingHeap (h'.push (seqObj "list" its.toArray 0)) h'.objs.size its) (((bs.map V.ref).zip (keyT ksI)).map fun b => b.2)) its := by
    have e1 : srtOk (((bs.map V.ref).zip (keyT ksI)).map fun b => b.2) = true := by rw [em]; exact ok
    exact sorts_any (s := { s with heap := sortingHeap (h'.push (seqObj "list" its.toArray 0)) h'.objs.size its, toks := tk }) (W.each_map (R := fun v d => ∃ as, Reads (sortingHeap (h'.push (seqObj "list" its.toArray 0)) h'.objs.size its) v d as) (fun b : V × D => b.2) er') e1 (by show X.A.units + 1 + 1 + 65 < cLine; omega)
  have hout := sortVals_data (enc := fun b : V × D => b.2) (R := fun u (b : V × D) => RelV b.1 u) false ev er' hal
  have mer : ((bs.map V.ref).zip (keyT ksI)).mergeSort (PySem.W.dataLe false fun b : V × D => b.2) = ((bs.map V.ref).zip (keyT ksI)).mergeSort fun x y => leD x.2 y.2 := rfl
  rw [mer] at hout
  have hv := each_vals hout
  have hlen : ((((bs.map V.ref).zip (keyT ksI)).mergeSort fun x y => leD x.2 y.2).map (·.1)).length ≤ sizeLine := by
    rw [List.length_map, List.length_mergeSort, List.length_zip]
    have : its.length = (bs.map V.ref).length := rv.length.symm
    omega
  refine wpAny_bind (wpAny_holding (wpAny_call_entry PyProof.Rows.slot_list_sort ⟨_, hoL, rfl⟩ PyProof.Rows.entry_list_sort
    (PySem.W.list_sort_vals (s := { s with heap := h'.push (seqObj "list" its.toArray 0), toks := tk }) hoL S hz ⟨_, rfl, ?_⟩) (PyProof.Rows.args_list_sort _)))
  generalize sortVals (dataKind (sortingHeap (h'.push (seqObj "list" its.toArray 0)) h'.objs.size its) (((bs.map V.ref).zip (keyT ksI)).map fun b => b.2)) false its its = out at hv ⊢
  have fin := q (p := h'.objs.size) bs (I1.hok.fresh (Nat.le_refl _)) isk
  generalize ((((bs.map V.ref).zip (keyT ksI)).mergeSort fun x y => leD x.2 y.2).map (·.1)) = ws at hv hlen fin
  obtain ⟨e', he'⟩ := PyProof.Rows.sortedHeap_at (vs := its) (out := out.toArray) hoL
  refine wpAny_pure ⟨_, rfl, .ref h'.objs.size, upd H h'.objs.size (.lst ws), I1.laid (t' := tk) (fun b u e => ?_) (Nat.le_refl _)
    (show ObjOk X.prog X.w _ _ _ (.lst ws) from ⟨hlen, out, e', hv, he'⟩), rfl, fin⟩
  have hb : b < h'.objs.size := Heap.lt_size e
  rw [PyProof.Rows.sortedHeap_old (Nat.ne_of_lt hb) (by rw [size_push']; exact Nat.lt_succ_of_lt hb)]
  exact Heap.get?_push_of_some _ e
end
section
variable {s : Sx} {Γ Γ' Γl : List Md}
/-- a, b = e, [..]: the second a list of one's own -/
def sParO (i j : Nat) (e : Env → M D) (f : Env → M (List D)) : Env → M Out := fun ρ => bnd (e ρ) fun d => bnd (f ρ) fun ds => ret (.nx ((ρ.set i (some d)).set j (some (.list ds))))
theorem sem_parO {i j : Nat} {t u : TE} {e : Env → M D} {f : Env → M (List D)} (h1 : SemE s Γ t e) (h2 : SemL s Γ u f) (hi : Γ[i]? = some .fro) (hj : j < Γ.length) : SemS s Γl Γ (Γ.set j .own) (tPar i j (tCons t (tCons u tNil))) (sParO i j e f) := by
  intro c ρ ps σ H E P hc r q k
  refine h1 c ρ ps σ H _ _ hc r q fun d v H1 q1 e1 dn => ?_
  refine h2 c ρ ps σ H1 _ _ hc (r.stp e1) q1 fun ds p vs H2 q2 e2 hn hp dn2 => ?_
  obtain ⟨ps', r'⟩ := ((r.stp e1).setFro dn hi).putOwn e2 (i := j) hj hn hp dn2
  exact ⟨_, _, rfl, k.nx _ ps' _ H2 q2 r'⟩
theorem R.putDic {c : Fx} {ρ : Env} {ps : List Addr} {σ : L2.St} {H : Hp} (r : R c Γ ρ ps σ H) {i : Nat} {p : Addr} (hi : i < Γ.length) (hn : H p = none) : ∃ ps', R c (Γ.set i .dic) (ρ.set i (some (.list []))) ps' (σ.set i (some (.ref p))) (upd H p (.dT [])) := by
  have e : Stp c H (upd H p (.dT [])) := Stp.new r.ok hn fun xs z => by rcases z with z | z <;> cases z
  have r' := r.stp e
  have nU := r.new hn
  have sl' : Slots c (upd H p (.dT [])) (fun a => c.U ps a ∨ a ∈ [p]) Γ ρ σ ps := r.sl.mono (fun a ha o q => e.keep a o q (r.ownA ha)) (fun a o q n => e.keep a o q (r.nA n)) fun a o q u => u.elim id fun z => by
    rw [List.mem_singleton.mp z, hn] at q; cases q
  obtain ⟨ps', h1, h2, h3⟩ := sl'.put (SlotR.dic (c := c) (ks := []) upd_same rfl) r.nd (by simp) (fun a ha z => nU (.inr (by rw [List.mem_singleton.mp ha] at z; exact z))) hi
  exact ⟨ps', r'.ofSlots (qs := [p]) h1 h2 h3 fun a ha => by
    rw [List.mem_singleton.mp ha]
    exact ⟨r.fresh0 hn, r.nU0 hn⟩⟩
/-- a, b, d = e, f, {} -/
def sParD (i j l : Nat) (e f : Env → M D) : Env → M Out := fun ρ => bnd (e ρ) fun a => bnd (f ρ) fun b => ret (.nx (((ρ.set i (some a)).set j (some b)).set l (some (.list []))))
theorem sem_parD {i j l : Nat} {t u : TE} {e f : Env → M D} (h1 : SemE s Γ t e) (h2 : SemE s Γ u f) (hi : Γ[i]? = some .fro) (hj : Γ[j]? = some .fro) (hl : l < Γ.length) : SemS s Γl Γ (Γ.set l .dic) (tPar3 i j l (tCons t (tCons u (tCons tDNewT tNil)))) (sParD i j l e f) := by
  intro c ρ ps σ H E P hc r q k
  refine h1 c ρ ps σ H _ _ hc r q fun d v H1 q1 e1 dn => ?_
  refine h2 c ρ ps σ H1 _ _ hc (r.stp e1) q1 fun d2 v2 H2 q2 e2 dn2 => ?_
  intro p hn
  obtain ⟨ps', r'⟩ := ((((r.stp e1).setFro dn hi).stp e2).setFro dn2 hj).putDic (i := l) hl hn
  exact ⟨_, _, _, rfl, k.nx _ ps' _ _ q2 r'⟩
theorem R.dicAt {c : Fx} {ρ : Env} {ps : List Addr} {σ : L2.St} {H : Hp} (r : R c Γ ρ ps σ H) {i : Nat} {d : D} (hm : Γ[i]? = some .dic) (hd : ρ[i]? = some (some d)) :
    ∃ (p : Addr) (kvs : List (Key2 × V)) (ks : List (List Int)), σ[i]? = some (some (.ref p)) ∧ d = .list (keyT ks) ∧ p ∈ ps ∧ H p = some (.dT kvs) ∧ kvs.map (·.1) = ks.map (fun k => k.map Sum.inl) := by
  obtain ⟨o, qs, e1, e2, e3⟩ := r.sl.get hm hd
  cases e2 with
  | dic a1 a2 => exact ⟨_, _, _, e1, rfl, e3 _ (by simp), a1, a2⟩
theorem dic_uniq {c : Fx} {H : Hp} {U : AS} {p : Addr} {d : D} : ∀ qs', SlotR c H U .dic (some d) (some (.ref p)) qs' → qs' = [p] := by
  intro qs' h
  cases h with
  | dic _ _ => rfl
theorem eqvAll_ints : ∀ a b : List Int, PyData.eqvAll (a.map .int) (b.map .int) = decide (a = b)
  | [], [] => by simp [PyData.eqvAll]
  | [], _ :: _ => by simp [PyData.eqvAll]
  | _ :: _, [] => by simp [PyData.eqvAll]
  | x :: a, y :: b => by
    simp only [List.map_cons, PyData.eqvAll, eqvAll_ints a b, PyData.eqv]
    by_cases h : x = y <;> by_cases h' : a = b <;> simp [h, h']
def putT (ds : List D) (is : List Int) : List D := if (ds.any fun d => PyData.eqv d (.tuple (is.map .int))) = true then ds else ds ++ [.tuple (is.map .int)]
def putI (ks : List (List Int)) (is : List Int) : List (List Int) := if (ks.any fun k => decide (k = is)) = true then ks else ks ++ [is]
theorem putT_keyT (ks : List (List Int)) (is : List Int) : putT (keyT ks) is = keyT (putI ks is) := by
  have e : ((keyT ks).any fun d => PyData.eqv d (.tuple (is.map .int))) = ks.any fun k => decide (k = is) := by
    rw [keyT, List.any_map]
    congr 1
    funext k
    simp only [Function.comp_apply, PyData.eqv, eqvAll_ints]
  unfold putT putI
  rw [e]
  split
  · rfl
  · simp [keyT]
theorem inl_inj {a b : List Int} : a.map (Sum.inl (β := Str)) = b.map Sum.inl ↔ a = b := by
  constructor
  · intro h
    have := congrArg (List.filterMap fun z : Int ⊕ Str => z.getLeft?) h
    simpa [List.filterMap_map, Function.comp_def] using this
  · intro h; rw [h]
theorem putK_keys {kvs : List (Key2 × V)} {ks : List (List Int)} {is : List Int} {v : V} (e : kvs.map (·.1) = ks.map (fun k => k.map Sum.inl)) : (putK kvs (is.map Sum.inl) v).map (·.1) = (putI ks is).map (fun k => k.map Sum.inl) := by
  have h : (kvs.any fun kv => decide (kv.1 = is.map Sum.inl)) = ks.any fun k => decide (k = is) := by
    have h1 : (kvs.any fun kv => decide (kv.1 = is.map Sum.inl)) = (kvs.map (·.1)).any fun k => decide (k = is.map Sum.inl) := by rw [List.any_map]; rfl
    rw [h1, e, List.any_map]
    congr 1
    funext k
    simp only [Function.comp_apply]
    exact decide_eq_decide.mpr inl_inj
  unfold putK putI
  rw [h]
  split
  · rw [List.map_map, ← e]
    apply List.map_congr_left
    intro kv _
    simp only [Function.comp_apply]
    split <;> rfl
  · simp [e]
/-- d[k] = v, the key a tuple of ints -/
def sDSet (i : Nat) (k v : Env → M D) : Env → M Out := fun ρ => bnd (v ρ) fun _ => bnd (eVar i ρ) fun l => bnd (k ρ) fun x => match l, x with
  | .list ds, .tuple es => (match intsD es with | some is => if lenOk (ds.length + 1) = true then ret (.nx (ρ.set i (some (.list (putT ds is))))) else stuck | none => stuck)
  | _, _ => stuck
theorem sem_dset {i : Nat} {ty tv : TE} {k v : Env → M D} (hm : Γ[i]? = some .dic) (hv : SemE s Γ tv v) (hk : SemE s Γ ty k) : SemS s Γl Γ Γ (sDPut (tVar i) ty tv) (sDSet i k v) := by
  intro c ρ ps σ H E P hc r q K
  refine hv c ρ ps σ H _ _ hc r q fun d w H1 q1 e1 d1 => ?_
  have r1 := r.stp e1
  obtain ⟨l, hl, q1⟩ := eVar_get q1
  obtain ⟨p, kvs, ks, ho, rfl, hp, h1, hk1⟩ := r1.dicAt hm hl
  refine ⟨_, ho, ?_⟩
  refine hk c ρ ps σ H1 _ _ hc r1 q1 fun x y H2 q2 e2 d2 => ?_
  have r2 := r1.stp e2
  cases x with
  | tuple es =>
    have q2 : (match intsD es with | some is => if lenOk ((keyT ks).length + 1) = true then ret (Out.nx (ρ.set i (some (.list (putT (keyT ks) is))))) else (stuck : M Out) | none => (stuck : M Out)) P := q2
    cases z : intsD es with
    | none => rw [z] at q2; exact False.elim q2
    | some is =>
      rw [z] at q2
      dsimp only at q2
      split at q2
      · rename_i hz
        cases d2 with
        | @tup b xs _ hb hu dn =>
          have ex := dn.ints z
          subst ex
          have h2' : H2 p = some (.dT kvs) := e2.keep _ _ h1 (r.ownA hp)
          have hb' : H2 b = some (.tup ((is.map Sum.inl).map kV)) := by
            rw [hb, List.map_map]
            rfl
          have lz : kvs.length < sizeLine := by
            have e := congrArg List.length hk1
            rw [List.length_map, List.length_map] at e
            have := lenOk_sz hz
            rw [keyT, List.length_map] at this
            omega
          refine ⟨p, _, rfl, DPut.t h2' hb' lz, ?_⟩
          have same : ∀ a o, a ≠ p → H2 a = some o → upd H2 p (.dT (putK kvs (is.map Sum.inl) w)) a = some o := fun a o n e => by rw [upd_ne n]; exact e
          obtain ⟨ps', sl, pm⟩ := r2.sl.updP (q := p) (H' := upd H2 p (.dT (putK kvs (is.map Sum.inl) w))) (.inr hp) same (qs0 := [p]) (qs' := [p]) (by simp) (SlotR.dic (c := c) (U := c.U ps) (ks := putI ks is) upd_same (putK_keys hk1)) (List.Perm.refl _) r2.nd dic_uniq hm hl ho
          rw [putT_keyT] at q2
          refine K.nx _ ps' σ _ q2 (r2.perm (fun a o n e => same a o (fun z => n (by rw [z]; exact hp)) e) (fun a ha => ?_) (r2.sz.upd fun zs q => by rcases q with q | q <;> cases q) sl pm)
          by_cases e : a = p
          · subst e; exact ⟨_, upd_same⟩
          · obtain ⟨o, hx, _⟩ := r2.sl.loose a ha
            exact ⟨o, same a _ e hx⟩
      · exact False.elim q2
  | _ => exact False.elim q2
theorem sem_lenD {i : Nat} (hm : Γ[i]? = some .dic) : SemE s Γ (tCB rLenT (tCons (tVar i) tNil)) (cal cLen (aCons (eVar i) aNil)) := by
  intro c ρ ps σ H Q P hc r q k
  obtain ⟨d, hd, q⟩ := eVar_get q
  obtain ⟨p, kvs, ks, ho, rfl, hp, h1, hk1⟩ := r.dicAt hm hd
  have q' : P (.int ((keyT ks).length : Nat)) := q
  refine ⟨_, ho, p, kvs, rfl, h1, ?_⟩
  have e : kvs.length = (keyT ks).length := by
    have e := congrArg List.length hk1
    rw [List.length_map, List.length_map] at e
    rw [keyT, List.length_map, e]
  rw [e]
  exact k _ _ H q' (Stp.refl c H) (.int _)
/-- sorted(d) -/
def eSrtD (i : Nat) : Env → M (List D) := fun ρ => bnd (eVar i ρ) fun d => match d with
  | .list ds => if (srtOk ds && lenOk ds.length) = true then ret (ds.mergeSort leD) else stuck
  | _ => stuck
theorem keys_den {H : Hp} {U : AS} (lo : Loose H U) : ∀ {kvs : List (Key2 × V)} {ks : List (List Int)} {bs : List Addr}, kvs.map (·.1) = ks.map (fun k : List Int => k.map Sum.inl) → IsKeys H kvs bs → DenL H U (bs.map V.ref) (keyT ks)
  | _, [], _, e, h => by
    have e' := congrArg List.length e
    cases h with
    | nil => exact .nil
    | cons _ _ => simp at e'
  | _, k :: ks, _, e, h => by
    cases h with
    | nil => simp at e
    | @cons p b l m h1 h2 =>
      simp only [List.map_cons, List.cons.injEq] at e
      obtain ⟨e1, e2⟩ := e
      have h1' : H b = some (.tup (p.1.map kV)) := h1
      refine .cons (.tup (xs := p.1.map kV) h1' (fun u => by
        obtain ⟨o, ho, hn⟩ := lo b u
        rw [h1'] at ho
        cases ho
        exact hn _ rfl) ?_) (keys_den lo e2 h2)
      rw [e1]
      clear e1 h1 h1'
      induction k with
      | nil => exact .nil
      | cons i k ih => exact .cons (.int i) ih
theorem sem_srtD {i : Nat} (hm : Γ[i]? = some .dic) : SemL s Γ (tCB rSortDT (tCons (tVar i) tNil)) (eSrtD i) := by
  intro c ρ ps σ H Q P hc r q k
  obtain ⟨d, hd, q⟩ := eVar_get q
  obtain ⟨p, kvs, ks, ho, rfl, hp, h1, hk1⟩ := r.dicAt hm hd
  have q' : (if (srtOk (keyT ks) && lenOk (keyT ks).length) = true then ret ((keyT ks).mergeSort leD) else stuck) P := q
  split at q'
  · rename_i ok0
    rw [Bool.and_eq_true] at ok0
    obtain ⟨ok, lok⟩ := ok0
    refine ⟨_, ho, p, kvs, ks, rfl, h1, hk1, ok, fun a bs ha isk => ?_⟩
    have dn := (keys_den r.loose hk1 isk).srt
    have hz : ((((bs.map V.ref).zip (keyT ks)).mergeSort fun x y => leD x.2 y.2).map (·.1)).length ≤ sizeLine := by
      have e := congrArg List.length hk1
      rw [List.length_map, List.length_map] at e
      rw [List.length_map, List.length_mergeSort, List.length_zip, List.length_map]
      have l2 : kvs.length = bs.length := Paired.length isk
      have : (keyT ks).length ≤ sizeLine := lenOk_sz lok
      omega
    exact k _ a _ _ q' (Stp.lst r.ok ha hz) ha upd_same (dn.plus ha)
  · exact False.elim q'
end
theorem kSrtD {X : Cx} {k : Nat} (hc : X.calm = true) (r : Room k X.A) : CallR X (.builtin "sorted") rSortDT := cr_sortDT hc r.u67
end Py
end
section
set_option maxHeartbeats 1000000
/-! PyX: values with an empty dict among them: == and != of unequal lengths, repr; 10 ** 20; reversed tuples. -/
namespace Py
open PySem L2 StX PySem.Spec PyProof.Rows
/-! tuples, and empty dicts at the leaves; no lists -/
mutual
def onTD : D → Bool
  | .none => true
  | .bool _ => true
  | .int _ => true
  | .str _ => true
  | .list _ => false
  | .tuple xs => onTDs xs
  | .dict kvs => kvs.isEmpty
def onTDs : List D → Bool
  | [] => true
  | x :: xs => onTD x && onTDs xs
end
mutual
inductive Dq (K : PySem.W.Frag) (H : Hp) : V → PyData → Prop
  | non : Dq K H .non .none
  | bl (b : Bool) : Dq K H (.bl b) (.bool b)
  | int (i : Int) : Dq K H (.int i) (.int i)
  | str (x : Str) : Dq K H (.str x) (.str x)
  | tup {a : Addr} {xs : List V} {ds : List PyData} : SqT K H a xs → DqAll K H xs ds → Dq K H (.ref a) (.tuple ds)
  | dct {a : Addr} : H a = some (.dK []) → Dq K H (.ref a) (.dict [])
inductive DqAll (K : PySem.W.Frag) (H : Hp) : List V → List PyData → Prop
  | nil : DqAll K H [] []
  | cons {v : V} {vs : List V} {d : PyData} {ds : List PyData} : Dq K H v d → DqAll K H vs ds → DqAll K H (v :: vs) (d :: ds)
end
section
variable {X : Cx} {pins : List (Addr × Obj)} {σ : L2.St} {H : Hp} {s : Shared}
mutual
theorem Dq.reads (I : Inv X pins σ H s) : ∀ (d : PyData) (v : V) (u : Value), Dq X.K H v d → RelV v u → ∃ as, Reads s.heap u d as ∧ sysModules ∉ as
  | .none, _, _, h, r => by
    cases h
    cases r
    exact ⟨_, Reads.none, by simp⟩
  | .bool b, _, _, h, r => by
    cases h
    cases r
    exact ⟨_, Reads.bool b, by simp⟩
  | .int i, _, _, h, r => by
    cases h
    obtain ⟨t, rfl⟩ := r
    exact ⟨_, Reads.int i t, by simp⟩
  | .str x, _, _, h, r => by
    cases h
    obtain ⟨t, rfl⟩ := r
    exact ⟨_, Reads.str x t, by simp⟩
  | .list ds, _, _, h, r => by cases h
  | .tuple ds, _, _, h, r => by
    cases h with
    | tup hs ha =>
      cases r
      obtain ⟨its, rv, ⟨o, ho, hc, n, hd⟩, _⟩ := I.tuple hs
      obtain ⟨as, hr, hn⟩ := Dq.readsAll I ds _ its ha rv
      exact ⟨_, Reads.tuple ho hc hd hr, hn⟩
  | .dict kvs, _, _, h, r => by
    cases h with
    | @dct a e =>
      cases r
      obtain ⟨_, ne, vs, rk, o, es, ep, ho, hx, hd, _, hp, _⟩ := (show ObjOk X.prog X.w H s.heap a (.dK []) from I.hok a _ e)
      have v0 : vs = [] := by
        cases vs with
        | nil => rfl
        | cons _ _ => cases rk
      rw [v0] at hp
      have e0 : es.toList = [] := by
        cases h : es.toList with
        | nil => rfl
        | cons _ _ => rw [h] at hp; cases hp
      refine ⟨_, Reads.dict (kvs := []) ho hx.1 hd (by rw [e0]; exact .nil) (by rw [e0]; exact .nil), ?_⟩
      simp only [List.append_nil, List.mem_singleton]
      intro q
      rw [← q] at ne
      simp at ne
theorem Dq.readsAll (I : Inv X pins σ H s) : ∀ (ds : List PyData) (vs : List V) (us : List Value), DqAll X.K H vs ds → Vals vs us → ∃ as, ReadsAll s.heap us ds as ∧ sysModules ∉ as
  | [], _, _, h, r => by
    cases h
    cases r
    exact ⟨_, ReadsAll.nil, by simp⟩
  | d :: ds, _, _, h, r => by
    cases h with
    | cons h1 h2 =>
      cases r with
      | cons r1 r2 =>
        obtain ⟨as, q1, n1⟩ := Dq.reads I d _ _ h1 r1
        obtain ⟨bs, q2, n2⟩ := Dq.readsAll I ds _ _ h2 r2
        exact ⟨_, ReadsAll.cons q1 q2, fun z => (List.mem_append.mp z).elim n1 n2⟩
end
end
theorem Den.dq {K : PySem.W.Frag} {H : Hp} {U : AS} : ∀ {d : D} {v : V}, Den H U v d → onTD d = true → Dq K H v d := by
  intro d v h
  refine Den.rec (motive_1 := fun v d _ => onTD d = true → Dq K H v d) (motive_2 := fun vs ds _ => onTDs ds = true → DqAll K H vs ds) ?_ ?_ ?_ ?_ ?_ ?_ ?_ ?_ ?_ ?_ h
  · intro _; exact .non
  · intro b _; exact .bl b
  · intro b _; exact .int b
  · intro b _; exact .str b
  · intro a xs ds ha hu _ ih z; simp [onTD] at z
  · intro a xs ds ha hu _ ih z; exact .tup (SqT.of ha) (ih (by simpa [onTD] using z))
  · intro a ha hu z; exact .dct ha
  · intro a kvs ks ha hu hk z; simp [onTD] at z
  · intro _; exact .nil
  · intro v vs d ds _ _ h1 h2 z
    have z' : onTD d = true ∧ onTDs ds = true := by simpa [onTDs] using z
    exact .cons (h1 z'.1) (h2 z'.2)
theorem View.dq {K : PySem.W.Frag} {c : Fx} {ps : List Addr} {H : Hp} {v : V} {d : D} (h : View c ps H v d) (z : onTD d = true) : Dq K H v d := by
  cases h with
  | den h => exact h.dq z
  | own h1 _ h3 => simp [onTD] at z
def rpX (d : D) : Bool := d.showable && onTD d && decide (d.depth ≤ 64) && decide (d.shown.length ≤ sizeLine)
def rReprX (K : PySem.W.Frag) : List V → Hp → VK → Prop := fun xs H Q => rRepr K xs H Q ∨ ∃ x d, xs = [x] ∧ Dq K H x d ∧ rpX d = true ∧ Q (.str d.shown) H
section
variable {X : Cx}
theorem cr_reprX (hg : X.A.guards = some []) (hu : X.A.units + 66 < cLine) : CallR X (.builtin "repr") (rReprX X.K) := by
  intro pins s σ H xs us Q I r h
  rcases h with h | h
  · exact cr_repr hg hu pins s σ H xs us Q I r h
  obtain ⟨x, d, rfl, hd, ok, q⟩ := h
  unfold rpX at ok
  simp only [Bool.and_eq_true, decide_eq_true_eq] at ok
  obtain ⟨⟨⟨o1, o2⟩, o4⟩, o5⟩ := ok
  obtain ⟨u, rfl, rx⟩ := vals1 r
  have fin : ∀ tk t, EP X pins σ Q (.str d.shown t) { s with toks := tk } := fun tk t => ⟨.str d.shown, H, I.tok tk, ⟨t, rfl⟩, q⟩
  have obj : ∀ a, u = .ref a → wpAny (model X.prog X.w) X.A (call (.builtin "repr") [u]) (EP X pins σ Q) X.xe s := fun a e => by
    obtain ⟨as, rd, hn⟩ := Dq.reads I d x u hd rx
    rw [e] at rd ⊢
    exact repr_of_reads' rd o1 (fun _ => hn) hg (by omega) (fun _ _ q => q) (fun h' t tk hk => ⟨.str d.shown, H, I.kept hk, ⟨t, rfl⟩, q⟩) o5
  cases hd with
  | non =>
    cases rx
    exact P.repr_of_none (fin _ _)
  | bl b =>
    cases rx
    exact P.repr_of_bool (by
      have := fin (s.toks + 1) s.toks
      cases b <;> exact this)
  | int i =>
    obtain ⟨t, rfl⟩ := rx
    exact P.repr_of_int (of_decide_eq_true o1) (fin _ _)
  | str w =>
    obtain ⟨t, rfl⟩ := rx
    exact P.repr_of_str (fin _ _) o5
  | tup hs ha => cases rx; exact obj _ rfl
  | dct e => cases rx; exact obj _ rfl
/-- lists, tuples of unequal lengths -/
def rEqLL (K : PySem.W.Frag) (r : Bool) : R2 := fun x y H Q => ∃ a b xs ys, x = .ref a ∧ y = .ref b ∧ SqL K H a xs ∧ SqL K H b ys ∧ xs.length ≠ ys.length ∧ Q (.bl r) H
def rEqLT (K : PySem.W.Frag) : R2 := fun x y H Q => ∃ a b xs ys, x = .ref a ∧ y = .ref b ∧ SqT K H a xs ∧ SqT K H b ys ∧ xs.length ≠ ys.length ∧
  (∀ (j : Nat) (v w : V), xs[j]? = some v → ys[j]? = some w → ∃ d e, Dp K H v d ∧ Dp K H w e ∧ SeqAt.shaped d = true ∧ SeqAt.shaped e = true) ∧ Q (.bl false) H
theorem op_eqLL (hu : X.A.units + 64 < cLine) : OpR X (compareOp .Eq) (rEqLL X.K false) := by
  intro pins s σ H x y v u Q I rx ry h
  obtain ⟨a, b, xs, ys, rfl, rfl, ha, hb, hl, q⟩ := h
  cases (show v = Value.ref a from rx)
  cases (show u = Value.ref b from ry)
  obtain ⟨us, r1, p1, _⟩ := I.list ha
  obtain ⟨ws, r2, p2, _⟩ := I.list hb
  refine SeqAt.eq_list_lengthsAt p1.isList p2.isList ?_ (by omega) ⟨.bl false, H, I, rfl, q⟩
  rw [bne_iff_ne, List.size_toArray, List.size_toArray, ← r1.length, ← r2.length]
  exact hl
theorem op_neLL (hu : X.A.units + 64 < cLine) : OpR X (compareOp .NotEq) (rEqLL X.K true) := by
  intro pins s σ H x y v u Q I rx ry h
  obtain ⟨a, b, xs, ys, rfl, rfl, ha, hb, hl, q⟩ := h
  cases (show v = Value.ref a from rx)
  cases (show u = Value.ref b from ry)
  obtain ⟨us, r1, p1, _⟩ := I.list ha
  obtain ⟨ws, r2, p2, _⟩ := I.list hb
  refine SeqAt.RcNeAt.lists_lengths p1.isList p2.isList ?_ (by omega) X.prog X.w _ _ ⟨.bl true, H, I, rfl, q⟩
  rw [bne_iff_ne, List.size_toArray, List.size_toArray, ← r1.length, ← r2.length]
  exact hl
theorem vals_at : ∀ {vs : List V} {us : List Value} {j : Nat} {u : Value}, Vals vs us → us[j]? = some u → ∃ v, vs[j]? = some v ∧ RelV v u
  | _, _, _, _, .nil, h => by simp at h
  | _, _, 0, _, .cons r t, h => by simp at h; subst h; exact ⟨_, rfl, r⟩
  | _, _, j + 1, _, .cons r t, h => by
    obtain ⟨v, a, b⟩ := vals_at (j := j) t (by simpa using h)
    exact ⟨v, by simpa using a, b⟩
theorem op_eqLT (hu : X.A.units + 66 < cLine) : OpR X (compareOp .Eq) (rEqLT X.K) := by
  intro pins s σ H x y v u Q I rx ry h
  obtain ⟨a, b, xs, ys, rfl, rfl, ha, hb, hl, he, q⟩ := h
  cases (show v = Value.ref a from rx)
  cases (show u = Value.ref b from ry)
  obtain ⟨us, r1, p1, _⟩ := I.tuple ha
  obtain ⟨ws, r2, p2, _⟩ := I.tuple hb
  have ex : ∀ j (h1 : j < us.toArray.size) (h2 : j < ws.toArray.size), ∃ e, SeqAt.EqAt X.A.in1 s us.toArray[j] ws.toArray[j] e := fun j h1 h2 => by
    obtain ⟨v, e1, q1⟩ := vals_at (j := j) r1 (List.getElem?_eq_getElem (by simpa using h1))
    obtain ⟨w, e2, q2⟩ := vals_at (j := j) r2 (List.getElem?_eq_getElem (by simpa using h2))
    obtain ⟨d, e, d1, d2, s1, s2⟩ := he j v w e1 e2
    obtain ⟨as, rd1⟩ := Dp.reads I d v _ d1 q1
    obtain ⟨bs, rd2⟩ := Dp.reads I e w _ d2 q2
    exact ⟨_, SeqAt.eqAt_reads d e X.A.in1 s _ _ as bs (by simpa using rd1) (by simpa using rd2) (SeqAt.canLay_of_shaped s1) (SeqAt.canLay_of_shaped s2) (SeqAt.room_of_shaped s1 (by show X.A.units + 1 + 64 < cLine; omega))⟩
  let e : Nat → Bool := fun j => if h : j < us.toArray.size ∧ j < ws.toArray.size then Classical.choose (ex j h.1 h.2) else false
  refine SeqAt.eq_tupleAt (e := e) p1 p2 (by omega) (fun j h1 h2 => ?_) ?_
  · have : e j = Classical.choose (ex j h1 h2) := dif_pos ⟨h1, h2⟩
    rw [this]
    exact Classical.choose_spec (ex j h1 h2)
  · have ne : (us.toArray.size == ws.toArray.size) = false := by
      rw [beq_eq_false_iff_ne, List.size_toArray, List.size_toArray, ← r1.length, ← r2.length]
      exact hl
    rw [ne, Bool.and_false]
    exact ⟨.bl false, H, I, rfl, q⟩
end
end Py
end
section
set_option maxHeartbeats 1000000
/-! PyY: t[::-1] of a tuple. -/
namespace HT
open PySem PySem.Spec PyProof.Rows PyProof.V PySem.W PySem.Calls
section
variable {prog : Program} {w : World} {A : Around} {E : Value → Shared → Prop} {s : Shared}
theorem sliceApplied_rev {sl : Addr} {vl vu vs : Value} {n : Nat} {Q : Int × Int × Nat → Shared → Prop} (hs : s.heap.IsSliceOf sl vl vu vs) (pl : IsPart vl none) (pu : IsPart vu none) (ps : IsPart vs (some (-1)))
    (h : Q ((n : Int) - 1, -1, n) s) : wpAny (model prog w) A (Builtin.Slice.sliceApplied (.ref sl) (pure (n : Int))) Q E s := by
  obtain ⟨os, hos, hcs, hds⟩ := id hs
  unfold Builtin.Slice.sliceApplied Builtin.Slice.sliceFields
  refine wpAny_bind (wpAny_bind (wpAny_field hos hds (x := vl) rfl (wpAny_bind (wpAny_field hos hds (x := vu) rfl (wpAny_bind (wpAny_field hos hds (x := vs) rfl (wpAny_pure ?_)))))))
  refine wpAny_bind (slicePart_ ps ?_)
  show wpAny _ _ (if ((-1 : Int) == 0) = true then _ else _) _ _ s
  rw [if_neg (by decide)]
  refine wpAny_bind (slicePart_ pl (wpAny_bind (slicePart_ pu (wpAny_bind (wpAny_pure ?_)))))
  have e : Builtin.Slice.sliceAdjust none none (-1) (n : Int) = ((n : Int) - 1, -1) := by
    unfold Builtin.Slice.sliceAdjust
    simp
  have e2 : Builtin.Slice.slicePlaces ((n : Int) - 1) (-1) (-1) = n := by
    unfold Builtin.Slice.slicePlaces
    simp
    omega
  show wpAny _ _ (match Builtin.Slice.sliceAdjust none none (-1) (n : Int) with | (lo, hi) => pure (lo, (-1 : Int), Builtin.Slice.slicePlaces lo hi (-1))) _ _ s
  rw [e]
  show wpAny _ _ (pure ((n : Int) - 1, (-1 : Int), Builtin.Slice.slicePlaces ((n : Int) - 1) (-1) (-1))) _ _ s
  rw [e2]
  exact wpAny_pure h
theorem fm_congr {α β : Type} {f g : α → Option β} : ∀ {l : List α}, (∀ x ∈ l, f x = g x) → l.filterMap f = l.filterMap g
  | [], _ => rfl
  | a :: l, h => by
    have h1 := h a (by simp)
    have h2 := fm_congr (l := l) fun x hx => h x (List.mem_cons_of_mem _ hx)
    rw [List.filterMap_cons, List.filterMap_cons, h1, h2]
theorem pick_rev (xs : Array Value) : ((List.range xs.size).filterMap fun (m : Nat) => xs[((xs.size : Int) - 1 + (m : Int) * (-1)).toNat]?).toArray = xs.toList.reverse.toArray := by
  congr 1
  have e : ∀ (m : Nat), m ∈ List.range xs.size → xs[((xs.size : Int) - 1 + (m : Int) * (-1)).toNat]? = xs.toList.reverse[m]? := by
    intro m hm
    have hm' : m < xs.size := List.mem_range.mp hm
    have : ((xs.size : Int) - 1 + (m : Int) * (-1)).toNat = xs.size - 1 - m := by omega
    rw [this, List.getElem?_reverse (by simpa using hm')]
    simp
  rw [fm_congr e]
  have := krv_all xs.toList.reverse.toArray
  simpa using this
theorem getItem_tuple_rev {t sl : Addr} {items : Array Value} {vl vu vs : Value} {Q : Value → Shared → Prop} (ht : IsTup s.heap t items) (hs : s.heap.IsSliceOf sl vl vu vs) (pl : IsPart vl none) (pu : IsPart vu none) (ps : IsPart vs (some (-1)))
    (h : Q (.ref s.heap.objs.size) { s with heap := s.heap.push { cls := .type "tuple", data := .seq items.toList.reverse.toArray } })
    (hsz : items.size ≤ sizeLine) : wpAny (model prog w) A (getItem (.ref t) (.ref sl)) Q E s := by
  have htake : sizeOk (.seq items.toList.reverse.toArray) := by
    show items.toList.reverse.toArray.size ≤ sizeLine
    rw [List.size_toArray, List.length_reverse, Array.length_toList]
    exact hsz
  obtain ⟨os, hos, hcs, hds⟩ := id hs
  have hTs : s.TypeIs (.ref sl) "slice" := ⟨os, hos, hcs⟩
  unfold getItem
  try with_reducible refine wpAny_holding ?_
  first | refine wpAny_bind (wpAny_pure ?_) | skip
  refine wpAny_bind (wpAny_sequenceKey ht.typeIs (by decide) ?_)
  refine wpAny_bind (wpAny_callSpecial?_slot (name := Str.ofString "__getitem__") ht.typeIs PyProof.Rows.slot_tuple_getitem
    (wpAny_call_entry PyProof.Rows.slot_tuple_getitem ht.typeIs entry_tuple_getitem ?_ (args_tuple_getitem _ _)))
  show wpAny _ _ (Builtin.Tuple.tupleItemsOf (.ref t) >>= _) _ _ s
  refine wpAny_bind (tupleItemsOf_ ht ?_)
  refine wpAny_bind (wpAny_typeOf hTs ?_)
  rw [if_pos (by decide)]
  refine wpAny_bind (sliceApplied_rev hs pl pu ps ?_)
  have hno : ¬ ((((items.size : Int) - 1) == 0 && (-1 : Int) == 1 && items.size == items.size) = true) := by simp
  show wpAny _ _ (if ((((items.size : Int) - 1) == 0 && (-1 : Int) == 1 && items.size == items.size) = true) then _ else _) _ _ s
  rw [if_neg hno, pick_rev]
  first
    | exact wpAny_bind (m := Builtin.Tuple.tupleExact _) (wpAny_newObj_type (wpAny_pure ⟨_, rfl, wpAny_pure h⟩) htake)
    | exact wpAny_bind (m := Builtin.Tuple.tupleExact _) (wpAny_newObj_type (wpAny_bind (wpAny_pure (wpAny_pure ⟨_, rfl, wpAny_pure h⟩))) htake)
    | exact wpAny_bind (wpAny_bind (m := Builtin.Tuple.tupleExact _) (wpAny_newObj_type (wpAny_pure (wpAny_pure ⟨_, rfl, wpAny_pure h⟩)) htake))
    | exact wpAny_bind (wpAny_bind (m := Builtin.Tuple.tupleExact _) (wpAny_newObj_type (wpAny_pure ⟨_, rfl, wpAny_pure h⟩) htake))
end
end HT
namespace L2
open PySem PySem.Spec PyProof.Rows
def tRevT (K : PySem.W.Frag) (te : TE) : TE := fun σ H Q => te σ H fun x H1 => ∃ a xs, x = .ref a ∧ SqT K H1 a xs ∧ ∀ p, H1 p = none → Q (.ref p) (upd H1 p (.tup xs.reverse))
theorem pe_revT {X : Cx} {e : Expr} {te : TE} {k : Nat} {p1 p2 p3 pos : Pos} (he : PE X e te) : PE X (.Subscript e (.Slice none none (some (.UnaryOp .USub (.Constant (.int 1) k p1) p2)) p3) pos) (tRevT X.K te) := by
  refine ⟨fun pins s σ H Q I h => ?_⟩
  refine Subscript_ (thn (he.run pins s σ H _ I h) fun v s1 ⟨x, H1, I1, r1, q1⟩ => ?_)
  obtain ⟨a, xs, ex, hx, q⟩ := q1
  subst ex
  cases r1
  have hst : PO X (some (.UnaryOp .USub (.Constant (.int 1) k p1) p2)) (tPart (tUn (rU fun i => .int (-i)) (tC (.int 1)))) := po_some (pe_un un_neg pe_int)
  refine wpAny_Slice (thn (po_none.run pins s1 σ H1 (fun o H2 => o = none ∧ H2 = H1) I1 ⟨rfl, rfl⟩) fun vl s2 ⟨l, H2, I2, pl, el, e2⟩ => ?_)
  subst el e2
  refine thn (po_none.run pins s2 σ H2 (fun o H3 => o = none ∧ H3 = H2) I2 ⟨rfl, rfl⟩) fun vu s3 ⟨u, H3, I3, pu, eu, e3⟩ => ?_
  subst eu e3
  refine thn (hst.run pins s3 σ H3 (fun o H4 => o = some (-1) ∧ H4 = H3) I3 ⟨1, rfl, -1, rfl, rfl, rfl⟩) fun vs s4 ⟨o, H4, I4, ps, eo, e4⟩ => ?_
  subst eo e4
  have I5 : Inv X pins σ H4 { s4 with heap := s4.heap.push { cls := .type "slice", data := .fields #[vl, vu, vs] } } := I4.kept (t' := s4.toks) fun b ob q => Heap.get?_push_of_some _ q
  obtain ⟨its, r, ht, hz⟩ := I5.tuple hx
  have hlen := r.length
  show wpAny (model X.prog X.w) X.A (subscriptTail e (.Slice none none (some (.UnaryOp .USub (.Constant (.int 1) k p1) p2)) p3) (.ref a) (.ref s4.heap.objs.size)) (EP X pins σ Q) X.xe { s4 with heap := s4.heap.push { cls := .type "slice", data := .fields #[vl, vu, vs] } }
  refine tail_any (ops := [.ref a, .ref s4.heap.objs.size]) ht.typeIs (PyProof.Rows.slot_tuple_getitem.lookup) ?_ (by with_unfolding_all rfl)
  refine HT.getItem_tuple_rev ht (Heap.IsSliceOf.new _ vl vu vs) pl pu ps ?_ (by rw [List.size_toArray]; omega)
  refine ⟨.ref _, _, I5.laid (t' := s4.toks) (o := .tup xs.reverse) (fun b ob q => Heap.get?_push_of_some _ q) (Nat.le_refl _) ?_, rfl, q _ (I5.hok.fresh (Nat.le_refl _))⟩
  exact ⟨by rw [List.length_reverse]; exact hz, _, r.reverse, IsTup.new _ _⟩
end L2
end
section
set_option maxHeartbeats 1000000
/-! PyZ: the readings of PyX and PyY over data. -/
namespace Py
open PySem L2 StX PySem.Spec PyProof.Rows
def preT (a b : List D) : Bool := decide (a.length ≠ b.length) && (a.zip b).all fun p => shp p.1 && shp p.2
def gEqX (x y : D) : M D := if (shp x && shp y) = true then ret (.bool (PyData.eqv x y)) else match x, y with
  | .tuple a, .tuple b => if preT a b = true then ret (.bool false) else stuck
  | .list a, .list b => if decide (a.length ≠ b.length) = true then ret (.bool false) else stuck
  | _, _ => stuck
def gNeX (x y : D) : M D := if (shp x && shp y) = true then ret (.bool (!PyData.eqv x y)) else match x, y with
  | .list a, .list b => if decide (a.length ≠ b.length) = true then ret (.bool true) else stuck
  | _, _ => stuck
def rEqX (K : PySem.W.Frag) : R2 := fun x y H Q => rEqD K x y H Q ∨ (rEqLL K false x y H Q ∨ rEqLT K x y H Q)
def rNeX (K : PySem.W.Frag) : R2 := fun x y H Q => rNeD K x y H Q ∨ rEqLL K true x y H Q
theorem kEqX {X : Cx} {K : PySem.W.Frag} {k : Nat} (r : Room k X.A) (h : X.K = K := by rfl) : OpR X (compareOp .Eq) (rEqX K) := by
  subst h
  exact (op_eqD r.units).or ((op_eqLL r.units).or (op_eqLT r.u66))
theorem kNeX {X : Cx} {K : PySem.W.Frag} {k : Nat} (r : Room k X.A) (h : X.K = K := by rfl) : OpR X (compareOp .NotEq) (rNeX K) := by
  subst h
  exact (op_neD r.units).or (op_neLL r.units)
theorem kReprX {X : Cx} {K : PySem.W.Frag} {k : Nat} (hg : X.A.guards = some []) (r : Room k X.A) (h : X.K = K := by rfl) : CallR X (.builtin "repr") (rReprX K) := by
  subst h
  exact cr_reprX hg r.u66
section
variable {s : Sx} {Γ Γ' Γl : List Md} {K : PySem.W.Frag}
theorem zip_get {a b : List D} {j : Nat} {x y : D} (h : (a.zip b).all (fun p => shp p.1 && shp p.2) = true) (ha : a[j]? = some x) (hb : b[j]? = some y) : shp x = true ∧ shp y = true := by
  have : (x, y) ∈ a.zip b := by
    refine List.mem_of_getElem? (i := j) ?_
    rw [List.getElem?_zip_eq_some]
    exact ⟨ha, hb⟩
  have := List.all_eq_true.mp h _ this
  simpa using this
theorem DenL.get' {H : Hp} {U : AS} : ∀ {vs : List V} {ds : List D} {j : Nat} {v : V}, DenL H U vs ds → vs[j]? = some v → ∃ d, ds[j]? = some d ∧ Den H U v d
  | _, _, _, _, .nil, h => by simp at h
  | _, _, 0, _, .cons h _, e => by simp at e; subst e; exact ⟨_, rfl, h⟩
  | _, _, j + 1, _, .cons _ t, e => by
    obtain ⟨d, a, b⟩ := DenL.get' (j := j) t (by simpa using e)
    exact ⟨d, by simpa using a, b⟩
theorem oe_eqX : OpE s (rEqX K) gEqX := by
  intro c ps H x y u v Q P hc G hx hy q k
  unfold gEqX at q
  split at q
  · rename_i z
    have z' : shp x = true ∧ shp y = true := by simpa using z
    exact .inl ⟨x, y, hx.dp (shp_lay z'.1), hy.dp (shp_lay z'.2), z'.1, z'.2, k _ _ H q (Stp.refl c H) (.bl _)⟩
  · split at q
    · rename_i a b hn
      split at q
      · rename_i z
        obtain ⟨z1, z2⟩ : a.length ≠ b.length ∧ (a.zip b).all (fun p => shp p.1 && shp p.2) = true := by simpa [preT] using z
        obtain ⟨p, vs, rfl, h1, dn, _⟩ := hx.tup
        obtain ⟨p2, ws, rfl, h2, dn2, _⟩ := hy.tup
        refine .inr (.inr ⟨p, p2, vs, ws, rfl, rfl, SqT.of h1, SqT.of h2, by rw [dn.length, dn2.length]; exact z1, fun j v w e1 e2 => ?_, k _ _ H q (Stp.refl c H) (.bl _)⟩)
        obtain ⟨d, g1, d1⟩ := dn.get' e1
        obtain ⟨e, g2, d2⟩ := dn2.get' e2
        obtain ⟨s1, s2⟩ := zip_get z2 g1 g2
        exact ⟨d, e, d1.dp (shp_lay s1), d2.dp (shp_lay s2), s1, s2⟩
      · cases q
    · rename_i a b hn
      split at q
      · rename_i z
        have z1 : a.length ≠ b.length := by simpa using z
        obtain ⟨p, vs, rfl, h1, dn⟩ := hx.lst
        obtain ⟨p2, ws, rfl, h2, dn2⟩ := hy.lst
        exact .inr (.inl ⟨p, p2, vs, ws, rfl, rfl, SqL.of h1, SqL.of h2, by rw [dn.length, dn2.length]; exact z1, k _ _ H q (Stp.refl c H) (.bl _)⟩)
      · cases q
    · cases q
theorem oe_neX : OpE s (rNeX K) gNeX := by
  intro c ps H x y u v Q P hc G hx hy q k
  unfold gNeX at q
  split at q
  · rename_i z
    have z' : shp x = true ∧ shp y = true := by simpa using z
    exact .inl ⟨x, y, hx.dp (shp_lay z'.1), hy.dp (shp_lay z'.2), z'.1, z'.2, k _ _ H q (Stp.refl c H) (.bl _)⟩
  · split at q
    · rename_i a b hn
      split at q
      · rename_i z
        have z1 : a.length ≠ b.length := by simpa using z
        obtain ⟨p, vs, rfl, h1, dn⟩ := hx.lst
        obtain ⟨p2, ws, rfl, h2, dn2⟩ := hy.lst
        exact .inr ⟨p, p2, vs, ws, rfl, rfl, SqL.of h1, SqL.of h2, by rw [dn.length, dn2.length]; exact z1, k _ _ H q (Stp.refl c H) (.bl _)⟩
      · cases q
    · cases q
def cReprX : List D → M D
  | [d] => if rpOk d = true then ret (.str d.shown) else if rpX d = true then ret (.str d.shown) else stuck
  | _ => stuck
theorem ca_reprX : CaE s (rReprX K) cReprX := by
  intro c ps H vs ds Q P hc G hv q k
  unfold cReprX at q
  split at q
  · rename_i d
    split at q
    · rename_i ok
      exact .inl (ca_repr c ps H vs [d] Q P hc G hv (by rw [show cRepr [d] = ret (.str d.shown) from if_pos ok]; exact q) k)
    · split at q
      · rename_i ok
        obtain ⟨v, rfl, hw⟩ := hv.one
        have lay : onTD d = true := by
          have ok' := ok
          unfold rpX at ok'
          simp only [Bool.and_eq_true] at ok'
          exact ok'.1.1.2
        exact .inr ⟨v, d, rfl, hw.dq lay, ok, k _ _ H q (Stp.refl c H) (.str _)⟩
      · cases q
  · cases q
/-- {} -/
theorem sem_dct : SemE s Γ tDNewK (eC (.dict [])) := by
  intro c ρ ps σ H Q P hc r q k p hn
  exact k _ _ _ q (Stp.new r.ok hn fun xs z => by rcases z with z | z <;> cases z) (.dct upd_same (r.new hn))
/-- a ** b, two numbers of the text -/
theorem sem_powc {a b : Int} (h : CPow a b) : SemE s Γ (tOp (rI CPow fun i j => .int (i ^ j.toNat)) (tC (.int a)) (tC (.int b))) (eC (.int (a ^ b.toNat))) := by
  intro c ρ ps σ H Q P hc r q k
  exact ⟨a, b, rfl, rfl, h, k _ _ H q (Stp.refl c H) (.int _)⟩
/-- t[::-1] -/
def eRevT (e : Env → M D) : Env → M D := fun ρ => bnd (e ρ) fun d => match d with
  | .tuple ds => ret (.tuple ds.reverse)
  | _ => stuck
theorem sem_revT {te : TE} {e : Env → M D} (he : SemV s Γ te e) : SemE s Γ (tRevT K te) (eRevT e) := by
  intro c ρ ps σ H Q P hc r0 q k
  refine he c ρ ps σ H _ _ hc r0 q fun x u H1 q1 e1 d1 => ?_
  have r1 := r0.stp e1
  dsimp only at q1
  split at q1
  · obtain ⟨a, vs, rfl, h1, dn, nu⟩ := d1.tup
    refine ⟨a, vs, rfl, SqT.of h1, fun p hp => ?_⟩
    have e := Stp.tup r0.ok (xs := vs.reverse) hp (by rw [List.length_reverse]; exact r1.sz a vs (.inr h1))
    exact k _ _ _ q1 (e1.trans e) (.tup upd_same (r1.new hp) (dn.stp r0.ok e).reverse)
  · cases q1
end
end Py
end
section
set_option maxHeartbeats 1000000
/-! PyW: sum of a tuple. -/
namespace L2
open PySem PySem.Spec PyProof.Rows
variable {X : Cx}
def rSumX (K : PySem.W.Frag) : List V → Hp → VK → Prop := fun vs H Q => rSum K vs H Q ∨ ∃ (a : Addr) (ns : List Int), vs = [V.ref a] ∧ SqT K H a (ns.map V.int) ∧ Q (.int ns.sum) H
theorem sumT_raw {prog : Program} {w : World} {A : Around} {E : Value → Shared → Prop} {s : Shared} {l : Addr} {its : List Value} {ns : List Int} {Q : Value → Shared → Prop} (hh : A.handled = none) (hl : s.heap.IsTuple l its.toArray) (hi : IntsAre its ns)
    (h : ∀ h' tk t', (∀ b o, s.heap.get? b = some o → h'.get? b = some o) → Q (.int ns.sum t') { s with heap := h', toks := tk }) : wpAny (model prog w) A (call (.builtin "sum") [.ref l]) Q E s := by
  obtain ⟨xs, e⟩ := hi.allInts.items
  have hn : numsOf (intItems xs).toList = ns := by rw [← e]; exact hi.numsOf
  rw [nums_intItems] at hn
  rw [e] at hl
  refine PySem.W.ktm_sumG hh hl fun h' tk t' hk => ?_
  have := h h' tk t' hk
  rw [preSum_eq, List.take_of_length_le (by simp), hn]; exact this
theorem cr_sumX (hc : X.calm = true) : CallR X (.builtin "sum") (rSumX X.K) := by
  intro pins s σ H vs us Q I r h
  rcases h with h | h
  · exact cr_sum hc pins s σ H vs us Q I r h
  · obtain ⟨a, ns, rfl, hs, q⟩ := h
    obtain ⟨its, rv, hl, _⟩ := I.tuple hs
    rw [Vals.ref1 r]
    exact sumT_raw (I.ok.hd hc) hl rv.ints fun h' tk t' hk => ⟨.int _, H, I.kept hk, ⟨_, rfl⟩, q⟩
end L2
namespace Py
open PySem L2 StX
section
variable {s : Sx} {K : PySem.W.Frag}
def cSumX : List D → M D
  | [.list ds] => match intsD ds with | some ns => ret (.int ns.sum) | none => stuck
  | [.tuple ds] => match intsD ds with | some ns => ret (.int ns.sum) | none => stuck
  | _ => stuck
theorem ca_sumX : CaE s (rSumX K) cSumX := by
  intro c ps H vs ds Q P hc G hv q k
  unfold cSumX at q
  split at q
  · cases e : intsD _ with
    | none => rw [e] at q; cases q
    | some ns =>
      rw [e] at q
      obtain ⟨v, rfl, hw⟩ := hv.one
      obtain ⟨a, ws, rfl, h1, dn⟩ := hw.lst
      exact .inl ⟨a, ns, rfl, by rw [← dn.ints e]; exact SqL.of h1, k _ _ H q (Stp.refl c H) (.int _)⟩
  · cases e : intsD _ with
    | none => rw [e] at q; cases q
    | some ns =>
      rw [e] at q
      obtain ⟨v, rfl, hw⟩ := hv.one
      obtain ⟨a, ws, rfl, h1, dn, nu⟩ := hw.tup
      exact .inr ⟨a, ns, rfl, by rw [← dn.ints e]; exact SqT.of h1, k _ _ H q (Stp.refl c H) (.int _)⟩
  · cases q
theorem kSumX {X : Cx} {K : PySem.W.Frag} (hc : X.calm = true) (h : X.K = K := by rfl) : CallR X (.builtin "sum") (rSumX K) := by subst h; exact cr_sumX hc
theorem cSumX_t (xs : List Int) : cSumX [.tuple (dInts xs)] = ret (.int xs.sum) := by
  show (match intsD (dInts xs) with | some ns => ret (PyData.int ns.sum) | none => stuck) = _
  rw [intsD_dInts]
theorem cSumX_l (xs : List Int) : cSumX [.list (dInts xs)] = ret (.int xs.sum) := by
  show (match intsD (dInts xs) with | some ns => ret (PyData.int ns.sum) | none => stuck) = _
  rw [intsD_dInts]
end
end Py
end
section
set_option maxHeartbeats 1000000
/-! PyU: a loop over a list of one's own that stands still meanwhile; [..], x, y into three names; range with the step - 1. -/
namespace Py
open PySem L2 StX
section
variable {s : Sx} {Γ Γ' Γl : List Md} {K : PySem.W.Frag}
/-- the own list in slot i is lent -/
theorem Slots.lend {c : Fx} {H : Hp} {U : AS} {ρ : Env} {σ : St} {ps : List Addr} (h : Slots c H U Γ ρ σ ps) : ∀ {i : Nat} {d : D}, Γ[i]? = some .own → ρ[i]? = some (some d) →
    ∃ (p : Addr) (vs : List V) (ds : List D), σ[i]? = some (some (.ref p)) ∧ d = .list ds ∧ p ∈ ps ∧ H p = some (.lst vs) ∧ DenL H U vs ds ∧ Slots c H U (Γ.set i (.lent p vs)) ρ σ ps := by
  induction h with
  | nil => intro i d h; simp at h
  | @cons m1 d1 o1 p1 q1 Γ1 ρ1 σ1 h1 h2 ih =>
    intro i d hm hd
    cases i with
    | zero =>
      simp at hm hd
      subst hm hd
      cases h1 with
      | @own p vs ds a1 a2 => exact ⟨p, vs, ds, rfl, rfl, by simp, a1, a2, .cons (.lent a1 a2) h2⟩
    | succ i =>
      obtain ⟨p, vs, ds, e1, e2, e3, e4, e5, e6⟩ := ih (i := i) (by simpa using hm) (by simpa using hd)
      exact ⟨p, vs, ds, by simpa using e1, e2, List.mem_append_right _ e3, e4, e5, .cons h1 e6⟩
theorem Slots.unlend {c : Fx} {H : Hp} {U : AS} {ρ : Env} {σ : St} {ps : List Addr} {p : Addr} {vs : List V} : ∀ {Γ : List Md} {i : Nat}, Γ[i]? = some .own → Slots c H U (Γ.set i (.lent p vs)) ρ σ ps → Slots c H U Γ ρ σ ps
  | [], _, h, _ => by simp at h
  | m :: Γ, 0, h, q => by
    simp at h
    subst h
    rw [List.set_cons_zero] at q
    cases q with
    | cons h1 h2 =>
      refine .cons ?_ h2
      cases h1 with
      | no => exact .no
      | lent a1 a2 => exact .own a1 a2
  | m :: Γ, i + 1, h, q => by
    rw [List.set_cons_succ] at q
    generalize e : Γ.set i (.lent p vs) = Δ at q
    cases q with
    | cons h1 h2 =>
      subst e
      exact .cons h1 (Slots.unlend (Γ := Γ) (i := i) (by simpa using h) h2)
theorem R.unlend {c : Fx} {ρ : Env} {ps : List Addr} {σ : St} {H : Hp} {p : Addr} {vs : List V} {i : Nat} (hm : Γ[i]? = some .own) (r : R c (Γ.set i (.lent p vs)) ρ ps σ H) : R c Γ ρ ps σ H :=
  { ok := r.ok, keep := r.keep, there := r.there, inv := r.inv, al := r.al, sz := r.sz, sl := r.sl.unlend hm, nd := r.nd, own := r.own }
theorem R.lentAt {c : Fx} {ρ : Env} {ps : List Addr} {σ : St} {H : Hp} {p : Addr} {vs : List V} {i : Nat} {d : D} (hm : Γ[i]? = some .own) (r : R c (Γ.set i (.lent p vs)) ρ ps σ H) (hd : ρ[i]? = some (some d)) : H p = some (.lst vs) := by
  have hi : i < Γ.length := (List.getElem?_eq_some_iff.mp hm).1
  obtain ⟨o, qs, e1, e2, e3⟩ := r.sl.get (List.getElem?_set_self hi) hd
  cases e2 with
  | lent a1 a2 => exact a1
/-- for .. in an own list that nothing is put into meanwhile -/
def forWO (i : Nat) (tg : D → Env → M Env) (body : Env → M Out) : List D → Env → M Out
  | [], ρ => bnd (eVar i ρ) fun _ => ret (.nx ρ)
  | d :: ds, ρ => bnd (eVar i ρ) fun _ => bnd (tg d ρ) fun ρ' => bnd (body ρ') fun o => oLoop o (forWO i tg body ds)
def sForO (i : Nat) (tg : D → Env → M Env) (body : Env → M Out) : Env → M Out := fun ρ => bnd (eVar i ρ) fun d => bnd (seqD d) fun ds => forWO i tg body ds ρ
theorem sem_forO {i : Nat} {g : TG} {tb : TS} {ts : List Nat} {tg : D → Env → M Env} {body : Env → M Out} (hm : Γ[i]? = some .own) (hg : ∀ p vs, SemG s (Γ.set i (.lent p vs)) g ts tg) (hb : ∀ p vs, SemS s (Γ.set i (.lent p vs)) (Γ.set i (.lent p vs)) (Γ.set i (.lent p vs)) tb body) :
    SemS s Γl Γ Γ (tFor (iSeq K (tVar i)) g tb) (sForO i tg body) := by
  intro c ρ ps σ H E P hc r q k
  obtain ⟨l, hl, q⟩ := eVar_get q
  obtain ⟨p, vs, ds, ho, rfl, hp, h1, dn, sl'⟩ := r.sl.lend hm hl
  have q : forWO i tg body ds ρ P := q
  have r1 : R c (Γ.set i (.lent p vs)) ρ ps σ H := { ok := r.ok, keep := r.keep, there := r.there, inv := r.inv, al := r.al, sz := r.sz, sl := sl', nd := r.nd, own := r.own }
  have it : Items (Itl K p) (fun a => a ≠ p) (c.U ps) H ds := items_list h1 (fun n => n rfl) dn r.sz
  refine ⟨_, ho, .inl ⟨p, rfl, ⟨vs, SqL.of h1⟩, ?_⟩⟩
  refine ⟨fun j m σ' H' => m = ds.length - j ∧ j ≤ ds.length ∧ ∃ ρ' ps', R (c.at ps H) (Γ.set i (.lent p vs)) ρ' ps' σ' H' ∧ forWO i tg body (ds.drop j) ρ' P, ⟨ds.length, by simp, Nat.zero_le _, ρ, ps, r1.enter, q⟩, ?_⟩
  rintro j m σ' H' ⟨rfl, hle, ρ', ps', r', w⟩
  have lU : Later (c.U ps) H H' := fun a o h n => r'.keep a o (Fx.at_some (fun z => n (.inr z)) h) fun z => n (.inl (r1.ok.sub a z))
  have at' : ∀ {d : D}, ρ'[i]? = some (some d) → Later (fun a => a ≠ p) H H' := fun hd a o h n => by
    have e : a = p := Classical.not_not.mp n
    subst e
    rw [h1] at h
    cases h
    exact r'.lentAt hm hd
  by_cases hlt : j < ds.length
  · rw [List.drop_eq_getElem_cons hlt] at w
    obtain ⟨l', hl', w⟩ := eVar_get (show (bnd (eVar i ρ') fun _ => bnd (tg ds[j] ρ') fun ρ' => bnd (body ρ') fun o => oLoop o (forWO i tg body (ds.drop (j + 1)))) P from w)
    have lS := at' hl'
    refine .inr ⟨it.go j H' lS hlt, fun σ2 H2 => ds.length - (j + 1) = ds.length - (j + 1) ∧ j + 1 ≤ ds.length ∧ ∃ ρ2 ps2, R (c.at ps H) (Γ.set i (.lent p vs)) ρ2 ps2 σ2 H2 ∧ forWO i tg body (ds.drop (j + 1)) ρ2 P, fun σ2 H2 h => ⟨ds.length - (j + 1), by omega, h⟩, fun x H'' y => ?_⟩
    have hd : ds[j]? = some ds[j] := by simp [hlt]
    obtain ⟨same, sz, den⟩ := it.yld j ds[j] H' x H'' lS lU hd y
    have r2 := r'.stp (Stp.same r'.ok same sz)
    have dx : Den H'' ((c.at ps H).U ps') x ds[j] := den _ (fun a o h u => by
      rcases u with u | u
      · exact .inl u
      · rcases Fx.at_none (r'.own a u).1 with z | z
        · exact .inr z
        · rw [h] at z; cases z) fun a h => r'.new h
    have hc' : (c.at ps H).s = s := hc
    refine hg p vs (c.at ps H) ρ' ps' σ' H'' _ _ _ _ hc' r2 dx w fun ρ2 σ2 w2 r3 _ _ => ?_
    refine hb p vs (c.at ps H) ρ2 ps' σ2 H'' _ _ hc' r3 w2 ⟨fun ρ3 ps3 σ3 H3 p r4 => ?_, fun d v H3 p fi dn => ?_, fun ρ3 ps3 σ3 H3 p r4 => ?_, fun ρ3 ps3 σ3 H3 p r4 => ?_⟩
    · exact ⟨rfl, hlt, ρ3, ps3, r4, p⟩
    · exact k.rt d v H3 p (fi.leave r1) dn
    · exact k.nx ρ3 ps3 σ3 H3 p (R.unlend hm (r1.leave r4))
    · exact ⟨rfl, hlt, ρ3, ps3, r4, p⟩
  · have e : j = ds.length := by omega
    subst e
    rw [List.drop_length] at w
    obtain ⟨l', hl', w⟩ := eVar_get (show (bnd (eVar i ρ') fun _ => ret (Out.nx ρ')) P from w)
    exact .inl ⟨it.stop H' (at' hl'), k.nx ρ' ps' σ' H' w (R.unlend hm (r1.leave r'))⟩
/-- a, b, d = [..], x, y: the first a list of one's own, x and y written -/
def sParO3 (i j l : Nat) (e : Env → M (List D)) (x y : Int) : Env → M Out := fun ρ => bnd (e ρ) fun ds => ret (.nx (((ρ.set i (some (.list ds))).set j (some (.int x))).set l (some (.int y))))
theorem sem_parO3 {i j l : Nat} {x y : Int} {t : TE} {e : Env → M (List D)} (h : SemL s Γ t e) (hi : i < Γ.length) (hj : (Γ.set i .own)[j]? = some .fro) (hl : (Γ.set i .own)[l]? = some .fro) : SemS s Γl Γ (Γ.set i .own) (tPar3 i j l (tCons t (tCons (tC (.int x)) (tCons (tC (.int y)) tNil)))) (sParO3 i j l e x y) := by
  intro c ρ ps σ H E P hc r q k
  refine h c ρ ps σ H _ _ hc r q fun ds p vs H1 q1 e1 hn hp dn => ?_
  obtain ⟨ps', r'⟩ := r.putOwn e1 hi hn hp dn
  exact ⟨_, _, _, rfl, k.nx _ ps' _ H1 q1 ((r'.setFro (.int x) hj).setFro (.int y) hl)⟩
/-! ### range with the step - 1 -/
def downD (lo : Int) (n : Nat) : List D := (List.range n).map fun i => .int (lo + (i : Nat) * (-1))
def itDown (f : Env → M (List D)) : Env → M (List D) := fun ρ => bnd (f ρ) fun ds => match ds with
  | [.int m, .int n, .int z] => if (decide (z = -1) && (rngOk m && rngOk n)) = true then ret (downD m (m - n).toNat) else stuck
  | _ => stuck
theorem items_down {H : Hp} {S U : AS} {lo : Int} {n : Nat} (hz : n ≤ sizeLine) : Items (Itc lo (-1) n) S U H (downD lo n) where
  len := by unfold downD; simpa using hz
  go := fun i H' l hi => by
    show i < n
    unfold downD at hi
    simpa using hi
  stop := fun H' l => by show n ≤ _; unfold downD; simp
  yld := fun i d H' x H'' l lu hd y => by
    obtain ⟨rfl, rfl⟩ := y
    unfold downD at hd
    rw [List.getElem?_map, Option.map_eq_some_iff] at hd
    obtain ⟨j, hj, rfl⟩ := hd
    have e : j = i := by
      rw [List.getElem?_range] at hj
      · exact (Option.some.inj hj).symm
      · exact Nat.lt_of_not_le fun z => by rw [List.getElem?_eq_none (by simpa using z)] at hj; cases hj
    subst e
    exact ⟨fun _ _ q => q, fun q => q, fun _ _ _ => .int _⟩
theorem Views.three {c : Fx} {ps : List Addr} {H : Hp} {vs : List V} {d e f : D} (h : Views c ps H vs [d, e, f]) : ∃ v w x, vs = [v, w, x] ∧ View c ps H v d ∧ View c ps H w e ∧ View c ps H x f := by
  cases h with
  | cons h t =>
    obtain ⟨w, x, rfl, h2, h3⟩ := t.two
    exact ⟨_, _, _, rfl, h, h2, h3⟩
theorem down_any {t : TA} {f : Env → M (List D)} (h : SemAV s Γ t f) {c : Fx} {ρ : Env} {ps : List Addr} {σ : St} {H : Hp} {R' : It → Hp → Prop} {P : List D → Prop} (hc : c.s = s) (r0 : R c Γ ρ ps σ H) (q : itDown f ρ P) {S : AS}
    (k : ∀ ds J H1, P ds → Stp c H H1 → Items J S (c.U ps) H1 ds → R' J H1) : iRng3 t σ H R' := by
  refine h c ρ ps σ H _ _ hc r0 q fun ds vs H1 q1 e1 d1 => ?_
  dsimp only at q1
  split at q1
  · rename_i m n z
    split at q1
    · rename_i hr
      have hr' : z = -1 ∧ rngOk m = true ∧ rngOk n = true := by simpa using hr
      obtain ⟨rfl, h2, h3⟩ := hr'
      have b1 := rngOk_b h2
      have b2 := rngOk_b h3
      obtain ⟨v, w, x, rfl, dv, dw, dx⟩ := d1.three
      refine ⟨m, n, -1, (m - n).toNat, by rw [dv.int, dw.int, dx.int], RgC.neg (by omega) (by omega) (by omega) (by omega), ?_⟩
      exact k _ _ H1 q1 e1 (items_down (sz_1e5 (by omega)))
    · cases q1
  · cases q1
theorem semI_down {t : TA} {f : Env → M (List D)} (h : SemAV s Γ t f) : SemI s Γ (iRng3 t) (itDown f) := fun c ρ ps σ H R' P hc r0 q k => down_any h hc r0 q k
end
end Py
end
section
set_option maxHeartbeats 1000000
/-! PyDc: sorted(dict(pairs)), the keys tuples of ints. -/
namespace L2
open PySem PySem.Spec PyProof.Rows
variable {X : Cx}
def mergeT (kvs more : List (List Key × V)) : List (List Key × V) := more.foldl (fun acc kv => putK acc kv.1 kv.2) kvs
theorem length_mergeT : ∀ (more kvs : List (List Key × V)), (mergeT kvs more).length ≤ kvs.length + more.length
  | [], kvs => by show kvs.length ≤ kvs.length + 0; omega
  | p :: r, kvs => by
    have h1 := length_mergeT r (putK kvs p.1 p.2)
    have h2 := length_putK kvs p.1 p.2
    show (mergeT (putK kvs p.1 p.2) r).length ≤ _
    rw [List.length_cons]; omega
abbrev PQ (K : PySem.W.Frag) (H : Hp) : List (Addr × Addr) → List (List Key × V) → Prop := Paired fun pq kv => SqT K H pq.1 [V.ref pq.2, kv.2] ∧ H pq.2 = some (.tup (kv.1.map kV))
theorem KT.merge {H : Hp} : ∀ {more : List (List Key × V)} {rs : List (List Key × Addr × Value)} {kvs : List (List Key × V)} {xs : List (List Key × Addr × Value)}, KT H more rs → KT H kvs xs → KT H (mergeT kvs more) (storedAllH xs rs) := by
  intro more rs kvs xs r
  unfold KT at r
  induction r generalizing kvs xs with
  | nil => intro q; exact q
  | @cons p q ps qs h t ih =>
    intro r0
    obtain ⟨h1, h2, h3⟩ := h
    have e : KT H (putK kvs p.1 p.2) (storedH xs q.1 q.2.1 q.2.2) := by
      have := r0.put p.1 h2 h3
      rw [← h1]; exact this
    exact ih e
theorem pq_of {pins : List (Addr × Obj)} {σ : St} {H : Hp} {s : Shared} (I : Inv X pins σ H s) : ∀ {pqs : List (Addr × Addr)} {kvs : List (List Key × V)}, PQ X.K H pqs kvs →
    ∃ prs : List (List Key × Addr × Value), KT H kvs prs ∧ prs.length = pqs.length ∧ ∀ (j : Nat) (q : List Key × Addr × Value), prs[j]? = some q → ∃ b : Addr × Addr, pqs[j]? = some b ∧ b.2 = q.2.1 ∧ IsTup s.heap b.1 #[.ref q.2.1, q.2.2] ∧ (tupleKind (mixKind X.prog X.w)).is s.heap q.1 q.2.1
  | _, _, .nil => ⟨[], .nil, rfl, fun j q e => by simp at e⟩
  | _, _, .cons (a := p) (b := kv) h t => by
    obtain ⟨prs, r, hl, hp⟩ := pq_of I t
    obtain ⟨h, hk⟩ := h
    obtain ⟨its, rv, ht, _⟩ := I.tuple h
    obtain ⟨u, y, ei, ru, ry⟩ := vals2 rv
    subst ei
    cases ru
    refine ⟨(kv.1, p.2, y) :: prs, .cons ⟨rfl, hk, ry⟩ r, by rw [List.length_cons, List.length_cons, hl], fun j q e => ?_⟩
    cases j with
    | zero =>
      have e' : (kv.1, p.2, y) = q := Option.some.inj e
      subst e'
      exact ⟨p, rfl, rfl, ht, key_of I.hok hk⟩
    | succ j =>
      obtain ⟨b, e1, e2, e3, e4⟩ := hp j q (by simpa using e)
      exact ⟨b, by simpa using e1, e2, e3, e4⟩
def rDictT (K : PySem.W.Frag) : List V → Hp → VK → Prop := fun xs H Q => ∃ (a : Addr) (pqs : List (Addr × Addr)) (kvs : List (List Key × V)), xs = [.ref a] ∧ SqL K H a (pqs.map fun pq => V.ref pq.1) ∧ PQ K H pqs kvs ∧
    ∀ p, H p = none → Q (.ref p) (upd H p (.dT (mergeT [] kvs)))
theorem cr_dictT (hcalm : X.calm = true) (hu : X.A.units + 2 < cLine) : CallR X (.type "dict") (rDictT X.K) := by
  intro pins s σ H xs us Q I r q
  obtain ⟨a, pqs, kvs, ex, hq, hp, q⟩ := q
  subst ex
  obtain ⟨u, eu, rx⟩ := vals1 r
  subst eu
  cases rx
  obtain ⟨its, rv, pl, hz⟩ := I.list hq
  have em : (pqs.map fun pq => V.ref pq.1) = (pqs.map (·.1)).map V.ref := by rw [List.map_map]; rfl
  rw [em] at rv hz
  have ei := refs_at rv
  subst ei
  rw [List.length_map, List.length_map] at hz
  obtain ⟨prs, rel, hl, hpr⟩ := pq_of I hp
  obtain ⟨o, n, ho, hc, hd, hdat⟩ := pl
  have Pr := PairArg.list (prog := X.prog) (w := X.w) a ((pqs.map (·.1)).map Value.ref).toArray (fun j => (pqs.map (·.1)).getD j 0) (prs.map fun x => (Value.ref x.2.1, x.2.2))
  have ok : PlainSeq "list" s.heap a ((pqs.map (·.1)).map Value.ref).toArray ∧ PairItems s.heap ((pqs.map (·.1)).map Value.ref).toArray (fun j => (pqs.map (·.1)).getD j 0) (prs.map fun x => (Value.ref x.2.1, x.2.2)) := by
    refine ⟨⟨o, n, ho, hc, hd, hdat⟩, by simp [hl], fun j k v e => ?_⟩
    rw [List.getElem?_map, Option.map_eq_some_iff] at e
    obtain ⟨x, hx, e⟩ := e
    obtain ⟨rfl, rfl⟩ := Prod.mk.inj e
    obtain ⟨b, e1, e2, e3, e4⟩ := hpr j x hx
    have eT : (pqs.map (·.1)).getD j 0 = b.1 := by
      rw [List.getD_eq_getElem?_getD, List.getElem?_map, e1]
      rfl
    refine ⟨?_, .inl ?_⟩
    · show _ = some (Value.ref ((pqs.map (·.1)).getD j 0))
      rw [eT]
      simp [e1]
    · show s.heap.IsTuple ((pqs.map (·.1)).getD j 0) _
      rw [eT]
      exact e3
  refine call_dict_pairsH (knd := tupleKind (mixKind X.prog X.w)) (ps := prs) Pr (I.ok.hd hcalm) (show X.A.units + 1 + 1 < cLine by omega) ok ?_ ?_ (by rw [List.length_map, hl]; exact hz) fun h' tk hd' k => ?_
  · refine ⟨by rw [List.length_map], fun i key v e => ?_⟩
    have e : (prs.map fun x => (Value.ref x.2.1, x.2.2))[i]? = some (key, v) := e
    rw [List.getElem?_map, Option.map_eq_some_iff] at e
    obtain ⟨x, hx, e⟩ := e
    obtain ⟨rfl, rfl⟩ := Prod.mk.inj e
    exact ⟨x.1, x.2.1, hx, rfl⟩
  · intro h' hk x hx
    obtain ⟨i, hi⟩ := List.getElem?_of_mem hx
    obtain ⟨b, e1, e2, e3, e4⟩ := hpr i x hi
    exact tupleKind_stays.stays (fun b o vs n e _ => hk b o (Nat.ne_of_lt (Heap.lt_size e)) (fun z => nomatch z) e) e4
  · have hm : (s.heap.objs.size == sysModules) = false := beq_eq_false_iff_ne.mpr (Nat.ne_of_gt I.big)
    have hn := I.hok.fresh (Nat.le_refl s.heap.objs.size)
    have hlen : (mergeT [] kvs).length ≤ sizeLine := by
      refine Nat.le_trans (length_mergeT kvs []) ?_
      rw [List.length_nil, Nat.zero_add, Paired.length rel, hl]
      exact hz
    obtain ⟨q', es, ep, hq', h2, h3, h4, _, h5⟩ := hd'
    refine ⟨.ref s.heap.objs.size, upd H s.heap.objs.size (.dT (mergeT [] kvs)), I.laid (t' := tk) (fun b o e => k b o (fun z => nomatch z) e) (Nat.le_refl _) (show ObjOk X.prog X.w _ _ _ (.dT (mergeT [] kvs)) from ⟨hlen, hm, _, (KT.merge rel .nil).keeps fun c ys ec => ?_, q', es, ep, hq', h2, h3, h4, h5⟩), rfl, q _ hn⟩
    rw [upd_ne (fun z => by rw [z, hn] at ec; cases ec)]
    exact ec
end L2
namespace Py
open PySem L2 StX
section
variable {s : Sx} {Γ : List Md} {K : PySem.W.Frag}
/-- the keys of pairs -/
def pairKeys : List D → Option (List (List Int))
  | [] => some []
  | .tuple [.tuple es, _] :: ds => match intsD es, pairKeys ds with
    | some is, some ks => some (is :: ks)
    | _, _ => none
  | _ :: _ => none
def dedup (ks : List (List Int)) : List (List Int) := ks.foldl putI []
theorem pairs_den {H : Hp} {U : AS} : ∀ {ds : List D} {vs : List V} {ks : List (List Int)}, DenL H U vs ds → pairKeys ds = some ks →
    ∃ (pqs : List (Addr × Addr)) (kvs : List (List L2.Key × V)), vs = pqs.map (fun pq => V.ref pq.1) ∧ PQ K H pqs kvs ∧ kvs.map (·.1) = ks.map (fun k => k.map Sum.inl)
  | [], vs, ks, h, e => by
    cases h
    cases e
    exact ⟨[], [], rfl, .nil, rfl⟩
  | d :: ds, vs, ks, h, e => by
    cases h with
    | @cons v vs _ _ h1 h2 =>
      unfold pairKeys at e
      split at e
      · cases ‹d :: ds = []›
      · rename_i es x ds' he
        cases he
        split at e
        · rename_i is ks' ei ek
          cases e
          obtain ⟨pqs, kvs, rfl, hp, hk⟩ := pairs_den h2 ek
          cases h1 with
          | @tup a xs _ ha hu dn =>
            cases dn with
            | @cons v1 vs1 _ _ g1 g2 =>
              cases g2 with
              | @cons v2 vs2 _ _ g2 g3 =>
                cases g3
                cases g1 with
                | @tup b ys _ hb hub dnb =>
                  have ex := dnb.ints ei
                  subst ex
                  refine ⟨(a, b) :: pqs, (is.map Sum.inl, v2) :: kvs, rfl, .cons ⟨SqT.of ha, ?_⟩ hp, by simp [hk]⟩
                  show H b = some (.tup ((is.map Sum.inl).map kV))
                  rw [hb, List.map_map]
                  rfl
        · cases e
      · cases e
theorem mergeT_keys : ∀ (more : List (List L2.Key × V)) (ms : List (List Int)) (kvs : List (List L2.Key × V)) (ks : List (List Int)), more.map (·.1) = ms.map (fun k => k.map Sum.inl) → kvs.map (·.1) = ks.map (fun k => k.map Sum.inl) →
    (mergeT kvs more).map (·.1) = (ms.foldl putI ks).map (fun k => k.map Sum.inl)
  | [], [], _, _, _, h => h
  | [], _ :: _, _, _, e, _ => by simp at e
  | _ :: _, [], _, _, e, _ => by simp at e
  | p :: more, m :: ms, kvs, ks, e, h => by
    simp only [List.map_cons, List.cons.injEq] at e
    obtain ⟨e1, e2⟩ := e
    have := mergeT_keys more ms (putK kvs (m.map Sum.inl) p.2) (putI ks m) e2 (putK_keys h)
    show (mergeT (putK kvs p.1 p.2) more).map (·.1) = ((ms.foldl putI (putI ks m))).map _
    rw [e1]
    exact this
/-- sorted(dict(pairs)) -/
def eSrtP (e : Env → M D) : Env → M (List D) := fun ρ => bnd (e ρ) fun d => match d with
  | .list ds => match pairKeys ds with
    | some ks => if (srtOk (keyT (dedup ks)) && lenOk (keyT (dedup ks)).length) = true then ret ((keyT (dedup ks)).mergeSort leD) else stuck
    | none => stuck
  | _ => stuck
theorem sem_srtP {t : TE} {e : Env → M D} (h : SemE s Γ t e) : SemL s Γ (tCB rSortDT (tCons (tCB (rDictT K) (tCons t tNil)) tNil)) (eSrtP e) := by
  intro c ρ ps σ H Q P hc r q k
  refine h c ρ ps σ H _ _ hc r q fun d v H1 q1 e1 d1 => ?_
  have r1 := r.stp e1
  dsimp only at q1
  split at q1
  · rename_i ds
    cases ek : pairKeys ds with
    | none => rw [ek] at q1; exact False.elim q1
    | some ks =>
      rw [ek] at q1
      dsimp only at q1
      split at q1
      · rename_i ok0
        rw [Bool.and_eq_true] at ok0
        obtain ⟨ok, lok⟩ := ok0
        cases d1 with
        | @lst a xs _ ha hu dn =>
          obtain ⟨pqs, kvs, rfl, hp, hk⟩ := pairs_den (K := K) dn ek
          refine ⟨a, pqs, kvs, rfl, SqL.of ha, hp, fun p hn => ?_⟩
          have e2 : Stp c H1 (upd H1 p (.dT (mergeT [] kvs))) := Stp.new r1.ok hn fun xs z => by rcases z with z | z <;> cases z
          have r2 := r1.stp e2
          have hks : (mergeT [] kvs).map (·.1) = (dedup ks).map (fun k => k.map Sum.inl) := mergeT_keys kvs ks [] [] hk rfl
          refine ⟨p, mergeT [] kvs, dedup ks, rfl, upd_same, hks, ok, fun a bs ha isk => ?_⟩
          have dn := (keys_den r2.loose hks isk).srt
          have hz : ((((bs.map V.ref).zip (keyT (dedup ks))).mergeSort fun x y => leD x.2 y.2).map (·.1)).length ≤ sizeLine := by
            have e := congrArg List.length hks
            rw [List.length_map, List.length_map] at e
            rw [List.length_map, List.length_mergeSort, List.length_zip, List.length_map]
            have l2 : (mergeT [] kvs).length = bs.length := Paired.length isk
            have : (keyT (dedup ks)).length ≤ sizeLine := lenOk_sz lok
            omega
          exact k _ a _ _ q1 ((e1.trans e2).trans (Stp.lst r2.ok ha hz)) (e1.fresh (e2.fresh ha)) upd_same (dn.plus ha)
      · exact False.elim q1
  · exact False.elim q1
theorem kDictT {X : Cx} {k : Nat} (hc : X.calm = true) (r : Room k X.A) (h : X.K = K := by rfl) : CallR X (.type "dict") (rDictT K) := by subst h; exact cr_dictT hc (by have := r.u67; omega)
end
end Py
end
section
set_option maxHeartbeats 1000000
/-! PyDd: tuples of targets, one of them a list of one's own, some of the names cells. -/
namespace Py
open PySem L2 StX
section
variable {s : Sx} {Γ Γ' Γl : List Md} {K : PySem.W.Frag}
theorem sem_asgO3 {i j l : Nat} {x y : Int} {t : TE} {e : Env → M (List D)} (h : SemL s Γ t e) (hi : i < Γ.length) (hj : (Γ.set i .own)[j]? = some .fro) (hl : (Γ.set i .own)[l]? = some .fro) :
    SemS s Γl Γ (Γ.set i .own) (tAsg (tTup (tCons t (tCons (tC (.int x)) (tCons (tC (.int y)) tNil)))) (gTup K 3 (gCons (gName i) (gCons (gName j) (gCons (gName l) gNil))))) (sParO3 i j l e x y) := by
  intro c ρ ps σ H E P hc r q k
  refine h c ρ ps σ H _ _ hc r q fun ds p vs H1 q1 e1 hn hp dn => ?_
  refine ⟨by show 3 ≤ sizeLine; decide, fun T hT => ⟨T, _, rfl, SqT.of upd_same, rfl, _, _, rfl, _, _, rfl, _, _, rfl, rfl, ?_⟩⟩
  have eT : Stp c H1 (upd H1 T (.tup [V.ref p, V.int x, V.int y])) := Stp.tup r.ok hT (by show 3 ≤ sizeLine; decide)
  obtain ⟨ps', r'⟩ := r.putOwn (e1.trans eT) hi hn (upd_keep hT _ _ hp) (dn.mono (fun a o z _ => upd_keep hT a o z) fun _ _ _ u => u)
  exact k.nx _ ps' _ _ q1 ((r'.setFro (.int x) hj).setFro (.int y) hl)
end
end Py
end
section
set_option maxHeartbeats 1000000
/-! PyDe: dicts of one's own with tuple keys: written displays, update, returned, walked. -/
namespace L2
open PySem PySem.Spec PyProof.Rows
variable {X : Cx}
/-! ### d.update(d2) -/
def rUpdT : V → List V → Hp → VK → Prop := fun x vs H Q => ∃ (d o : Addr) (kvs more : List (List Key × V)), x = .ref d ∧ vs = [.ref o] ∧ d ≠ o ∧ H d = some (.dT kvs) ∧ H o = some (.dT more) ∧ kvs ≠ [] ∧ kvs.length + more.length ≤ sizeLine ∧ Q .non (upd H d (.dT (mergeT kvs more)))
theorem mt_updT (hu : X.A.units + 1 < cLine) : MtM X "dict.update" rUpdT := by
  intro pins s σ H x vs v us Q I rx rv h
  obtain ⟨d, o, kvs, more, rfl, rfl, hne, hd, ho, ne, hz, q⟩ := h
  cases rx
  obtain ⟨u, rfl, ru⟩ := rv.one
  cases ru
  obtain ⟨z1, hdS, xs, rel, dd⟩ := dt_of I.hok hd
  obtain ⟨z2, hoS, ys, rel2, dd2⟩ := dt_of I.hok ho
  have l1 : kvs.length = xs.length := Paired.length rel
  have l2 : more.length = ys.length := Paired.length rel2
  refine call_update_dictH (knd := tupleKind (mixKind X.prog X.w)) (tupleKind_room_in1 hu) hne hoS dd dd2 (.inl fun e => ne ?_) (by omega) fun h' hd' ho' hs => ?_
  · rw [e] at l1
    exact List.length_eq_zero_iff.mp l1
  · obtain ⟨q', es, ep, hq', h2, h3, h4, _, h5⟩ := hd'
    have hl : (mergeT kvs more).length ≤ sizeLine := Nat.le_trans (length_mergeT more kvs) hz
    refine ⟨.non, upd H d (.dT (mergeT kvs more)), d_write (t' := s.toks) I (by rw [hd]; exact True.intro) hs ⟨q', hq'⟩ ⟨hl, hdS, _, (KT.merge rel2 rel).keeps fun c ys' ec => ?_, q', es, ep, hq', h2, h3, h4, h5⟩, rfl, q⟩
    rw [upd_ne (ne_of ec hd (fun z => nomatch z))]
    exact ec
/-! ### {(0, 1): a, ..} -/
def tDispT (trs : List (TE × TE)) : TE := fun σ H Q => ∀ p, H p = none → tPairs trs σ (upd H p (.dT [])) fun ps H2 => H2 p = some (.dT []) ∧
  ∃ kvs : List (List Key × V), Paired (fun (pv : V × V) (kv : List Key × V) => ∃ b, pv.1 = .ref b ∧ H2 b = some (.tup (kv.1.map kV)) ∧ pv.2 = kv.2) ps kvs ∧ kvs.length ≤ 15 ∧ Q (.ref p) (upd H2 p (.dT (mergeT [] kvs)))
theorem carriesH_of {P : Program} {w : World} {H : Hp} {h : Heap} (ok : HOk P w H h) : ∀ {ps : List (V × V)} {kvs : List (List Key × V)} {ws : List (Value × Value)}, Paired (fun (pv : V × V) (kv : List Key × V) => ∃ b, pv.1 = .ref b ∧ H b = some (.tup (kv.1.map kV)) ∧ pv.2 = kv.2) ps kvs → VV ps ws →
    ∃ rs : List (List Key × Addr × Value), CarriesH (tupleKind (mixKind P w)) h ws rs ∧ KT H kvs rs
  | _, _, _, .nil, r => by cases r; exact ⟨[], True.intro, .nil⟩
  | _, _, _, .cons (a := pv) (b := kv) hp t, r => by
    cases r with
    | @cons _ w' _ ws h2 t2 =>
      obtain ⟨rs, c, q⟩ := carriesH_of ok t t2
      obtain ⟨b, e1, e2, e3⟩ := hp
      obtain ⟨r1, r2⟩ := h2
      rw [e1] at r1
      have e4 : w'.1 = .ref b := r1
      obtain ⟨wk, wv⟩ := w'
      dsimp only at e4 r2
      subst e4
      rw [e3] at r2
      exact ⟨(kv.1, b, wv) :: rs, ⟨rfl, rfl, key_of ok e2, c⟩, .cons ⟨rfl, e2, r2⟩ q⟩
theorem pe_dispT {pos : Pos} {keys : List (Option Expr)} {values : List Expr} {trs : List (TE × TE)} (hu : X.A.units < cLine) (h : PPs X pos keys values trs) (hall : keys.all (·.isSome) = true) (hl : keys.length = values.length) (h0 : keys ≠ [])
    (h15 : keys.length ≤ 15) : PE X (.Dict keys values pos) (tDispT trs) := by
  refine ⟨fun pins s σ H Q I q => ?_⟩
  have hn := I.hok.fresh (Nat.le_refl s.heap.objs.size)
  have I1 := I.laid (a := s.heap.objs.size) (o := .dT []) (h' := s.heap.push { cls := .type "dict", data := .dict #[] }) (t' := s.toks) (fun _ _ q => Heap.get?_push_of_some _ q) (Nat.le_refl _) (dt_empty s.heap I.big)
  have hnl := pairTrees_length keys values X.env pos hall hl
  have hp0 : pairTrees keys values X.env pos ≠ [] := by
    intro he
    rw [he] at hnl
    exact h0 (List.length_eq_zero_iff.mp hnl.symm)
  rw [arm_eval_Dict, zip_pairTrees keys values X.env pos hall hl, dictDisplay_pairs _ hp0 (by rw [hnl]; omega)]
  refine wpAny_bind (wpAny_standAt (wpAny_bind (wpAny_subDictH (knd := tupleKind (mixKind X.prog X.w)) (Q := fun d s' => wpAny (model X.prog X.w) X.A (pure (Value.ref d)) (EP X pins σ Q) X.xe s') hu (by rw [hnl]; exact h15) ?_)))
  refine thn (h.run pins _ σ _ _ I1 (q _ hn)) fun ws s2 ⟨ps, H2, I2, rel, e, kvs, pr, lk, q2⟩ => ?_
  obtain ⟨rs, c, rk⟩ := carriesH_of (P := X.prog) (w := X.w) I2.hok pr rel
  obtain ⟨z, hd, vs0, r0, dd⟩ := dt_of I2.hok e
  cases r0
  refine ⟨rs, c, dd, fun h' tk dd' hs => wpAny_pure ⟨.ref s.heap.objs.size, _, ?_, rfl, q2⟩⟩
  have hz : (mergeT [] kvs).length ≤ sizeLine := by
    have h1 := length_mergeT kvs []
    rw [List.length_nil] at h1
    rw [sizeLine_eq]; omega
  obtain ⟨q', es, ep, hq', h2, h3, h4, _, h5⟩ := dd'
  refine d_write I2 (by rw [e]; exact True.intro) hs ⟨q', hq'⟩ ⟨hz, hd, _, (KT.merge rk .nil).keeps fun c ys ec => ?_, q', es, ep, hq', h2, h3, h4, h5⟩
  rw [upd_ne (ne_of ec e (fun z => nomatch z))]
  exact ec
end L2
namespace Py
open PySem L2 StX
section
variable {s : Sx} {Γ Γ' Γl : List Md} {K : PySem.W.Frag}
/-- a dict of one's own as a datum -/
def dicD (ds : List D) : D := .dict ((.none, .none) :: ds.map fun k => (k, .none))
theorem Den.dcK {H : Hp} {U : AS} {a : Addr} {kvs : List (Key2 × V)} {ks : List (List Int)} (h : H a = some (.dT kvs)) (n : ¬ U a) (e : kvs.map (·.1) = ks.map (fun k => k.map Sum.inl)) : Den H U (.ref a) (dicD (keyT ks)) := by
  have := Den.dcT h n e
  unfold dicD keyT
  rw [List.map_map]
  exact this
/-- return of a dict of one's own -/
def sRetDic (i : Nat) : Env → M Out := fun ρ => bnd (eVar i ρ) fun d => match d with
  | .list ds => ret (.rt (dicD ds))
  | _ => stuck
theorem sem_retDic {i : Nat} (hm : Γ[i]? = some .dic) : SemS s Γl Γ Γ' (tRet (tVar i)) (sRetDic i) := by
  intro c ρ ps σ H E P hc r q k
  obtain ⟨l, hl, q⟩ := eVar_get q
  obtain ⟨p, kvs, ks, ho, rfl, hp, h1, hk1⟩ := r.dicAt hm hl
  exact ⟨_, ho, k.rt _ _ H q r.fin (Den.dcK h1 (r.own p hp).2 hk1)⟩
/-- d.update(e) -/
def putTD (ds : List D) (d : D) : List D := if (ds.any fun x => PyData.eqv x d) = true then ds else ds ++ [d]
theorem putTD_keyT (ks : List (List Int)) (is : List Int) : putTD (keyT ks) (.tuple (is.map .int)) = keyT (putI ks is) := putT_keyT ks is
theorem putTDs_keyT : ∀ (ms ks : List (List Int)), (keyT ms).foldl putTD (keyT ks) = keyT (ms.foldl putI ks)
  | [], _ => rfl
  | m :: ms, ks => by
    show (keyT ms).foldl putTD (putTD (keyT ks) (.tuple (m.map .int))) = _
    rw [putTD_keyT, putTDs_keyT ms]
    rfl
def sUpd (i : Nat) (e : Env → M D) : Env → M Out := fun ρ => bnd (eVar i ρ) fun l => bnd (e ρ) fun d => match l, d with
  | .list ds, .dict (_ :: r) => if (!ds.isEmpty && lenOk (ds.length + r.length)) = true then ret (.nx (ρ.set i (some (.list ((r.map (·.1)).foldl putTD ds))))) else stuck
  | _, _ => stuck
theorem sem_upd {i : Nat} {t : TE} {e : Env → M D} (hm : Γ[i]? = some .dic) (h : SemE s Γ t e) : SemS s Γl Γ Γ (tDrop (tBM K "dict" rUpdT (tVar i) (tCons t tNil))) (sUpd i e) := by
  intro c ρ ps σ H E P hc r q k
  obtain ⟨l, hl, q⟩ := eVar_get q
  obtain ⟨p, kvs, ks, ho, rfl, hp, h1, hk1⟩ := r.dicAt hm hl
  refine ⟨_, ho, .inr (.inr (.inl ⟨rfl, .inr ⟨_, h1⟩⟩)), ?_⟩
  refine h c ρ ps σ H _ _ hc r q fun d v H1 q1 e1 d1 => ?_
  have r1 := r.stp e1
  cases d1 with
  | @dcT b kvs2 ks2 hb hu hk2 =>
    have q1 : (if (!(keyT ks).isEmpty && lenOk ((keyT ks).length + (ks2.map fun k => (PyData.tuple (k.map PyData.int), PyData.none)).length)) = true then ret (Out.nx (ρ.set i (some (.list (((ks2.map fun k => (PyData.tuple (k.map PyData.int), PyData.none)).map (·.1)).foldl putTD (keyT ks)))))) else (stuck : M Out)) P := q1
    split at q1
    · rename_i ok
      rw [Bool.and_eq_true] at ok
      have ok1 : ks ≠ [] := fun z => by
        rw [z] at ok
        simp [keyT] at ok
      have h1' : H1 p = some (.dT kvs) := e1.keep _ _ h1 (r.ownA hp)
      have l1 : kvs.length = ks.length := by simpa using congrArg List.length hk1
      have l2 : kvs2.length = ks2.length := by simpa using congrArg List.length hk2
      have hz := lenOk_sz ok.2
      simp only [keyT, List.length_map] at hz
      refine ⟨p, b, kvs, kvs2, rfl, rfl, fun z => hu (.inr (z ▸ hp)), h1', hb, fun z => ok1 (List.length_eq_zero_iff.mp (by rw [← l1, z]; rfl)), by omega, ?_⟩
      have hks : (mergeT kvs kvs2).map (·.1) = (ks2.foldl putI ks).map (fun k => k.map Sum.inl) := mergeT_keys kvs2 ks2 kvs ks hk2 hk1
      have eq1 : ((ks2.map fun k => (PyData.tuple (k.map PyData.int), PyData.none)).map (·.1)).foldl putTD (keyT ks) = keyT (ks2.foldl putI ks) := by
        rw [List.map_map]
        exact putTDs_keyT ks2 ks
      rw [eq1] at q1
      have same : ∀ a o, a ≠ p → H1 a = some o → upd H1 p (.dT (mergeT kvs kvs2)) a = some o := fun a o n e => by rw [upd_ne n]; exact e
      obtain ⟨ps', sl, pm⟩ := r1.sl.updP (q := p) (H' := upd H1 p (.dT (mergeT kvs kvs2))) (.inr hp) same (qs0 := [p]) (qs' := [p]) (by simp) (SlotR.dic (c := c) (U := c.U ps) (ks := ks2.foldl putI ks) upd_same hks) (List.Perm.refl _) r1.nd dic_uniq hm hl ho
      refine k.nx _ ps' σ _ q1 (r1.perm (fun a o n e => same a o (fun z => n (by rw [z]; exact hp)) e) (fun a ha => ?_) (r1.sz.upd fun zs q => by rcases q with q | q <;> cases q) sl pm)
      by_cases e : a = p
      · subst e; exact ⟨_, upd_same⟩
      · obtain ⟨o, hx, _⟩ := r1.sl.loose a ha
        exact ⟨o, same a _ e hx⟩
    · exact False.elim q1
  | _ => exact False.elim q1
/-! ### written displays -/
def kTE (k : List Int) : TE := tTup (k.foldr (fun i t => tCons (tC (.int i)) t) tNil)
def dispTrs : List (List Int × V) → List (TE × TE) := List.map fun kv => (kTE kv.1, tC kv.2)
theorem ints_run : ∀ (k : List Int) (σ : L2.St) (H : Hp) (Q : List V → Hp → Prop), Q (k.map V.int) H → (k.foldr (fun i t => tCons (tC (.int i)) t) tNil : TA) σ H Q
  | [], σ, H, Q, q => q
  | i :: k, σ, H, Q, q => ints_run k σ H _ q
theorem disp_run : ∀ (kvs : List (List Int × V)) (σ : L2.St) (H : Hp) (Q : List (V × V) → Hp → Prop), (∀ kv ∈ kvs, kv.1.length ≤ sizeLine) →
    (∀ ps H', (∀ a o, H a = some o → H' a = some o) → (Sz H → Sz H') → Paired (fun (pv : V × V) (kv : List L2.Key × V) => ∃ b, pv.1 = .ref b ∧ H' b = some (.tup (kv.1.map kV)) ∧ pv.2 = kv.2) ps (kvs.map fun kv => (kv.1.map Sum.inl, kv.2)) → Q ps H') → tPairs (dispTrs kvs) σ H Q
  | [], σ, H, Q, hz, k => k [] H (fun _ _ q => q) id .nil
  | kv :: kvs, σ, H, Q, hz, k => by
    show kTE kv.1 σ H fun x H1 => tC kv.2 σ H1 fun y H2 => tPairs (dispTrs kvs) σ H2 fun ps H3 => Q ((x, y) :: ps) H3
    refine ints_run kv.1 σ H _ ⟨by rw [List.length_map]; exact hz kv (List.mem_cons_self ..), fun p hp => ?_⟩
    refine disp_run kvs σ _ _ (fun kv' h => hz kv' (List.mem_cons_of_mem _ h)) fun ps H' ext sz pr => ?_
    refine k _ H' (fun a o q => ext a o (upd_keep hp a o q)) (fun z => sz (z.upd fun xs q => ?_)) (.cons ⟨p, rfl, ?_, rfl⟩ pr)
    · rcases q with q | q <;> cases q
      rw [List.length_map]; exact hz kv (List.mem_cons_self ..)
    · refine ext p _ ?_
      rw [upd_same, List.map_map]
      rfl
theorem R.putDicG {c : Fx} {ρ : Env} {ps : List Addr} {σ : L2.St} {H H' : Hp} (r : R c Γ ρ ps σ H) {i : Nat} {p : Addr} {kvs : List (Key2 × V)} {ks : List (List Int)} (hi : i < Γ.length) (hn : H p = none) (e : Stp c H H') (hp : H' p = some (.dT kvs)) (hk : kvs.map (·.1) = ks.map (fun k => k.map Sum.inl)) :
    ∃ ps', R c (Γ.set i .dic) (ρ.set i (some (.list (keyT ks)))) ps' (σ.set i (some (.ref p))) H' := by
  have r' := r.stp e
  have nU := r.new hn
  have sl' : Slots c H' (fun a => c.U ps a ∨ a ∈ [p]) Γ ρ σ ps := r.sl.mono (fun a ha o q => e.keep a o q (r.ownA ha)) (fun a o q n => e.keep a o q (r.nA n)) fun a o q u => u.elim id fun z => by
    rw [List.mem_singleton.mp z, hn] at q; cases q
  obtain ⟨ps', h1, h2, h3⟩ := sl'.put (SlotR.dic (c := c) (ks := ks) hp hk) r.nd (by simp) (fun a ha z => nU (.inr (by rw [List.mem_singleton.mp ha] at z; exact z))) hi
  exact ⟨ps', r'.ofSlots (qs := [p]) h1 h2 h3 fun a ha => by
    rw [List.mem_singleton.mp ha]
    exact ⟨r.fresh0 hn, r.nU0 hn⟩⟩
/-- d = {(0, 1): x, ..}, keys and values written -/
def sDispC (i : Nat) (ks : List (List Int)) : Env → M Out := fun ρ => ret (.nx (ρ.set i (some (.list (keyT (dedup ks))))))
theorem sem_dispC {i : Nat} (kvs : List (List Int × V)) (hi : i < Γ.length) (hz : kvs.all (fun kv => lenOk kv.1.length) = true) (h15 : kvs.length ≤ 15) : SemS s Γl Γ (Γ.set i .dic) (tAsg (tDispT (dispTrs kvs)) (gName i)) (sDispC i (kvs.map (·.1))) := by
  intro c ρ ps σ H E P hc r q k
  intro p hn
  refine disp_run kvs σ _ _ (fun kv h => lenOk_sz (List.all_eq_true.mp hz kv h)) fun pvs H' ext sz pr => ⟨ext p _ upd_same, _, pr, by rw [List.length_map]; exact h15, ?_⟩
  have hk : (mergeT [] (kvs.map fun kv => (kv.1.map Sum.inl, kv.2))).map (·.1) = (dedup (kvs.map (·.1))).map (fun k => k.map Sum.inl) := mergeT_keys _ (kvs.map (·.1)) [] [] (by rw [List.map_map, List.map_map]; rfl) rfl
  have e : Stp c H (upd H' p (.dT (mergeT [] (kvs.map fun kv => (kv.1.map Sum.inl, kv.2))))) := Stp.same r.ok (fun a o q => by
    rw [upd_ne (ne_of_none q hn)]
    exact ext a o (upd_keep hn a o q)) fun z => (sz (z.upd fun xs q => by rcases q with q | q <;> cases q)).upd fun xs q => by rcases q with q | q <;> cases q
  obtain ⟨ps', r'⟩ := r.putDicG hi hn e upd_same hk
  exact k.nx _ ps' _ _ q r'
/-- d = {} -/
theorem sem_newD {i : Nat} (hi : i < Γ.length) : SemS s Γl Γ (Γ.set i .dic) (tAsg tDNewT (gName i)) (sDispC i []) := by
  intro c ρ ps σ H E P hc r q k
  intro p hn
  obtain ⟨ps', r'⟩ := r.putDic (i := i) hi hn
  exact k.nx _ ps' _ _ q r'
/-! ### for k in d -/
theorem Slots.recast {c : Fx} {H H' : Hp} {U : AS} {Γ : List Md} {ρ : Env} {σ : L2.St} {ps : List Addr} (h : Slots c H U Γ ρ σ ps) {q : Addr} (hU : U q) (same : ∀ a o, a ≠ q → H a = some o → H' a = some o) {m m' : Md} {d : Option D} {o : Option V} (new : SlotR c H' U m' d o [q]) :
    ∀ {i : Nat}, ps.Nodup → (∀ qs, SlotR c H U m d o qs → qs = [q]) → Γ[i]? = some m → ρ[i]? = some d → σ[i]? = some o → Slots c H' U (Γ.set i m') ρ σ ps := by
  have e : ∀ a u, H a = some u → ¬ U a → H' a = some u := fun a u q1 n => same a u (fun z => n (by rw [z]; exact hU)) q1
  induction h with
  | nil => intro i _ _ hm; simp at hm
  | @cons m1 d1 o1 p1 q1 Γ1 ρ1 σ1 h1 h2 ih =>
    intro i nd un hm hd ho
    have nd' := List.nodup_append.mp nd
    cases i with
    | zero =>
      simp at hm hd ho
      subst hm hd ho
      have ep := un _ h1
      subst ep
      refine .cons new (h2.mono (fun a ha u w => same a u (fun z => ?_) w) e fun _ _ _ w => w)
      rw [z] at ha
      exact nd'.2.2 q (by simp) q ha rfl
    | succ i =>
      have hm' : Γ1[i]? = some m := by simpa using hm
      have hd' : ρ1[i]? = some d := by simpa using hd
      have ho' : σ1[i]? = some o := by simpa using ho
      obtain ⟨o2, qs2, e1, e2, e3⟩ := h2.get hm' hd'
      rw [ho'] at e1; cases e1
      have eq2 := un _ e2
      subst eq2
      refine .cons (h1.mono (fun a ha u w => same a u (fun z => ?_) w) e fun _ _ _ w => w) (ih nd'.2.1 un hm' hd' ho')
      rw [z] at ha
      exact nd'.2.2 q ha q (e3 q (by simp)) rfl
theorem R.recast {c : Fx} {ρ : Env} {ps : List Addr} {σ : L2.St} {H H' : Hp} (r : R c Γ ρ ps σ H) {q : Addr} (hq : q ∈ ps) (same : ∀ a o, a ≠ q → H a = some o → H' a = some o) (there : ∃ o, H' q = some o) (sz : Sz H') (sl : Slots c H' (c.U ps) Γ' ρ σ ps) : R c Γ' ρ ps σ H' where
  ok := r.ok
  keep := fun a o q1 n => same a o (fun z => by rw [z, (r.own q hq).1] at q1; cases q1) (r.keep a o q1 n)
  there := fun a o q1 => let ⟨o', q'⟩ := r.there a o q1; ⟨o', same a o' (fun z => by rw [z, (r.own q hq).1] at q1; cases q1) q'⟩
  inv := r.ok.st H _ r.inv fun a o u q1 => same a o (fun z => r.ownA hq (z ▸ u)) q1
  al := fun a u => let ⟨o, h1, h2⟩ := r.al a u; ⟨o, same a o (fun z => (r.own q hq).2 (z ▸ u)) h1, h2⟩
  sz := sz
  sl := sl
  nd := r.nd
  own := r.own
theorem lk_uniq {c : Fx} {H : Hp} {U : AS} {p : Addr} {d : D} {o : Option V} {od : Obj} {kvs : List (Key2 × V)} : ∀ qs', SlotR c H U (.lk p od kvs) (some d) o qs' → qs' = [p] := by
  intro qs' h
  cases h with
  | lk _ _ => rfl
def forWD (i : Nat) (tg : D → Env → M Env) (body : Env → M Out) : List D → Env → M Out
  | [], ρ => bnd (eVar i ρ) fun _ => ret (.nx ρ)
  | d :: ds, ρ => bnd (eVar i ρ) fun _ => bnd (tg d ρ) fun ρ' => bnd (body ρ') fun o => match o with
    | .nx ρ'' => forWD i tg body ds ρ''
    | _ => stuck
def sForD (i : Nat) (tg : D → Env → M Env) (body : Env → M Out) : Env → M Out := fun ρ => bnd (eVar i ρ) fun d => match d with
  | .list ds => forWD i tg body ds ρ
  | _ => stuck
theorem sem_forD {i : Nat} {g : TG} {tb : TS} {ts : List Nat} {tg : D → Env → M Env} {body : Env → M Out} (hm : Γ[i]? = some .dic) (hg : ∀ p od kvs, SemG s (Γ.set i (.lk p od kvs)) g ts tg)
    (hb : ∀ p od kvs, SemS s (Γ.set i (.lk p od kvs)) (Γ.set i (.lk p od kvs)) (Γ.set i (.lk p od kvs)) tb body) : SemS s Γl Γ Γ (tLock (tFor (iKeys (tVar i)) g tb)) (sForD i tg body) := by
  intro c ρ ps σ H E P hc r q k
  obtain ⟨l, hl, q⟩ := eVar_get q
  obtain ⟨p, kvs, ks, ho, rfl, hp, h1, hk1⟩ := r.dicAt hm hl
  have hi : i < Γ.length := (List.getElem?_eq_some_iff.mp hm).1
  have q : forWD i tg body (keyT ks) ρ P := q
  refine ⟨p, .dT kvs, h1, True.intro, fun od => ?_⟩
  have hH1 : upd H p (.frz od (.dT kvs)) p = some (.frz od (.dT kvs)) := upd_same
  have same1 : ∀ a o, a ≠ p → H a = some o → upd H p (.frz od (.dT kvs)) a = some o := fun a o n e => by rw [upd_ne n]; exact e
  have r1 : R c (Γ.set i (.lk p od kvs)) ρ ps σ (upd H p (.frz od (.dT kvs))) :=
    r.recast hp same1 ⟨_, hH1⟩ (r.sz.upd fun zs z => by rcases z with z | z <;> cases z) (r.sl.recast (.inr hp) same1 (SlotR.lk (c := c) hH1 hk1) r.nd dic_uniq hm hl ho)
  generalize upd H p (.frz od (.dT kvs)) = H1 at hH1 same1 r1
  have lz : kvs.length = (keyT ks).length := by simpa [keyT] using congrArg List.length hk1
  refine ⟨_, ho, p, od, rfl, .inr ⟨kvs, hH1, ?_⟩⟩
  refine ⟨fun j m σ' H' => m = (keyT ks).length - j ∧ j ≤ (keyT ks).length ∧ ∃ ρ' ps', R (c.at ps H1) (Γ.set i (.lk p od kvs)) ρ' ps' σ' H' ∧ forWD i tg body ((keyT ks).drop j) ρ' P, ⟨(keyT ks).length, by simp, Nat.zero_le _, ρ, ps, r1.enter, q⟩, ?_⟩
  rintro j m σ' H' ⟨rfl, hle, ρ', ps', r', w⟩
  have lkAt : ∀ {d : D}, ρ'[i]? = some (some d) → σ'[i]? = some (some (.ref p)) ∧ p ∈ ps' ∧ H' p = some (.frz od (.dT kvs)) ∧ ∃ ks' : List (List Int), d = .list (keyT ks') ∧ kvs.map (·.1) = ks'.map (fun k => k.map Sum.inl) := fun hd => by
    obtain ⟨o, qs, e1, e2, e3⟩ := r'.sl.get (List.getElem?_set_self hi) hd
    cases e2 with
    | lk a1 a2 => exact ⟨e1, e3 _ (by simp), a1, _, rfl, a2⟩
  by_cases hlt : j < (keyT ks).length
  · rw [List.drop_eq_getElem_cons hlt] at w
    obtain ⟨l', hl', w⟩ := eVar_get (show (bnd (eVar i ρ') fun _ => bnd (tg (keyT ks)[j] ρ') fun ρ' => bnd (body ρ') fun o => match o with | .nx ρ'' => forWD i tg body ((keyT ks).drop (j + 1)) ρ'' | _ => stuck) P from w)
    obtain ⟨hs', hp', hf, _⟩ := lkAt hl'
    refine .inr ⟨⟨hf, by rw [lz]; exact hlt⟩, fun σ2 H2 => (keyT ks).length - (j + 1) = (keyT ks).length - (j + 1) ∧ j + 1 ≤ (keyT ks).length ∧ ∃ ρ2 ps2, R (c.at ps H1) (Γ.set i (.lk p od kvs)) ρ2 ps2 σ2 H2 ∧ forWD i tg body ((keyT ks).drop (j + 1)) ρ2 P, fun σ2 H2 h => ⟨(keyT ks).length - (j + 1), by omega, h⟩, fun x H'' y => ?_⟩
    obtain ⟨rfl, k0, v0, b, e1, rfl, e3⟩ := y
    have hk0 : ∃ is : List Int, ks[j]? = some is ∧ k0 = is.map Sum.inl := by
      have e : (kvs.map (·.1))[j]? = some k0 := by rw [List.getElem?_map, e1]; rfl
      rw [hk1, List.getElem?_map, Option.map_eq_some_iff] at e
      obtain ⟨is, e4, e5⟩ := e
      exact ⟨is, e4, e5.symm⟩
    obtain ⟨is, e4, rfl⟩ := hk0
    have hdj : (keyT ks)[j] = .tuple (is.map .int) := by
      have : (keyT ks)[j]? = some (.tuple (is.map .int)) := by unfold keyT; rw [List.getElem?_map, e4]; rfl
      rw [List.getElem?_eq_getElem hlt] at this
      exact Option.some.inj this
    rw [hdj] at w
    have dx : Den H'' ((c.at ps H1).U ps') (.ref b) (.tuple (is.map .int)) := by
      refine .tup e3 (fun u => ?_) ?_
      · obtain ⟨o, ho', hn⟩ := r'.loose b u
        rw [e3] at ho'
        cases ho'
        exact hn _ rfl
      · clear e1 e3 e4 hdj w
        induction is with
        | nil => exact .nil
        | cons i is ih => exact .cons (.int i) ih
    have hc' : (c.at ps H1).s = s := hc
    refine hg p od kvs (c.at ps H1) ρ' ps' σ' H'' _ _ _ _ hc' r' dx w fun ρ2 σ2 w2 r3 _ _ => ?_
    refine hb p od kvs (c.at ps H1) ρ2 ps' σ2 H'' _ _ hc' r3 w2 ⟨fun ρ3 ps3 σ3 H3 p r4 => ⟨rfl, hlt, ρ3, ps3, r4, p⟩, fun d v H3 p fi dn => False.elim p, fun ρ3 ps3 σ3 H3 p r4 => False.elim p, fun ρ3 ps3 σ3 H3 p r4 => False.elim p⟩
  · have e : j = (keyT ks).length := by omega
    subst e
    rw [List.drop_length] at w
    obtain ⟨l', hl', w⟩ := eVar_get (show (bnd (eVar i ρ') fun _ => ret (Out.nx ρ')) P from w)
    obtain ⟨hs', hp', hf, ks', rfl, hk2⟩ := lkAt hl'
    refine .inl ⟨⟨hf, by rw [lz]; exact Nat.le_refl _⟩, hf, ?_⟩
    have r5 := r1.leave r'
    have same2 : ∀ a o, a ≠ p → H' a = some o → upd H' p (.dT kvs) a = some o := fun a o n e => by rw [upd_ne n]; exact e
    have hm' : (Γ.set i (.lk p od kvs))[i]? = some (.lk p od kvs) := List.getElem?_set_self hi
    have e5 : (Γ.set i (.lk p od kvs)).set i .dic = Γ := by
      rw [List.set_set]
      apply List.ext_getElem?
      intro j
      by_cases e : i = j
      · subst e; rw [List.getElem?_set_self hi, hm]
      · rw [List.getElem?_set_ne e]
    have sl := r5.sl.recast (.inr hp') same2 (SlotR.dic (c := c) upd_same hk2) r5.nd lk_uniq hm' hl' hs'
    rw [e5] at sl
    exact k.nx ρ' ps' σ' _ w (r5.recast hp' same2 ⟨_, upd_same⟩ (r5.sz.upd fun zs z => by rcases z with z | z <;> cases z) sl)
end
end Py
end
section
set_option maxHeartbeats 1000000
/-! PyDf: pairs of targets, one of them a list of one's own, some of the names cells. -/
namespace Py
open PySem L2 StX
section
variable {s : Sx} {Γ Γ' Γl : List Md} {K : PySem.W.Frag}
theorem sem_asgPO {i j : Nat} {t u : TE} {e : Env → M D} {f : Env → M (List D)} (h1 : SemE s Γ t e) (h2 : SemL s Γ u f) (hi : Γ[i]? = some .fro) (hj : j < Γ.length) :
    SemS s Γl Γ (Γ.set j .own) (tAsg (tTup (tCons t (tCons u tNil))) (gTup K 2 (gCons (gName i) (gCons (gName j) gNil)))) (sParO i j e f) := by
  intro c ρ ps σ H E P hc r q k
  refine h1 c ρ ps σ H _ _ hc r q fun d v H1 q1 e1 dn => ?_
  refine h2 c ρ ps σ H1 _ _ hc (r.stp e1) q1 fun ds p vs H2 q2 e2 hn hp dn2 => ?_
  refine ⟨by show 2 ≤ sizeLine; decide, fun T hT => ⟨T, _, rfl, SqT.of upd_same, rfl, _, _, rfl, _, _, rfl, rfl, ?_⟩⟩
  have eT : Stp c H2 (upd H2 T (.tup [v, V.ref p])) := Stp.tup r.ok hT (by show 2 ≤ sizeLine; decide)
  obtain ⟨ps', r'⟩ := ((r.stp e1).setFro dn hi).putOwn (e2.trans eT) (i := j) hj hn (upd_keep hT _ _ hp) (dn2.mono (fun a o z _ => upd_keep hT a o z) fun _ _ _ u => u)
  exact k.nx _ ps' _ _ q2 r'
/-- [..], a number -/
def sParO2 (i j : Nat) (f : Env → M (List D)) (e : Env → M D) : Env → M Out := fun ρ => bnd (f ρ) fun ds => bnd (e ρ) fun d => match d with
  | .int n => ret (.nx ((ρ.set i (some (.list ds))).set j (some (.int n))))
  | _ => stuck
theorem sem_asgOP {i j : Nat} {t u : TE} {e : Env → M D} {f : Env → M (List D)} (h1 : SemL s Γ t f) (h2 : SemE s Γ u e) (hi : i < Γ.length) (hj : (Γ.set i .own)[j]? = some .fro) :
    SemS s Γl Γ (Γ.set i .own) (tAsg (tTup (tCons t (tCons u tNil))) (gTup K 2 (gCons (gName i) (gCons (gName j) gNil)))) (sParO2 i j f e) := by
  intro c ρ ps σ H E P hc r q k
  refine h1 c ρ ps σ H _ _ hc r q fun ds p vs H1 q1 e1 hn hp dn => ?_
  refine h2 c ρ ps σ H1 _ _ hc (r.stp e1) q1 fun d v H2 q2 e2 dn2 => ?_
  cases dn2 with
  | int n =>
    have nU := r.new hn
    have nA : ¬ c.A p := fun z => nU (.inl (r.ok.sub p z))
    have hp2 := e2.keep _ _ hp nA
    refine ⟨by show 2 ≤ sizeLine; decide, fun T hT => ⟨T, _, rfl, SqT.of upd_same, rfl, _, _, rfl, _, _, rfl, rfl, ?_⟩⟩
    have eT : Stp c H2 (upd H2 T (.tup [V.ref p, V.int n])) := Stp.tup r.ok hT (by show 2 ≤ sizeLine; decide)
    obtain ⟨ps', r'⟩ := r.putOwn (e1.trans (e2.trans eT)) hi hn (upd_keep hT _ _ hp2) (dn.mono (fun a o z n => upd_keep hT a o (e2.keep a o z fun z2 => n (.inl (.inl (r.ok.sub a z2))))) fun _ _ _ u => u)
    exact k.nx _ ps' _ _ q2 (r'.setFro (.int n) hj)
  | non => exact q2.elim
  | bl _ => exact q2.elim
  | str _ => exact q2.elim
  | lst _ _ _ => exact q2.elim
  | tup _ _ _ => exact q2.elim
  | dct _ _ => exact q2.elim
  | dcT _ _ _ => exact q2.elim
/-- data that hold no list and no dict -/
def scal : D → Bool
  | .none => true | .bool _ => true | .int _ => true | .str _ => true
  | _ => false
def solid : D → Bool
  | .tuple ds => ds.all scal
  | d => scal d
theorem Den.scal {H : Hp} {U U' : AS} {v : V} {d : D} (h : Den H U v d) (e : Py.scal d = true) : Den H U' v d := by
  cases h with
  | non => exact .non
  | bl => exact .bl _
  | int => exact .int _
  | str => exact .str _
  | lst _ _ _ => cases e
  | tup _ _ _ => cases e
  | dct _ _ => cases e
  | dcT _ _ _ => cases e
theorem DenL.scal {H : Hp} {U U' : AS} : ∀ {vs : List V} {ds : List D}, DenL H U vs ds → ds.all Py.scal = true → DenL H U' vs ds
  | _, _, .nil, _ => .nil
  | _, _, .cons h t, e => by
    rw [List.all_cons, Bool.and_eq_true] at e
    exact .cons (h.scal e.1) (t.scal e.2)
theorem Den.solid {H : Hp} {U U' : AS} {v : V} {d : D} (h : Den H U v d) (e : Py.solid d = true) (l : ∀ a, U' a → ∃ o, H a = some o ∧ ∀ xs, o ≠ .tup xs) : Den H U' v d := by
  cases h with
  | non => exact .non
  | bl => exact .bl _
  | int => exact .int _
  | str => exact .str _
  | lst _ _ _ => cases e
  | tup h1 h2 h3 =>
    refine .tup h1 (fun u => ?_) (h3.scal e)
    obtain ⟨o, ho, hn⟩ := l _ u
    rw [h1] at ho
    exact hn _ (Option.some.inj ho).symm
  | dct _ _ => cases e
  | dcT _ _ _ => cases e
theorem Views.none {c : Fx} {ps : List Addr} {H : Hp} : ∀ {vs : List V} {ds : List D}, Views c ps H vs ds → DenL H (fun _ => False) vs ds
  | _, _, .nil => .nil
  | _, _, .cons h t => by
    refine .cons ?_ (Views.none t)
    cases h with
    | den h => exact h.mono (fun _ _ q _ => q) fun _ _ _ u => False.elim u
    | own h1 _ h3 => exact .lst h1 (fun u => u) (h3.mono (fun _ _ q _ => q) fun _ _ _ u => False.elim u)
theorem Views.length {c : Fx} {ps : List Addr} {H : Hp} {vs : List V} {ds : List D} (h : Views c ps H vs ds) : vs.length = ds.length := h.none.length
/-- a call that lists of one's own are lent to -/
def eCallV (n : Nat) (F : List D → M D) (f : Env → M (List D)) : Env → M D := fun ρ => bnd (f ρ) fun ds => if ds.length = n then bnd (F ds) fun d => if solid d = true then ret d else stuck else stuck
theorem sem_callV {n : Nat} {F : List D → M D} {t : TA} {f : Env → M (List D)} (h : SemAV s Γ t f) : SemE s Γ (tCallG (spP n F) t) (eCallV n F f) := by
  intro c ρ ps σ H Q P hc r q k
  refine h c ρ ps σ H _ _ hc r q fun ds vs H1 q1 e1 dn => ?_
  have r1 := r.stp e1
  dsimp only at q1
  split at q1
  · rename_i hl
    refine ⟨dn.length.trans hl, ds, fun _ => False, fun d => (if solid d = true then ret d else stuck) P, dn.none, fun a z => False.elim z, fun a u => False.elim u, r1.sz, trivial, q1, fun d v H2 p e2 d2 => ?_⟩
    have same : ∀ a o, H1 a = some o → H2 a = some o := fun a o q => e2.keep a o q fun z => False.elim z
    have st : Stp c H1 H2 := Stp.same r.ok same e2.sz
    split at p
    · rename_i hs
      exact k d v H2 p (e1.trans st) (d2.solid hs (r1.stp st).loose)
    · exact p.elim
  · exact False.elim q1
/-- a list [::-1] -/
def eRevL (e : Env → M D) : Env → M (List D) := fun ρ => bnd (e ρ) fun d => match d with
  | .list ds => ret ds.reverse
  | _ => stuck
theorem sem_revL {te : TE} {e : Env → M D} (he : SemE s Γ te e) : SemL s Γ (tRevL K te) (eRevL e) := by
  intro c ρ ps σ H Q P hc r0 q k
  refine he c ρ ps σ H _ _ hc r0 q fun x u H1 q1 e1 d1 => ?_
  have r1 := r0.stp e1
  cases d1 with
  | lst h1 hu dn =>
    rename_i a vs ds
    refine ⟨a, vs, rfl, SqL.of h1, fun p hp => ?_⟩
    exact k _ p _ _ q1 (e1.trans (Stp.lst r0.ok (xs := vs.reverse) hp (by rw [List.length_reverse]; exact r1.sz a vs (.inl h1)))) (e1.fresh hp) upd_same (dn.plus hp).reverse
  | non => exact q1.elim
  | bl _ => exact q1.elim
  | int _ => exact q1.elim
  | str _ => exact q1.elim
  | tup _ _ _ => exact q1.elim
  | dct _ _ => exact q1.elim
  | dcT _ _ _ => exact q1.elim
/-- a, b, .. = a list -/
def tgLst (n : Nat) (g : List D → Env → M Env) : D → Env → M Env := fun d ρ => match d with | .list ds => if ds.length = n then g ds ρ else stuck | _ => stuck
theorem x_tgLst (n : Nat) (g : List D → Env → M Env) (ds : List D) (ρ : Env) : tgLst n g (.list ds) ρ = if ds.length = n then g ds ρ else stuck := (rfl)
theorem sem_glst {K : PySem.W.Frag} {n : Nat} {t : TGs} {ts : List Nat} {g : List D → Env → M Env} (h : SemGs s Γ t ts g) : SemG s Γ (gLst K n t) ts (tgLst n g) := by
  intro c ρ ps σ H d v Q P hc r dn q k
  unfold tgLst at q
  split at q
  · split at q
    · rename_i e
      cases dn with
      | lst h1 h2 h3 =>
        refine ⟨_, _, rfl, SqL.of h1, h3.length.trans e, ?_⟩
        exact h c ρ ps σ H _ _ _ _ hc r h3 q k
    · cases q
  · cases q
theorem pgLst {X : Cx} {es : List Expr} {k : Nat} {t : TGs} {n : Nat} {pos : Pos} (hc : X.calm = true) (hp : PGs X es t) (h : X.K = K := by rfl) (hn : (assignEach es X.env).length = n := by rfl) (hst : (assignEach es X.env).findIdx? (·.1) = none := by rfl) :
    PG X (.Tuple es k pos) (gLst K n t) := by subst h; exact pg_lst hc hp hn hst
end
end Py
end
/-! PyAu: reckoning by simp: bounds of ints by instances, what the operators give, a tactic `py`. -/
namespace Py
open PySem hiding ret
open L2
/-- x is at most 2 ^ n, either way -/
class Bq (x : Int) (n : outParam Nat) : Prop where
  le : x.natAbs ≤ 2 ^ n
def B (n : Nat) (x : Int) : Prop := x.natAbs ≤ 2 ^ n
theorem B.q {n : Nat} {x : Int} (h : B n x) : Bq x n := ⟨h⟩
theorem Bq.b {n : Nat} {x : Int} (h : Bq x n) : B n x := h.le
theorem B.of {x : Int} {n : Nat} [h : Bq x n] {m : Nat} (hm : n ≤ m) : B m x := Nat.le_trans h.le (Nat.pow_le_pow_right (by decide) hm)
theorem B.mono {n m : Nat} {x : Int} (h : B n x) (hm : n ≤ m) : B m x := Nat.le_trans h (Nat.pow_le_pow_right (by decide) hm)
theorem pow_add_le (n m : Nat) : 2 ^ n + 2 ^ m ≤ 2 ^ (n + m + 1) := by
  have h1 : 2 ^ n ≤ 2 ^ (n + m) := Nat.pow_le_pow_right (by decide) (by omega)
  have h2 : 2 ^ m ≤ 2 ^ (n + m) := Nat.pow_le_pow_right (by decide) (by omega)
  rw [Nat.pow_succ]; omega
theorem B.mul {n m : Nat} {x y : Int} (hx : B n x) (hy : B m y) : B (n + m) (x * y) := by
  show (x * y).natAbs ≤ _
  rw [Int.natAbs_mul, Nat.pow_add]
  exact Nat.mul_le_mul hx hy
theorem B.add {n m : Nat} {x y : Int} (hx : B n x) (hy : B m y) : B (n + m + 1) (x + y) := by
  have := pow_add_le n m
  unfold B at *
  omega
theorem B.sub {n m : Nat} {x y : Int} (hx : B n x) (hy : B m y) : B (n + m + 1) (x - y) := by
  have := pow_add_le n m
  unfold B at *
  omega
theorem B.neg {n : Nat} {x : Int} (hx : B n x) : B n (-x) := by unfold B at *; omega
theorem B.fdiv {n : Nat} {x : Int} (y : Int) (hx : B n x) : B n (x.fdiv y) := by
  unfold B at *
  have key : (x.fdiv y).natAbs ≤ x.natAbs := by
    rcases Int.lt_trichotomy y 0 with h | h | h
    · have e : x.fdiv y = (-x).fdiv (-y) := by rw [Int.neg_fdiv_neg]
      rw [e, Int.fdiv_eq_ediv_of_nonneg _ (by omega)]
      have := Int.natAbs_ediv_le_natAbs (-x) (-y)
      omega
    · subst h; simp
    · rw [Int.fdiv_eq_ediv_of_nonneg _ (by omega)]
      exact Int.natAbs_ediv_le_natAbs x y
  omega
theorem B.fmod {n m : Nat} {x y : Int} (hx : B n x) (hy : B m y) : B (n + m) (x.fmod y) := by
  unfold B at *
  have p1 : 2 ^ n ≤ 2 ^ (n + m) := Nat.pow_le_pow_right (by decide) (by omega)
  have p2 : 2 ^ m ≤ 2 ^ (n + m) := Nat.pow_le_pow_right (by decide) (by omega)
  rcases Int.lt_trichotomy y 0 with h | h | h
  · have e : x.fmod y = -((-x).fmod (-y)) := by rw [Int.neg_fmod_neg]; omega
    have a := Int.fmod_nonneg_of_pos (-x) (b := -y) (by omega)
    have b := Int.fmod_lt_of_pos (-x) (b := -y) (by omega)
    omega
  · subst h; rw [Int.fmod_zero]; omega
  · have a := Int.fmod_nonneg_of_pos x h
    have b := Int.fmod_lt_of_pos x h
    omega
theorem B.gcd {n m : Nat} {x y : Int} (hx : B n x) (hy : B m y) : B (n + m + 1) ((Nat.gcd x.natAbs y.natAbs : Nat) : Int) := by
  have := pow_add_le n m
  unfold B at *
  rw [Int.natAbs_natCast]
  by_cases z : x.natAbs = 0
  · rw [z, Nat.gcd_zero_left]; omega
  · have := Nat.gcd_le_left (m := x.natAbs) y.natAbs (by omega)
    omega
instance (priority := low) bqLit (k : Nat) : Bq (no_index (OfNat.ofNat k : Int)) k := ⟨by
  show (OfNat.ofNat k : Int).natAbs ≤ _
  have : (OfNat.ofNat k : Int).natAbs = k := rfl
  rw [this]
  exact Nat.le_of_lt Nat.lt_two_pow_self⟩
instance bqAdd {x y : Int} {n m : Nat} [hx : Bq x n] [hy : Bq y m] : Bq (x + y) (n + m + 1) := (hx.b.add hy.b).q
instance bqSub {x y : Int} {n m : Nat} [hx : Bq x n] [hy : Bq y m] : Bq (x - y) (n + m + 1) := (hx.b.sub hy.b).q
instance bqMul {x y : Int} {n m : Nat} [hx : Bq x n] [hy : Bq y m] : Bq (x * y) (n + m) := (hx.b.mul hy.b).q
instance bqNeg {x : Int} {n : Nat} [hx : Bq x n] : Bq (-x) n := hx.b.neg.q
instance bqFdiv {x y : Int} {n : Nat} [hx : Bq x n] : Bq (x.fdiv y) n := (hx.b.fdiv y).q
instance bqFmod {x y : Int} {n m : Nat} [hx : Bq x n] [hy : Bq y m] : Bq (x.fmod y) (n + m) := (hx.b.fmod hy.b).q
instance bqGcd {x y : Int} {n m : Nat} [hx : Bq x n] [hy : Bq y m] : Bq ((Nat.gcd x.natAbs y.natAbs : Nat) : Int) (n + m + 1) := (hx.b.gcd hy.b).q
instance bqIte {c : Prop} [Decidable c] {x y : Int} {n m : Nat} [hx : Bq x n] [hy : Bq y m] : Bq (if c then x else y) (n + m) := by
  split
  · exact (hx.b.mono (by omega)).q
  · exact (hy.b.mono (by omega)).q
theorem log2_le {n : Nat} {x : Nat} (h : x ≤ 2 ^ n) : x.log2 ≤ n := by
  by_cases z : x = 0
  · rw [z, show Nat.log2 0 = 0 from by decide]; omega
  · have := (Nat.log2_lt (n := x) (k := n + 1) z).mpr (by rw [Nat.pow_succ]; have := Nat.two_pow_pos n; omega)
    omega
theorem mul_ok {x y : Int} {n m : Nat} [hx : Bq x n] [hy : Bq y m] (h : n + m < 900000) : mulOk x y = true := by
  have h1 := log2_le hx.le
  have h2 := log2_le hy.le
  unfold mulOk
  exact decide_eq_true (by omega)
theorem div_ok {x y : Int} {m : Nat} [hy : Bq y m] (h : m < 9000) (h0 : y ≠ 0) : divOk x y = true := by
  have h2 := log2_le hy.le
  unfold divOk
  exact decide_eq_true ⟨h0, by omega⟩
theorem mod_ok {x y : Int} (h0 : y ≠ 0) : modOk x y = true := by
  unfold modOk
  exact decide_eq_true h0
theorem a_mul {x y : Int} {n m : Nat} [Bq x n] [Bq y m] (h : n + m < 900000) : gMulX (.int x) (.int y) = ret (.int (x * y)) := by rw [x_gMulX_i, if_pos (mul_ok h)]
theorem a_fdiv {x y : Int} {m : Nat} [Bq y m] (h0 : y ≠ 0) (h : m < 9000) : gFdiv (.int x) (.int y) = ret (.int (x.fdiv y)) := if_pos (div_ok h h0)
theorem a_mod {x y : Int} (h0 : y ≠ 0) : gMod (.int x) (.int y) = ret (.int (x.fmod y)) := if_pos (mod_ok h0)
theorem a_sub (x y : Int) : gSub (.int x) (.int y) = ret (.int (x - y)) := (rfl)
theorem a_lt (x y : Int) : gLt (.int x) (.int y) = ret (.bool (decide (x < y))) := (rfl)
theorem a_le (x y : Int) : gLe (.int x) (.int y) = ret (.bool (decide (x ≤ y))) := (rfl)
theorem a_gt (x y : Int) : gGt (.int x) (.int y) = ret (.bool (decide (y < x))) := (rfl)
theorem a_ge (x y : Int) : gGe (.int x) (.int y) = ret (.bool (decide (y ≤ x))) := (rfl)
theorem a_shp (x : Int) : shp (.int x) = true := (rfl)
theorem a_eqv (a b : Int) : PyData.eqv (.int a) (.int b) = decide (a = b) := by
  by_cases h : a = b <;> simp [PyData.eqv, h]
theorem a_eq (a b : Int) : gEq (.int a) (.int b) = ret (.bool (decide (a = b))) := by
  simp only [gEq, a_shp, Bool.and_self, if_true, a_eqv]
theorem a_ne (a b : Int) : gNe (.int a) (.int b) = ret (.bool (!decide (a = b))) := by
  simp only [gNe, a_shp, Bool.and_self, if_true, a_eqv]
theorem a_eqX (a b : Int) : gEqX (.int a) (.int b) = ret (.bool (decide (a = b))) := by
  show (if (Py.shp (.int a) && Py.shp (.int b)) = true then ret (PyData.bool (PyData.eqv (.int a) (.int b))) else _) = _
  rw [a_shp, a_shp, Bool.and_self, if_pos rfl, a_eqv]
theorem a_neX (a b : Int) : gNeX (.int a) (.int b) = ret (.bool (!decide (a = b))) := by
  show (if (Py.shp (.int a) && Py.shp (.int b)) = true then ret (PyData.bool (!PyData.eqv (.int a) (.int b))) else _) = _
  rw [a_shp, a_shp, Bool.and_self, if_pos rfl, a_eqv]
theorem a_notN (d e : D) : gNotN d e = ret (.bool (!isNonD d)) := (rfl)
theorem nd_n : isNonD .none = true := (rfl)
theorem nd_t (l : List D) : isNonD (.tuple l) = false := (rfl)
theorem nd_l (l : List D) : isNonD (.list l) = false := (rfl)
theorem nd_i (i : Int) : isNonD (.int i) = false := (rfl)
theorem nd_s (x : Str) : isNonD (.str x) = false := (rfl)
theorem nd_b (b : Bool) : isNonD (.bool b) = false := (rfl)
theorem a_isN (d e : D) : gIsN d e = ret (.bool (isNonD d)) := (rfl)
theorem ixN_nat {n i : Nat} (h : i < n) : ixN n (i : Int) = some i := by
  unfold ixN
  simp [h]
theorem atI_nat {α : Type} {xs : List α} {i : Nat} {x : α} (h : xs[i]? = some x) : L2.atI xs (i : Int) = some x := by
  have hi : i < xs.length := (List.getElem?_eq_some_iff.mp h).1
  unfold L2.atI
  rw [ixN_nat hi]; exact h
theorem rangeD_succ (lo : Nat) (m : Nat) : rangeD lo (m + 1) = .int lo :: rangeD (lo + 1 : Nat) m := by
  rw [rangeD, rangeD, List.range_succ_eq_map, List.map_cons, List.map_map]
  congr 1
  apply List.map_congr_left
  intro i _
  simp only [Function.comp_apply, PyData.int.injEq]
  omega
theorem i_t0 (a : D) (l : List D) : gIx (.tuple (a :: l)) (.int 0) = ret a := gIx_t (atI_nat (i := 0) rfl)
theorem i_t1 (a b : D) (l : List D) : gIx (.tuple (a :: b :: l)) (.int 1) = ret b := gIx_t (atI_nat (i := 1) rfl)
theorem i_t2 (a b c : D) (l : List D) : gIx (.tuple (a :: b :: c :: l)) (.int 2) = ret c := gIx_t (atI_nat (i := 2) rfl)
theorem i_t3 (a b c d : D) (l : List D) : gIx (.tuple (a :: b :: c :: d :: l)) (.int 3) = ret d := gIx_t (atI_nat (i := 3) rfl)
theorem i_l0 (a : D) (l : List D) : gIx (.list (a :: l)) (.int 0) = ret a := gIx_l (atI_nat (i := 0) rfl)
theorem i_l1 (a b : D) (l : List D) : gIx (.list (a :: b :: l)) (.int 1) = ret b := gIx_l (atI_nat (i := 1) rfl)
theorem i_l2 (a b c : D) (l : List D) : gIx (.list (a :: b :: c :: l)) (.int 2) = ret c := gIx_l (atI_nat (i := 2) rfl)
theorem i_l3 (a b c d : D) (l : List D) : gIx (.list (a :: b :: c :: d :: l)) (.int 3) = ret d := gIx_l (atI_nat (i := 3) rfl)
theorem a_cGcd (i j : Int) : cGcd [.int i, .int j] = ret (.int ((Nat.gcd i.natAbs j.natAbs : Nat) : Int)) := (rfl)
theorem a_sum2 (i j : Int) : cSumX [.tuple [.int i, .int j]] = ret (.int (i + j)) := by
  have := cSumX_t [i, j]
  simpa [dInts] using this
theorem a_max2 (i j : Int) : cMax2 [.int i, .int j] = ret (.int (if j > i then j else i)) := (rfl)
theorem a_min2 (i j : Int) : cMin2 [.int i, .int j] = ret (.int (if j < i then j else i)) := (rfl)
theorem a_len (n : Nat) (h : n ≤ 100000) : lenOk n = true := decide_eq_true h
theorem a_slt (ds : List D) (lo hi : Option Int) : gSl (.tuple ds) lo hi = ret (.tuple (cutD ds lo hi)) := (rfl)
theorem a_sll (ds : List D) (lo hi : Option Int) : gSl (.list ds) lo hi = ret (.list (cutD ds lo hi)) := (rfl)
theorem cutD_from {ds : List D} {j : Nat} (h : j ≤ ds.length) : cutD ds (some (j : Int)) none = ds.drop j := by
  unfold cutD
  rw [HT.sIx_nat, HT.sIx_none, Nat.min_eq_left h]
  exact List.take_of_length_le (by simp)
theorem cutD_to {ds : List D} {j : Nat} (h : j ≤ ds.length) : cutD ds none (some (j : Int)) = ds.take j := by
  unfold cutD
  rw [HT.sIx_nat, HT.sIx_none, Nat.min_eq_left h]
  simp
theorem fn_rt {m : Nat} {b : Py.Env → M Out} {ds : List D} {env : Py.Env} {r : D} (he : ds.map some ++ List.replicate m none = env) (h : b env = ret (.rt r)) : fnD m b ds = ret r := by
  rw [x_fnD, he, h, bnd_ret', outD_rt]
theorem forW_cons (tg : D → Py.Env → M Py.Env) (body : Py.Env → M Out) (d : D) (ds : List D) (ρ : Py.Env) : forW tg body (d :: ds) ρ = bnd (tg d ρ) fun ρ' => bnd (body ρ') fun o => oLoop o (forW tg body ds) := rfl
theorem forW_nil (tg : D → Py.Env → M Py.Env) (body : Py.Env → M Out) (ρ : Py.Env) : forW tg body [] ρ = ret (.nx ρ) := rfl
/-! ### Euclid's loop -/
theorem euclid {g : Py.Env → M Bool} {body : Py.Env → M Out} {St : Int → Int → Py.Env} (hg : ∀ a b, 0 ≤ b → g (St a b) = ret (decide (b ≠ 0))) (hb : ∀ a b, 0 ≤ a → 0 < b → body (St a b) = ret (.nx (St b (a.fmod b)))) :
    ∀ (n fuel : Nat) (a b : Int), 0 ≤ a → 0 ≤ b → b < 2 ^ n → 2 * n + 1 ≤ fuel → whW g body fuel (St a b) = ret (.nx (St ((Nat.gcd a.natAbs b.natAbs : Nat) : Int) 0)) := by
  have stop : ∀ (f : Nat) (a : Int), 0 ≤ a → whW g body (f + 1) (St a 0) = ret (.nx (St ((Nat.gcd a.natAbs (0 : Int).natAbs : Nat) : Int) 0)) := by
    intro f a ha
    show bnd (g (St a 0)) (fun z => if z = true then bnd (body (St a 0)) fun o => oLoop o (whW g body f) else ret (.nx (St a 0))) = _
    rw [hg a 0 (by omega), bnd_ret']
    have : ((Nat.gcd a.natAbs (0 : Int).natAbs : Nat) : Int) = a := by rw [Int.natAbs_zero, Nat.gcd_zero_right]; omega
    rw [this]
    rfl
  have step : ∀ (f : Nat) (a b : Int), 0 ≤ a → 0 < b → whW g body (f + 1) (St a b) = whW g body f (St b (a.fmod b)) := by
    intro f a b ha hb'
    show bnd (g (St a b)) (fun z => if z = true then bnd (body (St a b)) fun o => oLoop o (whW g body f) else ret (.nx (St a b))) = _
    rw [hg a b (by omega), bnd_ret', decide_eq_true (by omega), if_pos rfl, hb a b ha hb', bnd_ret', oLoop_nx]
  have gc : ∀ a b : Int, 0 ≤ a → 0 < b → Nat.gcd b.natAbs (a.fmod b).natAbs = Nat.gcd a.natAbs b.natAbs := by
    intro a b ha hb'
    rw [Int.fmod_eq_emod_of_nonneg _ (by omega)]
    have e : (a % b).natAbs = a.natAbs % b.natAbs := by
      have : a % b = ((a.natAbs % b.natAbs : Nat) : Int) := by
        rw [Int.natCast_emod]
        congr 1 <;> omega
      rw [this, Int.natAbs_natCast]
    rw [e, Nat.gcd_comm, ← Nat.gcd_rec, Nat.gcd_comm]
  intro n
  induction n with
  | zero =>
    intro fuel a b ha hb' hlt hf
    have : b = 0 := by simp at hlt; omega
    subst this
    obtain ⟨f, rfl⟩ : ∃ f, fuel = f + 1 := ⟨fuel - 1, by omega⟩
    exact stop f a ha
  | succ n ih =>
    intro fuel a b ha hb' hlt hf
    obtain ⟨f, rfl⟩ : ∃ f, fuel = f + 3 := ⟨fuel - 3, by omega⟩
    by_cases z : b = 0
    · subst z; exact stop _ a ha
    · have pb : 0 < b := by omega
      rw [step _ a b ha pb]
      have r0 := Int.fmod_nonneg_of_pos a pb
      have r1 := Int.fmod_lt_of_pos a pb
      rw [← gc a b ha pb]
      generalize a.fmod b = r at *
      by_cases y : r = 0
      · subst y; exact stop _ b hb'
      · have pr : 0 < r := by omega
        rw [step _ b r hb' pr, ← gc b r hb' pr]
        have q0 := Int.fmod_nonneg_of_pos b pr
        have q1 := Int.fmod_lt_of_pos b pr
        have q2 : 2 * b.fmod r < b := by
          rw [Int.fmod_eq_emod_of_nonneg _ (by omega)] at *
          have h1 := Int.mul_ediv_add_emod b r
          have h2 : 1 ≤ b / r := (Int.le_ediv_iff_mul_le pr).mpr (by omega)
          have h3 := Int.mul_le_mul_of_nonneg_left h2 (Int.le_of_lt pr)
          omega
        refine ih (f + 1) r (b.fmod r) r0 q0 ?_ (by omega)
        rw [Int.pow_succ] at hlt
        omega
/-! ### the tactic -/
end Py
/-! PyLot: drawing: picks, members, and the lots of points that several laws draw (any near, on few lines, a ring). -/
namespace Py
open PySem hiding ret
open L2
theorem bnd_app' {α β : Type} (m : M α) (f : α → M β) (P : β → Prop) : bnd m f P = m (fun a => f a P) := rfl
theorem eCall_1 (F : List D → M D) {f : Py.Env → M (List D)} {ρ : Py.Env} {x : D} (h : f ρ = ret [x]) : eCall 1 F f ρ = F [x] := by
  rw [x_eCall, h, bnd_ret', if_pos (by simp)]
theorem args_1 {i : Nat} {ρ : Py.Env} {x : D} (hx : ρ[i]? = some (some x)) : (aCons (eVar i) aNil) ρ = ret [x] := by
  simp only [x_aCons, x_aNil, x_eVar, hx, Option.getD_some, optM_some, bnd_ret']
theorem eTup_2 {a b : Py.Env → M D} {ρ : Py.Env} {x y : D} (h : a ρ = ret x) (h' : b ρ = ret y) : eTup (aCons a (aCons b aNil)) ρ = ret (.tuple [x, y]) := by
  rw [x_eTup, x_aCons, h, bnd_ret', x_aCons, h', bnd_ret', x_aNil, bnd_ret', bnd_ret', bnd_ret', if_pos (show lenOk (List.length [x, y]) = true from by simp [lenOk])]
theorem pick_c {s : Nat} {m : Int} {e : Py.Env → M D} {ρ : Py.Env} {P : D → Prop} (h1 : ρ[s]? = some (some .none)) (he : e ρ = ret (.int m)) (h2 : 2 ≤ m) (h3 : m < 1073741824) (k : ∀ j : Int, 0 ≤ j → j < m → P (.int j)) : eCallS s 1 F_pick (aCons e aNil) ρ P := by
  have e1 : eCallS s 1 F_pick (aCons e aNil) ρ = anyBelow m := by
    rw [x_eCallS, var_eq h1, bnd_ret', x_aCons, he, bnd_ret', x_aNil, bnd_ret', bnd_ret', if_pos (by rfl)]
    show (if m < 2 then ret (PyData.int 0) else if m < 1073741824 then anyBelow m else stuck) = _
    rw [if_neg (by omega), if_pos h3]
  rw [e1]
  exact k
theorem pick_1 {s : Nat} {m : Int} {e : Py.Env → M D} {ρ : Py.Env} {P : D → Prop} (h1 : ρ[s]? = some (some .none)) (he : e ρ = ret (.int m)) (h2 : 1 ≤ m) (h3 : m < 1073741824) (k : ∀ j : Int, 0 ≤ j → j < m → P (.int j)) : eCallS s 1 F_pick (aCons e aNil) ρ P := by
  by_cases z : 2 ≤ m
  · exact pick_c h1 he z h3 k
  · have m1 : m = 1 := by omega
    have e1 : eCallS s 1 F_pick (aCons e aNil) ρ = ret (.int 0) := by
      rw [x_eCallS, var_eq h1, bnd_ret', x_aCons, he, bnd_ret', x_aNil, bnd_ret', bnd_ret', if_pos (by rfl)]
      show (if m < 2 then ret (PyData.int 0) else if m < 1073741824 then anyBelow m else stuck) = _
      rw [if_pos (by omega)]
    rw [e1]
    exact k 0 (by omega) (by omega)
theorem fnS_c {m : Nat} {f : Py.Env → M Out} {ds : List D} {env : Py.Env} {P : D → Prop} (he : some .none :: (ds.map some ++ List.replicate m none) = env) (h : f env (fun o => outD o P)) : fnS m f ds P := by
  rw [x_fnS, he, bnd_app']
  exact h
theorem aCons_app (a : Py.Env → M D) (r : Py.Env → M (List D)) (ρ : Py.Env) (P : List D → Prop) : aCons a r ρ P = a ρ (fun d => r ρ (fun ds => P (d :: ds))) := rfl
theorem lcN_app (i : Nat) (elt : Py.Env → M D) (ρ : Py.Env) (d : D) (ds : List D) (P : List D → Prop) : lcW (tgN i) cYes elt ρ (d :: ds) P = elt (ρ.set i (some d)) (fun y => lcW (tgN i) cYes elt ρ ds fun ys => P (y :: ys)) := rfl
theorem sParD_app (i j l : Nat) (e f : Py.Env → M D) (ρ : Py.Env) (P : Out → Prop) : sParD i j l e f ρ P = e ρ (fun a => f ρ (fun b => P (.nx (((ρ.set i (some a)).set j (some b)).set l (some (.list [])))))) := rfl
def F_of : List D → M D := fnS 0 (sRet (bin gIx (eVar 1) (eCallS 0 1 F_pick (aCons (cal cLen (aCons (eVar 1) aNil)) aNil))))
/-- one of a list or a tuple -/
theorem of_c {s : Nat} {e : Py.Env → M D} {ρ : Py.Env} {P : D → Prop} {d : D} {xs : List D} (h1 : ρ[s]? = some (some .none)) (he : e ρ = ret d) (hd : d = .list xs ∨ d = .tuple xs) (hl : 1 ≤ xs.length) (h3 : xs.length < 1000) (k : ∀ x ∈ xs, P x) : eCallS s 1 F_of (aCons e aNil) ρ P := by
  have e1 : eCallS s 1 F_of (aCons e aNil) ρ = F_of [d] := by
    rw [x_eCallS, var_eq h1, bnd_ret', x_aCons, he, bnd_ret', x_aNil, bnd_ret', bnd_ret', if_pos (by rfl)]
  rw [e1]
  show eCallS 0 1 F_pick (aCons (cal cLen (aCons (eVar 1) aNil)) aNil) [some .none, some d] (fun j => gIx d j P)
  have cl : cal cLen (aCons (eVar 1) aNil) ([some .none, some d] : Py.Env) = ret (.int (xs.length : Nat)) := by
    rw [x_cal, args_1 (x := d) rfl, bnd_ret']
    rcases hd with rfl | rfl <;> rfl
  refine pick_1 rfl cl (by omega) (by omega) fun j h5 h6 => ?_
  obtain ⟨m, rfl⟩ : ∃ m : Nat, j = (m : Int) := ⟨j.toNat, by omega⟩
  have lm : m < xs.length := by omega
  have g : gIx d (.int (m : Int)) = ret (xs[m]) := by
    rcases hd with rfl | rfl
    · exact gIx_l (Py.atI_nat (List.getElem?_eq_getElem lm))
    · exact gIx_t (Py.atI_nat (List.getElem?_eq_getElem lm))
  rw [g]
  exact k _ (List.getElem_mem lm)
theorem pt_e {a b : Py.Env → M D} {ρ : Py.Env} {x y : Int} (h : a ρ = ret (.int x)) (h' : b ρ = ret (.int y)) : eTup (aCons a (aCons b aNil)) ρ = ret (.tuple [.int x, .int y]) := eTup_2 h h'
theorem ng_e {x : Int} {ρ : Py.Env} : una gNeg (eC (.int x)) ρ = ret (.int (-x)) := by rw [x_una, x_eC, bnd_ret', x_gNeg_i]
theorem ct_e {x : Int} {ρ : Py.Env} : eC (.int x) ρ = ret (.int x) := x_eC _ _
/-! ### a lot of points -/
namespace Lot
abbrev P2 := Int × Int
def vD (w : P2) : D := .tuple [.int w.1, .int w.2]
def Bp (n : Nat) (w : P2) : Prop := B n w.1 ∧ B n w.2
theorem eqv_v (a b : P2) : PyData.eqv (vD a) (vD b) = decide (a = b) := by
  obtain ⟨x, y⟩ := a
  obtain ⟨z, w⟩ := b
  simp only [vD, PyData.eqv, PyData.eqvAll, Prod.mk.injEq]
  by_cases h1 : x = z <;> by_cases h2 : y = w <;> simp [h1, h2]
theorem tg2' {i j : Nat} {w : P2} {ρ : Py.Env} : tgTup 2 (tgsCons (tgN i) (tgsCons (tgN j) tgsNil)) (vD w) ρ = ret ((ρ.set i (some (.int w.1))).set j (some (.int w.2))) := rfl
theorem mulq {n m : Nat} {x y : Int} (hx : B n x) (hy : B m y) (h : n + m < 900000 := by decide) : mulOk x y = true := by
  haveI := hx.q
  haveI := hy.q
  exact mul_ok h
def o1 : Py.Env → M Out := (sParD 3 4 5 (bin gAdd (eVar 1) (eCallS 0 1 F_pick (aCons (bin gAdd (bin gSub (eVar 2) (eVar 1)) (eC (.int 1))) aNil))) (eCallS 0 1 F_pick (aCons (eC (.int 4)) aNil)))
def o2 : Py.Env → M Out := (sAsg 6 (eCallS 0 1 F_of (aCons (mkL (lDisp (aCons (eC (.int 3)) (aCons (eC (.int 6)) (aCons (eC (.int 20)) aNil))))) aNil)))
def o3 : Py.Env → M Out := (sAsg 7 (mkL (lDisp (aCons (eTup (aCons (eC (.int 0)) (aCons (eC (.int 5)) aNil))) (aCons (eTup (aCons (eC (.int 5)) (aCons (eC (.int 0)) aNil))) (aCons (eTup (aCons (eC (.int 3)) (aCons (eC (.int 4)) aNil))) (aCons (eTup (aCons (eC (.int 4)) (aCons (eC (.int 3)) aNil))) (aCons (eTup (aCons (una gNeg (eC (.int 3))) (aCons (eC (.int 4)) aNil))) (aCons (eTup (aCons (una gNeg (eC (.int 4))) (aCons (eC (.int 3)) aNil))) (aCons (eTup (aCons (eC (.int 3)) (aCons (una gNeg (eC (.int 4))) aNil))) (aCons (eTup (aCons (eC (.int 0)) (aCons (una gNeg (eC (.int 5))) aNil))) (aCons (eTup (aCons (una gNeg (eC (.int 5))) (aCons (eC (.int 0)) aNil))) (aCons (eTup (aCons (eC (.int 0)) (aCons (eC (.int 0)) aNil))) aNil)))))))))))))
def o4f1 : Py.Env → M Out := (sPar 9 10 (aCons (bin gSub (eCallS 0 1 F_pick (aCons (bin gAdd (bin gMulX (eC (.int 2)) (eVar 6)) (eC (.int 1))) aNil)) (eVar 6)) (aCons (bin gSub (eCallS 0 1 F_pick (aCons (bin gAdd (bin gMulX (eC (.int 2)) (eVar 6)) (eC (.int 1))) aNil)) (eVar 6)) aNil)))
def o4f2a : Py.Env → M Out := (sAsg 10 (eCallS 0 1 F_of (aCons (mkL (lDisp (aCons (eC (.int 0)) (aCons (eVar 9) (aCons (eC (.int 2)) aNil))))) aNil)))
def o4f2 : Py.Env → M Out := (sIf (tst (bin gEq (eVar 4) (eC (.int 1)))) o4f2a sNx)
def o4f3a : Py.Env → M Out := (sTgt (eCallS 0 1 F_of (aCons (eVar 7) aNil)) (tgTup 2 (tgsCons (tgN 9) (tgsCons (tgN 10) tgsNil))))
def o4f3 : Py.Env → M Out := (sIf (tst (bin gEq (eVar 4) (eC (.int 2)))) o4f3a sNx)
def o4f4a : Py.Env → M Out := (sDSet 5 (eTup (aCons (eVar 9) (aCons (eVar 10) aNil))) (eC (.int 0)))
def o4f4 : Py.Env → M Out := (sIf (tst (bin gLt (cal cLen (aCons (eVar 5) aNil)) (eVar 3))) o4f4a sNx)
def o4f : Py.Env → M Out := (sSeq o4f1 (sSeq o4f2 (sSeq o4f3 o4f4)))
def o4 : Py.Env → M Out := (sFor (itRng1 (aCons (bin gMulX (eC (.int 4)) (eVar 3)) aNil)) (tgN 8) o4f)
def o5fa : Py.Env → M Out := (sDSet 5 (eTup (aCons (bin gAdd (eC (.int 30)) (eVar 11)) (aCons (bin gFdiv (bin gMulX (eVar 11) (bin gAdd (eVar 11) (eC (.int 1)))) (eC (.int 2))) aNil))) (eC (.int 0)))
def o5f : Py.Env → M Out := (sIf (tst (bin gLt (cal cLen (aCons (eVar 5) aNil)) (eVar 3))) o5fa sNx)
def o5 : Py.Env → M Out := (sFor (itRng1 (aCons (eVar 3) aNil)) (tgN 11) o5f)
def b_lot : Py.Env → M Out := (sSeq o1 (sSeq o2 (sSeq o3 (sSeq o4 (sSeq o5 (sRet (cal cTup (aCons (mkL (eSrtD 5)) aNil))))))))
def F_lot : List D → M D := fnS 9 b_lot
/-- what stands in the dict: points -/
structure Pts (n t : Nat) (K : List P2) : Prop where
  len : K.length ≤ n
  bd : ∀ a ∈ K, Bp 9 a
  lt : ∀ a ∈ K, a.1 < 30 + (t : Nat)
  nd : K.Nodup
theorem putT_v (K : List P2) (x y : Int) : putT (K.map vD) [x, y] = (if (x, y) ∈ K then K else K ++ [(x, y)]).map vD := by
  unfold putT
  have e : ((K.map vD).any fun d => PyData.eqv d (.tuple ([x, y].map .int))) = decide ((x, y) ∈ K) := by
    rw [List.any_map, Bool.eq_iff_iff, List.any_eq_true, decide_eq_true_eq]
    have : ∀ a : P2, ((fun d => PyData.eqv d (.tuple ([x, y].map .int))) ∘ vD) a = decide (a = (x, y)) := fun a => eqv_v a (x, y)
    simp only [this, decide_eq_true_eq]
    exact ⟨fun ⟨a, h, e⟩ => e ▸ h, fun h => ⟨_, h, rfl⟩⟩
  rw [e]
  by_cases h : (x, y) ∈ K
  · rw [if_pos (decide_eq_true h), if_pos h]
  · rw [if_neg (by simpa using h), if_neg h, List.map_append]
    rfl
/-- found[x, y] = 0, if there is room -/
theorem put_pts {n t u : Nat} {K : List P2} (h : Pts n t K) (tu : t ≤ u) {x y : Int} (hl : K.length < n) (hx : B 9 x) (hy : B 9 y) (hu : x < 30 + (u : Nat)) : ∃ K', Pts n u K' ∧ K.length ≤ K'.length ∧ 1 ≤ K'.length ∧ ((x, y) ∉ K → K'.length = K.length + 1) ∧ putT (K.map vD) [x, y] = K'.map vD := by
  rw [putT_v]
  by_cases z : (x, y) ∈ K
  · rw [if_pos z]
    refine ⟨K, ⟨h.len, h.bd, fun a ha => by have := h.lt a ha; omega, h.nd⟩, Nat.le_refl _, ?_, fun y => absurd z y, rfl⟩
    cases K with
    | nil => cases z
    | cons a K => simp
  · rw [if_neg z]
    refine ⟨K ++ [(x, y)], ⟨by simp; omega, fun a ha => ?_, fun a ha => ?_, ?_⟩, by simp, by simp, fun _ => by simp, rfl⟩
    · rcases List.mem_append.mp ha with q | q
      · exact h.bd a q
      · rw [List.mem_singleton.mp q]; exact ⟨hx, hy⟩
    · rcases List.mem_append.mp ha with q | q
      · have := h.lt a q; omega
      · rw [List.mem_singleton.mp q]; exact hu
    · rw [List.nodup_append]
      refine ⟨h.nd, by simp, fun a ha c hc e => ?_⟩
      rw [List.mem_singleton.mp hc] at e
      exact z (e ▸ ha)
theorem iff_set {ρ : Py.Env} {n t u : Nat} {K : List P2} {ke : Py.Env → M D} {x y : Int} (hρ : ρ.length = 12) (h5 : ρ[5]? = some (some (.list (K.map vD)))) (h3 : ρ[3]? = some (some (.int (n : Nat)))) (hk : ke ρ = ret (vD (x, y))) (h : Pts n t K) (tu : t ≤ u) (n10 : n ≤ 1000) (hx : B 9 x) (hy : B 9 y) (hu : x < 30 + (u : Nat)) : ∃ K', Pts n u K' ∧ K.length ≤ K'.length ∧ (1 ≤ n → 1 ≤ K'.length) ∧ (K.length < n → (x, y) ∉ K → K'.length = K.length + 1) ∧ sIf (tst (bin gLt (cal cLen (aCons (eVar 5) aNil)) (eVar 3))) (sDSet 5 ke (eC (.int 0))) sNx ρ = ret (.nx (ρ.set 5 (some (.list (K'.map vD))))) := by
  have t : bin gLt (cal cLen (aCons (eVar 5) aNil)) (eVar 3) ρ = ret (.bool (decide (K.length < n))) := by
    rw [x_bin, x_cal, args_1 h5, bnd_ret', x_cLen_l, bnd_ret', var_eq h3, bnd_ret', List.length_map]
    show ret (PyData.bool (decide (((K.length : Nat) : Int) < (n : Nat)))) = _
    congr 2
    simp
  rw [x_sIf, tst_b t, bnd_ret']
  by_cases z : K.length < n
  · obtain ⟨K', k1, k2, k3, k5, k4⟩ := put_pts h tu z hx hy hu
    refine ⟨K', k1, k2, fun _ => k3, fun _ => k5, ?_⟩
    rw [decide_eq_true z, if_pos rfl]
    have : sDSet 5 ke (eC (.int 0)) ρ = bnd (eVar 5 ρ) fun l => bnd (ke ρ) fun x => match l, x with
        | .list ds, .tuple es => (match intsD es with | some is => if lenOk (ds.length + 1) = true then ret (Out.nx (ρ.set 5 (some (.list (putT ds is))))) else stuck | none => stuck)
        | _, _ => stuck := rfl
    rw [this, var_eq h5, bnd_ret', hk, bnd_ret']
    show (if lenOk ((K.map vD).length + 1) = true then ret (Out.nx (ρ.set 5 (some (.list (putT (K.map vD) [x, y]))))) else stuck) = _
    rw [if_pos (by have := h.len; simp [lenOk]; omega), k4]
  · refine ⟨K, ⟨h.len, h.bd, fun a ha => by have := h.lt a ha; omega, h.nd⟩, Nat.le_refl _, fun _ => by omega, fun y => absurd y z, ?_⟩
    rw [decide_eq_false z, if_neg (by decide), x_sNx]
    congr 2
    apply List.ext_getElem?
    intro j
    by_cases e : 5 = j
    · subst e; rw [List.getElem?_set_self (by omega), h5]
    · rw [List.getElem?_set_ne e]
/-- small -/
def Sm (x : Int) : Prop := x.natAbs ≤ 20
theorem Sm.b {x : Int} (h : Sm x) : B 9 x := by unfold Sm at h; unfold B; omega
/-- the state of the loops -/
structure Ls (n t : Nat) (far : Int) (w : Int) (K : List P2) (ρ : Py.Env) : Prop where
  len : ρ.length = 12
  src : ρ[0]? = some (some .none)
  e3 : ρ[3]? = some (some (.int (n : Nat)))
  e4 : ρ[4]? = some (some (.int w))
  e5 : ρ[5]? = some (some (.list (K.map vD)))
  e6 : ρ[6]? = some (some (.int far))
  e7 : ∃ R : List P2, (∀ a ∈ R, Sm a.1 ∧ Sm a.2) ∧ R.length = 10 ∧ ρ[7]? = some (some (.list (R.map vD)))
  pts : Pts n t K
theorem Ls.set {n t : Nat} {far w : Int} {K : List P2} {ρ : Py.Env} (s : Ls n t far w K ρ) {i : Nat} {v : Option D} (hi : 8 ≤ i) : Ls n t far w K (ρ.set i v) := by
  have g : ∀ j, j < 8 → (ρ.set i v)[j]? = ρ[j]? := fun j hj => List.getElem?_set_ne (by omega)
  exact ⟨by rw [List.length_set, s.len], by rw [g 0 (by decide), s.src], by rw [g 3 (by decide), s.e3], by rw [g 4 (by decide), s.e4], by rw [g 5 (by decide), s.e5], by rw [g 6 (by decide), s.e6], by rw [g 7 (by decide)]; exact s.e7, s.pts⟩
theorem Ls.put {n t u : Nat} {far w : Int} {K K' : List P2} {ρ : Py.Env} (s : Ls n t far w K ρ) (h : Pts n u K') : Ls n u far w K' (ρ.set 5 (some (.list (K'.map vD)))) := by
  have g : ∀ j, j ≠ 5 → (ρ.set 5 (some (.list (K'.map vD))))[j]? = ρ[j]? := fun j hj => List.getElem?_set_ne (by omega)
  exact ⟨by rw [List.length_set, s.len], by rw [g 0 (by decide), s.src], by rw [g 3 (by decide), s.e3], by rw [g 4 (by decide), s.e4], by rw [List.getElem?_set_self (by rw [s.len]; decide)], by rw [g 6 (by decide), s.e6], by rw [g 7 (by decide)]; exact s.e7, h⟩
/-- one lap -/
theorem lap_ok {n : Nat} {far w : Int} {K : List P2} {ρ : Py.Env} {P : Out → Prop} (s : Ls n 0 far w K ρ) (n1 : 1 ≤ n) (n10 : n ≤ 20) (f1 : 1 ≤ far) (f2 : far ≤ 20) (k : ∀ K' ρ', Ls n 0 far w K' ρ' → 1 ≤ K'.length → P (.nx ρ')) : o4f ρ P := by
  -- the two numbers
  have draw : ∀ {ρ : Py.Env} {Q : D → Prop}, Ls n 0 far w K ρ → (∀ x : Int, Sm x → Q (.int x)) → bin gSub (eCallS 0 1 F_pick (aCons (bin gAdd (bin gMulX (eC (.int 2)) (eVar 6)) (eC (.int 1))) aNil)) (eVar 6) ρ Q := by
    intro ρ Q s hq
    have e : bin gAdd (bin gMulX (eC (.int 2)) (eVar 6)) (eC (.int 1)) ρ = ret (.int (2 * far + 1)) := by
      rw [x_bin, x_bin, x_eC, bnd_ret', var_eq s.e6, bnd_ret', x_gMulX_i, if_pos (mulq (n := 2) (m := 8) (by unfold B; decide) (by unfold B; omega)), bnd_ret', x_eC, bnd_ret', x_gAdd_i]
    rw [x_bin, bnd_app']
    refine pick_c s.src e (by omega) (by omega) fun j j0 j1 => ?_
    rw [var_eq s.e6, bnd_ret']
    show Q (.int (j - far))
    exact hq _ (by unfold Sm; omega)
  -- the end of the lap
  have fin : ∀ (ρ : Py.Env) (x y : Int), Ls n 0 far w K ρ → ρ[9]? = some (some (.int x)) → ρ[10]? = some (some (.int y)) → Sm x → Sm y → o4f4 ρ P := by
    intro ρ x y s h9 h10 hx hy
    obtain ⟨K', k1, k2, k3, k5, e⟩ := iff_set (u := 0) (ke := eTup (aCons (eVar 9) (aCons (eVar 10) aNil))) s.len s.e5 s.e3 (eTup_2 (var_eq h9) (var_eq h10)) s.pts (Nat.le_refl 0) (by omega) hx.b hy.b (by unfold Sm at hx; omega)
    have e' : o4f4 ρ = _ := e
    rw [e']
    exact k K' _ (s.put k1) (k3 n1)
  have third : ∀ (ρ : Py.Env) (x y : Int), Ls n 0 far w K ρ → ρ[9]? = some (some (.int x)) → ρ[10]? = some (some (.int y)) → Sm x → Sm y → (sSeq o4f3 o4f4) ρ P := by
    intro ρ x y s h9 h10 hx hy
    have t : bin gEq (eVar 4) (eC (.int 2)) ρ = ret (.bool (decide (w = 2))) := by rw [x_bin, var_eq s.e4, bnd_ret', x_eC, bnd_ret', a_eq]
    rw [x_sSeq, bnd_app', o4f3, x_sIf, tst_b t, bnd_ret']
    by_cases z : w = 2
    · rw [decide_eq_true z, if_pos rfl, o4f3a, x_sTgt, bnd_app']
      obtain ⟨R, r1, r2, r3⟩ := s.e7
      refine of_c s.src (var_eq r3) (.inl rfl) (by rw [List.length_map]; omega) (by rw [List.length_map]; omega) fun d hd => ?_
      obtain ⟨a, ha, rfl⟩ := List.mem_map.mp hd
      rw [tg2', bnd_ret']
      show oThen (.nx _) o4f4 P
      rw [oThen_nx]
      refine fin _ a.1 a.2 ((s.set (by decide)).set (by decide)) ?_ ?_ (r1 a ha).1 (r1 a ha).2
      · rw [List.getElem?_set_ne (by decide), List.getElem?_set_self (by rw [s.len]; decide)]
      · rw [List.getElem?_set_self (by rw [List.length_set, s.len]; decide)]
    · rw [decide_eq_false z, if_neg (by decide), x_sNx]
      show oThen (.nx ρ) o4f4 P
      rw [oThen_nx]
      exact fin ρ x y s h9 h10 hx hy
  have second : ∀ (ρ : Py.Env) (x y : Int), Ls n 0 far w K ρ → ρ[9]? = some (some (.int x)) → ρ[10]? = some (some (.int y)) → Sm x → Sm y → (sSeq o4f2 (sSeq o4f3 o4f4)) ρ P := by
    intro ρ x y s h9 h10 hx hy
    have t : bin gEq (eVar 4) (eC (.int 1)) ρ = ret (.bool (decide (w = 1))) := by rw [x_bin, var_eq s.e4, bnd_ret', x_eC, bnd_ret', a_eq]
    rw [x_sSeq, bnd_app', o4f2, x_sIf, tst_b t, bnd_ret']
    by_cases z : w = 1
    · rw [decide_eq_true z, if_pos rfl, o4f2a, x_sAsg, bnd_app']
      have el : mkL (lDisp (aCons (eC (.int 0)) (aCons (eVar 9) (aCons (eC (.int 2)) aNil)))) ρ = ret (.list [.int 0, .int x, .int 2]) := by
        rw [x_mkL, x_lDisp, x_aCons, x_eC, bnd_ret', x_aCons, var_eq h9, bnd_ret', x_aCons, x_eC, bnd_ret', x_aNil, bnd_ret', bnd_ret', bnd_ret', bnd_ret', if_pos (by simp [lenOk]), bnd_ret']
      refine of_c s.src el (.inl rfl) (by simp) (by simp) fun d hd => ?_
      obtain ⟨y', hy', rfl⟩ : ∃ y' : Int, Sm y' ∧ d = .int y' := by
        simp only [List.mem_cons, List.not_mem_nil, or_false] at hd
        rcases hd with rfl | rfl | rfl
        · exact ⟨0, by unfold Sm; decide, rfl⟩
        · exact ⟨x, hx, rfl⟩
        · exact ⟨2, by unfold Sm; decide, rfl⟩
      show oThen (.nx (ρ.set 10 (some (.int y')))) (sSeq o4f3 o4f4) P
      rw [oThen_nx]
      refine third _ x y' (s.set (by decide)) ?_ ?_ hx hy'
      · rw [List.getElem?_set_ne (by decide), h9]
      · rw [List.getElem?_set_self (by rw [s.len]; decide)]
    · rw [decide_eq_false z, if_neg (by decide), x_sNx]
      show oThen (.nx ρ) (sSeq o4f3 o4f4) P
      rw [oThen_nx]
      exact third ρ x y s h9 h10 hx hy
  rw [o4f, x_sSeq, bnd_app', o4f1, x_sPar, bnd_app', aCons_app]
  refine draw s fun x hx => ?_
  rw [aCons_app]
  refine draw s fun y hy => ?_
  show oThen (.nx ((ρ.set 9 (some (.int x))).set 10 (some (.int y)))) (sSeq o4f2 (sSeq o4f3 o4f4)) P
  rw [oThen_nx]
  refine second _ x y ((s.set (by decide)).set (by decide)) ?_ ?_ hx hy
  · rw [List.getElem?_set_ne (by decide), List.getElem?_set_self (by rw [s.len]; decide)]
  · rw [List.getElem?_set_self (by rw [List.length_set, s.len]; decide)]
theorem laps_ok {n : Nat} {far w : Int} {P : Out → Prop} (n1 : 1 ≤ n) (n10 : n ≤ 20) (f1 : 1 ≤ far) (f2 : far ≤ 20) : ∀ (ds : List D) (K : List P2) (ρ : Py.Env), Ls n 0 far w K ρ → (ds = [] → 1 ≤ K.length) → (∀ K' ρ', Ls n 0 far w K' ρ' → 1 ≤ K'.length → P (.nx ρ')) → forW (tgN 8) o4f ds ρ P
  | [], K, ρ, s, h0, k => k K ρ s (h0 rfl)
  | d :: ds, K, ρ, s, h0, k => by
    rw [forW_cons, x_tgN, bnd_ret', bnd_app']
    refine lap_ok (s.set (by decide)) n1 n10 f1 f2 fun K' ρ' s' hk => ?_
    rw [oLoop_nx]
    exact laps_ok n1 n10 f1 f2 ds K' ρ' s' (fun _ => hk) k
theorem fill_ok {n : Nat} {far w : Int} {P : Out → Prop} (n10 : n ≤ 20) : ∀ (m i : Nat) (K : List P2) (ρ : Py.Env), i + m = n → Ls n i far w K ρ → min n (i + 1) ≤ K.length → (∀ K' ρ', Ls n n far w K' ρ' → K'.length = n → P (.nx ρ')) → forW (tgN 11) o5f (rangeD (i : Nat) m) ρ P
  | 0, i, K, ρ, hi, s, h0, k => by
    have e : i = n := by omega
    subst e
    exact k K ρ s (by have := s.pts.len; omega)
  | m + 1, i, K, ρ, hi, s, h0, k => by
    rw [rangeD_succ, forW_cons, x_tgN, bnd_ret', bnd_app']
    have s' : Ls n i far w K (ρ.set 11 (some (.int (i : Nat)))) := s.set (by decide)
    have h11 : (ρ.set 11 (some (.int (i : Nat))))[11]? = some (some (.int (i : Nat))) := List.getElem?_set_self (by rw [s.len]; decide)
    have bi : B 5 ((i : Nat) : Int) := by unfold B; omega
    have bi1 : B 5 (((i : Nat) : Int) + 1) := by unfold B; omega
    have ek : (eTup (aCons (bin gAdd (eC (.int 30)) (eVar 11)) (aCons (bin gFdiv (bin gMulX (eVar 11) (bin gAdd (eVar 11) (eC (.int 1)))) (eC (.int 2))) aNil))) (ρ.set 11 (some (.int (i : Nat)))) = ret (vD (30 + (i : Nat), (((i : Nat) : Int) * ((i : Nat) + 1)).fdiv 2)) := by
      refine eTup_2 ?_ ?_
      · rw [x_bin, x_eC, bnd_ret', var_eq h11, bnd_ret', x_gAdd_i]
      · rw [x_bin, x_bin, var_eq h11, bnd_ret', x_bin, var_eq h11, bnd_ret', x_eC, bnd_ret', x_gAdd_i, bnd_ret', x_gMulX_i, if_pos (mulq bi bi1), bnd_ret', x_eC, bnd_ret', a_fdiv (by decide) (by decide)]
    have b2 : B 9 ((((i : Nat) : Int) * ((i : Nat) + 1)).fdiv 2) := by
      rw [Int.fdiv_eq_ediv_of_nonneg _ (by decide)]
      have h1 := Int.natAbs_ediv_le_natAbs (((i : Nat) : Int) * ((i : Nat) + 1)) 2
      have h2 : (((i : Nat) : Int) * ((i : Nat) + 1)).natAbs ≤ 20 * 21 := by
        rw [Int.natAbs_mul]
        exact Nat.mul_le_mul (by omega) (by omega)
      unfold B; omega
    obtain ⟨K', k1, k2, k3, k5, e⟩ := iff_set (u := i + 1) s'.len s'.e5 s'.e3 ek s'.pts (by omega) (by omega) (by unfold B; omega) b2 (by omega)
    have e' : o5f (ρ.set 11 (some (.int (i : Nat)))) = _ := e
    rw [e']
    show oLoop (.nx _) (forW (tgN 11) o5f (rangeD ((i + 1 : Nat) : Int) m)) P
    rw [oLoop_nx]
    refine fill_ok n10 m (i + 1) K' _ (by omega) (s'.put k1) ?_ k
    by_cases z : K.length < n
    · have := k5 z fun q => by
        have := s.pts.lt _ q
        simp only at this
        omega
      omega
    · omega
theorem alls_v (K : List P2) : alls (K.map vD) = true := by
  unfold alls
  rw [List.all_eq_true]
  intro d hd
  obtain ⟨a, _, rfl⟩ := List.mem_map.mp hd
  have sh : shp (vD a) = true := by
    show SeqAt.shaped (.tuple [.int a.1, .int a.2]) = true
    simp [SeqAt.shaped, PyData.canLay0, PyData.canLayAll0, PyData.depth, PyData.depthAll]
  rw [sh]
  simp only [vD, isNonD, Bool.not_false, Bool.and_true, Bool.true_and]
  rw [List.all_eq_true]
  intro e he
  obtain ⟨c, _, rfl⟩ := List.mem_map.mp he
  show PySem.W.alike (.tuple _) (.tuple _) = true
  simp [PySem.W.alike, PySem.W.alikeAll]
theorem leD_v {a b : P2} (h : leD (vD a) (vD b) = true) : a.1 ≤ b.1 := by
  rcases Int.lt_or_le b.1 a.1 with z | z
  · exfalso
    have e : PySem.W.dataLt (vD b) (vD a) = true := by
      unfold vD
      rw [PySem.W.dataLt_tuple, PySem.W.dataLt_all_no (by rfl) (by rw [a_eqv]; exact decide_eq_false (by omega)), PySem.W.dataLt_int]
      exact decide_eq_true z
    have h' : (!PySem.W.dataLt (vD b) (vD a)) = true := h
    rw [e] at h'
    cases h'
  · exact z
theorem srt_v {ρ : Py.Env} {K : List P2} (h5 : ρ[5]? = some (some (.list (K.map vD)))) (hl : K.length ≤ 1000) : ∃ K' : List P2, K'.Perm K ∧ K'.Pairwise (fun a b => a.1 ≤ b.1) ∧ eSrtD 5 ρ = ret (K'.map vD) := by
  refine ⟨K.mergeSort fun a b => leD (vD a) (vD b), List.mergeSort_perm _ _, ?_, ?_⟩
  · have tot : PySem.W.TotalLe leD := by unfold leD PySem.W.dataLe; exact PySem.W.sortLe_total _ _ _
    exact (List.pairwise_mergeSort (le := fun a b : P2 => leD (vD a) (vD b)) (fun a b c h1 h2 => tot.trans _ _ _ h1 h2) (fun a b => by
      have := tot.total (vD a) (vD b)
      simpa using this) K).imp fun h => leD_v h
  have ok : srtOk (K.map vD) = true := by
    unfold srtOk
    rw [alls_v, Bool.true_and]
    have : (K.map vD).all isTup1 = true := by
      rw [List.all_eq_true]
      intro d hd
      obtain ⟨a, _, rfl⟩ := List.mem_map.mp hd
      rfl
    rw [this, Bool.true_or, Bool.true_or]
  have e : eSrtD 5 ρ = bnd (eVar 5 ρ) fun d => match d with
      | .list ds => if (srtOk ds && lenOk ds.length) = true then ret (ds.mergeSort leD) else stuck
      | _ => stuck := rfl
  rw [e, var_eq h5, bnd_ret']
  show (if (srtOk (K.map vD) && lenOk (K.map vD).length) = true then ret ((K.map vD).mergeSort leD) else stuck) = _
  rw [if_pos (by rw [ok]; simp [lenOk]; omega)]
  congr 1
  exact (List.map_mergeSort (r := fun a b => leD (vD a) (vD b)) (s := leD) (f := vD) (l := K) (fun a _ b _ => rfl)).symm
def ring : List P2 := [(0, 5), (5, 0), (3, 4), (4, 3), (-3, 4), (-4, 3), (3, -4), (0, -5), (-5, 0), (0, 0)]
theorem o3_eq {ρ : Py.Env} : o3 ρ = ret (.nx (ρ.set 7 (some (.list (ring.map vD))))) := by
  rw [o3, x_sAsg, x_mkL, x_lDisp]
  simp only [x_aCons, x_aNil, pt_e ct_e ct_e, pt_e ng_e ct_e, pt_e ct_e ng_e, bnd_ret', List.length_cons, List.length_nil, lenOk_def]
  rw [if_pos (by decide), bnd_ret', bnd_ret', ring]
  simp only [List.map_cons, List.map_nil]
  rfl
theorem lot_okS {least most : Int} {P : D → Prop} (m0 : 1 ≤ least) (m1 : least ≤ most) (m10 : most ≤ 20) (k : ∀ L : List P2, least ≤ L.length → (L.length : Int) ≤ most → L.Nodup → (∀ a ∈ L, Bp 9 a) → L.Pairwise (fun a b => a.1 ≤ b.1) → P (.tuple (L.map vD))) : F_lot [.int least, .int most] P := by
  refine fnS_c (env := [some .none, some (.int least), some (.int most), none, none, none, none, none, none, none, none, none]) rfl ?_
  rw [b_lot, x_sSeq, bnd_app']
  rw [o1, sParD_app, x_bin, var_eq (d := .int least) rfl, bnd_ret', bnd_app']
  have e1 : (bin gAdd (bin gSub (eVar 2) (eVar 1)) (eC (.int 1))) ([some .none, some (.int least), some (.int most), none, none, none, none, none, none, none, none, none] : Py.Env) = ret (.int (most - least + 1)) := by
    simp only [Py.x_fnD, Py.x_sSeq, Py.x_sNx, Py.x_sAsg, Py.x_sOwn, Py.x_sTgt, Py.x_sRet, Py.x_sRetN, Py.x_sRetOwn, Py.x_sIf, Py.x_sFor, Py.x_sPar, Py.x_sPar3, Py.x_cal, Py.x_calL, Py.x_eCall, Py.x_bin, Py.x_una, Py.x_bAnd, Py.x_bOr, Py.x_bNot, Py.x_eAnd, Py.x_eOr, Py.x_eNot, Py.x_eIf, Py.x_eChain, Py.x_eSl, Py.x_oNo, Py.x_oPart, Py.x_aNil, Py.x_aCons, Py.x_aStar, Py.x_eTup, Py.x_lDisp, Py.x_mkL, Py.x_tgN, Py.x_tgsNil, Py.x_tgsCons, Py.x_tgTup, Py.x_itSeq, Py.x_itEnum, Py.x_itZip, Py.x_itRng1, Py.x_itRng2, Py.x_eVar, Py.x_eC, Py.x_tst, Py.x_cYes, Py.x_wipeD_cons, Py.x_wipeD_nil, Py.x_seqD_l, Py.x_seqD_t, Py.x_gNeg_i, Py.x_gAdd_i, Py.x_gAdd_t, Py.x_gAdd_l, Py.x_cTup_l, Py.x_cTup_t, Py.x_cLst_l, Py.x_cLst_t, Py.x_cLen_l, Py.x_cLen_t, Py.x_cInt_b, Py.x_cInt_i, Py.x_cAbs_i, Py.toB_b, Py.toI_i, Py.optM_some, Py.par2_2, Py.par3_3, Py.zip2_2, Py.enum1_1, Py.rng1_i, Py.rng2_i, Py.outD_rt, Py.outD_nx, Py.bnd_ret', Py.bnd_stuck', Py.oThen_nx, Py.oThen_rt, Py.oLoop_nx, Py.oLoop_rt, Py.a_mul, Py.a_fdiv, Py.a_mod, Py.a_sub, Py.a_lt, Py.a_le, Py.a_gt, Py.a_ge, Py.a_eq, Py.a_ne, Py.a_eqX, Py.a_neX, Py.a_notN, Py.a_isN, Py.i_t0, Py.i_t1, Py.i_t2, Py.i_t3, Py.i_l0, Py.i_l1, Py.i_l2, Py.i_l3, Py.a_cGcd, Py.a_sum2, Py.a_max2, Py.a_min2, Py.a_len, Py.a_slt, Py.a_sll, Py.nd_n, Py.nd_t, Py.nd_l, Py.nd_i, Py.nd_s, Py.nd_b, List.map_cons, List.map_nil, List.replicate, List.cons_append, List.nil_append, List.set_cons_succ, List.set_cons_zero, List.getElem?_cons_succ, List.getElem?_cons_zero, Option.getD_some, List.length_cons, List.length_nil, List.length_map, Nat.reduceAdd, Nat.reduceMul, Nat.reduceLT, Nat.reduceLeDiff, Nat.reduceEqDiff, Int.reduceEq, Int.reduceLT, Int.reduceToNat, ne_eq, not_false_eq_true, decide_true, decide_false, decide_eq_true_eq, if_true, if_false, Bool.false_eq_true, Bool.not_true, Bool.not_false, Bool.true_and, Bool.and_true, Bool.false_and, Bool.and_false, Nat.zero_add]
  refine pick_1 (m := most - least + 1) rfl e1 (by omega) (by omega) fun j j0 j1 => ?_
  rw [x_gAdd_i, ret_app]
  refine pick_c rfl (x_eC _ _) (by decide) (by decide) fun w w0 w1 => ?_
  obtain ⟨n, hn⟩ : ∃ n : Nat, least + j = (n : Int) := ⟨(least + j).toNat, by omega⟩
  rw [hn, oThen_nx, x_sSeq, bnd_app', o2, x_sAsg, bnd_app']
  simp only [List.set_cons_succ, List.set_cons_zero]
  have el : mkL (lDisp (aCons (eC (.int 3)) (aCons (eC (.int 6)) (aCons (eC (.int 20)) aNil)))) ([some .none, some (.int least), some (.int most), some (.int (n : Nat)), some (.int w), some (.list []), none, none, none, none, none, none] : Py.Env) = ret (.list [.int 3, .int 6, .int 20]) := by
    simp only [Py.x_fnD, Py.x_sSeq, Py.x_sNx, Py.x_sAsg, Py.x_sOwn, Py.x_sTgt, Py.x_sRet, Py.x_sRetN, Py.x_sRetOwn, Py.x_sIf, Py.x_sFor, Py.x_sPar, Py.x_sPar3, Py.x_cal, Py.x_calL, Py.x_eCall, Py.x_bin, Py.x_una, Py.x_bAnd, Py.x_bOr, Py.x_bNot, Py.x_eAnd, Py.x_eOr, Py.x_eNot, Py.x_eIf, Py.x_eChain, Py.x_eSl, Py.x_oNo, Py.x_oPart, Py.x_aNil, Py.x_aCons, Py.x_aStar, Py.x_eTup, Py.x_lDisp, Py.x_mkL, Py.x_tgN, Py.x_tgsNil, Py.x_tgsCons, Py.x_tgTup, Py.x_itSeq, Py.x_itEnum, Py.x_itZip, Py.x_itRng1, Py.x_itRng2, Py.x_eVar, Py.x_eC, Py.x_tst, Py.x_cYes, Py.x_wipeD_cons, Py.x_wipeD_nil, Py.x_seqD_l, Py.x_seqD_t, Py.x_gNeg_i, Py.x_gAdd_i, Py.x_gAdd_t, Py.x_gAdd_l, Py.x_cTup_l, Py.x_cTup_t, Py.x_cLst_l, Py.x_cLst_t, Py.x_cLen_l, Py.x_cLen_t, Py.x_cInt_b, Py.x_cInt_i, Py.x_cAbs_i, Py.toB_b, Py.toI_i, Py.optM_some, Py.par2_2, Py.par3_3, Py.zip2_2, Py.enum1_1, Py.rng1_i, Py.rng2_i, Py.outD_rt, Py.outD_nx, Py.bnd_ret', Py.bnd_stuck', Py.oThen_nx, Py.oThen_rt, Py.oLoop_nx, Py.oLoop_rt, Py.a_mul, Py.a_fdiv, Py.a_mod, Py.a_sub, Py.a_lt, Py.a_le, Py.a_gt, Py.a_ge, Py.a_eq, Py.a_ne, Py.a_eqX, Py.a_neX, Py.a_notN, Py.a_isN, Py.i_t0, Py.i_t1, Py.i_t2, Py.i_t3, Py.i_l0, Py.i_l1, Py.i_l2, Py.i_l3, Py.a_cGcd, Py.a_sum2, Py.a_max2, Py.a_min2, Py.a_len, Py.a_slt, Py.a_sll, Py.nd_n, Py.nd_t, Py.nd_l, Py.nd_i, Py.nd_s, Py.nd_b, List.map_cons, List.map_nil, List.replicate, List.cons_append, List.nil_append, List.set_cons_succ, List.set_cons_zero, List.getElem?_cons_succ, List.getElem?_cons_zero, Option.getD_some, List.length_cons, List.length_nil, List.length_map, Nat.reduceAdd, Nat.reduceMul, Nat.reduceLT, Nat.reduceLeDiff, Nat.reduceEqDiff, Int.reduceEq, Int.reduceLT, Int.reduceToNat, ne_eq, not_false_eq_true, decide_true, decide_false, decide_eq_true_eq, if_true, if_false, Bool.false_eq_true, Bool.not_true, Bool.not_false, Bool.true_and, Bool.and_true, Bool.false_and, Bool.and_false, Nat.zero_add]
  refine of_c rfl el (.inl rfl) (by simp) (by simp) fun d hd => ?_
  obtain ⟨far, f1, f2, rfl⟩ : ∃ far : Int, 1 ≤ far ∧ far ≤ 20 ∧ d = .int far := by
    simp only [List.mem_cons, List.not_mem_nil, or_false] at hd
    rcases hd with rfl | rfl | rfl
    · exact ⟨3, by decide, by decide, rfl⟩
    · exact ⟨6, by decide, by decide, rfl⟩
    · exact ⟨20, by decide, by decide, rfl⟩
  have n1 : 1 ≤ n := by omega
  have n10 : n ≤ 20 := by omega
  have fin : ∀ ρ : Py.Env, Ls n 0 far w [] ρ → (sSeq o4 (sSeq o5 (sRet (cal cTup (aCons (mkL (eSrtD 5)) aNil))))) ρ (fun o => outD o P) := by
    intro ρ s0
    have i4 : itRng1 (aCons (bin gMulX (eC (.int 4)) (eVar 3)) aNil) ρ = ret (rangeD 0 (4 * n)) := by
      rw [x_itRng1, x_aCons, x_bin, x_eC, bnd_ret', var_eq s0.e3, bnd_ret', x_gMulX_i, if_pos (mulq (n := 3) (m := 5) (by unfold B; decide) (by unfold B; omega)), bnd_ret', x_aNil, bnd_ret', bnd_ret', rng1_i, if_pos (by simp [rngOk]; omega)]
      congr 2
    rw [x_sSeq, o4, x_sFor, i4, bnd_ret', bnd_app']
    refine laps_ok n1 n10 f1 f2 _ [] ρ s0 (fun z => by
      have := congrArg List.length z
      simp [rangeD] at this <;> omega) fun K ρ1 s1 k1 => ?_
    rw [oThen_nx, x_sSeq, o5, x_sFor, x_itRng1, args_1 s1.e3, bnd_ret', rng1_i, if_pos (by simp [rngOk]; omega), bnd_ret', Int.toNat_natCast, bnd_app']
    refine fill_ok n10 n 0 K ρ1 (by omega) s1 (by omega) fun K2 ρ2 s2 k2 => ?_
    obtain ⟨K3, pm, so, e3⟩ := srt_v s2.e5 (by have := s2.pts.len; omega)
    rw [oThen_nx, x_sRet, x_cal, x_aCons, x_mkL, e3, bnd_ret', bnd_ret', x_aNil, bnd_ret', bnd_ret', x_cTup_l, bnd_ret']
    show P (.tuple (K3.map vD))
    have l3 := pm.length_eq
    exact k K3 (by omega) (by omega) (pm.nodup_iff.mpr s2.pts.nd) (fun a ha => s2.pts.bd a (pm.mem_iff.mp ha)) so
  rw [ret_app, oThen_nx, seq_nx o3_eq]
  refine fin _ ⟨rfl, rfl, rfl, rfl, rfl, rfl, ⟨ring, ?_, rfl, rfl⟩, ⟨by simp, by simp, by simp, by simp⟩⟩
  intro a ha
  simp only [ring, List.mem_cons, List.not_mem_nil, or_false] at ha
  rcases ha with rfl | rfl | rfl | rfl | rfl | rfl | rfl | rfl | rfl | rfl <;> exact ⟨by unfold Sm; decide, by unfold Sm; decide⟩
theorem lot_ok {least most : Int} {P : D → Prop} (m0 : 1 ≤ least) (m1 : least ≤ most) (m10 : most ≤ 20) (k : ∀ L : List P2, least ≤ L.length → (L.length : Int) ≤ most → L.Nodup → (∀ a ∈ L, Bp 9 a) → P (.tuple (L.map vD))) : F_lot [.int least, .int most] P := lot_okS m0 m1 m10 fun L a b c d _ => k L a b c d
end Lot
end Py
namespace R74
/-! reduced lines: the plain mathematics -/
/-- entry q of a row -/
def at' (r : List Int) (q : Nat) : Int := r.getD q 0
/-- a combination of rows, entry q -/
def comb : List Int → List (List Int) → Nat → Int
  | t :: ts, v :: vs, q => t * at' v q + comb ts vs q
  | _, _, _ => 0
theorem comb_nil (vs : List (List Int)) (q : Nat) : comb [] vs q = 0 := by cases vs <;> rfl
theorem comb_append {ts us : List Int} : ∀ {vs ws : List (List Int)} {q : Nat}, ts.length = vs.length → comb (ts ++ us) (vs ++ ws) q = comb ts vs q + comb us ws q := by
  induction ts with
  | nil =>
    intro vs ws q h
    have : vs = [] := List.length_eq_zero_iff.mp h.symm
    subst this
    show comb us ws q = 0 + _
    omega
  | cons t ts ih =>
    intro vs ws q h
    cases vs with
    | nil => simp at h
    | cons v vs =>
      have h' : ts.length = vs.length := by simpa using h
      show t * at' v q + comb (ts ++ us) (vs ++ ws) q = (t * at' v q + comb ts vs q) + _
      rw [ih h']
      omega
theorem comb_ext {ts : List Int} : ∀ {vs : List (List Int)} {ws : List (List Int)} {q : Nat}, ts.length = vs.length → comb ts (vs ++ ws) q = comb ts vs q := by
  intro vs ws q h
  have := comb_append (us := []) (ws := ws) (q := q) h
  rw [List.append_nil, comb_nil] at this
  omega
theorem comb_scale (a : Int) : ∀ (ts : List Int) (vs : List (List Int)) (q : Nat), comb (ts.map (a * ·)) vs q = a * comb ts vs q
  | [], vs, q => by rw [List.map_nil, comb_nil]; simp
  | t :: ts, [], q => by
    show (0 : Int) = a * 0
    simp
  | t :: ts, v :: vs, q => by
    show a * t * at' v q + comb (ts.map (a * ·)) vs q = a * (t * at' v q + comb ts vs q)
    rw [comb_scale a ts vs q, Int.mul_add, Int.mul_assoc]
/-- sums of two coefficient rows -/
def addL : List Int → List Int → List Int
  | [], us => us
  | ts, [] => ts
  | t :: ts, u :: us => (t + u) :: addL ts us
theorem addL_nil (ts : List Int) : addL ts [] = ts := by cases ts <;> rfl
theorem addL_len : ∀ ts us : List Int, (addL ts us).length = max ts.length us.length
  | [], us => by simp [addL]
  | t :: ts, [] => by simp [addL]
  | t :: ts, u :: us => by
    show (addL ts us).length + 1 = max (ts.length + 1) (us.length + 1)
    rw [addL_len ts us]; omega
theorem comb_add : ∀ (ts us : List Int) (vs : List (List Int)) (q : Nat), comb (addL ts us) vs q = comb ts vs q + comb us vs q
  | [], us, vs, q => by rw [comb_nil]; show comb us vs q = _; omega
  | t :: ts, [], vs, q => by rw [addL_nil, comb_nil]; omega
  | t :: ts, u :: us, [], q => by show (0 : Int) = 0 + 0; rfl
  | t :: ts, u :: us, v :: vs, q => by
    show (t + u) * at' v q + comb (addL ts us) vs q = (t * at' v q + comb ts vs q) + (u * at' v q + comb us vs q)
    rw [comb_add ts us vs q, Int.add_mul]; omega
/-! ### more rows than places: a combination that is 0 -/
theorem null_vec : ∀ (m : Nat) (A : List (List Int)), m < A.length → ∃ y : List Int, y.length = A.length ∧ (∃ c ∈ y, c ≠ 0) ∧ ∀ j, j < m → comb y A j = 0
  | 0, A, h => by
    refine ⟨List.replicate A.length 1, by simp, ⟨1, ?_, by decide⟩, fun j hj => absurd hj (by omega)⟩
    exact List.mem_replicate.mpr ⟨by omega, rfl⟩
  | m + 1, A, h => by
    by_cases z : ∀ v ∈ A, at' v m = 0
    · obtain ⟨y, h1, h2, h3⟩ := null_vec m A (by omega)
      refine ⟨y, h1, h2, fun j hj => ?_⟩
      by_cases e : j < m
      · exact h3 j e
      · have : j = m := by omega
        subst this
        clear h1 h2 h3 h
        induction A generalizing y with
        | nil => cases y <;> rfl
        | cons v A ih =>
          cases y with
          | nil => rfl
          | cons c y =>
            show c * at' v j + comb y A j = 0
            rw [z v (by simp), ih y (fun w hw => z w (List.mem_cons_of_mem _ hw))]
            simp
    · obtain ⟨v, hv, nz⟩ : ∃ v ∈ A, at' v m ≠ 0 := by
        apply Classical.byContradiction
        intro e
        exact z fun v hv => Classical.byContradiction fun n => e ⟨v, hv, n⟩
      obtain ⟨l1, l2, rfl⟩ := List.append_of_mem hv
      -- the other rows, led to 0 at m
      let red : List Int → List Int := fun w => (List.range (m + 1)).map fun j => at' v m * at' w j - at' w m * at' v j
      have red_at : ∀ w j, j < m + 1 → at' (red w) j = at' v m * at' w j - at' w m * at' v j := fun w j hj => by
        show ((List.range (m + 1)).map fun j => at' v m * at' w j - at' w m * at' v j).getD j 0 = _
        rw [List.getD_eq_getElem?_getD, List.getElem?_map, List.getElem?_range hj]
        rfl
      obtain ⟨y, h1, h2, h3⟩ := null_vec m ((l1 ++ l2).map red) (by simp at h ⊢; omega)
      have h1' : y.length = l1.length + l2.length := by simpa using h1
      -- what the combination of the led rows is
      have key : ∀ (y : List Int) (L : List (List Int)) (j : Nat), j < m + 1 → y.length = L.length → comb y (L.map red) j = at' v m * comb y L j - comb y L m * at' v j := by
        intro y
        induction y with
        | nil => intro L j _ _; rw [comb_nil, comb_nil, comb_nil]; simp
        | cons c y ih =>
          intro L j hj hl
          cases L with
          | nil => simp at hl
          | cons w L =>
            show c * at' (red w) j + comb y (L.map red) j = at' v m * (c * at' w j + comb y L j) - (c * at' w m + comb y L m) * at' v j
            rw [ih L j hj (by simpa using hl), red_at w j hj]
            grind
      refine ⟨(y.take l1.length).map (at' v m * ·) ++ (-(comb y (l1 ++ l2) m)) :: (y.drop l1.length).map (at' v m * ·), by simp; omega, ?_, fun j hj => ?_⟩
      · obtain ⟨c, hc, nc⟩ := h2
        have : c ∈ y.take l1.length ++ y.drop l1.length := by rw [List.take_append_drop]; exact hc
        refine ⟨at' v m * c, ?_, Int.mul_ne_zero nz nc⟩
        rcases List.mem_append.mp this with q | q
        · exact List.mem_append_left _ (List.mem_map.mpr ⟨c, q, rfl⟩)
        · exact List.mem_append_right _ (List.mem_cons_of_mem _ (List.mem_map.mpr ⟨c, q, rfl⟩))
      · have lt : (y.take l1.length).length = l1.length := by rw [List.length_take]; omega
        rw [comb_append (by rw [List.length_map, lt])]
        show comb _ l1 j + (-(comb y (l1 ++ l2) m) * at' v j + comb _ l2 j) = 0
        rw [comb_scale, comb_scale]
        have e : comb y (l1 ++ l2) j = comb (y.take l1.length) l1 j + comb (y.drop l1.length) l2 j := by
          rw [← comb_append lt, List.take_append_drop]
        have k1 := key y (l1 ++ l2) j (by omega) (by simpa using h1')
        by_cases ej : j < m
        · rw [h3 j ej, e] at k1
          grind
        · have : j = m := by omega
          subst this
          rw [e]
          grind
end R74
namespace R74
/-- one row led to 0 at a place by a reduced line -/
def redStep (line : List Int) (a : Nat × List Int) : List Int := if at' line a.1 = 0 then line else List.zipWith (fun x y => at' a.2 a.1 * x - at' line a.1 * y) line a.2
def red (line : List Int) (F : List (Nat × List Int)) : List Int := F.foldl redStep line
def gcdL (l : List Int) : Int := l.foldl (fun a x => (Int.gcd a x : Nat)) 0
def firstNZ (l : List Int) : Nat := (l.findIdx? fun x => decide (x ≠ 0)).getD 0
def addRow (F : List (Nat × List Int)) (r : List Int) : List (Nat × List Int) :=
  if gcdL (red r F) > 0 then F ++ [(firstNZ ((red r F).map fun x => x.fdiv (gcdL (red r F))), (red r F).map fun x => x.fdiv (gcdL (red r F)))] else F
def lines (T : List (List Int)) : List (Nat × List Int) := T.foldl addRow []
theorem gl {α : Type} {T ws : List α} {i : Nat} {d : α} (h : i < T.length) : (T ++ ws).getD i d = T.getD i d := by
  rw [List.getD_eq_getElem?_getD, List.getD_eq_getElem?_getD, List.getElem?_append_left h]
structure Ok (m : Nat) (F : List (Nat × List Int)) : Prop where
  len : ∀ a ∈ F, a.2.length = m
  lt : ∀ a ∈ F, a.1 < m
  nz : ∀ a ∈ F, at' a.2 a.1 ≠ 0
  tri : F.Pairwise fun a b => at' b.2 a.1 = 0
abbrev vecs (F : List (Nat × List Int)) : List (List Int) := F.map (·.2)
theorem redStep_len {m : Nat} {line : List Int} {a : Nat × List Int} (h : line.length = m) (ha : a.2.length = m) : (redStep line a).length = m := by
  unfold redStep
  split
  · exact h
  · simp [h, ha]
theorem redStep_at {m : Nat} {line : List Int} {a : Nat × List Int} (h : line.length = m) (ha : a.2.length = m) (q : Nat) : at' (redStep line a) q = if at' line a.1 = 0 then at' line q else at' a.2 a.1 * at' line q - at' line a.1 * at' a.2 q := by
  unfold redStep
  split
  · rfl
  · unfold at'
    simp only [List.getD_eq_getElem?_getD, List.getElem?_zipWith]
    by_cases hq : q < m
    · rw [List.getElem?_eq_getElem (by omega : q < line.length), List.getElem?_eq_getElem (by omega : q < a.2.length)]
      rfl
    · rw [List.getElem?_eq_none (by omega : line.length ≤ q), List.getElem?_eq_none (by omega : a.2.length ≤ q)]
      simp
theorem red_spec {m : Nat} : ∀ (F : List (Nat × List Int)) (ps : List Nat) (line : List Int), Ok m F → (∀ a ∈ F, ∀ p ∈ ps, at' a.2 p = 0) → (∀ p ∈ ps, at' line p = 0) → line.length = m →
    (red line F).length = m ∧ (∀ p ∈ ps, at' (red line F) p = 0) ∧ (∀ a ∈ F, at' (red line F) a.1 = 0) ∧ ∃ c : Int, c ≠ 0 ∧ ∃ ts : List Int, ts.length = F.length ∧ ∀ q, at' (red line F) q = c * at' line q + comb ts (vecs F) q
  | [], ps, line, _, _, hl, hm => ⟨hm, hl, by simp, 1, by decide, [], rfl, fun q => by rw [comb_nil]; show at' line q = _; omega⟩
  | a :: F, ps, line, ok, h1, hl, hm => by
    have la := ok.len a (by simp)
    have na := ok.nz a (by simp)
    have pw := List.pairwise_cons.mp ok.tri
    have ok' : Ok m F := ⟨fun b hb => ok.len b (List.mem_cons_of_mem _ hb), fun b hb => ok.lt b (List.mem_cons_of_mem _ hb), fun b hb => ok.nz b (List.mem_cons_of_mem _ hb), pw.2⟩
    have A := redStep_at hm la
    have l1 := redStep_len hm la
    have za : at' (redStep line a) a.1 = 0 := by
      rw [A]
      split
      · assumption
      · rw [Int.mul_comm]; omega
    obtain ⟨r1, r2, r3, c, nc, ts, r4, r5⟩ := red_spec F (a.1 :: ps) (redStep line a) ok' (fun b hb p hp => by
      rcases List.mem_cons.mp hp with rfl | hp
      · exact pw.1 b hb
      · exact h1 b (List.mem_cons_of_mem _ hb) p hp) (fun p hp => by
      rcases List.mem_cons.mp hp with rfl | hp
      · exact za
      · rw [A, hl p hp, h1 a (by simp) p hp]
        split <;> simp) l1
    have e : red line (a :: F) = red (redStep line a) F := rfl
    rw [e]
    refine ⟨r1, fun p hp => r2 p (List.mem_cons_of_mem _ hp), fun b hb => ?_, ?_⟩
    · rcases List.mem_cons.mp hb with rfl | hb
      · exact r2 _ (by simp)
      · exact r3 b hb
    · by_cases z : at' line a.1 = 0
      · refine ⟨c, nc, 0 :: ts, by simp [r4], fun q => ?_⟩
        show _ = c * at' line q + (0 * at' a.2 q + comb ts (vecs F) q)
        rw [r5 q, A, if_pos z]
        omega
      · refine ⟨c * at' a.2 a.1, Int.mul_ne_zero nc na, (-(c * at' line a.1)) :: ts, by simp [r4], fun q => ?_⟩
        show _ = c * at' a.2 a.1 * at' line q + (-(c * at' line a.1) * at' a.2 q + comb ts (vecs F) q)
        rw [r5 q, A, if_neg z]
        grind
/-! ### the common divisor -/
theorem foldl_gcd_dvd : ∀ (l : List Int) (a : Int), (l.foldl (fun a x => ((Int.gcd a x : Nat) : Int)) a ∣ a) ∧ ∀ x ∈ l, l.foldl (fun a x => ((Int.gcd a x : Nat) : Int)) a ∣ x
  | [], a => ⟨Int.dvd_refl a, by simp⟩
  | x :: l, a => by
    obtain ⟨h1, h2⟩ := foldl_gcd_dvd l ((Int.gcd a x : Nat) : Int)
    refine ⟨Int.dvd_trans h1 (Int.gcd_dvd_left ..), fun y hy => ?_⟩
    rcases List.mem_cons.mp hy with rfl | hy
    · exact Int.dvd_trans h1 (Int.gcd_dvd_right ..)
    · exact h2 y hy
theorem gcdL_dvd {l : List Int} {x : Int} (h : x ∈ l) : gcdL l ∣ x := (foldl_gcd_dvd l 0).2 x h
theorem foldl_gcd_nonneg : ∀ (l : List Int) (a : Int), 0 ≤ a → 0 ≤ l.foldl (fun a x => ((Int.gcd a x : Nat) : Int)) a
  | [], a, h => h
  | x :: l, a, _ => foldl_gcd_nonneg l _ (Int.natCast_nonneg (Int.gcd a x))
theorem gcdL_nonneg (l : List Int) : 0 ≤ gcdL l := foldl_gcd_nonneg l 0 (by decide)
theorem gcdL_zero {l : List Int} (h : gcdL l = 0) {x : Int} (hx : x ∈ l) : x = 0 := by
  have := gcdL_dvd hx
  rw [h] at this
  exact Int.zero_dvd.mp this
theorem gcdL_of_zero : ∀ {l : List Int}, (∀ x ∈ l, x = 0) → gcdL l = 0
  | [], _ => rfl
  | x :: l, h => by
    have hx := h x (by simp)
    subst hx
    show l.foldl _ ((Int.gcd 0 0 : Nat) : Int) = 0
    exact gcdL_of_zero (l := l) fun y hy => h y (List.mem_cons_of_mem _ hy)
theorem at_mem {l : List Int} {q : Nat} (h : q < l.length) : at' l q ∈ l := by
  unfold at'
  rw [List.getD_eq_getElem?_getD, List.getElem?_eq_getElem h]
  exact List.getElem_mem h
theorem at_out {l : List Int} {q : Nat} (h : l.length ≤ q) : at' l q = 0 := by
  unfold at'
  rw [List.getD_eq_getElem?_getD, List.getElem?_eq_none h]
  rfl
theorem at_map_fdiv {l : List Int} {g : Int} (hg : 0 < g) (hd : ∀ x ∈ l, g ∣ x) (q : Nat) : g * at' (l.map fun x => x.fdiv g) q = at' l q := by
  by_cases h : q < l.length
  · have e : at' (l.map fun x => x.fdiv g) q = (at' l q).fdiv g := by
      unfold at'
      rw [List.getD_eq_getElem?_getD, List.getD_eq_getElem?_getD, List.getElem?_map, List.getElem?_eq_getElem h]
      rfl
    rw [e]
    obtain ⟨c, hc⟩ := hd _ (at_mem h)
    rw [hc, Int.mul_comm g c, Int.mul_fdiv_cancel _ (by omega), Int.mul_comm]
  · rw [at_out (by simp; omega), at_out (by omega)]
    simp
theorem firstNZ_spec {l : List Int} (h : ∃ x ∈ l, x ≠ 0) : firstNZ l < l.length ∧ at' l (firstNZ l) ≠ 0 := by
  unfold firstNZ
  cases e : l.findIdx? fun x => decide (x ≠ 0) with
  | none =>
    rw [List.findIdx?_eq_none_iff] at e
    obtain ⟨x, hx, nx⟩ := h
    have := e x hx
    simp at this
    exact absurd this nx
  | some i =>
    rw [List.findIdx?_eq_some_iff_getElem] at e
    obtain ⟨hi, h1, _⟩ := e
    refine ⟨hi, ?_⟩
    unfold at'
    rw [Option.getD_some, List.getD_eq_getElem?_getD, List.getElem?_eq_getElem hi]
    simpa using h1
/-! ### what the lines are of the rows -/
/-- each row, times something, is a combination of the lines; each line, times something, one of a row and of the lines ahead -/
structure Inv (m : Nat) (T : List (List Int)) (F : List (Nat × List Int)) (I : List Nat) : Prop where
  ok : Ok m F
  dep : ∀ r ∈ T, ∃ c : Int, c ≠ 0 ∧ ∃ ts : List Int, ts.length ≤ F.length ∧ ∀ q, c * at' r q = comb ts (vecs F) q
  len : I.length = F.length
  asc : I.Pairwise (· < ·)
  bd : ∀ i ∈ I, i < T.length
  rel : ∀ j, j < F.length → ∃ g c : Int, g ≠ 0 ∧ ∃ ts : List Int, ∀ q, g * at' (F.getD j (0, [])).2 q = c * at' (T.getD (I.getD j 0) []) q + comb ts (vecs (F.take j)) q
theorem inv_nil (m : Nat) : Inv m [] [] [] := ⟨⟨by simp, by simp, by simp, .nil⟩, by simp, rfl, .nil, by simp, fun j hj => absurd hj (by simp)⟩
theorem comb_short {ts : List Int} {F : List (Nat × List Int)} {b : Nat × List Int} {q : Nat} (h : ts.length ≤ F.length) : comb ts (vecs (F ++ [b])) q = comb ts (vecs F) q := by
  have : ∀ (ts : List Int) (vs : List (List Int)) (w : List Int), ts.length ≤ vs.length → comb ts (vs ++ [w]) q = comb ts vs q := by
    intro ts
    induction ts with
    | nil => intro vs w _; rw [comb_nil, comb_nil]
    | cons t ts ih =>
      intro vs w hl
      cases vs with
      | nil => simp at hl
      | cons v vs =>
        show t * at' v q + comb ts (vs ++ [w]) q = t * at' v q + comb ts vs q
        rw [ih vs w (by simpa using hl)]
  rw [vecs, List.map_append]
  exact this ts (vecs F) b.2 (by simpa using h)
theorem inv_add {m : Nat} {T : List (List Int)} {F : List (Nat × List Int)} {I : List Nat} (h : Inv m T F I) {r : List Int} (hr : r.length = m) : ∃ I', Inv m (T ++ [r]) (addRow F r) I' := by
  obtain ⟨r1, _, r3, c, nc, ts, r4, r5⟩ := red_spec F [] r h.ok (by simp) (by simp) hr
  have old : ∀ x ∈ T, ∀ G : List (Nat × List Int), ∀ b, (G = F ∨ G = F ++ [b]) → ∃ c : Int, c ≠ 0 ∧ ∃ ts : List Int, ts.length ≤ G.length ∧ ∀ q, c * at' x q = comb ts (vecs G) q := by
    intro x hx G b hG
    obtain ⟨c, nc, ts, l, e⟩ := h.dep x hx
    rcases hG with rfl | rfl
    · exact ⟨c, nc, ts, l, e⟩
    · exact ⟨c, nc, ts, by simp; omega, fun q => by rw [e q, comb_short l]⟩
  unfold addRow
  by_cases z : gcdL (red r F) > 0
  · rw [if_pos z]
    obtain ⟨L, hL⟩ : ∃ L, L = (red r F).map fun x => x.fdiv (gcdL (red r F)) := ⟨_, rfl⟩
    rw [← hL]
    have lat : ∀ q, gcdL (red r F) * at' L q = at' (red r F) q := fun q => by rw [hL]; exact at_map_fdiv z (fun x hx => gcdL_dvd hx) q
    have lL : L.length = m := by rw [hL, List.length_map, r1]
    have nzL : ∃ x ∈ L, x ≠ 0 := by
      apply Classical.byContradiction
      intro e
      have all : ∀ x ∈ L, x = 0 := fun x hx => Classical.byContradiction fun n => e ⟨x, hx, n⟩
      have : gcdL (red r F) = 0 := gcdL_of_zero fun x hx => by
        obtain ⟨q, hq, ex⟩ := List.getElem_of_mem hx
        have e1 : at' (red r F) q = x := by
          unfold at'
          rw [List.getD_eq_getElem?_getD, List.getElem?_eq_getElem hq, ex]
          rfl
        rw [← e1, ← lat q, all _ (at_mem (by rw [lL, ← r1]; exact hq))]
        simp
      omega
    obtain ⟨f1, f2⟩ := firstNZ_spec nzL
    refine ⟨I ++ [T.length], ⟨⟨?_, ?_, ?_, ?_⟩, ?_, ?_, ?_, ?_, ?_⟩⟩
    · intro a ha
      rcases List.mem_append.mp ha with q | q
      · exact h.ok.len a q
      · rw [List.mem_singleton.mp q]; exact lL
    · intro a ha
      rcases List.mem_append.mp ha with q | q
      · exact h.ok.lt a q
      · rw [List.mem_singleton.mp q]; show firstNZ L < m; omega
    · intro a ha
      rcases List.mem_append.mp ha with q | q
      · exact h.ok.nz a q
      · rw [List.mem_singleton.mp q]; exact f2
    · refine List.pairwise_append.mpr ⟨h.ok.tri, by simp, fun a ha b hb => ?_⟩
      rw [List.mem_singleton.mp hb]
      show at' L a.1 = 0
      have e1 := lat a.1
      rw [r3 a ha] at e1
      rcases Int.mul_eq_zero.mp e1 with e | e
      · omega
      · exact e
    · intro x hx
      rcases List.mem_append.mp hx with q | q
      · exact old x q _ _ (.inr rfl)
      · rw [List.mem_singleton.mp q]
        refine ⟨c, nc, ts.map (-1 * ·) ++ [gcdL (red r F)], by simp [r4], fun q => ?_⟩
        rw [vecs, List.map_append, comb_append (by simp [r4]), comb_scale]
        show _ = -1 * comb ts (vecs F) q + (gcdL (red r F) * at' L q + 0)
        rw [lat q, r5 q]
        omega
    · simp [h.len]
    · refine List.pairwise_append.mpr ⟨h.asc, by simp, fun a ha b hb => ?_⟩
      rw [List.mem_singleton.mp hb]
      exact h.bd a ha
    · intro i hi
      rw [List.length_append, List.length_singleton]
      rcases List.mem_append.mp hi with q | q
      · have := h.bd i q; omega
      · rw [List.mem_singleton.mp q]; omega
    · intro j hj
      rw [List.length_append, List.length_singleton] at hj
      by_cases e : j < F.length
      · obtain ⟨g, c, ng, ts, hh⟩ := h.rel j e
        refine ⟨g, c, ng, ts, fun q => ?_⟩
        have i1 : I.getD j 0 < T.length := by
          have hj' : j < I.length := by rw [h.len]; exact e
          rw [List.getD_eq_getElem?_getD, List.getElem?_eq_getElem hj']
          exact h.bd _ (List.getElem_mem hj')
        have e1 : (F ++ [(firstNZ L, L)]).getD j (0, []) = F.getD j (0, []) := by
          rw [List.getD_eq_getElem?_getD, List.getD_eq_getElem?_getD, List.getElem?_append_left e]
        have e2 : (I ++ [T.length]).getD j 0 = I.getD j 0 := by
          rw [List.getD_eq_getElem?_getD, List.getD_eq_getElem?_getD, List.getElem?_append_left (by rw [h.len]; exact e)]
        have e3 : (T ++ [r]).getD (I.getD j 0) [] = T.getD (I.getD j 0) [] := gl i1
        rw [e1, e2, e3, List.take_append_of_le_length (by omega)]
        exact hh q
      · have ej : j = F.length := by omega
        subst ej
        refine ⟨gcdL (red r F), c, by omega, ts, fun q => ?_⟩
        have e1 : (F ++ [(firstNZ L, L)]).getD F.length (0, []) = (firstNZ L, L) := by
          rw [List.getD_eq_getElem?_getD, List.getElem?_append_right (by omega), Nat.sub_self]; rfl
        have e2 : (I ++ [T.length]).getD F.length 0 = T.length := by
          rw [List.getD_eq_getElem?_getD, List.getElem?_append_right (by rw [h.len]; omega), h.len, Nat.sub_self]; rfl
        have e3 : (T ++ [r]).getD T.length [] = r := by
          rw [List.getD_eq_getElem?_getD, List.getElem?_append_right (by omega), Nat.sub_self]; rfl
        rw [e1, e2, e3, List.take_left]
        rw [lat q, r5 q]
  · rw [if_neg z]
    have g0 : gcdL (red r F) = 0 := by have := gcdL_nonneg (red r F); omega
    have all : ∀ q, at' (red r F) q = 0 := fun q => by
      by_cases hq : q < (red r F).length
      · exact gcdL_zero g0 (at_mem hq)
      · exact at_out (by omega)
    refine ⟨I, h.ok, ?_, h.len, h.asc, fun i hi => by rw [List.length_append, List.length_singleton]; have := h.bd i hi; omega, fun j hj => ?_⟩
    · intro x hx
      rcases List.mem_append.mp hx with q | q
      · exact old x q _ (0, []) (.inl rfl)
      · rw [List.mem_singleton.mp q]
        refine ⟨c, nc, ts.map (-1 * ·), by simp [r4], fun q => ?_⟩
        rw [comb_scale]
        have := r5 q
        rw [all q] at this
        omega
    · obtain ⟨g, c, ng, ts, hh⟩ := h.rel j hj
      have i1 : I.getD j 0 < T.length := by
        have hj' : j < I.length := by rw [h.len]; exact hj
        rw [List.getD_eq_getElem?_getD, List.getElem?_eq_getElem hj']
        exact h.bd _ (List.getElem_mem hj')
      have e3 : (T ++ [r]).getD (I.getD j 0) [] = T.getD (I.getD j 0) [] := gl i1
      refine ⟨g, c, ng, ts, fun q => ?_⟩
      rw [e3]
      exact hh q
theorem inv_lines {m : Nat} {T : List (List Int)} (h : ∀ r ∈ T, r.length = m) : ∃ I, Inv m T (lines T) I := by
  have key : ∀ (rest done : List (List Int)) (F : List (Nat × List Int)) (I : List Nat), Inv m done F I → (∀ r ∈ rest, r.length = m) → ∃ I', Inv m (done ++ rest) (rest.foldl addRow F) I' := by
    intro rest
    induction rest with
    | nil => intro done F I h _; exact ⟨I, by simpa using h⟩
    | cons r rest ih =>
      intro done F I h hr
      obtain ⟨I1, h1⟩ := inv_add h (hr r (by simp))
      obtain ⟨I2, h2⟩ := ih (done ++ [r]) (addRow F r) I1 h1 (fun x hx => hr x (List.mem_cons_of_mem _ hx))
      exact ⟨I2, by simpa using h2⟩
  have := key T [] [] [] (inv_nil m) h
  simpa [lines] using this
end R74
/-! H91A: middles of lots along directions (no program). -/
namespace HV
abbrev P2 := Int × Int
def val (d w : P2) : Int := d.1 * w.1 + d.2 * w.2
def srt (l : List Int) : List Int := l.mergeSort fun a b => decide (a ≤ b)
theorem srt_pw (l : List Int) : (srt l).Pairwise (· ≤ ·) := by
  have := List.pairwise_mergeSort (le := fun a b : Int => decide (a ≤ b)) (fun a b c h1 h2 => by simp at *; omega) (fun a b => by simp; omega) l
  exact this.imp fun {a b} h => by simpa using h
theorem srt_perm (l : List Int) : (srt l).Perm l := List.mergeSort_perm _ _
theorem srt_len (l : List Int) : (srt l).length = l.length := List.length_mergeSort _
theorem srt_uniq {l s : List Int} (h : s.Pairwise (· ≤ ·)) (p : s.Perm l) : srt l = s :=
  List.Perm.eq_of_pairwise (fun _ _ _ _ a b => Int.le_antisymm a b) (srt_pw l) h ((srt_perm l).trans p.symm)
def lowM (L : List P2) (d : P2) : Int := (srt (L.map (val d))).getD ((L.length - 1) / 2) 0
def highM (L : List P2) (d : P2) : Int := (srt (L.map (val d))).getD (L.length / 2) 0
def mid2 (L : List P2) (d : P2) : Int := lowM L d + highM L d
def cmb (a b : Int) (d e : P2) : P2 := (a * d.1 + b * e.1, a * d.2 + b * e.2)
theorem val_cmb (a b : Int) (d e w : P2) : val (cmb a b d e) w = a * val d w + b * val e w := by simp only [val, cmb]; grind
def Com (L : List P2) (d e : P2) : Prop := ∀ w ∈ L, ∀ w' ∈ L, 0 ≤ (val d w - val d w') * (val e w - val e w')
theorem com_order {L : List P2} {d e : P2} (h : Com L d e) : ∃ S : List P2, S.Perm L ∧ (S.map (val d)).Pairwise (· ≤ ·) ∧ (S.map (val e)).Pairwise (· ≤ ·) := by
  refine ⟨L.mergeSort fun a b => decide (val d a < val d b ∨ (val d a = val d b ∧ val e a ≤ val e b)), List.mergeSort_perm _ _, ?_, ?_⟩
  all_goals
    have pw := List.pairwise_mergeSort (le := fun a b : P2 => decide (val d a < val d b ∨ (val d a = val d b ∧ val e a ≤ val e b))) (fun a b c h1 h2 => by simp at *; omega) (fun a b => by simp; omega) L
    rw [List.pairwise_map]
  · exact pw.imp fun {a b} h => by simp at h; omega
  · refine List.Pairwise.imp_of_mem (fun {a b} ha hb q => ?_) pw
    have ha := List.mem_mergeSort.mp ha
    have hb := List.mem_mergeSort.mp hb
    simp at q
    rcases q with q | q
    · have := h a ha b hb
      rcases Int.lt_or_le (val e b) (val e a) with z | z
      · have : (val d b - val d a) * (val e a - val e b) > 0 := Int.mul_pos (by omega) (by omega)
        have e1 : (val d a - val d b) * (val e a - val e b) = -((val d b - val d a) * (val e a - val e b)) := by grind
        omega
      · exact z
    · exact q.2
theorem at_cmb {S : List P2} {d e : P2} {a b : Int} {i : Nat} (hi : i < S.length) : (S.map (val (cmb a b d e))).getD i 0 = a * (S.map (val d)).getD i 0 + b * (S.map (val e)).getD i 0 := by
  simp [List.getD_eq_getElem?_getD, hi, val_cmb]
theorem mids_cmb {L : List P2} {d e : P2} (h : Com L d e) (hL : L ≠ []) {a b : Int} (ha : 0 ≤ a) (hb : 0 ≤ b) : lowM L (cmb a b d e) = a * lowM L d + b * lowM L e ∧ highM L (cmb a b d e) = a * highM L d + b * highM L e := by
  obtain ⟨S, p, h1, h2⟩ := com_order h
  have l := p.length_eq
  have l0 : 0 < L.length := List.length_pos_iff.mpr hL
  have h3 : (S.map (val (cmb a b d e))).Pairwise (· ≤ ·) := by
    rw [List.pairwise_map] at h1 h2 ⊢
    refine (h1.and h2).imp fun {x y} q => ?_
    rw [val_cmb, val_cmb]
    have q1 := Int.mul_le_mul_of_nonneg_left q.1 ha
    have q2 := Int.mul_le_mul_of_nonneg_left q.2 hb
    omega
  have e1 : srt (L.map (val d)) = S.map (val d) := srt_uniq h1 (p.map _)
  have e2 : srt (L.map (val e)) = S.map (val e) := srt_uniq h2 (p.map _)
  have e3 : srt (L.map (val (cmb a b d e))) = S.map (val (cmb a b d e)) := srt_uniq h3 (p.map _)
  unfold lowM highM
  rw [e1, e2, e3]
  exact ⟨at_cmb (by omega), at_cmb (by omega)⟩
theorem com_self (L : List P2) (d : P2) : Com L d d := fun w _ w' _ => by
  generalize val d w - val d w' = x
  rcases Int.le_total 0 x with h | h
  · exact Int.mul_nonneg h h
  · exact Int.mul_nonneg_of_nonpos_of_nonpos h h
def scl (k : Int) (d : P2) : P2 := (k * d.1, k * d.2)
theorem scl_cmb (k : Int) (d : P2) : cmb k 0 d d = scl k d := by simp [cmb, scl]
theorem mids_scl {L : List P2} (hL : L ≠ []) {k : Int} (hk : 0 ≤ k) (d : P2) : lowM L (scl k d) = k * lowM L d ∧ highM L (scl k d) = k * highM L d := by
  have := mids_cmb (com_self L d) hL hk (Int.le_refl 0)
  rw [scl_cmb] at this
  simpa using this
theorem mid2_scl {L : List P2} (hL : L ≠ []) {k : Int} (hk : 0 ≤ k) (d : P2) : mid2 L (scl k d) = k * mid2 L d := by
  have := mids_scl hL hk d
  simp only [mid2, this.1, this.2]; grind
theorem mid2_cmb {L : List P2} {d e : P2} (h : Com L d e) (hL : L ≠ []) {a b : Int} (ha : 0 ≤ a) (hb : 0 ≤ b) : mid2 L (cmb a b d e) = a * mid2 L d + b * mid2 L e := by
  have := mids_cmb h hL ha hb
  simp only [mid2, this.1, this.2]; grind
def opp (d : P2) : P2 := (-d.1, -d.2)
theorem mids_opp {L : List P2} (hL : L ≠ []) (d : P2) : lowM L (opp d) = -highM L d ∧ highM L (opp d) = -lowM L d := by
  have l0 : 0 < L.length := List.length_pos_iff.mpr hL
  have e : srt (L.map (val (opp d))) = ((srt (L.map (val d))).map fun x => -x).reverse := by
    refine srt_uniq ?_ ?_
    · rw [List.pairwise_reverse, List.pairwise_map]
      exact (srt_pw _).imp fun {a b} h => by omega
    · refine (List.reverse_perm _).trans ?_
      refine ((srt_perm _).map _).trans ?_
      rw [List.map_map]
      have : ((fun x => -x) ∘ val d) = val (opp d) := by
        funext w
        simp only [Function.comp_apply, val, opp]; grind
      rw [this]
  have l := srt_len (L.map (val d))
  rw [List.length_map] at l
  unfold lowM highM
  rw [e]
  constructor
  · rw [List.getD_eq_getElem?_getD, List.getElem?_reverse (by simp; omega), List.getElem?_map, List.getD_eq_getElem?_getD, List.length_map, l]
    have : L.length - 1 - (L.length - 1) / 2 = L.length / 2 := by omega
    rw [this, List.getElem?_eq_getElem (by omega)]
    simp
  · rw [List.getD_eq_getElem?_getD, List.getElem?_reverse (by simp; omega), List.getElem?_map, List.getD_eq_getElem?_getD, List.length_map, l]
    have : L.length - 1 - L.length / 2 = (L.length - 1) / 2 := by omega
    rw [this, List.getElem?_eq_getElem (by omega)]
    simp
theorem mid2_opp {L : List P2} (hL : L ≠ []) (d : P2) : mid2 L (opp d) = -mid2 L d := by
  have := mids_opp hL d
  simp only [mid2, this.1, this.2]; omega
/-! ### counts -/
theorem cnt_more {s : List Int} (h : s.Pairwise (· ≤ ·)) (h0 : 0 < s.length) (c : Int) : 2 * s.countP (fun x => decide (x > c)) ≤ s.length ↔ s.getD ((s.length - 1) / 2) 0 ≤ c := by
  have hm : (s.length - 1) / 2 < s.length := by omega
  have e : s.getD ((s.length - 1) / 2) 0 = s[(s.length - 1) / 2] := by rw [List.getD_eq_getElem?_getD, List.getElem?_eq_getElem hm]; rfl
  rw [e]
  have split := List.take_append_drop ((s.length - 1) / 2) s
  have cd : s.countP (fun x => decide (x > c)) = (s.take ((s.length - 1) / 2)).countP (fun x => decide (x > c)) + (s.drop ((s.length - 1) / 2)).countP (fun x => decide (x > c)) := by rw [← List.countP_append, split]
  have dl : s.drop ((s.length - 1) / 2) = s[(s.length - 1) / 2] :: s.drop ((s.length - 1) / 2 + 1) := List.drop_eq_getElem_cons hm
  have pw := List.pairwise_iff_getElem.mp h
  constructor
  · intro q
    rcases Int.lt_or_le c s[(s.length - 1) / 2] with z | z
    · exfalso
      have : (s.drop ((s.length - 1) / 2)).countP (fun x => decide (x > c)) = (s.drop ((s.length - 1) / 2)).length := by
        rw [List.countP_eq_length]
        intro x hx
        obtain ⟨j, hj, rfl⟩ := List.getElem_of_mem hx
        rw [List.getElem_drop]
        have := pw ((s.length - 1) / 2) ((s.length - 1) / 2 + j) hm (by rw [List.length_drop] at hj; omega)
        by_cases j0 : j = 0
        · subst j0; simpa using z
        · have := this (by omega)
          simp; omega
      rw [List.length_drop] at this
      omega
    · exact z
  · intro z
    have : s.countP (fun x => decide (x > c)) ≤ (s.drop ((s.length - 1) / 2 + 1)).length := by
      rw [cd, dl, List.countP_cons]
      have t0 : (s.take ((s.length - 1) / 2)).countP (fun x => decide (x > c)) = 0 := by
        rw [List.countP_eq_zero]
        intro x hx
        obtain ⟨j, hj, rfl⟩ := List.getElem_of_mem hx
        rw [List.getElem_take]
        rw [List.length_take] at hj
        have := pw j ((s.length - 1) / 2) (by omega) hm (by omega)
        simp; omega
      have n0 : decide (s[(s.length - 1) / 2] > c) = false := by simp; omega
      rw [t0, n0]
      have := List.countP_le_length (p := fun x => decide (x > c)) (l := s.drop ((s.length - 1) / 2 + 1))
      simp only [Bool.false_eq_true, if_false]
      omega
    rw [List.length_drop] at this
    omega
theorem cnt_less {s : List Int} (h : s.Pairwise (· ≤ ·)) (h0 : 0 < s.length) (c : Int) : 2 * s.countP (fun x => decide (x < c)) ≤ s.length ↔ c ≤ s.getD (s.length / 2) 0 := by
  have key := cnt_more (s := (s.map fun x => -x).reverse) (by
    rw [List.pairwise_reverse, List.pairwise_map]
    exact h.imp fun {a b} q => by omega) (by simpa using h0) (-c)
  rw [List.countP_reverse, List.countP_map, List.length_reverse, List.length_map] at key
  have e1 : ((fun x => decide (x > -c)) ∘ fun x : Int => -x) = fun x => decide (x < c) := by
    funext x
    simp only [Function.comp_apply]
    apply decide_eq_decide.mpr
    omega
  rw [e1] at key
  rw [key, List.getD_eq_getElem?_getD, List.getElem?_reverse (by simp; omega), List.getElem?_map, List.getD_eq_getElem?_getD, List.length_map]
  have : s.length - 1 - (s.length - 1) / 2 = s.length / 2 := by omega
  rw [this, List.getElem?_eq_getElem (by omega)]
  simp only [Option.map_some, Option.getD_some]
  omega
def moreN (L : List P2) (d : P2) (c : Int) : Nat := L.countP fun w => decide (val d w > c)
def lessN (L : List P2) (d : P2) (c : Int) : Nat := L.countP fun w => decide (val d w < c)
theorem more_iff {L : List P2} (hL : L ≠ []) (d : P2) (c : Int) : 2 * moreN L d c ≤ L.length ↔ lowM L d ≤ c := by
  have l := srt_len (L.map (val d))
  rw [List.length_map] at l
  have := cnt_more (srt_pw (L.map (val d))) (by have := List.length_pos_iff.mpr hL; omega) c
  rw [l, (srt_perm (L.map (val d))).countP_eq, List.countP_map] at this
  exact this
theorem less_iff {L : List P2} (hL : L ≠ []) (d : P2) (c : Int) : 2 * lessN L d c ≤ L.length ↔ c ≤ highM L d := by
  have l := srt_len (L.map (val d))
  rw [List.length_map] at l
  have := cnt_less (srt_pw (L.map (val d))) (by have := List.length_pos_iff.mpr hL; omega) c
  rw [l, (srt_perm (L.map (val d))).countP_eq, List.countP_map] at this
  exact this
theorem low_le_high {L : List P2} (hL : L ≠ []) (d : P2) : lowM L d ≤ highM L d := by
  have h := List.pairwise_iff_getElem.mp (srt_pw (L.map (val d)))
  have l := srt_len (L.map (val d))
  rw [List.length_map] at l
  have l0 : 0 < L.length := List.length_pos_iff.mpr hL
  unfold lowM highM
  rw [List.getD_eq_getElem?_getD, List.getD_eq_getElem?_getD, List.getElem?_eq_getElem (by omega), List.getElem?_eq_getElem (by omega)]
  simp only [Option.getD_some]
  by_cases e : (L.length - 1) / 2 = L.length / 2
  · simp only [e]; exact Int.le_refl _
  · exact h _ _ _ _ (by omega)
end HV
/-! H91B: shares of a way, the line of changes, the first nought (no program). -/
namespace HV
def dirAt (b e t : P2) : P2 := (b.1 * (t.2 - t.1) + e.1 * t.1, b.2 * (t.2 - t.1) + e.2 * t.1)
def gc (p q : Int) : Int := ((Nat.gcd p.natAbs q.natAbs : Nat) : Int)
def red (p q : Int) : P2 := (p.fdiv (if q > 0 then gc p q else -gc p q), q.fdiv (if q > 0 then gc p q else -gc p q))
theorem gc_pos {p q : Int} (h : q ≠ 0) : 0 < gc p q := by
  have : 0 < Nat.gcd p.natAbs q.natAbs := Nat.gcd_pos_of_pos_right _ (by omega)
  unfold gc; omega
theorem gc_pos' {p q : Int} (h : p ≠ 0) : 0 < gc p q := by
  have : 0 < Nat.gcd p.natAbs q.natAbs := Nat.gcd_pos_of_pos_left _ (by omega)
  unfold gc; omega
theorem gc_dl (p q : Int) : gc p q ∣ p := Int.ofNat_dvd_left.mpr (Nat.gcd_dvd_left _ _)
theorem gc_dr (p q : Int) : gc p q ∣ q := Int.ofNat_dvd_left.mpr (Nat.gcd_dvd_right _ _)
theorem fdiv_k {k x : Int} (hk : k ≠ 0) (h : k ∣ x) : k * x.fdiv k = x := by
  obtain ⟨y, rfl⟩ := h
  rw [Int.mul_fdiv_cancel_left _ hk]
theorem red_spec {p q : Int} (h : q ≠ 0) : ∃ k : Int, k ≠ 0 ∧ p = k * (red p q).1 ∧ q = k * (red p q).2 ∧ 0 < (red p q).2 := by
  have g := gc_pos (p := p) h
  have kn : (if q > 0 then gc p q else -gc p q) ≠ 0 := by split <;> omega
  have d1 : (if q > 0 then gc p q else -gc p q) ∣ p := by
    split
    · exact gc_dl p q
    · exact Int.neg_dvd.mpr (gc_dl p q)
  have d2 : (if q > 0 then gc p q else -gc p q) ∣ q := by
    split
    · exact gc_dr p q
    · exact Int.neg_dvd.mpr (gc_dr p q)
  have e2 := fdiv_k kn d2
  refine ⟨_, kn, (fdiv_k kn d1).symm, e2.symm, ?_⟩
  show 0 < q.fdiv (if q > 0 then gc p q else -gc p q)
  generalize q.fdiv (if q > 0 then gc p q else -gc p q) = y at e2
  by_cases z : q > 0
  · rw [if_pos z] at e2
    rcases Int.lt_or_le 0 y with w | w
    · exact w
    · have := Int.mul_nonpos_of_nonneg_of_nonpos (Int.le_of_lt g) w
      omega
  · rw [if_neg z] at e2
    rcases Int.lt_or_le 0 y with w | w
    · exact w
    · have := Int.mul_nonneg_of_nonpos_of_nonpos (a := -gc p q) (b := y) (by omega) w
      omega
theorem red_x {p q : Int} (h : q ≠ 0) : 0 < (red p q).2 ∧ (red p q).1 * q = p * (red p q).2 := by
  obtain ⟨k, hk, e1, e2, e3⟩ := red_spec (p := p) h
  refine ⟨e3, ?_⟩
  have : (red p q).1 * q = (red p q).1 * (k * (red p q).2) := by rw [← e2]
  rw [this]
  have : p * (red p q).2 = (k * (red p q).1) * (red p q).2 := by rw [← e1]
  rw [this]; grind
theorem red_sign {p q : Int} (h : 0 < q) : ((red p q).1 = 0 ↔ p = 0) ∧ ((red p q).1 < 0 ↔ p < 0) ∧ (0 < (red p q).1 ↔ 0 < p) := by
  obtain ⟨h1, h2⟩ := red_x (p := p) (q := q) (by omega)
  have key : ∀ a b c d : Int, 0 < b → 0 < d → a * b = c * d → (a = 0 ↔ c = 0) ∧ (a < 0 ↔ c < 0) ∧ (0 < a ↔ 0 < c) := by
    intro a b c d hb hd e
    rcases Int.lt_trichotomy a 0 with x | x | x <;> rcases Int.lt_trichotomy c 0 with y | y | y
    · omega
    · have := Int.mul_neg_of_neg_of_pos x hb; rw [y] at e; omega
    · have := Int.mul_neg_of_neg_of_pos x hb; have := Int.mul_pos y hd; omega
    · have := Int.mul_neg_of_neg_of_pos y hd; rw [x] at e; omega
    · omega
    · have := Int.mul_pos y hd; rw [x] at e; omega
    · have := Int.mul_pos x hb; have := Int.mul_neg_of_neg_of_pos y hd; omega
    · have := Int.mul_pos x hb; rw [y] at e; omega
    · omega
  exact key _ _ _ _ h h1 h2
theorem mul_neg_iff {a b c d : Int} (h1 : (a = 0 ↔ c = 0) ∧ (a < 0 ↔ c < 0) ∧ (0 < a ↔ 0 < c)) (h2 : (b = 0 ↔ d = 0) ∧ (b < 0 ↔ d < 0) ∧ (0 < b ↔ 0 < d)) : a * b < 0 ↔ c * d < 0 := by
  obtain ⟨x0, x1, x2⟩ := h1
  obtain ⟨y0, y1, y2⟩ := h2
  have key : ∀ a b : Int, a * b < 0 ↔ (a < 0 ∧ 0 < b) ∨ (0 < a ∧ b < 0) := by
    intro a b
    rcases Int.lt_trichotomy a 0 with x | x | x <;> rcases Int.lt_trichotomy b 0 with y | y | y
    · have := Int.mul_pos_of_neg_of_neg x y; omega
    · subst y; omega
    · have := Int.mul_neg_of_neg_of_pos x y; omega
    · subst x; omega
    · subst x; omega
    · subst x; omega
    · have := Int.mul_neg_of_pos_of_neg x y; omega
    · subst y; omega
    · have := Int.mul_pos x y; omega
  rw [key, key]; omega
/-! ### the line -/
def lessS (a b : P2) : Bool := decide (a.1 * b.2 < b.1 * a.2)
def leS (a b : P2) : Prop := a.1 * b.2 ≤ b.1 * a.2
def cntS (l : List P2) (s : P2) : Nat := (l.filter fun a => lessS a s).length
def insS (l : List P2) (s : P2) : List P2 := l.take (cntS l s) ++ s :: l.drop (cntS l s)
def lineS (K : List P2) : List P2 := K.foldl insS []
def Pd (l : List P2) : Prop := ∀ a ∈ l, 0 < a.2
theorem leS_trans {a b c : P2} (ha : 0 < a.2) (hb : 0 < b.2) (hc : 0 < c.2) (h1 : leS a b) (h2 : leS b c) : leS a c := by
  unfold leS at *
  have q1 := Int.mul_le_mul_of_nonneg_right h1 (Int.le_of_lt hc)
  have q2 := Int.mul_le_mul_of_nonneg_right h2 (Int.le_of_lt ha)
  have e1 : a.1 * b.2 * c.2 = b.2 * (a.1 * c.2) := by grind
  have e2 : c.1 * b.2 * a.2 = b.2 * (c.1 * a.2) := by grind
  have e3 : b.1 * a.2 * c.2 = b.1 * c.2 * a.2 := by grind
  exact Int.le_of_mul_le_mul_left (a := b.2) (by omega) hb
theorem cntS_split {s : P2} (hs : 0 < s.2) : ∀ {l : List P2}, l.Pairwise leS → Pd l → (∀ a ∈ l.take (cntS l s), lessS a s = true) ∧ (∀ a ∈ l.drop (cntS l s), leS s a)
  | [], _, _ => ⟨by simp, by simp⟩
  | a :: l, h, hp => by
    obtain ⟨h1, h2⟩ := List.pairwise_cons.mp h
    obtain ⟨i1, i2⟩ := cntS_split hs h2 fun x hx => hp x (List.mem_cons_of_mem _ hx)
    by_cases z : lessS a s = true
    · have e : cntS (a :: l) s = cntS l s + 1 := by simp [cntS, z]
      rw [e]
      refine ⟨fun x hx => ?_, fun x hx => i2 x (by simpa using hx)⟩
      rw [List.take_succ_cons] at hx
      rcases List.mem_cons.mp hx with rfl | hx
      · exact z
      · exact i1 x hx
    · have za : leS s a := by
        unfold lessS at z
        unfold leS
        simp at z
        exact z
      have all : ∀ x ∈ l, leS s x := fun x hx => leS_trans hs (hp a (by simp)) (hp x (List.mem_cons_of_mem _ hx)) za (h1 x hx)
      have e : cntS (a :: l) s = 0 := by
        unfold cntS
        rw [List.length_eq_zero_iff, List.filter_eq_nil_iff]
        intro x hx
        have : leS s x := by
          rcases List.mem_cons.mp hx with rfl | hx
          · exact za
          · exact all x hx
        unfold leS at this
        unfold lessS
        simp
        exact this
      rw [e]
      refine ⟨by simp, fun x hx => ?_⟩
      rcases List.mem_cons.mp (by simpa using hx) with rfl | hx
      · exact za
      · exact all x hx
theorem mem_insS {l : List P2} {s x : P2} : x ∈ insS l s ↔ x ∈ l ∨ x = s := by
  unfold insS
  rw [List.mem_append, List.mem_cons]
  have : x ∈ l ↔ x ∈ l.take (cntS l s) ∨ x ∈ l.drop (cntS l s) := by rw [← List.mem_append, List.take_append_drop]
  rw [this]
  constructor
  · rintro (h | h | h)
    · exact .inl (.inl h)
    · exact .inr h
    · exact .inl (.inr h)
  · rintro ((h | h) | h)
    · exact .inl h
    · exact .inr (.inr h)
    · exact .inr (.inl h)
theorem insS_ok {l : List P2} {s : P2} (h : l.Pairwise leS) (hp : Pd l) (hs : 0 < s.2) : (insS l s).Pairwise leS ∧ Pd (insS l s) := by
  obtain ⟨i1, i2⟩ := cntS_split hs h hp
  refine ⟨?_, fun x hx => ?_⟩
  · unfold insS
    have h' : (l.take (cntS l s) ++ l.drop (cntS l s)).Pairwise leS := by rw [List.take_append_drop]; exact h
    obtain ⟨a1, a2, a3⟩ := List.pairwise_append.mp h'
    refine List.pairwise_append.mpr ⟨a1, List.pairwise_cons.mpr ⟨i2, a2⟩, fun x hx y hy => ?_⟩
    rcases List.mem_cons.mp hy with rfl | hy
    · have := i1 x hx
      unfold lessS at this
      unfold leS
      simp at this
      omega
    · exact a3 x hx y hy
  · rcases mem_insS.mp hx with h | h
    · exact hp x h
    · rw [h]; exact hs
theorem lineS_ok : ∀ (K l : List P2), l.Pairwise leS → Pd l → Pd K → (K.foldl insS l).Pairwise leS ∧ Pd (K.foldl insS l) ∧ ∀ x, x ∈ K.foldl insS l ↔ x ∈ l ∨ x ∈ K
  | [], l, h, hp, _ => ⟨h, hp, by simp⟩
  | s :: K, l, h, hp, hk => by
    obtain ⟨a, b⟩ := insS_ok h hp (hk s (by simp))
    obtain ⟨c, d, e⟩ := lineS_ok K (insS l s) a b fun x hx => hk x (List.mem_cons_of_mem _ hx)
    refine ⟨c, d, fun x => ?_⟩
    rw [List.foldl_cons, e, mem_insS, List.mem_cons]
    constructor
    · rintro ((h | h) | h) <;> simp [h]
    · rintro (h | h | h) <;> simp [h]
theorem insS_len (l : List P2) (s : P2) : (insS l s).length = l.length + 1 := by
  unfold insS
  have := List.length_filter_le (fun a => lessS a s) l
  simp [cntS]
  omega
/-! ### changes -/
def sub (w z : P2) : P2 := (w.1 - z.1, w.2 - z.2)
def chg1 (b e w z : P2) : List P2 := if val b (sub w z) * val e (sub w z) < 0 then [red (val b (sub w z)) (val b (sub w z) - val e (sub w z))] else []
def chgs (b e : P2) : List P2 → List P2 → List P2
  | _, [] => []
  | done, w :: rest => done.flatMap (chg1 b e w) ++ chgs b e (done ++ [w]) rest
def putP (K : List P2) (s : P2) : List P2 := if s ∈ K then K else K ++ [s]
def known (b e : P2) (one other : List P2) : List P2 := (chgs b e [] one ++ chgs b e [] other).foldl putP [(0, 1), (1, 1)]
theorem mem_putP {K : List P2} {s x : P2} : x ∈ putP K s ↔ x ∈ K ∨ x = s := by
  unfold putP
  split
  · constructor
    · exact .inl
    · rintro (h | h)
      · exact h
      · rw [h]; assumption
  · simp
theorem mem_puts : ∀ (S K : List P2) (x : P2), x ∈ S.foldl putP K ↔ x ∈ K ∨ x ∈ S
  | [], K, x => by simp
  | s :: S, K, x => by
    rw [List.foldl_cons, mem_puts S, mem_putP, List.mem_cons]
    constructor
    · rintro ((h | h) | h) <;> simp [h]
    · rintro (h | h | h) <;> simp [h]
theorem puts_len : ∀ (S K : List P2), (S.foldl putP K).length ≤ K.length + S.length
  | [], K => by simp
  | s :: S, K => by
    have := puts_len S (putP K s)
    have e : (putP K s).length ≤ K.length + 1 := by unfold putP; split <;> simp
    simp only [List.foldl_cons, List.length_cons]
    omega
/-- once more: nothing new -/
theorem putP_old {K : List P2} {s : P2} (h : s ∈ K) : putP K s = K := if_pos h
theorem puts_dedup : ∀ (S K L : List P2), (∀ x ∈ K, x ∈ L) → (S.foldl putP K).foldl putP L = S.foldl putP L
  | [], K, L, h => by
    show K.foldl putP L = L
    induction K with
    | nil => rfl
    | cons k K ih =>
      rw [List.foldl_cons, putP_old (h k (by simp))]
      exact ih fun x hx => h x (List.mem_cons_of_mem _ hx)
  | s :: S, K, L, h => by
    rw [List.foldl_cons, List.foldl_cons]
    by_cases z : s ∈ K
    · rw [putP_old z, putP_old (h s z)]
      exact puts_dedup S K L h
    · have e : putP K s = K ++ [s] := if_neg z
      have key : ∀ (S K L : List P2), (S.foldl putP K).foldl putP L = S.foldl putP (K.foldl putP L) := by
        intro S
        induction S with
        | nil => intro K L; rfl
        | cons s S ih =>
          intro K L
          rw [List.foldl_cons, List.foldl_cons, ih]
          congr 1
          by_cases z : s ∈ K
          · rw [putP_old z, putP_old ((mem_puts K L s).mpr (.inr z))]
          · have e : putP K s = K ++ [s] := if_neg z
            rw [e, List.foldl_append]
            rfl
      rw [key, e, List.foldl_append]
      congr 1
      have : K.foldl putP L = L := by
        clear e z key
        induction K with
        | nil => rfl
        | cons k K ih =>
          rw [List.foldl_cons, putP_old (h k (by simp))]
          exact ih fun x hx => h x (List.mem_cons_of_mem _ hx)
      rw [this]
      rfl
theorem mem_chgs {b e : P2} : ∀ (rest done : List P2) (w z : P2), (∃ l1 l2, rest = l1 ++ w :: l2 ∧ z ∈ done ++ l1) → ∀ x ∈ chg1 b e w z, x ∈ chgs b e done rest
  | [], done, w, z, ⟨l1, l2, h, _⟩, x, _ => by simp at h
  | r :: rest, done, w, z, ⟨l1, l2, h, hz⟩, x, hx => by
    unfold chgs
    rw [List.mem_append]
    cases l1 with
    | nil =>
      rw [List.nil_append, List.cons.injEq] at h
      obtain ⟨rfl, rfl⟩ := h
      exact .inl (List.mem_flatMap.mpr ⟨z, by simpa using hz, hx⟩)
    | cons a l1 =>
      rw [List.cons_append, List.cons.injEq] at h
      obtain ⟨rfl, rfl⟩ := h
      exact .inr (mem_chgs _ (done ++ [r]) w z ⟨l1, l2, rfl, by simpa using hz⟩ x hx)
theorem chgs_all {b e : P2} {P : P2 → Prop} (h : ∀ w z, ∀ x ∈ chg1 b e w z, P x) : ∀ (rest done : List P2), ∀ x ∈ chgs b e done rest, P x
  | [], _, x, hx => by simp [chgs] at hx
  | r :: rest, done, x, hx => by
    unfold chgs at hx
    rcases List.mem_append.mp hx with q | q
    · obtain ⟨z, _, hz⟩ := List.mem_flatMap.mp q
      exact h r z x hz
    · exact chgs_all h rest _ x q
theorem neg_cases {a b : Int} (h : a * b < 0) : (a < 0 ∧ 0 < b) ∨ (0 < a ∧ b < 0) := by
  rcases Int.lt_trichotomy a 0 with x | x | x <;> rcases Int.lt_trichotomy b 0 with y | y | y
  · have := Int.mul_pos_of_neg_of_neg x y; omega
  · subst y; omega
  · exact .inl ⟨x, y⟩
  · subst x; omega
  · subst x; omega
  · subst x; omega
  · exact .inr ⟨x, y⟩
  · subst y; omega
  · have := Int.mul_pos x y; omega
/-- a share from 0 to 1 -/
def Sh (t : P2) : Prop := 0 < t.2 ∧ 0 ≤ t.1 ∧ t.1 ≤ t.2
theorem chg1_sh {b e w z : P2} : ∀ x ∈ chg1 b e w z, Sh x := by
  intro x hx
  unfold chg1 at hx
  split at hx
  · rename_i h
    rw [List.mem_singleton.mp hx]
    generalize val b (sub w z) = l at *
    generalize val e (sub w z) = m at *
    have c := neg_cases h
    obtain ⟨k, kn, e1, e2, e3⟩ := red_spec (p := l) (q := l - m) (by omega)
    unfold Sh
    generalize (red l (l - m)).1 = p at *
    generalize (red l (l - m)).2 = q at *
    refine ⟨e3, ?_⟩
    have e4 : m = k * (p - q) := by rw [Int.mul_sub]; omega
    rcases c with ⟨c1, c2⟩ | ⟨c1, c2⟩
    · have kneg : k < 0 := by
        rcases Int.lt_or_le k 0 with y | y
        · exact y
        · exfalso
          have : 0 ≤ k * q := Int.mul_nonneg y (Int.le_of_lt e3)
          omega
      constructor
      · rcases Int.lt_or_le p 0 with y | y
        · have := Int.mul_pos_of_neg_of_neg kneg y; omega
        · exact y
      · rcases Int.lt_or_le q p with y | y
        · have := Int.mul_neg_of_neg_of_pos (b := p - q) kneg (by omega); omega
        · exact y
    · have kpos : 0 < k := by
        rcases Int.lt_or_le 0 k with y | y
        · exact y
        · exfalso
          have := Int.mul_nonpos_of_nonpos_of_nonneg y (Int.le_of_lt e3)
          omega
      constructor
      · rcases Int.lt_or_le p 0 with y | y
        · have := Int.mul_neg_of_pos_of_neg kpos y; omega
        · exact y
      · rcases Int.lt_or_le q p with y | y
        · have := Int.mul_pos (b := p - q) kpos (by omega); omega
        · exact y
  · simp at hx
theorem known_sh {b e : P2} {one other : List P2} : ∀ x ∈ known b e one other, Sh x := by
  intro x hx
  rcases (mem_puts _ _ x).mp hx with h | h
  · simp at h
    rcases h with rfl | rfl <;> exact ⟨by decide, by decide, by decide⟩
  · rcases List.mem_append.mp h with h | h
    · exact chgs_all (fun w z x hx => chg1_sh x hx) _ _ x h
    · exact chgs_all (fun w z x hx => chg1_sh x hx) _ _ x h
end HV
section
set_option maxHeartbeats 2000000
namespace R74
def S (F : List (List Int)) (f : Nat → Int) (q : Nat) : Int := match F with
  | [] => 0
  | v :: vs => f 0 * at' v q + S vs (fun j => f (j + 1)) q
theorem S_range : ∀ (F : List (List Int)) (f : Nat → Int) (q : Nat), comb ((List.range F.length).map f) F q = S F f q
  | [], f, q => rfl
  | v :: vs, f, q => by
    rw [List.length_cons, List.range_succ_eq_map, List.map_cons, List.map_map]
    show f 0 * at' v q + comb ((List.range vs.length).map (f ∘ Nat.succ)) vs q = f 0 * at' v q + _
    rw [S_range vs (f ∘ Nat.succ) q]
    rfl
theorem S_comb : ∀ (F : List (List Int)) (ts : List Int) (q : Nat), comb ts F q = S F (at' ts) q
  | [], ts, q => by cases ts <;> rfl
  | v :: vs, [], q => by
    show (0 : Int) = 0 * at' v q + S vs (fun j => at' [] (j + 1)) q
    have := S_comb vs [] q
    rw [comb_nil] at this
    have e : (fun j => at' [] (j + 1)) = at' [] := rfl
    rw [e, ← this]
    simp
  | v :: vs, t :: ts, q => by
    show t * at' v q + comb ts vs q = t * at' v q + S vs (fun j => at' (t :: ts) (j + 1)) q
    rw [S_comb vs ts q]
    rfl
theorem S_lin : ∀ (F : List (List Int)) (a : Int) (f g : Nat → Int) (q : Nat), S F (fun j => a * f j + g j) q = a * S F f q + S F g q
  | [], a, f, g, q => by show (0 : Int) = a * 0 + 0; simp
  | v :: vs, a, f, g, q => by
    show (a * f 0 + g 0) * at' v q + S vs (fun j => a * f (j + 1) + g (j + 1)) q = a * (f 0 * at' v q + S vs (fun j => f (j + 1)) q) + (g 0 * at' v q + S vs (fun j => g (j + 1)) q)
    rw [S_lin vs a (fun j => f (j + 1)) (fun j => g (j + 1)) q]
    grind
theorem S_zero : ∀ (F : List (List Int)) (f : Nat → Int) (q : Nat), (∀ j, j < F.length → f j = 0) → S F f q = 0
  | [], f, q, _ => rfl
  | v :: vs, f, q, h => by
    show f 0 * at' v q + S vs (fun j => f (j + 1)) q = 0
    rw [h 0 (by simp), S_zero vs _ q fun j hj => h (j + 1) (by simp; omega)]
    simp
theorem dep_null {F : List (List Int)} : ∀ (R : List (List Int)), (∀ r ∈ R, ∃ c : Int, c ≠ 0 ∧ ∃ ts : List Int, ∀ q, c * at' r q = comb ts F q) →
    ∃ (A : List (List Int)) (cs : List Int), A.length = R.length ∧ cs.length = R.length ∧ (∀ c ∈ cs, c ≠ 0) ∧ ∀ (y : List Int) (q : Nat), y.length = R.length → comb (List.zipWith (· * ·) y cs) R q = S F (fun j => comb y A j) q
  | [], _ => ⟨[], [], rfl, rfl, by simp, fun y q _ => by
    rw [List.zipWith_nil_right, comb_nil]
    exact (S_zero F _ q fun j _ => by cases y <;> rfl).symm⟩
  | r :: R, h => by
    obtain ⟨A, cs, h1, h2, h3, h4⟩ := dep_null R fun x hx => h x (List.mem_cons_of_mem _ hx)
    obtain ⟨c, nc, ts, e⟩ := h r (by simp)
    refine ⟨ts :: A, c :: cs, by simp [h1], by simp [h2], fun x hx => ?_, fun y q hl => ?_⟩
    · rcases List.mem_cons.mp hx with rfl | hx
      · exact nc
      · exact h3 x hx
    · cases y with
      | nil => simp at hl
      | cons y0 ys =>
        show y0 * c * at' r q + comb (List.zipWith (· * ·) ys cs) R q = S F (fun j => y0 * at' ts j + comb ys A j) q
        rw [S_lin, h4 ys q (by simpa using hl), ← S_comb, ← e q, Int.mul_assoc]
theorem null_rows {F R : List (List Int)} (h : ∀ r ∈ R, ∃ c : Int, c ≠ 0 ∧ ∃ ts : List Int, ∀ q, c * at' r q = comb ts F q) (hl : F.length < R.length) : ∃ z : List Int, z.length = R.length ∧ (∃ c ∈ z, c ≠ 0) ∧ ∀ q, comb z R q = 0 := by
  obtain ⟨A, cs, h1, h2, h3, h4⟩ := dep_null R h
  obtain ⟨y, y1, ⟨c, hc, nc⟩, y3⟩ := null_vec F.length A (by omega)
  refine ⟨List.zipWith (· * ·) y cs, by simp; omega, ?_, fun q => by rw [h4 y q (by omega)]; exact S_zero F _ q y3⟩
  obtain ⟨i, hi, rfl⟩ := List.getElem_of_mem hc
  have hi' : i < cs.length := by omega
  refine ⟨y[i] * cs[i], ?_, Int.mul_ne_zero nc (h3 _ (List.getElem_mem hi'))⟩
  exact List.mem_iff_getElem.mpr ⟨i, by simp; omega, by simp⟩
theorem asc_len : ∀ (l : List Nat) (b m : Nat), l.Pairwise (· < ·) → (∀ x ∈ l, b ≤ x ∧ x < m) → b ≤ m → b + l.length ≤ m
  | [], b, m, _, _, h => by simpa using h
  | x :: l, b, m, pw, hx, h => by
    obtain ⟨h1, h2⟩ := List.pairwise_cons.mp pw
    have h3 := hx x (by simp)
    have := asc_len l (x + 1) m h2 (fun y hy => ⟨h1 y hy, (hx y (List.mem_cons_of_mem _ hy)).2⟩) (by omega)
    rw [List.length_cons]; omega
theorem places_asc {m : Nat} {F : List (Nat × List Int)} (ok : Ok m F) : ∃ Q : List Nat, (F.map (·.1)).Perm Q ∧ Q.Pairwise (· < ·) ∧ ∀ q ∈ Q, q < m := by
  have nd : (F.map (·.1)).Nodup := by
    rw [List.Nodup, List.pairwise_map]
    refine List.Pairwise.imp_of_mem (R := fun a b => at' b.2 a.1 = 0) (fun {a b} ha hb h e => ?_) ok.tri
    rw [e] at h
    exact ok.nz b hb h
  refine ⟨(F.map (·.1)).mergeSort, (List.mergeSort_perm _ _).symm, ?_, fun q hq => ?_⟩
  · have s : ((F.map (·.1)).mergeSort).Pairwise (· ≤ ·) := by
      have := List.pairwise_mergeSort (le := fun a b : Nat => decide (a ≤ b)) (fun a b c h1 h2 => by simp at *; omega) (fun a b => by simp; omega) (F.map (·.1))
      exact this.imp fun h => by simpa using h
    have n : ((F.map (·.1)).mergeSort).Nodup := (List.mergeSort_perm _ _).nodup_iff.mpr nd
    exact (List.Pairwise.and s n).imp fun h => by have h1 := h.1; have h2 := h.2; omega
  · obtain ⟨a, ha, rfl⟩ := List.mem_map.mp (List.mem_mergeSort.mp hq)
    exact ok.lt a ha
theorem rank_le {m : Nat} {T : List (List Int)} {F : List (Nat × List Int)} {I : List Nat} (h : Inv m T F I) : F.length ≤ m ∧ F.length ≤ T.length := by
  obtain ⟨Q, q1, q2, q3⟩ := places_asc h.ok
  have a := asc_len Q 0 m q2 (fun x hx => ⟨by omega, q3 x hx⟩) (by omega)
  have b := asc_len I 0 T.length h.asc (fun x hx => ⟨by omega, h.bd x hx⟩) (by omega)
  have l := q1.length_eq
  rw [List.length_map] at l
  rw [h.len] at b
  exact ⟨by omega, by omega⟩
end R74
end
namespace HS
/-! k78: sides, triangles, five points. No program. -/
abbrev P2 := Int × Int
def o3 (a b c : P2) : Int := (b.1 - a.1) * (c.2 - a.2) - (b.2 - a.2) * (c.1 - a.1)
theorem o3_cyc (a b c : P2) : o3 b c a = o3 a b c := by unfold o3; grind
theorem o3_sw (a b c : P2) : o3 b a c = -o3 a b c := by unfold o3; grind
theorem o3_sw2 (a b c : P2) : o3 a c b = -o3 a b c := by unfold o3; grind
theorem o3_sum (p a b c : P2) : o3 a b c = o3 p b c + o3 a p c + o3 a b p := by unfold o3; grind
def bit (a b c : P2) : Bool := decide (0 < o3 a b c)
/-- in the triangle (of points no three of which are on a line) -/
def ins (p a b c : P2) : Bool := (bit a b p == bit b c p) && (bit b c p == bit c a p)
/-- no three on a line -/
def Gen (S : List P2) : Prop := ∀ a ∈ S, ∀ b ∈ S, ∀ c ∈ S, a ≠ b → b ≠ c → a ≠ c → o3 a b c ≠ 0
theorem bit_sw {a b c : P2} (h : o3 a b c ≠ 0) : bit b a c = !bit a b c := by
  unfold bit
  rw [o3_sw]
  by_cases z : 0 < o3 a b c
  · rw [decide_eq_true z, decide_eq_false (by omega)]; rfl
  · rw [decide_eq_false z, decide_eq_true (by omega)]; rfl
theorem bit_cyc (a b c : P2) : bit b c a = bit a b c := by unfold bit; rw [o3_cyc]
theorem bit_cyc2 (a b c : P2) : bit c a b = bit a b c := by rw [← bit_cyc a b c, ← bit_cyc b c a]
theorem bit_sw2 {a b c : P2} (h : o3 a b c ≠ 0) : bit a c b = !bit a b c := by
  rw [← bit_sw h, bit_cyc b a c]
/-- weights by Cramer: all of one sign iff in the triangle -/
theorem ins_iff {p a b c : P2} (h0 : o3 a b c ≠ 0) (h1 : o3 p b c ≠ 0) (h2 : o3 a p c ≠ 0) (h3 : o3 a b p ≠ 0) :
    ins p a b c = true ↔ (0 ≤ o3 p b c * o3 a b c ∧ 0 ≤ o3 a p c * o3 a b c ∧ 0 ≤ o3 a b p * o3 a b c) := by
  have e1 : o3 b c p = o3 p b c := o3_cyc p b c
  have e2 : o3 c a p = o3 a p c := (o3_cyc p c a).trans (o3_cyc a p c)
  have s := o3_sum p a b c
  unfold ins bit
  rw [e1, e2, Bool.and_eq_true, beq_iff_eq, beq_iff_eq]
  generalize o3 p b c = x at *
  generalize o3 a p c = y at *
  generalize o3 a b p = z at *
  rw [s]
  constructor
  · rintro ⟨q1, q2⟩
    by_cases hz : 0 < z
    · have hx : 0 < x := by
        rw [decide_eq_true hz] at q1; exact of_decide_eq_true q1.symm
      have hy : 0 < y := by
        rw [decide_eq_true hx] at q2; exact of_decide_eq_true q2.symm
      exact ⟨Int.mul_nonneg (by omega) (by omega), Int.mul_nonneg (by omega) (by omega), Int.mul_nonneg (by omega) (by omega)⟩
    · have hx : ¬ 0 < x := by
        rw [decide_eq_false hz] at q1; exact of_decide_eq_false q1.symm
      have hy : ¬ 0 < y := by
        rw [decide_eq_false hx] at q2; exact of_decide_eq_false q2.symm
      exact ⟨Int.mul_nonneg_of_nonpos_of_nonpos (by omega) (by omega), Int.mul_nonneg_of_nonpos_of_nonpos (by omega) (by omega), Int.mul_nonneg_of_nonpos_of_nonpos (by omega) (by omega)⟩
  · rintro ⟨q1, q2, q3⟩
    have nz : x + y + z ≠ 0 := by rw [← s]; exact h0
    by_cases hD : 0 < x + y + z
    · have hx := Int.nonneg_of_mul_nonneg_left q1 hD
      have hy := Int.nonneg_of_mul_nonneg_left q2 hD
      have hz := Int.nonneg_of_mul_nonneg_left q3 hD
      rw [decide_eq_true (show 0 < x by omega), decide_eq_true (show 0 < y by omega), decide_eq_true (show 0 < z by omega)]
      exact ⟨rfl, rfl⟩
    · have f : ∀ u : Int, u ≠ 0 → 0 ≤ u * (x + y + z) → ¬ 0 < u := fun u hu hq hp => by
        have := Int.mul_neg_of_pos_of_neg hp (show x + y + z < 0 by omega)
        omega
      rw [decide_eq_false (f x h1 q1), decide_eq_false (f y h2 q2), decide_eq_false (f z h3 q3)]
      exact ⟨rfl, rfl⟩
/-! ### Grassmann and Pluecker -/
theorem gp (m a b c d : P2) : o3 m a b * o3 m c d - o3 m a c * o3 m b d + o3 m a d * o3 m b c = 0 := by unfold o3; grind
theorem af (a b c d : P2) : o3 b c d - o3 a c d + o3 a b d - o3 a b c = 0 := by unfold o3; grind
/-- a product's sign, as a bit -/
theorem gpB {m a b c d : P2} (h1 : o3 m a b ≠ 0) (h2 : o3 m c d ≠ 0) (h3 : o3 m a c ≠ 0) (h4 : o3 m b d ≠ 0) (h5 : o3 m a d ≠ 0) (h6 : o3 m b c ≠ 0) :
    ¬ ((bit m a b == bit m c d) = !(bit m a c == bit m b d) ∧ (bit m a b == bit m c d) = (bit m a d == bit m b c)) := by
  have key : ∀ x y : Int, x ≠ 0 → y ≠ 0 → ((decide (0 < x) == decide (0 < y)) = true ↔ 0 < x * y) := by
    intro x y hx hy
    rw [beq_iff_eq]
    by_cases h : 0 < x
    · by_cases h' : 0 < y
      · simp [h, h', Int.mul_pos h h']
      · have := Int.mul_neg_of_pos_of_neg h (show y < 0 by omega)
        simp [h, h']; omega
    · by_cases h' : 0 < y
      · have := Int.mul_neg_of_neg_of_pos (show x < 0 by omega) h'
        simp [h, h']; omega
      · have := Int.mul_pos_of_neg_of_neg (show x < 0 by omega) (show y < 0 by omega)
        simp [h, h', this]
  have g := gp m a b c d
  have k1 := key _ _ h1 h2
  have k2 := key _ _ h3 h4
  have k3 := key _ _ h5 h6
  have n1 := Int.mul_ne_zero h1 h2
  have n2 := Int.mul_ne_zero h3 h4
  have n3 := Int.mul_ne_zero h5 h6
  unfold bit
  rintro ⟨q1, q2⟩
  cases e1 : (decide (0 < o3 m a b) == decide (0 < o3 m c d)) <;> cases e2 : (decide (0 < o3 m a c) == decide (0 < o3 m b d)) <;> cases e3 : (decide (0 < o3 m a d) == decide (0 < o3 m b c)) <;>
    simp only [e1, e2, e3, Bool.not_true, Bool.not_false, reduceCtorEq, Bool.false_eq_true, Bool.true_eq_false, false_iff, true_iff] at q1 q2 k1 k2 k3 <;> omega
theorem afB {a b c d : P2} (h1 : o3 b c d ≠ 0) (h2 : o3 a c d ≠ 0) (h3 : o3 a b d ≠ 0) (h4 : o3 a b c ≠ 0) : ¬ (bit b c d = !bit a c d ∧ bit b c d = bit a b d ∧ bit b c d = !bit a b c) := by
  have g := af a b c d
  unfold bit
  rintro ⟨q1, q2, q3⟩
  by_cases e1 : 0 < o3 b c d <;> by_cases e2 : 0 < o3 a c d <;> by_cases e3 : 0 < o3 a b d <;> by_cases e4 : 0 < o3 a b c <;>
    simp [e1, e2, e3, e4] at q1 q2 q3 <;> omega
theorem gpC {m a b c d : P2} (h1 : o3 m a b ≠ 0) (h2 : o3 m c d ≠ 0) (h3 : o3 m a c ≠ 0) (h4 : o3 m b d ≠ 0) (h5 : o3 m a d ≠ 0) (h6 : o3 m b c ≠ 0) :
    (!(((bit m a b == bit m c d) == !(bit m a c == bit m b d)) && ((bit m a b == bit m c d) == (bit m a d == bit m b c)))) = true := by
  have := gpB h1 h2 h3 h4 h5 h6
  rw [Bool.not_eq_true', ← Bool.not_eq_true, Bool.and_eq_true, beq_iff_eq, beq_iff_eq]
  exact this
theorem afC {a b c d : P2} (h1 : o3 b c d ≠ 0) (h2 : o3 a c d ≠ 0) (h3 : o3 a b d ≠ 0) (h4 : o3 a b c ≠ 0) : (!((bit b c d == !(bit a c d)) && (bit b c d == bit a b d) && (bit b c d == !(bit a b c)))) = true := by
  have := afB h1 h2 h3 h4
  rw [Bool.not_eq_true', ← Bool.not_eq_true, Bool.and_eq_true, Bool.and_eq_true, beq_iff_eq, beq_iff_eq, beq_iff_eq, and_assoc]
  exact this
theorem nz_sw {a b c : P2} (h : o3 a b c ≠ 0) : o3 b a c ≠ 0 := by rw [o3_sw]; omega
theorem nz_cy {a b c : P2} (h : o3 a b c ≠ 0) : o3 c a b ≠ 0 := by rw [← o3_cyc c a b]; exact h
end HS
namespace HS
def spr (a b c d : P2) : Bool := !(ins a b c d) && !(ins b a c d) && !(ins c a b d) && !(ins d a b c)
/-- a corner: in no triangle of the four others -/
def cor (p a b c d : P2) : Bool := !(ins p a b c || ins p a b d || ins p a c d || ins p b c d)
theorem bit_rev {a b c : P2} (h : o3 a b c ≠ 0) : bit c b a = !bit a b c := by rw [← bit_sw h, ← bit_cyc c b a]

theorem five_bits : ∀ xabc xabd xabe xacd xace xade xbcd xbce xbde xcde : Bool, (!((((xabc) == (xade)) == !((xabd) == (xace))) && (((xabc) == (xade)) == ((xabe) == (xacd))))) = true → (!((((!xabc) == (xbde)) == !((!xabd) == (xbce))) && (((!xabc) == (xbde)) == ((!xabe) == (xbcd))))) = true → (!((((xabc) == (xcde)) == !((!xacd) == (!xbce))) && (((xabc) == (xcde)) == ((!xace) == (!xbcd))))) = true → (!((((xabd) == (!xcde)) == !((xacd) == (!xbde))) && (((xabd) == (!xcde)) == ((!xade) == (xbcd))))) = true → (!((((xabe) == (xcde)) == !((xace) == (xbde))) && (((xabe) == (xcde)) == ((xade) == (xbce))))) = true → (!(((xbcd) == !(xacd)) && ((xbcd) == (xabd)) && ((xbcd) == !(xabc)))) = true → (!(((xbce) == !(xace)) && ((xbce) == (xabe)) && ((xbce) == !(xabc)))) = true → (!(((xbde) == !(xade)) && ((xbde) == (xabe)) && ((xbde) == !(xabd)))) = true → (!(((xcde) == !(xade)) && ((xcde) == (xace)) && ((xcde) == !(xacd)))) = true → (!(((xcde) == !(xbde)) && ((xcde) == (xbce)) && ((xcde) == !(xbcd)))) = true →
  (((!(((xabc) == (xacd)) && ((xacd) == (!xabd))) && !(((!xabc) == (xbcd)) && ((xbcd) == (xabd))) && !(((xabc) == (!xbcd)) && ((!xbcd) == (xacd))) && !(((xabd) == (xbcd)) && ((xbcd) == (!xacd))))).toNat + ((!(((xabc) == (xace)) && ((xace) == (!xabe))) && !(((!xabc) == (xbce)) && ((xbce) == (xabe))) && !(((xabc) == (!xbce)) && ((!xbce) == (xace))) && !(((xabe) == (xbce)) && ((xbce) == (!xace))))).toNat + ((!(((xabd) == (xade)) && ((xade) == (!xabe))) && !(((!xabd) == (xbde)) && ((xbde) == (xabe))) && !(((xabd) == (!xbde)) && ((!xbde) == (xade))) && !(((xabe) == (xbde)) && ((xbde) == (!xade))))).toNat + ((!(((xacd) == (xade)) && ((xade) == (!xace))) && !(((!xacd) == (xcde)) && ((xcde) == (xace))) && !(((xacd) == (!xcde)) && ((!xcde) == (xade))) && !(((xace) == (xcde)) && ((xcde) == (!xade))))).toNat + ((!(((xbcd) == (xbde)) && ((xbde) == (!xbce))) && !(((!xbcd) == (xcde)) && ((xcde) == (xbce))) && !(((xbcd) == (!xcde)) && ((!xcde) == (xbde))) && !(((xbce) == (xcde)) && ((xcde) == (!xbde))))).toNat) + 5 = 2 * (((!((((xabc) == (xacd)) && ((xacd) == (!xabd))) || (((xabc) == (xace)) && ((xace) == (!xabe))) || (((xabd) == (xade)) && ((xade) == (!xabe))) || (((xacd) == (xade)) && ((xade) == (!xace)))))).toNat + ((!((((!xabc) == (xbcd)) && ((xbcd) == (xabd))) || (((!xabc) == (xbce)) && ((xbce) == (xabe))) || (((!xabd) == (xbde)) && ((xbde) == (xabe))) || (((xbcd) == (xbde)) && ((xbde) == (!xbce)))))).toNat + ((!((((xabc) == (!xbcd)) && ((!xbcd) == (xacd))) || (((xabc) == (!xbce)) && ((!xbce) == (xace))) || (((!xacd) == (xcde)) && ((xcde) == (xace))) || (((!xbcd) == (xcde)) && ((xcde) == (xbce)))))).toNat + ((!((((xabd) == (xbcd)) && ((xbcd) == (!xacd))) || (((xabd) == (!xbde)) && ((!xbde) == (xade))) || (((xacd) == (!xcde)) && ((!xcde) == (xade))) || (((xbcd) == (!xcde)) && ((!xcde) == (xbde)))))).toNat + ((!((((xabe) == (xbce)) && ((xbce) == (!xace))) || (((xabe) == (xbde)) && ((xbde) == (!xade))) || (((xace) == (xcde)) && ((xcde) == (!xade))) || (((xbce) == (xcde)) && ((xcde) == (!xbde)))))).toNat) ∧ 1 ≤ (((!(((xabc) == (xacd)) && ((xacd) == (!xabd))) && !(((!xabc) == (xbcd)) && ((xbcd) == (xabd))) && !(((xabc) == (!xbcd)) && ((!xbcd) == (xacd))) && !(((xabd) == (xbcd)) && ((xbcd) == (!xacd))))).toNat + ((!(((xabc) == (xace)) && ((xace) == (!xabe))) && !(((!xabc) == (xbce)) && ((xbce) == (xabe))) && !(((xabc) == (!xbce)) && ((!xbce) == (xace))) && !(((xabe) == (xbce)) && ((xbce) == (!xace))))).toNat + ((!(((xabd) == (xade)) && ((xade) == (!xabe))) && !(((!xabd) == (xbde)) && ((xbde) == (xabe))) && !(((xabd) == (!xbde)) && ((!xbde) == (xade))) && !(((xabe) == (xbde)) && ((xbde) == (!xade))))).toNat + ((!(((xacd) == (xade)) && ((xade) == (!xace))) && !(((!xacd) == (xcde)) && ((xcde) == (xace))) && !(((xacd) == (!xcde)) && ((!xcde) == (xade))) && !(((xace) == (xcde)) && ((xcde) == (!xade))))).toNat + ((!(((xbcd) == (xbde)) && ((xbde) == (!xbce))) && !(((!xbcd) == (xcde)) && ((xcde) == (xbce))) && !(((xbcd) == (!xcde)) && ((!xcde) == (xbde))) && !(((xbce) == (xcde)) && ((xcde) == (!xbde))))).toNat) := by decide +kernel
theorem five {a b c d e : P2} (habc : o3 a b c ≠ 0) (habd : o3 a b d ≠ 0) (habe : o3 a b e ≠ 0) (hacd : o3 a c d ≠ 0) (hace : o3 a c e ≠ 0) (hade : o3 a d e ≠ 0) (hbcd : o3 b c d ≠ 0) (hbce : o3 b c e ≠ 0) (hbde : o3 b d e ≠ 0) (hcde : o3 c d e ≠ 0) :
  ((spr a b c d).toNat + (spr a b c e).toNat + (spr a b d e).toNat + (spr a c d e).toNat + (spr b c d e).toNat) + 5 = 2 * ((cor a b c d e).toNat + (cor b a c d e).toNat + (cor c a b d e).toNat + (cor d a b c e).toNat + (cor e a b c d).toNat) ∧ 1 ≤ ((spr a b c d).toNat + (spr a b c e).toNat + (spr a b d e).toNat + (spr a c d e).toNat + (spr b c d e).toNat) := by
  have rabc1 := bit_cyc a b c
  have rabc2 := bit_cyc2 a b c
  have rabc3 := bit_sw habc
  have rabc4 := bit_sw2 habc
  have rabc5 := bit_rev habc
  have rabd1 := bit_cyc a b d
  have rabd2 := bit_cyc2 a b d
  have rabd3 := bit_sw habd
  have rabd4 := bit_sw2 habd
  have rabd5 := bit_rev habd
  have rabe1 := bit_cyc a b e
  have rabe2 := bit_cyc2 a b e
  have rabe3 := bit_sw habe
  have rabe4 := bit_sw2 habe
  have rabe5 := bit_rev habe
  have racd1 := bit_cyc a c d
  have racd2 := bit_cyc2 a c d
  have racd3 := bit_sw hacd
  have racd4 := bit_sw2 hacd
  have racd5 := bit_rev hacd
  have race1 := bit_cyc a c e
  have race2 := bit_cyc2 a c e
  have race3 := bit_sw hace
  have race4 := bit_sw2 hace
  have race5 := bit_rev hace
  have rade1 := bit_cyc a d e
  have rade2 := bit_cyc2 a d e
  have rade3 := bit_sw hade
  have rade4 := bit_sw2 hade
  have rade5 := bit_rev hade
  have rbcd1 := bit_cyc b c d
  have rbcd2 := bit_cyc2 b c d
  have rbcd3 := bit_sw hbcd
  have rbcd4 := bit_sw2 hbcd
  have rbcd5 := bit_rev hbcd
  have rbce1 := bit_cyc b c e
  have rbce2 := bit_cyc2 b c e
  have rbce3 := bit_sw hbce
  have rbce4 := bit_sw2 hbce
  have rbce5 := bit_rev hbce
  have rbde1 := bit_cyc b d e
  have rbde2 := bit_cyc2 b d e
  have rbde3 := bit_sw hbde
  have rbde4 := bit_sw2 hbde
  have rbde5 := bit_rev hbde
  have rcde1 := bit_cyc c d e
  have rcde2 := bit_cyc2 c d e
  have rcde3 := bit_sw hcde
  have rcde4 := bit_sw2 hcde
  have rcde5 := bit_rev hcde
  have ga := gpC (m := a) (a := b) (b := c) (c := d) (d := e) habc hade habd hace habe hacd
  have gb := gpC (m := b) (a := a) (b := c) (c := d) (d := e) (nz_sw habc) hbde (nz_sw habd) hbce (nz_sw habe) hbcd
  have gc := gpC (m := c) (a := a) (b := b) (c := d) (d := e) (nz_cy habc) hcde (nz_sw hacd) (nz_sw hbce) (nz_sw hace) (nz_sw hbcd)
  have gd := gpC (m := d) (a := a) (b := b) (c := c) (d := e) (nz_cy habd) (nz_sw hcde) (nz_cy hacd) (nz_sw hbde) (nz_sw hade) (nz_cy hbcd)
  have ge := gpC (m := e) (a := a) (b := b) (c := c) (d := d) (nz_cy habe) (nz_cy hcde) (nz_cy hace) (nz_cy hbde) (nz_cy hade) (nz_cy hbce)
  have fabcd := afC (a := a) (b := b) (c := c) (d := d) hbcd hacd habd habc
  have fabce := afC (a := a) (b := b) (c := c) (d := e) hbce hace habe habc
  have fabde := afC (a := a) (b := b) (c := d) (d := e) hbde hade habe habd
  have facde := afC (a := a) (b := c) (c := d) (d := e) hcde hade hace hacd
  have fbcde := afC (a := b) (b := c) (c := d) (d := e) hcde hbde hbce hbcd
  simp only [spr, cor, ins, rabc1, rabc2, rabc3, rabc4, rabc5, rabd1, rabd2, rabd3, rabd4, rabd5, rabe1, rabe2, rabe3, rabe4, rabe5, racd1, racd2, racd3, racd4, racd5, race1, race2, race3, race4, race5, rade1, rade2, rade3, rade4, rade5, rbcd1, rbcd2, rbcd3, rbcd4, rbcd5, rbce1, rbce2, rbce3, rbce4, rbce5, rbde1, rbde2, rbde3, rbde4, rbde5, rcde1, rcde2, rcde3, rcde4, rcde5] at ga gb gc gd ge fabcd fabce fabde facde fbcde ⊢
  clear rabc1 rabc2 rabc3 rabc4 rabc5 rabd1 rabd2 rabd3 rabd4 rabd5 rabe1 rabe2 rabe3 rabe4 rabe5 racd1 racd2 racd3 racd4 racd5 race1 race2 race3 race4 race5 rade1 rade2 rade3 rade4 rade5 rbcd1 rbcd2 rbcd3 rbcd4 rbcd5 rbce1 rbce2 rbce3 rbce4 rbce5 rbde1 rbde2 rbde3 rbde4 rbde5 rcde1 rcde2 rcde3 rcde4 rcde5
  generalize bit a b c = xabc at *
  generalize bit a b d = xabd at *
  generalize bit a b e = xabe at *
  generalize bit a c d = xacd at *
  generalize bit a c e = xace at *
  generalize bit a d e = xade at *
  generalize bit b c d = xbcd at *
  generalize bit b c e = xbce at *
  generalize bit b d e = xbde at *
  generalize bit c d e = xcde at *
  exact five_bits xabc xabd xabe xacd xace xade xbcd xbce xbde xcde ga gb gc gd ge fabcd fabce fabde facde fbcde
end HS
namespace HS
open R74
open HV (red red_x red_sign gc gc_pos gc_dl gc_dr)
/-! weights by reduced lines. No program. -/
def sm : Nat → (Nat → Int) → Int
  | 0, _ => 0
  | n + 1, f => sm n f + f n
theorem sm_add (n : Nat) (f g : Nat → Int) : sm n (fun q => f q + g q) = sm n f + sm n g := by
  induction n with
  | zero => rfl
  | succ n ih => show sm n _ + (f n + g n) = (sm n f + f n) + (sm n g + g n); rw [ih]; omega
theorem sm_mul (n : Nat) (a : Int) (f : Nat → Int) : sm n (fun q => a * f q) = a * sm n f := by
  induction n with
  | zero => simp [sm]
  | succ n ih => show sm n _ + _ = a * (sm n f + f n); rw [ih, Int.mul_add]
theorem sm_congr {n : Nat} {f g : Nat → Int} (h : ∀ q, f q = g q) : sm n f = sm n g := by rw [show f = g from funext h]
theorem sm_zero (n : Nat) : sm n (fun _ => 0) = 0 := by
  induction n with
  | zero => rfl
  | succ n ih => show sm n _ + 0 = 0; rw [ih]; rfl
theorem comb_null {m : Nat} {v : Nat → Int} : ∀ (ts : List Int) (F : List (Nat × List Int)), (∀ a ∈ F, sm m (fun q => at' a.2 q * v q) = 0) → sm m (fun q => comb ts (vecs F) q * v q) = 0
  | [], F, _ => by rw [sm_congr (g := fun _ => 0) fun q => by rw [comb_nil]; simp]; exact sm_zero m
  | t :: ts, [], _ => by rw [sm_congr (g := fun _ => 0) fun q => by show (0 : Int) * _ = 0; simp]; exact sm_zero m
  | t :: ts, a :: F, h => by
    have e : ∀ q, comb (t :: ts) (vecs (a :: F)) q * v q = t * (at' a.2 q * v q) + comb ts (vecs F) q * v q := fun q => by
      show (t * at' a.2 q + comb ts (vecs F) q) * v q = _
      rw [Int.add_mul, Int.mul_assoc]
    rw [sm_congr e, sm_add, sm_mul, h a (by simp), comb_null ts F fun b hb => h b (List.mem_cons_of_mem _ hb)]
    simp
/-- what nulls the lines nulls the rows -/
theorem rows_null {m : Nat} {T : List (List Int)} {F : List (Nat × List Int)} {I : List Nat} (h : Inv m T F I) {v : Nat → Int} (hv : ∀ a ∈ F, sm m (fun q => at' a.2 q * v q) = 0) : ∀ r ∈ T, sm m (fun q => at' r q * v q) = 0 := by
  intro r hr
  obtain ⟨c, nc, ts, _, e⟩ := h.dep r hr
  have := comb_null ts F hv
  rw [sm_congr (g := fun q => c * (at' r q * v q)) fun q => by rw [← e q, Int.mul_assoc], sm_mul] at this
  exact (Int.mul_eq_zero.mp this).resolve_left nc
theorem at_getD {T : List (List Int)} (i q : Nat) : at' (T.getD i []) q = 0 ∨ T.getD i [] ∈ T := by
  by_cases h : i < T.length
  · right
    rw [List.getD_eq_getElem?_getD, List.getElem?_eq_getElem h]
    exact List.getElem_mem h
  · left
    rw [List.getD_eq_getElem?_getD, List.getElem?_eq_none (by omega)]
    cases q <;> rfl
/-- what nulls the rows nulls the lines -/
theorem lines_null {m : Nat} {T : List (List Int)} {F : List (Nat × List Int)} {I : List Nat} (h : Inv m T F I) {v : Nat → Int} (hv : ∀ r ∈ T, sm m (fun q => at' r q * v q) = 0) : ∀ a ∈ F, sm m (fun q => at' a.2 q * v q) = 0 := by
  have key : ∀ n j, j < n → j < F.length → sm m (fun q => at' (F.getD j (0, [])).2 q * v q) = 0 := by
    intro n
    induction n with
    | zero => intro j hj; omega
    | succ n ih =>
      intro j hj hl
      obtain ⟨g, c, ng, ts, e⟩ := h.rel j hl
      have n1 : ∀ a ∈ F.take j, sm m (fun q => at' a.2 q * v q) = 0 := by
        intro a ha
        obtain ⟨i, hi, ea⟩ := List.getElem_of_mem ha
        rw [List.length_take] at hi
        have e1 : a = F.getD i (0, []) := by
          rw [← ea, List.getElem_take, List.getD_eq_getElem?_getD, List.getElem?_eq_getElem (by omega)]
          rfl
        rw [e1]
        exact ih i (by omega) (by omega)
      have n2 : sm m (fun q => at' (T.getD (I.getD j 0) []) q * v q) = 0 := by
        by_cases hm : T.getD (I.getD j 0) [] ∈ T
        · exact hv _ hm
        · rw [sm_congr (g := fun _ => 0) fun q => by rw [(at_getD (T := T) (I.getD j 0) q).resolve_right hm]; simp]
          exact sm_zero m
      have := sm_mul m g (fun q => at' (F.getD j (0, [])).2 q * v q)
      rw [sm_congr (g := fun q => c * (at' (T.getD (I.getD j 0) []) q * v q) + comb ts (vecs (F.take j)) q * v q) fun q => by rw [← Int.mul_assoc, e q, Int.add_mul, Int.mul_assoc], sm_add, sm_mul, n2, comb_null ts _ n1] at this
      rw [Int.mul_zero, Int.add_zero] at this
      exact (Int.mul_eq_zero.mp this.symm).resolve_left ng
  intro a ha
  obtain ⟨i, hi, ea⟩ := List.getElem_of_mem ha
  have e1 : a = F.getD i (0, []) := by
    rw [← ea, List.getD_eq_getElem?_getD, List.getElem?_eq_getElem hi]
    rfl
  rw [e1]
  exact key (i + 1) i (by omega) hi
/-- before its place a line holds noughts -/
theorem firstNZ_before {l : List Int} {q : Nat} (h : q < firstNZ l) : at' l q = 0 := by
  unfold firstNZ at h
  cases e : l.findIdx? fun x => decide (x ≠ 0) with
  | none => rw [e] at h; simp at h
  | some i =>
    rw [e] at h
    rw [List.findIdx?_eq_some_iff_getElem] at e
    obtain ⟨hi, _, h2⟩ := e
    have hq : q < i := h
    have := h2 q hq
    unfold at'
    rw [List.getD_eq_getElem?_getD, List.getElem?_eq_getElem (by omega)]
    simpa using this
theorem lines_first (T : List (List Int)) : ∀ a ∈ lines T, a.1 = firstNZ a.2 := by
  have key : ∀ (T : List (List Int)) (F : List (Nat × List Int)), (∀ a ∈ F, a.1 = firstNZ a.2) → ∀ a ∈ T.foldl addRow F, a.1 = firstNZ a.2 := by
    intro T
    induction T with
    | nil => intro F h; exact h
    | cons r T ih =>
      intro F h
      refine ih _ ?_
      intro a ha
      unfold addRow at ha
      split at ha
      · rcases List.mem_append.mp ha with q | q
        · exact h a q
        · rw [List.mem_singleton.mp q]
      · exact h a ha
  exact key T [] (by simp)
end HS
namespace HS
open R74
/-! the rows of weights_to for points and a point -/
def rowsT (L : List P2) : List (List Int) := [L.map fun _ => 1, L.map (·.1), L.map (·.2)]
theorem rowsT_len {L : List P2} : ∀ r ∈ rowsT L, r.length = L.length := by
  intro r hr
  simp only [rowsT, List.mem_cons, List.mem_singleton, List.not_mem_nil, or_false] at hr
  rcases hr with rfl | rfl | rfl <;> simp
theorem dep' {m : Nat} {T : List (List Int)} {F : List (Nat × List Int)} {I : List Nat} (h : Inv m T F I) : ∀ r ∈ T, ∃ c : Int, c ≠ 0 ∧ ∃ ts : List Int, ∀ q, c * at' r q = comb ts (vecs F) q := fun r hr => by
  obtain ⟨c, nc, ts, _, e⟩ := h.dep r hr
  exact ⟨c, nc, ts, e⟩
theorem l3 {z : List Int} (h : z.length = 3) : ∃ a b c, z = [a, b, c] := by
  match z, h with
  | [a, b, c], _ => exact ⟨a, b, c, rfl⟩
theorem l2 {z : List Int} (h : z.length = 2) : ∃ a b, z = [a, b] := by
  match z, h with
  | [a, b], _ => exact ⟨a, b, rfl⟩
theorem nul3 {z0 z1 z2 x0 y0 x1 y1 x2 y2 : Int} (hD : o3 (x0, y0) (x1, y1) (x2, y2) ≠ 0) (e0 : z0 * 1 + (z1 * x0 + (z2 * y0 + 0)) = 0) (e1 : z0 * 1 + (z1 * x1 + (z2 * y1 + 0)) = 0) (e2 : z0 * 1 + (z1 * x2 + (z2 * y2 + 0)) = 0) : z0 = 0 ∧ z1 = 0 ∧ z2 = 0 := by
  have a1 : z1 * o3 (x0, y0) (x1, y1) (x2, y2) = 0 := by
    have : z1 * o3 (x0, y0) (x1, y1) (x2, y2) = ((z0 * 1 + (z1 * x1 + (z2 * y1 + 0))) - (z0 * 1 + (z1 * x0 + (z2 * y0 + 0)))) * (y2 - y0) - ((z0 * 1 + (z1 * x2 + (z2 * y2 + 0))) - (z0 * 1 + (z1 * x0 + (z2 * y0 + 0)))) * (y1 - y0) := by unfold o3; grind
    rw [this, e0, e1, e2]; simp
  have a2 : z2 * o3 (x0, y0) (x1, y1) (x2, y2) = 0 := by
    have : z2 * o3 (x0, y0) (x1, y1) (x2, y2) = ((z0 * 1 + (z1 * x2 + (z2 * y2 + 0))) - (z0 * 1 + (z1 * x0 + (z2 * y0 + 0)))) * (x1 - x0) - ((z0 * 1 + (z1 * x1 + (z2 * y1 + 0))) - (z0 * 1 + (z1 * x0 + (z2 * y0 + 0)))) * (x2 - x0) := by unfold o3; grind
    rw [this, e0, e1, e2]; simp
  have b1 := (Int.mul_eq_zero.mp a1).resolve_right hD
  have b2 := (Int.mul_eq_zero.mp a2).resolve_right hD
  subst b1; subst b2
  simp at e0
  exact ⟨e0, rfl, rfl⟩
/-- three columns not on a line, the first ones: three lines -/
theorem three {a b c : P2} {R : List P2} (hD : o3 a b c ≠ 0) {F : List (Nat × List Int)} {I : List Nat} (h : Inv (a :: b :: c :: R).length (rowsT (a :: b :: c :: R)) F I) : F.length = 3 := by
  have le := (rank_le h).2
  have l3' : (rowsT (a :: b :: c :: R)).length = 3 := rfl
  apply Classical.byContradiction
  intro ne
  obtain ⟨z, zl, ⟨w, hw, nw⟩, e⟩ := null_rows (dep' h) (by rw [List.length_map, l3']; omega)
  obtain ⟨z0, z1, z2, rfl⟩ := l3 (zl.trans l3')
  obtain ⟨q0, q1, q2⟩ := nul3 (x0 := a.1) (y0 := a.2) (x1 := b.1) (y1 := b.2) (x2 := c.1) (y2 := c.2) hD (e 0) (e 1) (e 2)
  subst q0; subst q1; subst q2
  simp at hw
  exact nw hw
theorem asc3 {Q : List Nat} (l : Q.length = 3) (p : Q.Pairwise (· < ·)) (b : ∀ q ∈ Q, q < 3) : Q = [0, 1, 2] := by
  match Q, l with
  | [x, y, z], _ =>
    simp only [List.pairwise_cons, List.mem_cons, List.not_mem_nil, or_false] at p
    have := b z (by simp)
    have h1 := p.1 y (.inl rfl)
    have h2 := p.2.1 z rfl
    rw [show x = 0 by omega, show y = 1 by omega, show z = 2 by omega]
/-- two points: no weights -/
theorem none2 {a b p : P2} (hD : o3 a b p ≠ 0) : ∃ ln ∈ lines (rowsT [a, b, p]), ln.1 = 2 := by
  obtain ⟨I, h⟩ := inv_lines (m := 3) (T := rowsT [a, b, p]) fun r hr => rowsT_len r hr
  have l := three (R := []) hD h
  obtain ⟨Q, pq, asc, lt⟩ := places_asc h.ok
  have e := asc3 (by rw [← pq.length_eq, List.length_map, l]) asc lt
  have : 2 ∈ (lines (rowsT [a, b, p])).map (·.1) := pq.mem_iff.mpr (by rw [e]; simp)
  obtain ⟨ln, hl, e⟩ := List.mem_map.mp this
  exact ⟨ln, hl, e⟩
/-- one point: no weights -/
theorem none1 {a p : P2} (hn : a ≠ p) : ∃ ln ∈ lines (rowsT [a, p]), ln.1 = 1 := by
  obtain ⟨I, h⟩ := inv_lines (m := 2) (T := rowsT [a, p]) fun r hr => rowsT_len r hr
  have le := (rank_le h).1
  have l : (lines (rowsT [a, p])).length = 2 := by
    apply Classical.byContradiction
    intro ne
    have key : ∀ f : P2 → Int, [a, p].map f ∈ rowsT [a, p] → f a ≠ f p → False := by
      intro f hf nf
      obtain ⟨z, zl, ⟨w, hw, nw⟩, e⟩ := null_rows (F := vecs (lines (rowsT [a, p]))) (R := [[a, p].map fun _ => 1, [a, p].map f]) (fun r hr => by
        refine dep' h r ?_
        simp only [List.mem_cons, List.not_mem_nil, or_false] at hr
        rcases hr with rfl | rfl
        · exact List.mem_cons_self ..
        · exact hf) (by rw [List.length_map]; show _ < 2; omega)
      obtain ⟨z0, z1, rfl⟩ := l2 zl
      have e0 : z0 * 1 + (z1 * f a + 0) = 0 := e 0
      have e1 : z0 * 1 + (z1 * f p + 0) = 0 := e 1
      have : z1 * (f a - f p) = 0 := by rw [Int.mul_sub]; omega
      have z : z1 = 0 := (Int.mul_eq_zero.mp this).resolve_right (by omega)
      subst z
      simp at e0
      subst e0
      simp at hw
      exact nw hw
    by_cases hx : a.1 = p.1
    · by_cases hy : a.2 = p.2
      · exact hn (Prod.ext hx hy)
      · exact key (·.2) (by simp [rowsT]) hy
    · exact key (·.1) (by simp [rowsT]) hx
  obtain ⟨Q, pq, asc, lt⟩ := places_asc h.ok
  have ql : Q.length = 2 := by rw [← pq.length_eq, List.length_map, l]
  have e : 1 ∈ Q := by
    match Q, ql with
    | [x, y], _ =>
      simp only [List.pairwise_cons, List.mem_cons, List.not_mem_nil, or_false] at asc
      have := lt y (by simp)
      have h1 := asc.1 y rfl
      rw [show y = 1 by omega]; simp
  have : 1 ∈ (lines (rowsT [a, p])).map (·.1) := pq.mem_iff.mpr e
  obtain ⟨ln, hl, e⟩ := List.mem_map.mp this
  exact ⟨ln, hl, e⟩
/-- three points: the lines, sorted -/
theorem tri_lines {a b c p : P2} (hD : o3 a b c ≠ 0) {S : List (Nat × List Int)} (hp : S.Perm (lines (rowsT [a, b, c, p]))) (hs : S.Pairwise fun x y => x.1 ≤ y.1) :
    ∃ l0 l1 l2 : List Int, S = [(0, l0), (1, l1), (2, l2)] ∧ at' l0 0 ≠ 0 ∧ at' l1 0 = 0 ∧ at' l1 1 ≠ 0 ∧ at' l2 0 = 0 ∧ at' l2 1 = 0 ∧ at' l2 2 ≠ 0 ∧ l0.length = 4 ∧ l1.length = 4 ∧ l2.length = 4 := by
  obtain ⟨I, h⟩ := inv_lines (m := 4) (T := rowsT [a, b, c, p]) fun r hr => rowsT_len r hr
  have l := three (R := [p]) hD h
  have first := lines_first (rowsT [a, b, c, p])
  have no3 : ∀ ln ∈ lines (rowsT [a, b, c, p]), ln.1 < 3 := by
    intro ln hl
    have l4 := h.ok.lt ln hl
    apply Classical.byContradiction
    intro ge
    have e3 : ln.1 = 3 := by omega
    have nz := h.ok.nz ln hl
    have zb : ∀ q, q < 3 → at' ln.2 q = 0 := fun q hq => firstNZ_before (by rw [← first ln hl, e3]; exact hq)
    have z := lines_null h (v := fun q => if q = 0 then o3 p b c else if q = 1 then o3 a p c else if q = 2 then o3 a b p else -o3 a b c) (fun r hr => by
      simp only [rowsT, List.mem_cons, List.not_mem_nil, or_false] at hr
      obtain ⟨a1, a2⟩ := a
      obtain ⟨b1, b2⟩ := b
      obtain ⟨c1, c2⟩ := c
      obtain ⟨p1, p2⟩ := p
      rcases hr with rfl | rfl | rfl
      · show ((((0 : Int) + 1 * o3 _ _ _) + 1 * o3 _ _ _) + 1 * o3 _ _ _) + 1 * -o3 _ _ _ = 0
        unfold o3; grind
      · show ((((0 : Int) + a1 * o3 _ _ _) + b1 * o3 _ _ _) + c1 * o3 _ _ _) + p1 * -o3 _ _ _ = 0
        unfold o3; grind
      · show ((((0 : Int) + a2 * o3 _ _ _) + b2 * o3 _ _ _) + c2 * o3 _ _ _) + p2 * -o3 _ _ _ = 0
        unfold o3; grind) ln hl
    have z' : ((((0 : Int) + at' ln.2 0 * o3 p b c) + at' ln.2 1 * o3 a p c) + at' ln.2 2 * o3 a b p) + at' ln.2 3 * -o3 a b c = 0 := z
    rw [zb 0 (by decide), zb 1 (by decide), zb 2 (by decide)] at z'
    rw [e3] at nz
    have : at' ln.2 3 * -o3 a b c ≠ 0 := Int.mul_ne_zero nz (by omega)
    omega
  obtain ⟨Q, pq, asc, lt⟩ := places_asc h.ok
  have eQ := asc3 (by rw [← pq.length_eq, List.length_map, l]) asc fun q hq => by
    obtain ⟨ln, hl, e⟩ := List.mem_map.mp (pq.mem_iff.mpr hq)
    rw [← e]; exact no3 ln hl
  have eS : S.map (·.1) = [0, 1, 2] := by
    rw [← eQ]
    refine List.Perm.eq_of_pairwise (le := (· ≤ ·)) (fun _ _ _ _ a b => Nat.le_antisymm a b) ?_ (asc.imp fun h => Nat.le_of_lt h) ((hp.map _).trans pq)
    exact List.pairwise_map.mpr hs
  have sl : S.length = 3 := by rw [hp.length_eq, l]
  obtain ⟨x, y, z, rfl⟩ : ∃ x y z, S = [x, y, z] := by
    match S, sl with
    | [x, y, z], _ => exact ⟨x, y, z, rfl⟩
  · simp only [List.map_cons, List.map_nil, List.cons.injEq, and_true] at eS
    obtain ⟨x1, x2⟩ := x
    obtain ⟨y1, y2⟩ := y
    obtain ⟨z1, z2⟩ := z
    obtain ⟨e1, e2, e3⟩ := eS
    dsimp only at e1 e2 e3
    subst e1; subst e2; subst e3
    have mx := hp.mem_iff.mp (show (0, x2) ∈ [(0, x2), (1, y2), (2, z2)] by simp)
    have my := hp.mem_iff.mp (show (1, y2) ∈ [(0, x2), (1, y2), (2, z2)] by simp)
    have mz := hp.mem_iff.mp (show (2, z2) ∈ [(0, x2), (1, y2), (2, z2)] by simp)
    have by' : ∀ q, q < 1 → at' y2 q = 0 := fun q hq => firstNZ_before (by rw [← first _ my]; exact hq)
    have bz' : ∀ q, q < 2 → at' z2 q = 0 := fun q hq => firstNZ_before (by rw [← first _ mz]; exact hq)
    exact ⟨x2, y2, z2, rfl, h.ok.nz _ mx, by' 0 (by decide), h.ok.nz _ my, bz' 0 (by decide), bz' 1 (by decide), h.ok.nz _ mz, h.ok.len _ mx, h.ok.len _ my, h.ok.len _ mz⟩
/-- what nulls the lines: Cramer's -/
theorem cramer {a b c p : P2} {v0 v1 v2 Y : Int} (hv : ∀ ln ∈ lines (rowsT [a, b, c, p]), at' ln.2 0 * v0 + at' ln.2 1 * v1 + at' ln.2 2 * v2 = at' ln.2 3 * Y) :
    v0 * o3 a b c = Y * o3 p b c ∧ v1 * o3 a b c = Y * o3 a p c ∧ v2 * o3 a b c = Y * o3 a b p := by
  obtain ⟨I, h⟩ := inv_lines (m := 4) (T := rowsT [a, b, c, p]) fun r hr => rowsT_len r hr
  have z := rows_null h (v := fun q => if q = 0 then v0 else if q = 1 then v1 else if q = 2 then v2 else -Y) (fun ln hl => by
    have := hv ln hl
    show ((((0 : Int) + at' ln.2 0 * v0) + at' ln.2 1 * v1) + at' ln.2 2 * v2) + at' ln.2 3 * -Y = 0
    rw [Int.mul_neg]; omega)
  obtain ⟨a1, a2⟩ := a
  obtain ⟨b1, b2⟩ := b
  obtain ⟨c1, c2⟩ := c
  obtain ⟨p1, p2⟩ := p
  have z0 : ((((0 : Int) + 1 * v0) + 1 * v1) + 1 * v2) + 1 * -Y = 0 := z [1, 1, 1, 1] (by simp [rowsT])
  have z1 : ((((0 : Int) + a1 * v0) + b1 * v1) + c1 * v2) + p1 * -Y = 0 := z [a1, b1, c1, p1] (by simp [rowsT])
  have z2 : ((((0 : Int) + a2 * v0) + b2 * v1) + c2 * v2) + p2 * -Y = 0 := z [a2, b2, c2, p2] (by simp [rowsT])
  have eY : Y = v0 + v1 + v2 := by omega
  subst eY
  unfold o3
  dsimp only
  refine ⟨?_, ?_, ?_⟩ <;> grind
end HS
namespace HS
open R74
open HV (red red_x red_sign gc gc_pos gc_dl gc_dr)
/-! weights by going back through the lines -/
def stp (ab : P2) (l : Int) (t : P2) : P2 := ((ab.1 * t.2 - l * t.1 * ab.2).fdiv (gc (ab.1 * t.2 - l * t.1 * ab.2) (ab.2 * t.2)), (ab.2 * t.2).fdiv (gc (ab.1 * t.2 - l * t.1 * ab.2) (ab.2 * t.2)))
theorem stp_x {ab t : P2} (l : Int) (h1 : 0 < ab.2) (h2 : 0 < t.2) : 0 < (stp ab l t).2 ∧ (stp ab l t).1 * (ab.2 * t.2) = (ab.1 * t.2 - l * t.1 * ab.2) * (stp ab l t).2 := by
  unfold stp
  have hb : 0 < ab.2 * t.2 := Int.mul_pos h1 h2
  generalize ab.1 * t.2 - l * t.1 * ab.2 = A at *
  generalize ab.2 * t.2 = Bb at *
  have g0 := gc_pos (p := A) (q := Bb) (by omega)
  obtain ⟨x, hx⟩ := gc_dl A Bb
  obtain ⟨y, hy⟩ := gc_dr A Bb
  generalize gc A Bb = g at *
  dsimp only
  have e1 : A.fdiv g = x := by rw [hx, Int.mul_comm, Int.mul_fdiv_cancel _ (by omega)]
  have e2 : Bb.fdiv g = y := by rw [hy, Int.mul_comm, Int.mul_fdiv_cancel _ (by omega)]
  rw [e1, e2, hx, hy]
  refine ⟨?_, by grind⟩
  rw [hy] at hb
  exact Int.pos_of_mul_pos_right hb g0
def tn2 (l2 : List Int) : P2 := red (at' l2 3) (1 * at' l2 2)
def tn1 (l1 : List Int) (t2 : P2) : P2 := red (stp (at' l1 3, 1) (at' l1 2) t2).1 ((stp (at' l1 3, 1) (at' l1 2) t2).2 * at' l1 1)
def tn0 (l0 : List Int) (t1 t2 : P2) : P2 := red (stp (stp (at' l0 3, 1) (at' l0 1) t1) (at' l0 2) t2).1 ((stp (stp (at' l0 3, 1) (at' l0 1) t1) (at' l0 2) t2).2 * at' l0 0)
theorem tn2_x {l2 : List Int} (h : at' l2 2 ≠ 0) : 0 < (tn2 l2).2 ∧ at' l2 2 * (tn2 l2).1 = at' l2 3 * (tn2 l2).2 := by
  obtain ⟨a, b⟩ := red_x (p := at' l2 3) (q := 1 * at' l2 2) (by omega)
  unfold tn2
  refine ⟨a, ?_⟩
  rw [← b, Int.one_mul, Int.mul_comm]
theorem tn1_x {l1 : List Int} {t2 : P2} (h : at' l1 1 ≠ 0) (h2 : 0 < t2.2) : 0 < (tn1 l1 t2).2 ∧ at' l1 1 * (tn1 l1 t2).1 * t2.2 + at' l1 2 * t2.1 * (tn1 l1 t2).2 = at' l1 3 * t2.2 * (tn1 l1 t2).2 := by
  obtain ⟨s0, s1⟩ := stp_x (ab := (at' l1 3, 1)) (t := t2) (at' l1 2) (show (0:Int) < 1 by decide) h2
  have q := red_x (p := (stp (at' l1 3, 1) (at' l1 2) t2).1) (q := (stp (at' l1 3, 1) (at' l1 2) t2).2 * at' l1 1) (Int.mul_ne_zero (by omega) h)
  unfold tn1
  generalize stp (at' l1 3, 1) (at' l1 2) t2 = s at *
  generalize red s.1 (s.2 * at' l1 1) = t at *
  obtain ⟨q1, q2⟩ := q
  refine ⟨q1, ?_⟩
  dsimp only at s1
  have : s.2 * (at' l1 1 * t.1 * t2.2 + at' l1 2 * t2.1 * t.2) = s.2 * (at' l1 3 * t2.2 * t.2) := by
    have a1 : t.1 * (s.2 * at' l1 1) * t2.2 = s.1 * t.2 * t2.2 := by rw [q2]
    have a2 : s.1 * (1 * t2.2) * t.2 = (at' l1 3 * t2.2 - at' l1 2 * t2.1 * 1) * s.2 * t.2 := by rw [s1]
    grind
  exact Int.eq_of_mul_eq_mul_left (by omega) this
theorem tn0_x {l0 : List Int} {t1 t2 : P2} (h : at' l0 0 ≠ 0) (h1 : 0 < t1.2) (h2 : 0 < t2.2) :
    0 < (tn0 l0 t1 t2).2 ∧ at' l0 0 * (tn0 l0 t1 t2).1 * t1.2 * t2.2 + at' l0 1 * t1.1 * (tn0 l0 t1 t2).2 * t2.2 + at' l0 2 * t2.1 * (tn0 l0 t1 t2).2 * t1.2 = at' l0 3 * t1.2 * t2.2 * (tn0 l0 t1 t2).2 := by
  obtain ⟨r0, r1⟩ := stp_x (ab := (at' l0 3, 1)) (t := t1) (at' l0 1) (show (0:Int) < 1 by decide) h1
  obtain ⟨s0, s1⟩ := stp_x (ab := stp (at' l0 3, 1) (at' l0 1) t1) (t := t2) (at' l0 2) r0 h2
  have q := red_x (p := (stp (stp (at' l0 3, 1) (at' l0 1) t1) (at' l0 2) t2).1) (q := (stp (stp (at' l0 3, 1) (at' l0 1) t1) (at' l0 2) t2).2 * at' l0 0) (Int.mul_ne_zero (by omega) h)
  unfold tn0
  generalize stp (stp (at' l0 3, 1) (at' l0 1) t1) (at' l0 2) t2 = s at *
  generalize stp (at' l0 3, 1) (at' l0 1) t1 = r at *
  generalize red s.1 (s.2 * at' l0 0) = t at *
  obtain ⟨q1, q2⟩ := q
  refine ⟨q1, ?_⟩
  dsimp only at r1
  have : (s.2 * r.2) * (at' l0 0 * t.1 * t1.2 * t2.2 + at' l0 1 * t1.1 * t.2 * t2.2 + at' l0 2 * t2.1 * t.2 * t1.2) = (s.2 * r.2) * (at' l0 3 * t1.2 * t2.2 * t.2) := by
    have a1 : t.1 * (s.2 * at' l0 0) * (r.2 * t2.2 * t1.2) = s.1 * t.2 * (r.2 * t2.2 * t1.2) := by rw [q2]
    have a2 : s.1 * (r.2 * t2.2) * (t.2 * t1.2) = (r.1 * t2.2 - at' l0 2 * t2.1 * r.2) * s.2 * (t.2 * t1.2) := by rw [s1]
    have a3 : r.1 * (1 * t1.2) * (t2.2 * s.2 * t.2) = (at' l0 3 * t1.2 - at' l0 1 * t1.1 * 1) * r.2 * (t2.2 * s.2 * t.2) := by rw [r1]
    grind
  exact Int.eq_of_mul_eq_mul_left (Int.mul_ne_zero (by omega) (by omega)) this
theorem sgn_of {x D y D0 : Int} (h : x * D = y * D0) (hD : D ≠ 0) (hy : 0 < y) : 0 ≤ x ↔ 0 ≤ D0 * D := by
  have e : x * (D * D) = y * (D0 * D) := by rw [← Int.mul_assoc, h, Int.mul_assoc]
  have d2 : 0 < D * D := by
    rcases Int.lt_or_gt_of_ne hD with z | z
    · exact Int.mul_pos_of_neg_of_neg z z
    · exact Int.mul_pos z z
  constructor
  · intro hx
    have := Int.mul_nonneg hx (Int.le_of_lt d2)
    rw [e] at this
    rw [Int.mul_comm] at this
    exact Int.nonneg_of_mul_nonneg_left this hy
  · intro hx
    have := Int.mul_nonneg (Int.le_of_lt hy) hx
    rw [← e] at this
    exact Int.nonneg_of_mul_nonneg_left this d2
/-- the told weights' signs -/
theorem weights_sign {a b c p : P2} (hD : o3 a b c ≠ 0) {l0 l1 l2 : List Int} (hp : [(0, l0), (1, l1), (2, l2)].Perm (lines (rowsT [a, b, c, p])))
    (h0 : at' l0 0 ≠ 0) (h10 : at' l1 0 = 0) (h1 : at' l1 1 ≠ 0) (h20 : at' l2 0 = 0) (h21 : at' l2 1 = 0) (h2 : at' l2 2 ≠ 0) :
    (0 < (tn2 l2).2 ∧ 0 < (tn1 l1 (tn2 l2)).2 ∧ 0 < (tn0 l0 (tn1 l1 (tn2 l2)) (tn2 l2)).2) ∧
    (0 ≤ (tn0 l0 (tn1 l1 (tn2 l2)) (tn2 l2)).1 ↔ 0 ≤ o3 p b c * o3 a b c) ∧ (0 ≤ (tn1 l1 (tn2 l2)).1 ↔ 0 ≤ o3 a p c * o3 a b c) ∧ (0 ≤ (tn2 l2).1 ↔ 0 ≤ o3 a b p * o3 a b c) := by
  obtain ⟨y2, e2⟩ := tn2_x h2
  obtain ⟨y1, e1⟩ := tn1_x (l1 := l1) h1 y2
  obtain ⟨y0, e0⟩ := tn0_x (l0 := l0) h0 y1 y2
  generalize tn0 l0 (tn1 l1 (tn2 l2)) (tn2 l2) = t0 at *
  generalize tn1 l1 (tn2 l2) = t1 at *
  generalize tn2 l2 = t2 at *
  refine ⟨⟨y2, y1, y0⟩, ?_⟩
  obtain ⟨c0, c1, c2⟩ := cramer (a := a) (b := b) (c := c) (p := p) (v0 := t0.1 * t1.2 * t2.2) (v1 := t1.1 * t0.2 * t2.2) (v2 := t2.1 * t0.2 * t1.2) (Y := t0.2 * t1.2 * t2.2) (fun ln hl => by
    have := hp.mem_iff.mpr hl
    simp only [List.mem_cons, List.not_mem_nil, or_false] at this
    rcases this with rfl | rfl | rfl
    · dsimp only; grind
    · dsimp only; rw [h10]
      have : (at' l1 1 * t1.1 * t2.2 + at' l1 2 * t2.1 * t1.2) * t0.2 = (at' l1 3 * t2.2 * t1.2) * t0.2 := by rw [e1]
      grind
    · dsimp only; rw [h20, h21]
      have : (at' l2 2 * t2.1) * (t0.2 * t1.2) = (at' l2 3 * t2.2) * (t0.2 * t1.2) := by rw [e2]
      grind)
  have p12 : t1.2 * t2.2 ≠ 0 := Int.mul_ne_zero (by omega) (by omega)
  have p02 : t0.2 * t2.2 ≠ 0 := Int.mul_ne_zero (by omega) (by omega)
  have p01 : t0.2 * t1.2 ≠ 0 := Int.mul_ne_zero (by omega) (by omega)
  refine ⟨sgn_of (y := t0.2) (Int.eq_of_mul_eq_mul_left p12 ?_) hD y0, sgn_of (y := t1.2) (Int.eq_of_mul_eq_mul_left p02 ?_) hD y1, sgn_of (y := t2.2) (Int.eq_of_mul_eq_mul_left p01 ?_) hD y2⟩ <;> grind
end HS
namespace L78
open PySem hiding ret
open PySem.Spec PyProof.Rows L2 Py StX
def b_divisor_of_all : Py.Env → M Out := (sSeq (sAsg 1 (eC (.int 0)))
  (sSeq (sFor (itSeq (eVar 0)) (tgN 2)
  (sAsg 1 (cal cGcd (aCons (eVar 1) (aCons (eVar 2) aNil)))))
  (sRet (eVar 1))))
def F_divisor_of_all : List D → M D := fnD 2 b_divisor_of_all
def b_lines_reduced : Py.Env → M Out := (sSeq (sOwn 1 (lDisp aNil))
  (sSeq (sFor (itSeq (eVar 0)) (tgN 2)
  (sSeq (sAsg 3 (mkL (calL cLst (aCons (eVar 2) aNil))))
  (sSeq (sForO 1 (tgTup 2 (tgsCons (tgN 4) (tgsCons (tgN 5) tgsNil)))
  (sIf (tst (bin gNe (bin gIx (eVar 3) (eVar 4)) (eC (.int 0)))) (sAsg 3 (mkL (eLc (itZip (aCons (eVar 3) (aCons (eVar 5) aNil))) (tgTup 2 (tgsCons (tgN 7) (tgsCons (tgN 8) tgsNil))) cYes (bin gSub (bin gMulX (bin gIx (eVar 5) (eVar 4)) (eVar 7)) (bin gMulX (bin gIx (eVar 3) (eVar 4)) (eVar 8))) [7, 8]))) sNx))
  (sSeq (sAsg 6 (eCall 1 F_divisor_of_all (aCons (eVar 3) aNil)))
  (sIf (tst (bin gGt (eVar 6) (eC (.int 0)))) (sSeq (sAsg 3 (mkL (eLc (itSeq (eVar 3)) (tgN 7) cYes (bin gFdiv (eVar 7) (eVar 6)) [7])))
  (sApp 1 (eTup (aCons (bin gIx (mkL (eLc (itEnum (aCons (eVar 3) aNil)) (tgTup 2 (tgsCons (tgN 4) (tgsCons (tgN 7) tgsNil))) (tst (bin gNe (eVar 7) (eC (.int 0)))) (eVar 4) [4, 7])) (eC (.int 0))) (aCons (eVar 3) aNil))))) sNx)))))
  (sRetOwn 1)))
def F_lines_reduced : List D → M D := fnD 8 b_lines_reduced
def b_with_one : Py.Env → M Out := (sRet (eTup (aCons (eC (.int 1)) (aStar (eVar 0) aNil))))
def F_with_one : List D → M D := fnD 0 b_with_one
def b_flat_size : Py.Env → M Out := (sRet (bin gSub (cal cLen (aCons (eCall 1 F_lines_reduced (aCons (mkL (eLc (itSeq (eVar 0)) (tgN 1) cYes (eCall 1 F_with_one (aCons (eVar 1) aNil)) [1])) aNil)) aNil)) (eC (.int 1))))
def F_flat_size : List D → M D := fnD 1 b_flat_size
def b_lowest_pair : Py.Env → M Out := (sSeq (sAsg 2 (eIf (tst (bin gGt (eVar 1) (eC (.int 0)))) (cal cGcd (aCons (eVar 0) (aCons (eVar 1) aNil))) (una gNeg (cal cGcd (aCons (eVar 0) (aCons (eVar 1) aNil))))))
  (sRet (eTup (aCons (bin gFdiv (eVar 0) (eVar 2)) (aCons (bin gFdiv (eVar 1) (eVar 2)) aNil)))))
def F_lowest_pair : List D → M D := fnD 1 b_lowest_pair
def b_whole_point : Py.Env → M Out := (sSeq (sAsg 1 (eC (.int 1)))
  (sSeq (sFor (itSeq (eVar 0)) (tgTup 2 (tgsCons (tgN 2) (tgsCons (tgN 3) tgsNil)))
  (sAsg 1 (bin gMulX (eVar 1) (eVar 3))))
  (sRet (mkL (lDisp (aCons (eVar 1) (aStar (mkL (eLc (itSeq (eVar 0)) (tgTup 2 (tgsCons (tgN 2) (tgsCons (tgN 3) tgsNil))) cYes (bin gMulX (eVar 2) (bin gFdiv (eVar 1) (eVar 3))) [2, 3])) aNil)))))))
def F_whole_point : List D → M D := fnD 3 b_whole_point
def b_told_number : Py.Env → M Out := (sSeq (sPar 3 4 (aCons (bin gIx (eVar 0) (una gNeg (eC (.int 1)))) (aCons (eC (.int 1)) aNil)))
  (sSeq (sFor (itRng2 (aCons (bin gAdd (eVar 2) (eC (.int 1))) (aCons (cal cLen (aCons (eVar 1) aNil)) aNil))) (tgN 5)
  (sSeq (sTgt (bin gIx (eVar 1) (eVar 5)) (tgTup 2 (tgsCons (tgN 6) (tgsCons (tgN 7) tgsNil))))
  (sSeq (sAsg 3 (bin gSub (bin gMulX (eVar 3) (eVar 7)) (bin gMulX (bin gMulX (bin gIx (eVar 0) (eVar 5)) (eVar 6)) (eVar 4))))
  (sSeq (sAsg 4 (bin gMulX (eVar 4) (eVar 7)))
  (sSeq (sAsg 8 (cal cGcd (aCons (eVar 3) (aCons (eVar 4) aNil))))
  (sPar 3 4 (aCons (bin gFdiv (eVar 3) (eVar 8)) (aCons (bin gFdiv (eVar 4) (eVar 8)) aNil))))))))
  (sRet (eCall 2 F_lowest_pair (aCons (eVar 3) (aCons (bin gMulX (eVar 4) (bin gIx (eVar 0) (eVar 2))) aNil))))))
def F_told_number : List D → M D := fnD 6 b_told_number
def b_weights_to : Py.Env → M Out := (sSeq (sAsg 2 (mkL (lDisp (aStar (mkL (eLc (itSeq (eVar 0)) (tgN 9) cYes (eCall 1 F_with_one (aCons (eVar 9) aNil)) [9])) (aCons (eCall 1 F_whole_point (aCons (eVar 1) aNil)) aNil)))))
  (sSeq (sAsg 3 (mkL (eLc (itRng1 (aCons (cal cLen (aCons (bin gIx (eVar 2) (eC (.int 0))) aNil)) aNil)) (tgN 10) cYes (mkL (eLc (itSeq (eVar 2)) (tgN 11) cYes (bin gIx (eVar 11) (eVar 10)) [11])) [10])))
  (sSeq (sAsg 4 (eCall 1 F_lines_reduced (aCons (eVar 3) aNil)))
  (sSeq (sIf (tst (cal cAny (aCons (mkL (eLc (itSeq (eVar 4)) (tgTup 2 (tgsCons (tgN 7) (tgsCons (tgN 8) tgsNil))) cYes (bin gEq (eVar 7) (cal cLen (aCons (eVar 0) aNil))) [7, 8])) aNil))) (sRet (eC .none)) sNx)
  (sSeq (sParO 5 6 (bin gIx (bin gIx (eVar 2) (una gNeg (eC (.int 1)))) (eC (.int 0))) (repL (mkL (lDisp (aCons (eTup (aCons (eC (.int 0)) (aCons (eC (.int 1)) aNil))) aNil))) (cal cLen (aCons (eVar 0) aNil))))
  (sSeq (sFor (itSeq (mkL (eRevL (mkL (calL cSrt (aCons (eVar 4) aNil)))))) (tgTup 2 (tgsCons (tgN 7) (tgsCons (tgN 8) tgsNil)))
  (sSetI 6 (eVar 7) (eCallV 3 F_told_number (aCons (eVar 8) (aCons (eVar 6) (aCons (eVar 7) aNil))))))
  (sRet (cal cTup (aCons (mkL (eLc (itSeq (eVar 6)) (tgTup 2 (tgsCons (tgN 12) (tgsCons (tgN 13) tgsNil))) cYes (eCall 2 F_lowest_pair (aCons (eVar 12) (aCons (bin gMulX (eVar 13) (eVar 5)) aNil))) [12, 13])) aNil)))))))))
def F_weights_to : List D → M D := fnD 12 b_weights_to
def b_places_of : Py.Env → M Out := (sSeq (sAsg 2 (mkL (lDisp (aCons (eTup aNil) aNil))))
  (sSeq (sFor (itRng1 (aCons (eVar 0) aNil)) (tgN 3)
  (sAsg 2 (bin gAdd (eVar 2) (mkL (eLc (itSeq (eVar 2)) (tgN 4) (tst (bin gLt (cal cLen (aCons (eVar 4) aNil)) (eVar 1))) (eTup (aStar (eVar 4) (aCons (eVar 3) aNil))) [4])))))
  (sRet (mkL (calL cSrt (aCons (mkL (eLc (itSeq (eVar 2)) (tgN 4) (tst (bin gEq (cal cLen (aCons (eVar 4) aNil)) (eVar 1))) (eVar 4) [4])) aNil))))))
def F_places_of : List D → M D := fnD 3 b_places_of
def b_weights_paper : Py.Env → M Out := (sSeq (sFor (itRng2 (aCons (eC (.int 1)) (aCons (bin gAdd (cal cLen (aCons (bin gIx (eVar 0) (eC (.int 0))) aNil)) (eC (.int 2))) aNil))) (tgN 2)
  (sFor (itSeq (eCall 2 F_places_of (aCons (cal cLen (aCons (eVar 0) aNil)) (aCons (eVar 2) aNil)))) (tgN 3)
  (sSeq (sAsg 4 (cal cTup (aCons (mkL (eLc (itSeq (eVar 3)) (tgN 6) cYes (bin gIx (eVar 0) (eVar 6)) [6])) aNil)))
  (sIf (tst (bin gEq (eCall 1 F_flat_size (aCons (eVar 4) aNil)) (bin gSub (eVar 2) (eC (.int 1))))) (sSeq (sAsg 5 (eCall 2 F_weights_to (aCons (eVar 4) (aCons (eVar 1) aNil))))
  (sIf (bAnd (tst (bin gNotN (eVar 5) (eC .none))) (tst (cal cAll (aCons (mkL (eLc (itSeq (eVar 5)) (tgTup 2 (tgsCons (tgN 7) (tgsCons (tgN 8) tgsNil))) cYes (bin gGe (eVar 7) (eC (.int 0))) [7, 8])) aNil)))) (sRet (eTup (aCons (eVar 3) (aCons (eVar 5) aNil)))) sNx)) sNx))))
  (sRet (eC .none)))
def F_weights_paper : List D → M D := fnD 7 b_weights_paper
def b_holds_point : Py.Env → M Out := (sRet (bin gNotN (eCall 2 F_weights_paper (aCons (eVar 0) (aCons (eVar 1) aNil))) (eC .none)))
def F_holds_point : List D → M D := fnD 0 b_holds_point
def b_as_fractions : Py.Env → M Out := (sRet (cal cTup (aCons (mkL (eLc (itSeq (eVar 0)) (tgN 1) cYes (eTup (aCons (eVar 1) (aCons (eC (.int 1)) aNil))) [1])) aNil)))
def F_as_fractions : List D → M D := fnD 1 b_as_fractions
def b_hull_corners : Py.Env → M Out := (sSeq (sOwn 1 (lDisp aNil))
  (sSeq (sFor (itEnum (aCons (eVar 0) aNil)) (tgTup 2 (tgsCons (tgN 2) (tgsCons (tgN 3) tgsNil)))
  (sSeq (sAsg 4 (bin gAdd (eSl (eVar 0) oNo (oPart (eVar 2))) (eSl (eVar 0) (oPart (bin gAdd (eVar 2) (eC (.int 1)))) oNo)))
  (sIf (bOr (tst (bin gEq (eVar 4) (eTup aNil))) (bNot (tst (eCall 2 F_holds_point (aCons (eVar 4) (aCons (eCall 1 F_as_fractions (aCons (eVar 3) aNil)) aNil)))))) (sApp 1 (eVar 3)) sNx)))
  (sRet (cal cTup (aCons (eVar 1) aNil)))))
def F_hull_corners : List D → M D := fnD 4 b_hull_corners
def b_is_spread : Py.Env → M Out := (sRet (bin gEq (eCall 1 F_hull_corners (aCons (eVar 0) aNil)) (eVar 0)))
def F_is_spread : List D → M D := fnD 0 b_is_spread
def b_spread_fours : Py.Env → M Out := (sRet (cal cTup (aCons (mkL (eLc (itSeq (eCall 2 F_places_of (aCons (cal cLen (aCons (eVar 0) aNil)) (aCons (eC (.int 4)) aNil)))) (tgN 1) (tst (eCall 1 F_is_spread (aCons (cal cTup (aCons (mkL (eLc (itSeq (eVar 1)) (tgN 2) cYes (bin gIx (eVar 0) (eVar 2)) [2])) aNil)) aNil))) (eVar 1) [1])) aNil)))
def F_spread_fours : List D → M D := fnD 2 b_spread_fours
def b_count_by_fives : Py.Env → M Out := (sSeq (sAsg 1 (eC (.int 0)))
  (sSeq (sFor (itSeq (eCall 2 F_places_of (aCons (cal cLen (aCons (eVar 0) aNil)) (aCons (eC (.int 5)) aNil)))) (tgN 2)
  (sAsg 1 (bin gSub (bin gAdd (eVar 1) (bin gMulX (eC (.int 2)) (cal cLen (aCons (eCall 1 F_hull_corners (aCons (cal cTup (aCons (mkL (eLc (itSeq (eVar 2)) (tgN 3) cYes (bin gIx (eVar 0) (eVar 3)) [3])) aNil)) aNil)) aNil)))) (eC (.int 5)))))
  (sRet (bin gFdiv (eVar 1) (bin gSub (cal cLen (aCons (eVar 0) aNil)) (eC (.int 4)))))))
def F_count_by_fives : List D → M D := fnD 3 b_count_by_fives

def F__law_pick : List D → M D := F_pick
def b__law_of : Py.Env → M Out := (sRet (bin gIx (eVar 1) (eCallS 0 1 F__law_pick (aCons (cal cLen (aCons (eVar 1) aNil)) aNil))))
def F__law_of : List D → M D := fnS 0 b__law_of
def b__law_some : Py.Env → M Out := (sSeq (sAsg 2 (mkL (lDisp (aCons (eTup aNil) aNil))))
  (sSeq (sFor (itRng1 (aCons (eVar 0) aNil)) (tgN 3)
  (sAsg 2 (bin gAdd (eVar 2) (mkL (eLc (itSeq (eVar 2)) (tgN 4) (tst (bin gLt (cal cLen (aCons (eVar 4) aNil)) (eVar 1))) (bin gAdd (eVar 4) (eTup (aCons (eVar 3) aNil))) [4])))))
  (sRet (mkL (calL cSrt (aCons (mkL (eLc (itSeq (eVar 2)) (tgN 4) (tst (bin gEq (cal cLen (aCons (eVar 4) aNil)) (eVar 1))) (eVar 4) [4])) aNil))))))
def F__law_some : List D → M D := fnD 3 b__law_some
def b__law_side : Py.Env → M Out := (sSeq (sAsg 3 (bin gSub (bin gMulX (bin gSub (bin gIx (eVar 1) (eC (.int 0))) (bin gIx (eVar 0) (eC (.int 0)))) (bin gSub (bin gIx (eVar 2) (eC (.int 1))) (bin gIx (eVar 0) (eC (.int 1))))) (bin gMulX (bin gSub (bin gIx (eVar 1) (eC (.int 1))) (bin gIx (eVar 0) (eC (.int 1)))) (bin gSub (bin gIx (eVar 2) (eC (.int 0))) (bin gIx (eVar 0) (eC (.int 0)))))))
  (sRet (bin gSub (cal cInt (aCons (bin gGt (eVar 3) (eC (.int 0))) aNil)) (cal cInt (aCons (bin gLt (eVar 3) (eC (.int 0))) aNil)))))
def F__law_side : List D → M D := fnD 1 b__law_side
def b__law_inside : Py.Env → M Out := (sRet (eChain gEq gEq (eCall 3 F__law_side (aCons (eVar 1) (aCons (eVar 2) (aCons (eVar 0) aNil)))) (eCall 3 F__law_side (aCons (eVar 2) (aCons (eVar 3) (aCons (eVar 0) aNil)))) (eCall 3 F__law_side (aCons (eVar 3) (aCons (eVar 1) (aCons (eVar 0) aNil))))))
def F__law_inside : List D → M D := fnD 0 b__law_inside
def b__law_is_spread : Py.Env → M Out := (sSeq (sFor (itEnum (aCons (eVar 0) aNil)) (tgTup 2 (tgsCons (tgN 1) (tgsCons (tgN 2) tgsNil)))
  (sSeq (sTgt (mkL (eLc (itSeq (eVar 0)) (tgN 6) (tst (bin gNe (eVar 6) (eVar 2))) (eVar 6) [6])) (tgLst 3 (tgsCons (tgN 3) (tgsCons (tgN 4) (tgsCons (tgN 5) tgsNil)))))
  (sIf (tst (eCall 4 F__law_inside (aCons (eVar 2) (aCons (eVar 3) (aCons (eVar 4) (aCons (eVar 5) aNil)))))) (sRet (eC (.bool false))) sNx)))
  (sRet (eC (.bool true))))
def F__law_is_spread : List D → M D := fnD 6 b__law_is_spread
def b__law_is_free : Py.Env → M Out := (sSeq (sFor (itEnum (aCons (eVar 0) aNil)) (tgTup 2 (tgsCons (tgN 2) (tgsCons (tgN 3) tgsNil)))
  (sIf (bOr (tst (bin gEq (eVar 3) (eVar 1))) (tst (bin gNe (mkL (eLc (itSeq (eSl (eVar 0) oNo (oPart (eVar 2)))) (tgN 4) (tst (bin gEq (eCall 3 F__law_side (aCons (eVar 3) (aCons (eVar 4) (aCons (eVar 1) aNil)))) (eC (.int 0)))) (eVar 4) [4])) (mkL (lDisp aNil))))) (sRet (eC (.bool false))) sNx))
  (sRet (eC (.bool true))))
def F__law_is_free : List D → M D := fnD 3 b__law_is_free
def b_law : Py.Env → M Out := (sSeq (sFor (itRng1 (aCons (eC (.int 3)) aNil)) (tgN 2)
  (sSeq (sParO2 3 4 (lDisp aNil) (bin gAdd (eC (.int 4)) (eCallS 1 1 F__law_pick (aCons (eC (.int 3)) aNil))))
  (sSeq (sAsg 5 (eCallS 1 1 F__law_of (aCons (mkL (lDisp (aCons (eC (.int 3)) (aCons (eC (.int 6)) (aCons (eC (.int 20)) aNil))))) aNil)))
  (sSeq (sFor (itRng1 (aCons (eVar 4) aNil)) (tgN 6)
  (sSeq (sPar 7 8 (aCons (bin gSub (eCallS 1 1 F__law_pick (aCons (bin gAdd (bin gMulX (eC (.int 2)) (eVar 5)) (eC (.int 1))) aNil)) (eVar 5)) (aCons (bin gSub (eCallS 1 1 F__law_pick (aCons (bin gAdd (bin gMulX (eC (.int 2)) (eVar 5)) (eC (.int 1))) aNil)) (eVar 5)) aNil)))
  (sSeq (sPar 9 10 (aCons (eTup (aCons (eVar 7) (aCons (eVar 8) aNil))) (aCons (eC (.int 0)) aNil)))
  (sSeq (sWhile (fun _ => 200) (bNot (tst (eCallV 2 F__law_is_free (aCons (eVar 3) (aCons (eVar 9) aNil)))))
  (sSeq (sAsg 10 (bin gAdd (eVar 10) (eC (.int 1))))
  (sAsg 9 (eTup (aCons (bin gAdd (eVar 7) (eVar 10)) (aCons (bin gAdd (eVar 8) (bin gMulX (eVar 10) (eVar 10))) aNil))))))
  (sApp 3 (eVar 9))))))
  (sSeq (sAsg 3 (cal cTup (aCons (mkL (calL cSrt (aCons (eVar 3) aNil))) aNil)))
  (sSeq (sPar 11 12 (aCons (cal cReprX (aCons (eVar 3) aNil)) (aCons (mkL (eLc (itSeq (eCall 2 F__law_some (aCons (eVar 4) (aCons (eC (.int 4)) aNil)))) (tgN 14) (tst (eCall 1 F__law_is_spread (aCons (mkL (eLc (itSeq (eVar 14)) (tgN 17) cYes (bin gIx (eVar 3) (eVar 17)) [17])) aNil))) (eVar 14) [14])) aNil)))
  (sSeq (sIf (tst (bin gNeX (cal cReprX (aCons (eCall 1 F_spread_fours (aCons (eVar 3) aNil)) aNil)) (cal cReprX (aCons (cal cTup (aCons (eVar 12) aNil)) aNil)))) (sRet (eC (.bool false))) sNx)
  (sSeq (sAsg 13 (cal cTup (aCons (mkL (eLc (itSeq (eCallS 1 1 F__law_of (aCons (eCall 2 F__law_some (aCons (eVar 4) (aCons (eC (.int 4)) aNil))) aNil))) (tgN 17) cYes (bin gIx (eVar 3) (eVar 17)) [17])) aNil)))
  (sSeq (sIf (tst (bin gNeX (cal cReprX (aCons (eCall 1 F_is_spread (aCons (eVar 13) aNil)) aNil)) (cal cReprX (aCons (eCall 1 F__law_is_spread (aCons (eVar 13) aNil)) aNil)))) (sRet (eC (.bool false))) sNx)
  (sSeq (sIf (tst (bin gGt (eVar 4) (eC (.int 4)))) (sSeq (sFor (itSeq (eCall 2 F__law_some (aCons (eVar 4) (aCons (eC (.int 5)) aNil)))) (tgN 14)
  (sSeq (sAsg 15 (cal cTup (aCons (mkL (eLc (itSeq (eVar 14)) (tgN 17) cYes (bin gIx (eVar 3) (eVar 17)) [17])) aNil)))
  (sSeq (sAsg 16 (mkL (eLc (itSeq (eVar 12)) (tgN 13) (tst (bin gEqX (mkL (eLc (itSeq (eVar 13)) (tgN 17) (tst (bin (gIn true) (eVar 17) (eVar 14))) (eVar 17) [17])) (mkL (lDisp aNil)))) (eVar 13) [13])))
  (sIf (bOr (tst (bin gNeX (cal cLen (aCons (eVar 16) aNil)) (bin gSub (bin gMulX (eC (.int 2)) (cal cLen (aCons (eCall 1 F_hull_corners (aCons (eVar 15) aNil)) aNil))) (eC (.int 5))))) (tst (bin gEqX (eVar 16) (mkL (lDisp aNil))))) (sRet (eC (.bool false))) sNx))))
  (sIf (bOr (tst (bin gNeX (cal cReprX (aCons (eCall 1 F_count_by_fives (aCons (eVar 3) aNil)) aNil)) (cal cReprX (aCons (cal cLen (aCons (eVar 12) aNil)) aNil)))) (tst (bin gLt (bin gMulX (eC (.int 5)) (cal cLen (aCons (eVar 12) aNil))) (cal cLen (aCons (eCall 2 F__law_some (aCons (eVar 4) (aCons (eC (.int 4)) aNil))) aNil))))) (sRet (eC (.bool false))) sNx)) sNx)
  (sIf (tst (bin gNeX (cal cReprX (aCons (eVar 3) aNil)) (eVar 11))) (sRet (eC (.bool false))) sNx)))))))))))
  (sRet (bin gEqX (eCall 1 F_spread_fours (aCons (eTup (aCons (eTup (aCons (eC (.int 0)) (aCons (eC (.int 0)) aNil))) (aCons (eTup (aCons (eC (.int 0)) (aCons (eC (.int 4)) aNil))) (aCons (eTup (aCons (eC (.int 1)) (aCons (eC (.int 1)) aNil))) (aCons (eTup (aCons (eC (.int 2)) (aCons (eC (.int 1)) aNil))) (aCons (eTup (aCons (eC (.int 6)) (aCons (eC (.int 0)) aNil))) aNil)))))) aNil)) (eTup (aCons (eTup (aCons (eC (.int 0)) (aCons (eC (.int 2)) (aCons (eC (.int 3)) (aCons (eC (.int 4)) aNil))))) aNil)))))
end L78
namespace L78
open PySem hiding ret
open Py L2
def Bd (x : Int) : Prop := x.natAbs < 2^1000
theorem mulB {x y : Int} (hx : Bd x) (hy : Bd y) : mulOk x y = true := by
  have h : ∀ z : Int, Bd z → z.natAbs.log2 < 1001 := by
    intro z hz
    by_cases h0 : z.natAbs = 0
    · rw [h0]; decide
    · exact Nat.lt_succ_of_lt ((Nat.log2_lt h0).mpr hz)
  have a := h x hx
  have b := h y hy
  simp only [mulOk, decide_eq_true_eq]; omega
theorem divB {x y : Int} (hy : Bd y) (h0 : y ≠ 0) : divOk x y = true := by
  have : y.natAbs.log2 < 1000 := (Nat.log2_lt (by omega)).mpr hy
  simp only [divOk, decide_eq_true_eq]; exact ⟨h0, by omega⟩
theorem ixN_nat {n i : Nat} (h : i < n) : ixN n (i : Int) = some i := by
  unfold ixN
  simp [h]
theorem atI_nat {α : Type} {xs : List α} {i : Nat} {x : α} (h : xs[i]? = some x) : L2.atI xs (i : Int) = some x := by
  have hi : i < xs.length := (List.getElem?_eq_some_iff.mp h).1
  unfold L2.atI
  rw [ixN_nat hi]; exact h
theorem rangeD_succ (lo : Nat) (m : Nat) : rangeD lo (m + 1) = .int lo :: rangeD (lo + 1 : Nat) m := by
  simp only [rangeD, List.range_succ_eq_map, List.map_cons, List.map_map]
  congr 1
  simp
  intro a _; omega
theorem forW_cons (tg : D → Py.Env → M Py.Env) (body : Py.Env → M Out) (d : D) (ds : List D) (ρ : Py.Env) : forW tg body (d :: ds) ρ = bnd (tg d ρ) fun ρ' => bnd (body ρ') fun o => oLoop o (forW tg body ds) := rfl
theorem getD_some {α : Type} {xs : List α} {k : Nat} {d : α} (h : k < xs.length) : xs[k]? = some (xs.getD k d) := by
  rw [List.getD_eq_getElem?_getD, List.getElem?_eq_getElem h]; rfl
theorem eqv_int (a b : Int) : PyData.eqv (.int a) (.int b) = decide (a = b) := by
  by_cases h : a = b <;> simp [PyData.eqv, h]
theorem shp_int (a : Int) : shp (.int a) = true := rfl
theorem canLayAll_ints : ∀ xs : List Int, PyData.canLayAll0 (dInts xs) = true
  | [] => by simp [dInts, PyData.canLayAll0]
  | x :: xs => by
    show PyData.canLayAll0 (.int x :: dInts xs) = true
    simp [PyData.canLayAll0, PyData.canLay0, canLayAll_ints xs]
theorem depthAll_ints : ∀ xs : List Int, PyData.depthAll (dInts xs) = 0
  | [] => by simp [dInts, PyData.depthAll]
  | x :: xs => by
    show PyData.depthAll (.int x :: dInts xs) = 0
    simp [PyData.depthAll, PyData.depth, depthAll_ints xs]
theorem shp_ints (xs : List Int) : shp (.list (dInts xs)) = true := by
  show SeqAt.shaped _ = true
  simp [SeqAt.shaped, PyData.canLay0, PyData.depth, canLayAll_ints, depthAll_ints]
theorem shp_intsT (xs : List Int) : shp (tupI xs) = true := by
  show SeqAt.shaped (.tuple (dInts xs)) = true
  simp [SeqAt.shaped, PyData.canLay0, PyData.depth, canLayAll_ints, depthAll_ints]
theorem shp_nil : shp (.list []) = true := rfl
theorem eqv_ints_nil (xs : List D) : PyData.eqv (.list xs) (.list []) = xs.isEmpty := by
  cases xs <;> simp [PyData.eqv, PyData.eqvAll]
def B (n : Nat) (x : Int) : Prop := x.natAbs ≤ 2 ^ n
theorem B.mono {n m : Nat} {x : Int} (h : B n x) (hm : n ≤ m) : B m x := Nat.le_trans h (Nat.pow_le_pow_right (by decide) hm)
theorem B.mul {n m : Nat} {x y : Int} (hx : B n x) (hy : B m y) : B (n + m) (x * y) := by
  unfold B at *
  rw [Int.natAbs_mul, Nat.pow_add]
  exact Nat.mul_le_mul hx hy
theorem B.sub {n : Nat} {x y : Int} (hx : B n x) (hy : B n y) : B (n + 1) (x - y) := by
  unfold B at *
  rw [Nat.pow_succ]; omega
theorem B.add {n : Nat} {x y : Int} (hx : B n x) (hy : B n y) : B (n + 1) (x + y) := by
  unfold B at *
  rw [Nat.pow_succ]; omega
theorem B.bd {n : Nat} {x : Int} (hx : B n x) (hn : n < 1000) : Bd x := Nat.lt_of_le_of_lt hx (Nat.pow_lt_pow_right (by decide) hn)
theorem B.neg {n : Nat} {x : Int} (hx : B n x) : B n (-x) := by unfold B at *; omega
theorem cutD_from {ds : List D} {j : Nat} (h : j ≤ ds.length) : cutD ds (some (j : Int)) none = ds.drop j := by
  unfold cutD
  rw [HT.sIx_nat, HT.sIx_none, Nat.min_eq_left h]
  exact List.take_of_length_le (by simp)
theorem cutD_to {ds : List D} {j : Nat} (h : j ≤ ds.length) : cutD ds none (some (j : Int)) = ds.take j := by
  unfold cutD
  rw [HT.sIx_nat, HT.sIx_none, Nat.min_eq_left h]
  simp
theorem eCall_2 (F : List D → M D) {f : Py.Env → M (List D)} {ρ : Py.Env} {x y : D} (h : f ρ = ret [x, y]) : eCall 2 F f ρ = F [x, y] := by
  rw [x_eCall, h, bnd_ret', if_pos (by simp)]
theorem args_2 {i j : Nat} {ρ : Py.Env} {x y : D} (hx : ρ[i]? = some (some x)) (hy : ρ[j]? = some (some y)) : (aCons (eVar i) (aCons (eVar j) aNil)) ρ = ret [x, y] := by
  simp only [x_aCons, x_aNil, x_eVar, hx, hy, Option.getD_some, optM_some, bnd_ret']
theorem cAll_map {α : Type} (l : List α) (p : α → Bool) : cAll [.list (l.map fun a => .bool (p a))] = ret (.bool (l.all p)) := by
  have := cAll_bools (l.map p)
  rw [List.map_map] at this
  rw [show (l.map fun a => PyData.bool (p a)) = l.map (PyData.bool ∘ p) from rfl, this]
  congr 2
  rw [List.all_map]; rfl
theorem cAny_map {α : Type} (l : List α) (p : α → Bool) : cAny [.list (l.map fun a => .bool (p a))] = ret (.bool (l.any p)) := by
  have := cAny_bools (l.map p)
  rw [List.map_map] at this
  rw [show (l.map fun a => PyData.bool (p a)) = l.map (PyData.bool ∘ p) from rfl, this]
  congr 2
  rw [List.any_map]; rfl
theorem layD {k : Nat} : ∀ {ds : List D}, (∀ d ∈ ds, d.canLay0 = true ∧ d.depth ≤ k) → PyData.canLayAll0 ds = true ∧ PyData.depthAll ds ≤ k
  | [], _ => ⟨rfl, Nat.zero_le _⟩
  | d :: ds, h => by
    obtain ⟨h1, h2⟩ := layD fun x hx => h x (List.mem_cons_of_mem _ hx)
    obtain ⟨h3, h4⟩ := h d (by simp)
    refine ⟨?_, Nat.max_le.mpr ⟨h4, h2⟩⟩
    show (d.canLay0 && PyData.canLayAll0 ds) = true
    rw [h3, h1]; rfl
theorem shp_of {d : D} (h1 : d.canLay0 = true) (h2 : d.depth ≤ 64) : shp d = true := by
  show (d.canLay0 && decide (d.depth ≤ 64)) = true
  rw [h1, decide_eq_true h2]; rfl
theorem lay_ints (xs : List Int) : (tupI xs).canLay0 = true ∧ (tupI xs).depth ≤ 1 := by
  show PyData.canLay0 (.tuple (dInts xs)) = true ∧ PyData.depth (.tuple (dInts xs)) ≤ 1
  simp [PyData.canLay0, PyData.depth, canLayAll_ints, depthAll_ints]
theorem minD_mem : ∀ (ds : List D) (d : D), W.minD d ds ∈ d :: ds
  | [], d => by simp [W.minD]
  | e :: ds, d => by
    show W.minD (if W.dataLt e d then e else d) ds ∈ _
    have := minD_mem ds (if W.dataLt e d then e else d)
    rcases List.mem_cons.mp this with h | h
    · rw [h]; split <;> simp
    · exact List.mem_cons_of_mem _ (List.mem_cons_of_mem _ h)
def wholeB : D → Bool
  | .int _ => true
  | _ => false
theorem eCall_1 (F : List D → M D) {f : Py.Env → M (List D)} {ρ : Py.Env} {x : D} (h : f ρ = ret [x]) : eCall 1 F f ρ = F [x] := by
  rw [x_eCall, h, bnd_ret', if_pos (by simp)]
theorem args_1 {i : Nat} {ρ : Py.Env} {x : D} (hx : ρ[i]? = some (some x)) : (aCons (eVar i) aNil) ρ = ret [x] := by
  simp only [x_aCons, x_aNil, x_eVar, hx, Option.getD_some, optM_some, bnd_ret']
def isTup : D → Bool
  | .tuple _ => true
  | _ => false
theorem isi_tup (d : D) : gIsi "tuple" d = ret (.bool (isTup d)) := by cases d <;> rfl
theorem len1 {x : D} : (if lenOk (List.length [x]) = true then ret (PyData.tuple [x]) else (stuck : M D)) = ret (.tuple [x]) := if_pos rfl
theorem eTup_1 {a : Py.Env → M D} {ρ : Py.Env} {x : D} (h : a ρ = ret x) : eTup (aCons a aNil) ρ = ret (.tuple [x]) := by
  rw [x_eTup, x_aCons, h, bnd_ret', x_aNil, bnd_ret', bnd_ret', if_pos (show lenOk (List.length [x]) = true from by simp [lenOk])]
theorem eTup_2 {a b : Py.Env → M D} {ρ : Py.Env} {x y : D} (h : a ρ = ret x) (h' : b ρ = ret y) : eTup (aCons a (aCons b aNil)) ρ = ret (.tuple [x, y]) := by
  rw [x_eTup, x_aCons, h, bnd_ret', x_aCons, h', bnd_ret', x_aNil, bnd_ret', bnd_ret', bnd_ret', if_pos (show lenOk (List.length [x, y]) = true from by simp [lenOk])]
theorem pick_c {s : Nat} {m : Int} {e : Py.Env → M D} {ρ : Py.Env} {P : D → Prop} (h1 : ρ[s]? = some (some .none)) (he : e ρ = ret (.int m)) (h2 : 2 ≤ m) (h3 : m < 1073741824) (k : ∀ j : Int, 0 ≤ j → j < m → P (.int j)) : eCallS s 1 F__law_pick (aCons e aNil) ρ P := by
  have e1 : eCallS s 1 F__law_pick (aCons e aNil) ρ = anyBelow m := by
    rw [eCallS, x_eVar, h1]
    show bnd (ret PyData.none) _ = _
    rw [bnd_ret', eCall_1 (x := .int m) _ (by rw [x_aCons, he, bnd_ret', x_aNil, bnd_ret'])]
    show (if m < 2 then ret (PyData.int 0) else if m < 1073741824 then anyBelow m else stuck) = _
    rw [if_neg (by omega), if_pos h3]
  rw [e1]
  exact k
theorem bnd_app {α β : Type} (m : M α) (f : α → M β) (P : β → Prop) : bnd m f P = m (fun a => f a P) := rfl
theorem fn_rt {m : Nat} {b : Py.Env → M Out} {ds : List D} {env : Py.Env} {r : D} (he : ds.map some ++ List.replicate m none = env) (h : b env = ret (.rt r)) : fnD m b ds = ret r := by
  rw [x_fnD, he, h, bnd_ret', outD_rt]
theorem fdiv_i (i j : Int) : gFdiv (.int i) (.int j) = if divOk i j = true then ret (.int (i.fdiv j)) else stuck := rfl
theorem args_3 {i j k : Nat} {ρ : Py.Env} {x y z : D} (hx : ρ[i]? = some (some x)) (hy : ρ[j]? = some (some y)) (hz : ρ[k]? = some (some z)) : (aCons (eVar i) (aCons (eVar j) (aCons (eVar k) aNil))) ρ = ret [x, y, z] := by
  simp only [x_aCons, x_aNil, x_eVar, hx, hy, hz, Option.getD_some, optM_some, bnd_ret']
theorem eCall_3 (F : List D → M D) {f : Py.Env → M (List D)} {ρ : Py.Env} {x y z : D} (h : f ρ = ret [x, y, z]) : eCall 3 F f ρ = F [x, y, z] := by
  rw [x_eCall, h, bnd_ret', if_pos (by simp)]
theorem mulq {n m : Nat} {x y : Int} (hx : B n x) (hy : B m y) (h1 : n < 1000 := by decide) (h2 : m < 1000 := by decide) : mulOk x y = true := mulB (hx.bd h1) (hy.bd h2)
theorem args_e {ρ : Py.Env} {x : D} {e : Py.Env → M D} (hx : e ρ = ret x) : (aCons e aNil) ρ = ret [x] := by
  simp only [x_aCons, x_aNil, hx, bnd_ret']
theorem gGt0 (i j : Int) : gGt (.int i) (.int j) = ret (.bool (decide (i > j))) := rfl
theorem gSub_i (i j : Int) : gSub (.int i) (.int j) = ret (.int (i - j)) := rfl
theorem pick_1 {s : Nat} {m : Int} {e : Py.Env → M D} {ρ : Py.Env} {P : D → Prop} (h1 : ρ[s]? = some (some .none)) (he : e ρ = ret (.int m)) (h2 : 1 ≤ m) (h3 : m < 1073741824) (k : ∀ j : Int, 0 ≤ j → j < m → P (.int j)) : eCallS s 1 F__law_pick (aCons e aNil) ρ P := by
  by_cases z : 2 ≤ m
  · exact pick_c h1 he z h3 k
  · have m1 : m = 1 := by omega
    have e1 : eCallS s 1 F__law_pick (aCons e aNil) ρ = ret (.int 0) := by
      rw [eCallS, x_eVar, h1]
      show bnd (ret PyData.none) _ = _
      rw [bnd_ret', eCall_1 (x := .int m) _ (by rw [x_aCons, he, bnd_ret', x_aNil, bnd_ret'])]
      show (if m < 2 then ret (PyData.int 0) else if m < 1073741824 then anyBelow m else stuck) = _
      rw [if_pos (by omega)]
    rw [e1]
    exact k 0 (by omega) (by omega)
theorem fnS_c {m : Nat} {f : Py.Env → M Out} {ds : List D} {env : Py.Env} {P : D → Prop} (he : some .none :: (ds.map some ++ List.replicate m none) = env) (h : f env (fun o => outD o P)) : fnS m f ds P := by
  rw [x_fnS, he, bnd_app]
  exact h
theorem tgAB {i j : Nat} {a b : D} {ρ : Py.Env} : tgTup 2 (tgsCons (tgN i) (tgsCons (tgN j) tgsNil)) (.tuple [a, b]) ρ = ret ((ρ.set i (some a)).set j (some b)) := rfl
theorem aCons_app (a : Py.Env → M D) (r : Py.Env → M (List D)) (ρ : Py.Env) (P : List D → Prop) : aCons a r ρ P = a ρ (fun d => r ρ (fun ds => P (d :: ds))) := rfl
theorem lcN_app (i : Nat) (elt : Py.Env → M D) (ρ : Py.Env) (d : D) (ds : List D) (P : List D → Prop) : lcW (tgN i) cYes elt ρ (d :: ds) P = elt (ρ.set i (some d)) (fun y => lcW (tgN i) cYes elt ρ ds fun ys => P (y :: ys)) := rfl
theorem of_c {s : Nat} {e : Py.Env → M D} {ρ : Py.Env} {P : D → Prop} {d : D} {xs : List D} (h1 : ρ[s]? = some (some .none)) (he : e ρ = ret d) (hd : d = .list xs ∨ d = .tuple xs) (hl : 1 ≤ xs.length) (h3 : xs.length < 1000) (k : ∀ x ∈ xs, P x) : eCallS s 1 F__law_of (aCons e aNil) ρ P := by
  have e1 : eCallS s 1 F__law_of (aCons e aNil) ρ = F__law_of [d] := by
    rw [eCallS, x_eVar, h1]
    show bnd (ret PyData.none) _ = _
    rw [bnd_ret', eCall_1 (x := d) _ (by rw [x_aCons, he, bnd_ret', x_aNil, bnd_ret'])]
  rw [e1]
  show eCallS 0 1 F__law_pick (aCons (cal cLen (aCons (eVar 1) aNil)) aNil) [some .none, some d] (fun j => gIx d j P)
  have cl : cal cLen (aCons (eVar 1) aNil) ([some .none, some d] : Py.Env) = ret (.int (xs.length : Nat)) := by
    rw [x_cal, args_1 (x := d) rfl, bnd_ret']
    rcases hd with rfl | rfl <;> rfl
  refine pick_1 rfl cl (by omega) (by omega) fun j h5 h6 => ?_
  obtain ⟨m, rfl⟩ : ∃ m : Nat, j = (m : Int) := ⟨j.toNat, by omega⟩
  have lm : m < xs.length := by omega
  have g : gIx d (.int (m : Int)) = ret (xs[m]) := by
    rcases hd with rfl | rfl
    · exact gIx_l (atI_nat (List.getElem?_eq_getElem lm))
    · exact gIx_t (atI_nat (List.getElem?_eq_getElem lm))
  rw [g]
  exact k _ (List.getElem_mem lm)
theorem gEq_i (i j : Int) : gEq (.int i) (.int j) = ret (.bool (decide (i = j))) := by simp only [gEq, shp_int, Bool.and_self, if_true, eqv_int]
theorem ng_e {x : Int} {ρ : Py.Env} : una gNeg (eC (.int x)) ρ = ret (.int (-x)) := by rw [x_una, x_eC, bnd_ret', x_gNeg_i]
theorem ct_e {x : Int} {ρ : Py.Env} : eC (.int x) ρ = ret (.int x) := x_eC _ _
theorem lnil_e {ρ : Py.Env} : mkL (lDisp aNil) ρ = ret (.list []) := by rw [x_mkL, x_lDisp, x_aNil, bnd_ret', if_pos (by simp [lenOk]), bnd_ret']
theorem tst_app {e : Py.Env → M D} {ρ : Py.Env} {Q : Bool → Prop} : tst e ρ Q = e ρ (fun d => toB d Q) := by rw [x_tst, bnd_app]
theorem bAnd_app {a b : Py.Env → M Bool} {ρ : Py.Env} {Q : Bool → Prop} : bAnd a b ρ Q = a ρ (fun x => (if x = true then b ρ else ret false) Q) := rfl
theorem bOr_app {a b : Py.Env → M Bool} {ρ : Py.Env} {Q : Bool → Prop} : bOr a b ρ Q = a ρ (fun x => (if x = true then ret true else b ρ) Q) := rfl
theorem eTup_3 {a b c : Py.Env → M D} {ρ : Py.Env} {x y z : D} (ha : a ρ = ret x) (hb : b ρ = ret y) (hc : c ρ = ret z) : eTup (aCons a (aCons b (aCons c aNil))) ρ = ret (.tuple [x, y, z]) := by
  rw [x_eTup, x_aCons, ha, bnd_ret', x_aCons, hb, bnd_ret', x_aCons, hc, bnd_ret', x_aNil, bnd_ret', bnd_ret', bnd_ret', bnd_ret', if_pos (by simp [lenOk])]
end L78
namespace L78
open PySem hiding ret
open Py L2
def rD (b : Bool) (r : List Int) : D := if b = true then lstI r else tupI r
def tD (c b : Bool) (T : List (List Int)) : D := if c = true then .list (T.map (rD b)) else .tuple (T.map (rD b))
theorem seq_tD (c b : Bool) (T : List (List Int)) : seqD (tD c b T) = ret (T.map (rD b)) := by
  cases c <;> rfl
theorem cLst_rD (b : Bool) (r : List Int) : cLst [rD b r] = ret (dInts r) := by cases b <;> rfl
theorem ix_l {r : List Int} {i : Nat} {x : Int} (h : r[i]? = some x) : gIx (lstI r) (.int (i : Nat)) = ret (.int x) := gIx_l (atI_nat (by rw [dInts, List.getElem?_map, h]; rfl))
theorem zipD_ints : ∀ a b : List Int, zipD (dInts a) (dInts b) = (a.zip b).map fun q => .tuple [.int q.1, .int q.2]
  | [], _ => rfl
  | _ :: _, [] => rfl
  | x :: a, y :: b => by
    show PyData.tuple [.int x, .int y] :: zipD (dInts a) (dInts b) = _
    rw [zipD_ints a b]
    rfl
end L78
namespace L78
open PySem hiding ret
open Py L2 R74
def dv1 : Py.Env → M Out := (sAsg 1 (eC (.int 0)))
def dv2f : Py.Env → M Out := (sAsg 1 (cal cGcd (aCons (eVar 1) (aCons (eVar 2) aNil))))
def dv2 : Py.Env → M Out := (sFor (itSeq (eVar 0)) (tgN 2) dv2f)
theorem b_divisor_of_all_eq : b_divisor_of_all = (sSeq dv1 (sSeq dv2 (sRet (eVar 1)))) := rfl
def lr1 : Py.Env → M Out := (sOwn 1 (lDisp aNil))
def lr2f1 : Py.Env → M Out := (sAsg 3 (mkL (calL cLst (aCons (eVar 2) aNil))))
def lr2f2 : Py.Env → M Out := (sForO 1 (tgTup 2 (tgsCons (tgN 4) (tgsCons (tgN 5) tgsNil)))
  (sIf (tst (bin gNe (bin gIx (eVar 3) (eVar 4)) (eC (.int 0)))) (sAsg 3 (mkL (eLc (itZip (aCons (eVar 3) (aCons (eVar 5) aNil))) (tgTup 2 (tgsCons (tgN 7) (tgsCons (tgN 8) tgsNil))) cYes (bin gSub (bin gMulX (bin gIx (eVar 5) (eVar 4)) (eVar 7)) (bin gMulX (bin gIx (eVar 3) (eVar 4)) (eVar 8))) [7, 8]))) sNx))
def lr2f3 : Py.Env → M Out := (sAsg 6 (eCall 1 F_divisor_of_all (aCons (eVar 3) aNil)))
def lr2f4a1 : Py.Env → M Out := (sAsg 3 (mkL (eLc (itSeq (eVar 3)) (tgN 7) cYes (bin gFdiv (eVar 7) (eVar 6)) [7])))
def lr2f4a2 : Py.Env → M Out := (sApp 1 (eTup (aCons (bin gIx (mkL (eLc (itEnum (aCons (eVar 3) aNil)) (tgTup 2 (tgsCons (tgN 4) (tgsCons (tgN 7) tgsNil))) (tst (bin gNe (eVar 7) (eC (.int 0)))) (eVar 4) [4, 7])) (eC (.int 0))) (aCons (eVar 3) aNil))))
def lr2f4a : Py.Env → M Out := (sSeq lr2f4a1 lr2f4a2)
def lr2f4 : Py.Env → M Out := (sIf (tst (bin gGt (eVar 6) (eC (.int 0)))) lr2f4a sNx)
def lr2f : Py.Env → M Out := (sSeq lr2f1 (sSeq lr2f2 (sSeq lr2f3 lr2f4)))
def lr2 : Py.Env → M Out := (sFor (itSeq (eVar 0)) (tgN 2) lr2f)
theorem b_lines_reduced_eq : b_lines_reduced = (sSeq lr1 (sSeq lr2 (sRetOwn 1))) := rfl
def lrB : Py.Env → M Out := (sIf (tst (bin gNe (bin gIx (eVar 3) (eVar 4)) (eC (.int 0)))) (sAsg 3 (mkL (eLc (itZip (aCons (eVar 3) (aCons (eVar 5) aNil))) (tgTup 2 (tgsCons (tgN 7) (tgsCons (tgN 8) tgsNil))) cYes (bin gSub (bin gMulX (bin gIx (eVar 5) (eVar 4)) (eVar 7)) (bin gMulX (bin gIx (eVar 3) (eVar 4)) (eVar 8))) [7, 8]))) sNx)
theorem gcd_e {ρ : Py.Env} {a x : Int} {i j : Nat} (h1 : ρ[i]? = some (some (.int a))) (h2 : ρ[j]? = some (some (.int x))) : cal cGcd (aCons (eVar i) (aCons (eVar j) aNil)) ρ = ret (.int (Int.gcd a x : Nat)) := by
  rw [x_cal, args_2 h1 h2, bnd_ret']
  rfl
theorem div_loop : ∀ (xs : List Int) (a : Int) (u : Option D) (z : D), ∃ u', forW (tgN 2) dv2f (dInts xs) [some z, some (.int a), u] = ret (.nx [some z, some (.int (xs.foldl (fun a x => ((Int.gcd a x : Nat) : Int)) a)), u'])
  | [], a, u, z => ⟨u, rfl⟩
  | x :: xs, a, u, z => by
    obtain ⟨u', h⟩ := div_loop xs ((Int.gcd a x : Nat) : Int) (some (.int x)) z
    refine ⟨u', ?_⟩
    show forW (tgN 2) dv2f (.int x :: dInts xs) _ = _
    rw [forW_cons, x_tgN, bnd_ret']
    show bnd (dv2f [some z, some (.int a), some (.int x)]) _ = _
    rw [dv2f, x_sAsg, gcd_e (a := a) (x := x) rfl rfl, bnd_ret', bnd_ret', oLoop_nx]
    exact h
theorem divisor_eq (xs : List Int) : F_divisor_of_all [lstI xs] = ret (.int (gcdL xs)) := by
  refine fn_rt (env := [some (lstI xs), none, none]) rfl ?_
  obtain ⟨u', h⟩ := div_loop xs 0 none (lstI xs)
  rw [b_divisor_of_all_eq, dv1, asg_nx (x_eC _ _)]
  show (sSeq dv2 (sRet (eVar 1))) [some (lstI xs), some (.int 0), none] = _
  rw [x_sSeq, dv2, x_sFor, x_itSeq, var_eq (d := lstI xs) rfl, bnd_ret']
  show bnd (bnd (ret (dInts xs)) _) _ = _
  rw [bnd_ret', h, bnd_ret', oThen_nx, x_sRet, var_eq (d := .int (gcdL xs)) rfl, bnd_ret']
/-! ### reduced lines -/
def lnD (a : Nat × List Int) : D := .tuple [.int (a.1 : Nat), lstI a.2]
/-- sizes -/
def bnd' : Nat → Nat
  | 0 => 10
  | n + 1 => 2 * bnd' n + 1
def Bl (n : Nat) (l : List Int) : Prop := ∀ x ∈ l, B n x
theorem at_B {n : Nat} {l : List Int} (h : Bl n l) (q : Nat) : B n (at' l q) := by
  by_cases hq : q < l.length
  · exact h _ (at_mem hq)
  · rw [at_out (by omega)]
    unfold B
    exact Nat.zero_le _
theorem redStep_B {n : Nat} {line : List Int} {a : Nat × List Int} (h : Bl n line) (ha : Bl n a.2) : Bl (2 * n + 1) (redStep line a) := by
  unfold redStep
  split
  · exact fun x hx => (h x hx).mono (by omega)
  · intro z hz
    obtain ⟨i, hi, rfl⟩ := List.getElem_of_mem hz
    rw [List.getElem_zipWith]
    have e1 := ((at_B ha a.1).mul (h _ (List.getElem_mem (by simp at hi; omega : i < line.length))))
    have e2 := ((at_B h a.1).mul (ha _ (List.getElem_mem (by simp at hi; omega : i < a.2.length))))
    exact (e1.sub e2).mono (by omega)
theorem set9 {ρ : Py.Env} {i : Nat} {d : D} (h : i < ρ.length) : (ρ.set i (some d))[i]? = some (some d) := List.getElem?_set_self h
/-- one line is led to 0 at a place -/
theorem lrB_eq {n m : Nat} {line : List Int} {a : Nat × List Int} {ρ : Py.Env} (hl : ρ.length = 9) (h3 : ρ[3]? = some (some (lstI line))) (h4 : ρ[4]? = some (some (.int (a.1 : Nat)))) (h5 : ρ[5]? = some (some (lstI a.2))) (bl : Bl n line) (ba : Bl n a.2) (n9 : n < 1000) (la : line.length = m) (laa : a.2.length = m) (hp : a.1 < m) :
    lrB ρ = ret (.nx (ρ.set 3 (some (lstI (redStep line a))))) := by
  have g1 : line[a.1]? = some (at' line a.1) := getD_some (by omega)
  have g2 : a.2[a.1]? = some (at' a.2 a.1) := getD_some (by omega)
  have t : bin gNe (bin gIx (eVar 3) (eVar 4)) (eC (.int 0)) ρ = ret (.bool (!decide (at' line a.1 = 0))) := by
    rw [x_bin, x_bin, var_eq h3, bnd_ret', var_eq h4, bnd_ret', ix_l g1, bnd_ret', x_eC, bnd_ret']
    simp only [gNe, shp_int, Bool.and_self, if_true, eqv_int]
  rw [lrB, x_sIf, tst_b t, bnd_ret']
  by_cases z : at' line a.1 = 0
  · rw [decide_eq_true z, if_neg (show ¬ ((!true) = true) from by decide), x_sNx, redStep, if_pos z]
    congr 2
    apply List.ext_getElem?
    intro j
    by_cases e : 3 = j
    · subst e; rw [set9 (by omega), h3]
    · rw [List.getElem?_set_ne e]
  · rw [decide_eq_false z, if_pos (show (!false) = true from rfl), redStep, if_neg z]
    have lc : mkL (eLc (itZip (aCons (eVar 3) (aCons (eVar 5) aNil))) (tgTup 2 (tgsCons (tgN 7) (tgsCons (tgN 8) tgsNil))) cYes (bin gSub (bin gMulX (bin gIx (eVar 5) (eVar 4)) (eVar 7)) (bin gMulX (bin gIx (eVar 3) (eVar 4)) (eVar 8))) [7, 8]) ρ = ret (lstI (List.zipWith (fun x y => at' a.2 a.1 * x - at' line a.1 * y) line a.2)) := by
      have e := comp_all (ρ := ρ) (its := itZip (aCons (eVar 3) (aCons (eVar 5) aNil))) (tg := tgTup 2 (tgsCons (tgN 7) (tgsCons (tgN 8) tgsNil))) (elt := bin gSub (bin gMulX (bin gIx (eVar 5) (eVar 4)) (eVar 7)) (bin gMulX (bin gIx (eVar 3) (eVar 4)) (eVar 8))) (vs := [7, 8])
        (fun q : Int × Int => PyData.tuple [.int q.1, .int q.2]) (fun q => .int (at' a.2 a.1 * q.1 - at' line a.1 * q.2)) (line.zip a.2) (by
          rw [x_itZip, args_2 h3 h5, bnd_ret', zip2_2]
          show bnd (ret (dInts line)) _ = _
          rw [bnd_ret']
          show bnd (ret (dInts a.2)) _ = _
          rw [bnd_ret', zipD_ints]) ?_
      · rw [e]
        congr 2
        rw [dInts, List.map_zipWith, List.zip, List.map_zipWith]
      · intro q hq
        have hx := bl _ (List.of_mem_zip hq).1
        have hy := ba _ (List.of_mem_zip hq).2
        refine ⟨_, tgAB, ?_⟩
        simp only [x_wipeD_cons, x_wipeD_nil]
        have E : ∀ j, j ≠ 7 → j ≠ 8 → ((((ρ.set 8 none).set 7 none).set 7 (some (.int q.1))).set 8 (some (.int q.2)))[j]? = ρ[j]? := fun j h1 h2 => by
          rw [List.getElem?_set_ne (by omega), List.getElem?_set_ne (by omega), List.getElem?_set_ne (by omega), List.getElem?_set_ne (by omega)]
        have E7 : ((((ρ.set 8 none).set 7 none).set 7 (some (.int q.1))).set 8 (some (.int q.2)))[7]? = some (some (.int q.1)) := by
          rw [List.getElem?_set_ne (by decide), set9 (by simp only [List.length_set]; omega)]
        have E8 : ((((ρ.set 8 none).set 7 none).set 7 (some (.int q.1))).set 8 (some (.int q.2)))[8]? = some (some (.int q.2)) := set9 (by simp only [List.length_set]; omega)
        have m1 := mulq (at_B ba a.1) hx n9 n9
        have m2 := mulq (at_B bl a.1) hy n9 n9
        rw [x_bin, x_bin, x_bin, var_eq ((E 5 (by decide) (by decide)).trans h5), bnd_ret', var_eq ((E 4 (by decide) (by decide)).trans h4), bnd_ret', ix_l g2, bnd_ret', var_eq E7, bnd_ret', x_gMulX_i, if_pos m1, bnd_ret', x_bin, x_bin, var_eq ((E 3 (by decide) (by decide)).trans h3), bnd_ret', var_eq ((E 4 (by decide) (by decide)).trans h4), bnd_ret', ix_l g1, bnd_ret', var_eq E8, bnd_ret', x_gMulX_i, if_pos m2, bnd_ret', gSub_i]
    rw [x_sAsg, lc, bnd_ret']
theorem red_loop {m : Nat} {l : D} : ∀ (F : List (Nat × List Int)) (j : Nat) (line : List Int) (ρ : Py.Env), ρ.length = 9 → ρ[1]? = some (some l) → ρ[3]? = some (some (lstI line)) → (∀ i (h : i < F.length), Bl (bnd' (j + i)) F[i].2) → Bl (bnd' j) line → j + F.length ≤ 6 → (∀ a ∈ F, a.2.length = m ∧ a.1 < m) → line.length = m →
    ∃ ρ', ρ'.length = 9 ∧ ρ'[1]? = some (some l) ∧ (∀ i, i ≤ 2 → ρ'[i]? = ρ[i]?) ∧ ρ'[3]? = some (some (lstI (red line F))) ∧ Bl (bnd' (j + F.length)) (red line F) ∧ forWO 1 (tgTup 2 (tgsCons (tgN 4) (tgsCons (tgN 5) tgsNil))) lrB (F.map lnD) ρ = ret (.nx ρ')
  | [], j, line, ρ, hl, h1, h3, _, bl, _, _, _ => by
    refine ⟨ρ, hl, h1, fun i _ => rfl, h3, bl, ?_⟩
    show bnd (eVar 1 ρ) _ = _
    rw [var_eq h1, bnd_ret']
  | a :: F, j, line, ρ, hl, h1, h3, hb, bl, h6, ha, hm => by
    rw [List.length_cons] at h6
    have b0 : Bl (bnd' j) a.2 := hb 0 (by simp)
    have n9 : bnd' j < 1000 := by
      have js : j = 0 ∨ j = 1 ∨ j = 2 ∨ j = 3 ∨ j = 4 ∨ j = 5 := by omega
      rcases js with rfl | rfl | rfl | rfl | rfl | rfl <;> decide
    obtain ⟨la, pa⟩ := ha a (by simp)
    have e := lrB_eq (ρ := (ρ.set 4 (some (.int (a.1 : Nat)))).set 5 (some (lstI a.2))) (n := bnd' j) (m := m) (line := line) (a := a) (by simp only [List.length_set]; exact hl) (by rw [List.getElem?_set_ne (by decide), List.getElem?_set_ne (by decide), h3]) (by rw [List.getElem?_set_ne (by decide), set9 (by omega)]) (set9 (by simp only [List.length_set]; omega)) bl b0 n9 hm la pa
    obtain ⟨ρ', r1, r2, r3, r4, r5, r6⟩ := red_loop (m := m) (l := l) F (j + 1) (redStep line a) ((((ρ.set 4 (some (.int (a.1 : Nat)))).set 5 (some (lstI a.2)))).set 3 (some (lstI (redStep line a)))) (by simp only [List.length_set]; exact hl) (by rw [List.getElem?_set_ne (by decide), List.getElem?_set_ne (by decide), List.getElem?_set_ne (by decide), h1]) (set9 (by simp only [List.length_set]; omega)) (fun i hi => by
      have := hb (i + 1) (by simp; omega)
      rw [show j + 1 + i = j + (i + 1) by omega]
      exact this) (redStep_B bl b0) (by omega) (fun x hx => ha x (List.mem_cons_of_mem _ hx)) (redStep_len hm la)
    refine ⟨ρ', r1, r2, fun i hi => ?_, r4, ?_, ?_⟩
    · rw [r3 i hi, List.getElem?_set_ne (by omega), List.getElem?_set_ne (by omega), List.getElem?_set_ne (by omega)]
    · rw [List.length_cons, show j + (F.length + 1) = j + 1 + F.length by omega]
      exact r5
    · show bnd (eVar 1 ρ) (fun _ => bnd (tgTup 2 (tgsCons (tgN 4) (tgsCons (tgN 5) tgsNil)) (.tuple [.int (a.1 : Nat), lstI a.2]) ρ) fun ρ' => bnd (lrB ρ') fun o => oLoop o (forWO 1 (tgTup 2 (tgsCons (tgN 4) (tgsCons (tgN 5) tgsNil))) lrB (F.map lnD))) = _
      rw [var_eq h1, bnd_ret', tgAB, bnd_ret', e, bnd_ret', oLoop_nx]
      exact r6
theorem enum_ints : ∀ (xs : List Int) (k : Nat), enumD k (dInts xs) = (xs.zipIdx k).map fun p => .tuple [.int (p.2 : Nat), .int p.1]
  | [], k => rfl
  | x :: xs, k => by
    show PyData.tuple [.int (k : Nat), .int x] :: enumD (k + 1) (dInts xs) = _
    rw [enum_ints xs (k + 1), List.zipIdx_cons]
    rfl
theorem first_filter : ∀ (xs : List Int) (k : Nat), (∃ x ∈ xs, x ≠ 0) → ∃ x tl, (xs.zipIdx k).filter (fun p => !decide (p.1 = 0)) = (x, k + firstNZ xs) :: tl
  | [], k, h => by obtain ⟨x, hx, _⟩ := h; cases hx
  | y :: ys, k, h => by
    rw [List.zipIdx_cons]
    by_cases z : y = 0
    · obtain ⟨x, hx, nx⟩ := h
      have hx' : x ∈ ys := by
        rcases List.mem_cons.mp hx with e | e
        · exact absurd (e.trans z) nx
        · exact e
      obtain ⟨x', tl, e⟩ := first_filter ys (k + 1) ⟨x, hx', nx⟩
      refine ⟨x', tl, ?_⟩
      rw [List.filter_cons_of_neg (by simp [z]), e]
      have : firstNZ (y :: ys) = firstNZ ys + 1 := by
        obtain ⟨h1, h2⟩ := firstNZ_spec (l := ys) ⟨x, hx', nx⟩
        unfold firstNZ
        rw [List.findIdx?_cons]
        simp only [z, ne_eq, not_true, decide_false, Bool.false_eq_true, if_false]
        cases e : ys.findIdx? fun x => decide (x ≠ 0) with
        | none =>
          rw [List.findIdx?_eq_none_iff] at e
          have := e x hx'
          simp at this
          exact absurd this nx
        | some i => rfl
      rw [this, show k + 1 + firstNZ ys = k + (firstNZ ys + 1) by omega]
    · refine ⟨y, (ys.zipIdx (k + 1)).filter (fun p => !decide (p.1 = 0)), ?_⟩
      rw [List.filter_cons_of_pos (by simp [z])]
      have : firstNZ (y :: ys) = 0 := by
        unfold firstNZ
        rw [List.findIdx?_cons]
        simp [z]
      rw [this]
      rfl
theorem gcd_pos_ex {l : List Int} (h : 0 < gcdL l) : ∃ x ∈ l, x ≠ 0 := by
  apply Classical.byContradiction
  intro e
  have : gcdL l = 0 := gcdL_of_zero fun x hx => Classical.byContradiction fun n => e ⟨x, hx, n⟩
  omega
theorem gcd_B {n : Nat} {l : List Int} (h : Bl n l) : B n (gcdL l) := by
  have h0 := gcdL_nonneg l
  by_cases z : gcdL l = 0
  · rw [z]; unfold B; exact Nat.zero_le _
  · obtain ⟨x, hx, nx⟩ := gcd_pos_ex (l := l) (by omega)
    have hd := gcdL_dvd hx
    have h1 := h x hx
    unfold B at *
    have := Nat.le_of_dvd (by omega) (Int.natAbs_dvd_natAbs.mpr hd)
    omega
theorem fdiv_B {n : Nat} {x g : Int} (h : B n x) (hg : 0 < g) (hd : g ∣ x) : B n (x.fdiv g) := by
  obtain ⟨c, rfl⟩ := hd
  rw [Int.mul_comm, Int.mul_fdiv_cancel _ (by omega)]
  unfold B at *
  rw [Int.natAbs_mul] at h
  have : 1 ≤ g.natAbs := by omega
  have := Nat.mul_le_mul_right c.natAbs this
  omega
theorem div_e {n : Nat} {L : List Int} {g : Int} {ρ : Py.Env} {i j r : Nat} (hr : r < ρ.length) (h3 : ρ[i]? = some (some (lstI L))) (h6 : ρ[j]? = some (some (.int g))) (jr : j ≠ r) (bg : B n g) (hg : g ≠ 0) (n9 : n < 1000) :
    mkL (eLc (itSeq (eVar i)) (tgN r) cYes (bin gFdiv (eVar r) (eVar j)) [r]) ρ = ret (lstI (L.map fun x => x.fdiv g)) := by
  have e := comp_all (ρ := ρ) (its := itSeq (eVar i)) (tg := tgN r) (elt := bin gFdiv (eVar r) (eVar j)) (vs := [r]) PyData.int (fun x => .int (x.fdiv g)) L (by rw [x_itSeq, var_eq h3, bnd_ret']; rfl) ?_
  · rw [e]
    congr 2
    rw [dInts, List.map_map]
    rfl
  · intro x hx
    rw [x_wipeD_cons, x_wipeD_nil]
    refine ⟨_, rfl, ?_⟩
    rw [x_bin, var_eq (set9 (by rw [List.length_set]; exact hr)), bnd_ret', var_eq (d := .int g) (by rw [List.getElem?_set_ne (Ne.symm jr), List.getElem?_set_ne (Ne.symm jr), h6]), bnd_ret', fdiv_i, if_pos (divB (bg.bd n9) hg)]
theorem app_e {ρ : Py.Env} {i : Nat} {e : Py.Env → M D} {ds : List D} {d : D} (h : ρ[i]? = some (some (.list ds))) (he : e ρ = ret d) (hl : ds.length < 100000) : sApp i e ρ = ret (.nx (ρ.set i (some (.list (ds ++ [d]))))) := by
  have se : sApp i e ρ = bnd (eVar i ρ) fun l => bnd (e ρ) fun d => match l with
    | .list ds => if lenOk (ds.length + 1) = true then ret (.nx (ρ.set i (some (.list (ds ++ [d]))))) else stuck
    | _ => stuck := rfl
  rw [se, var_eq h, bnd_ret', he, bnd_ret']
  show (if lenOk (ds.length + 1) = true then ret (Out.nx (ρ.set i (some (.list (ds ++ [d]))))) else stuck) = _
  rw [if_pos (by rw [lenOk_def]; omega)]
/-- one row -/
theorem row_eq {m : Nat} {b : Bool} {F : List (Nat × List Int)} {r : List Int} {ρ : Py.Env} (hl : ρ.length = 9) (h1 : ρ[1]? = some (some (.list (F.map lnD)))) (h2 : ρ[2]? = some (some (rD b r))) (hF : ∀ i (h : i < F.length), Bl (bnd' i) F[i].2) (F5 : F.length ≤ 5) (ok : ∀ a ∈ F, a.2.length = m ∧ a.1 < m) (hr : Bl 10 r) (hm : r.length = m) (m9 : m ≤ 1000) :
    ∃ ρ', ρ'.length = 9 ∧ ρ'[1]? = some (some (.list ((addRow F r).map lnD))) ∧ ρ'[0]? = ρ[0]? ∧ (∀ i (h : i < (addRow F r).length), Bl (bnd' i) (addRow F r)[i].2) ∧ lr2f ρ = ret (.nx ρ') := by
  have e1 : mkL (calL cLst (aCons (eVar 2) aNil)) ρ = ret (lstI r) := by
    rw [x_mkL, x_calL, args_1 h2, bnd_ret', cLst_rD, bnd_ret']; rfl
  have k0 : (ρ.set 3 (some (lstI r))).length = 9 := by rw [List.length_set]; exact hl
  have k1 : (ρ.set 3 (some (lstI r)))[1]? = some (some (.list (F.map lnD))) := by rw [List.getElem?_set_ne (by decide), h1]
  have k3 : (ρ.set 3 (some (lstI r)))[3]? = some (some (lstI r)) := set9 (by omega)
  have kk : (ρ.set 3 (some (lstI r)))[0]? = ρ[0]? := List.getElem?_set_ne (by decide)
  rw [lr2f, lr2f1, asg_nx e1]
  generalize (ρ.set 3 (some (lstI r))) = ρ1 at *
  obtain ⟨ρ2, r1, r2, r3, r4, r5, r6⟩ := red_loop (m := m) (l := .list (F.map lnD)) F 0 r ρ1 k0 k1 k3 (fun i h => by rw [Nat.zero_add]; exact hF i h) hr (by omega) ok hm
  rw [Nat.zero_add] at r5
  have f2 : lr2f2 ρ1 = ret (.nx ρ2) := by
    show bnd (eVar 1 ρ1) (fun d => bnd (seqD d) fun ds => forWO 1 _ lrB ds ρ1) = _
    rw [var_eq k1, bnd_ret']
    show bnd (ret (F.map lnD)) _ = _
    rw [bnd_ret']
    exact r6
  rw [seq_nx f2]
  have lred : (red r F).length = m := by
    have : ∀ (F : List (Nat × List Int)) (l : List Int), l.length = m → (∀ a ∈ F, a.2.length = m ∧ a.1 < m) → (red l F).length = m := by
      intro F
      induction F with
      | nil => intro l h _; exact h
      | cons a F ih => intro l h ha; exact ih _ (redStep_len h (ha a (by simp)).1) fun x hx => ha x (List.mem_cons_of_mem _ hx)
    exact this F r hm ok
  have n9 : bnd' F.length < 1000 := by
    have js : F.length = 0 ∨ F.length = 1 ∨ F.length = 2 ∨ F.length = 3 ∨ F.length = 4 ∨ F.length = 5 := by omega
    rcases js with e | e | e | e | e | e <;> (rw [e]; decide)
  have e3 : eCall 1 F_divisor_of_all (aCons (eVar 3) aNil) ρ2 = ret (.int (gcdL (red r F))) := (eCall_1 _ (args_1 r4)).trans (divisor_eq _)
  rw [lr2f3, asg_nx e3]
  have q0 : (ρ2.set 6 (some (.int (gcdL (red r F))))).length = 9 := by rw [List.length_set]; exact r1
  have q1 : (ρ2.set 6 (some (.int (gcdL (red r F)))))[1]? = some (some (.list (F.map lnD))) := by rw [List.getElem?_set_ne (by decide), r2]
  have q3 : (ρ2.set 6 (some (.int (gcdL (red r F)))))[3]? = some (some (lstI (red r F))) := by rw [List.getElem?_set_ne (by decide), r4]
  have q6 : (ρ2.set 6 (some (.int (gcdL (red r F)))))[6]? = some (some (.int (gcdL (red r F)))) := set9 (by omega)
  have qq : (ρ2.set 6 (some (.int (gcdL (red r F)))))[0]? = ρ[0]? := by rw [List.getElem?_set_ne (by decide), r3 0 (by decide), kk]
  generalize (ρ2.set 6 (some (.int (gcdL (red r F))))) = ρ3 at *
  have t : bin gGt (eVar 6) (eC (.int 0)) ρ3 = ret (.bool (decide (gcdL (red r F) > 0))) := by rw [x_bin, var_eq q6, bnd_ret', x_eC, bnd_ret', gGt0]
  rw [lr2f4, x_sIf, tst_b t, bnd_ret']
  unfold addRow
  by_cases z : gcdL (red r F) > 0
  · rw [decide_eq_true z, if_pos rfl, if_pos z]
    have bg := gcd_B r5
    have e4 := div_e (n := bnd' F.length) (L := red r F) (g := gcdL (red r F)) (ρ := ρ3) (i := 3) (j := 6) (r := 7) (by omega) q3 q6 (by decide) bg (by omega) n9
    rw [lr2f4a, lr2f4a1, asg_nx e4]
    obtain ⟨L, hL⟩ : ∃ L, L = (red r F).map fun x => x.fdiv (gcdL (red r F)) := ⟨_, rfl⟩
    rw [← hL]
    have lL : L.length = m := by rw [hL, List.length_map, lred]
    have BL : Bl (bnd' F.length) L := by
      intro x hx
      rw [hL] at hx
      obtain ⟨y, hy, rfl⟩ := List.mem_map.mp hx
      exact fdiv_B (r5 y hy) z (gcdL_dvd hy)
    have nzL : ∃ x ∈ L, x ≠ 0 := by
      obtain ⟨x, hx, nx⟩ := gcd_pos_ex z
      refine ⟨x.fdiv (gcdL (red r F)), by rw [hL]; exact List.mem_map.mpr ⟨x, hx, rfl⟩, fun e => ?_⟩
      obtain ⟨c, hc⟩ := gcdL_dvd hx
      rw [hc, Int.mul_comm, Int.mul_fdiv_cancel _ (by omega)] at e
      rw [hc, e] at nx
      simp at nx
    have s1 : (ρ3.set 3 (some (lstI L)))[1]? = some (some (.list (F.map lnD))) := by rw [List.getElem?_set_ne (by decide), q1]
    have s3 : (ρ3.set 3 (some (lstI L)))[3]? = some (some (lstI L)) := set9 (by omega)
    have s0 : (ρ3.set 3 (some (lstI L))).length = 9 := by rw [List.length_set]; exact q0
    have ss : (ρ3.set 3 (some (lstI L)))[0]? = ρ[0]? := by rw [List.getElem?_set_ne (by decide), qq]
    generalize (ρ3.set 3 (some (lstI L))) = ρ4 at *
    obtain ⟨x0, tl, ef⟩ := first_filter L 0 nzL
    rw [Nat.zero_add] at ef
    have ec : mkL (eLc (itEnum (aCons (eVar 3) aNil)) (tgTup 2 (tgsCons (tgN 4) (tgsCons (tgN 7) tgsNil))) (tst (bin gNe (eVar 7) (eC (.int 0)))) (eVar 4) [4, 7]) ρ4 = ret (.list (((L.zipIdx 0).filter fun p => !decide (p.1 = 0)).map fun p => .int (p.2 : Nat))) := by
      refine comp_map (fun p : Int × Nat => PyData.tuple [.int (p.2 : Nat), .int p.1]) (fun p => !decide (p.1 = 0)) (fun p => .int (p.2 : Nat)) (L.zipIdx 0) ?_ ?_
      · rw [x_itEnum, args_1 s3, bnd_ret']
        show ret (enumD 0 (dInts L)) = _
        rw [enum_ints]
      · intro p hp
        refine ⟨_, tgAB, ?_, fun _ => ?_⟩
        · refine tst_b ?_
          simp only [x_wipeD_cons, x_wipeD_nil]
          rw [x_bin, var_eq (d := .int p.1) (set9 (by simp only [List.length_set]; omega)), bnd_ret', x_eC, bnd_ret']
          simp only [gNe, shp_int, Bool.and_self, if_true, eqv_int]
        · simp only [x_wipeD_cons, x_wipeD_nil]
          exact var_eq (by rw [List.getElem?_set_ne (by decide), set9 (by simp only [List.length_set]; omega)])
    have ei : bin gIx (mkL (eLc (itEnum (aCons (eVar 3) aNil)) (tgTup 2 (tgsCons (tgN 4) (tgsCons (tgN 7) tgsNil))) (tst (bin gNe (eVar 7) (eC (.int 0)))) (eVar 4) [4, 7])) (eC (.int 0)) ρ4 = ret (.int (firstNZ L : Nat)) := by
      rw [x_bin, ec, bnd_ret', x_eC, bnd_ret', ef]
      exact gIx_l (atI_nat (i := 0) rfl)
    have ea := app_e (ρ := ρ4) (i := 1) s1 (eTup_2 ei (var_eq s3)) (by simp; omega)
    refine ⟨_, ?_, ?_, ?_, ?_, by rw [lr2f4a2]; exact ea⟩
    · rw [List.length_set]; exact s0
    · rw [set9 (by omega), List.map_append]; rfl
    · rw [List.getElem?_set_ne (by decide), ss]
    · intro i hi
      rw [List.getElem_append]
      split
      · rename_i h; exact hF i h
      · rename_i h
        rw [List.length_append, List.length_singleton] at hi
        have : i = F.length := by omega
        subst this
        simp only [Nat.sub_self, List.getElem_cons_zero]
        exact BL
  · rw [decide_eq_false z, if_neg z, if_neg Bool.false_ne_true, x_sNx]
    exact ⟨ρ3, q0, q1, qq, hF, rfl⟩
theorem rows_loop {m : Nat} {b : Bool} : ∀ (rest done : List (List Int)) (F : List (Nat × List Int)) (I : List Nat) (ρ : Py.Env), Inv m done F I → F.length ≤ done.length → done.length + rest.length ≤ 6 → ρ.length = 9 → ρ[1]? = some (some (.list (F.map lnD))) → (∀ i (h : i < F.length), Bl (bnd' i) F[i].2) → (∀ r ∈ rest, Bl 10 r ∧ r.length = m) → m ≤ 1000 →
    ∃ ρ', ρ'.length = 9 ∧ ρ'[1]? = some (some (.list ((rest.foldl addRow F).map lnD))) ∧ forW (tgN 2) lr2f (rest.map (rD b)) ρ = ret (.nx ρ') ∧ ∀ i (h : i < (rest.foldl addRow F).length), Bl (bnd' i) (rest.foldl addRow F)[i].2
  | [], done, F, I, ρ, _, _, _, hl, h1, hF, _, _ => ⟨ρ, hl, h1, rfl, hF⟩
  | r :: rest, done, F, I, ρ, inv, fl, h6, hl, h1, hF, hr, m9 => by
    rw [List.length_cons] at h6
    obtain ⟨br, lr⟩ := hr r (by simp)
    obtain ⟨ρ1, a1, a2, a3, a4, a5⟩ := row_eq (m := m) (b := b) (F := F) (r := r) (ρ := ρ.set 2 (some (rD b r))) (by rw [List.length_set]; exact hl) (by rw [List.getElem?_set_ne (by decide), h1]) (set9 (by omega)) hF (by omega) (fun a ha => ⟨inv.ok.len a ha, inv.ok.lt a ha⟩) br lr m9
    obtain ⟨I', inv'⟩ := inv_add inv lr
    have fl' : (addRow F r).length ≤ (done ++ [r]).length := by
      have := (rank_le inv').2
      exact this
    obtain ⟨ρ2, b1, b2, b3, b4⟩ := rows_loop (b := b) rest (done ++ [r]) (addRow F r) I' ρ1 inv' fl' (by rw [List.length_append, List.length_singleton]; omega) a1 a2 a4 (fun x hx => hr x (List.mem_cons_of_mem _ hx)) m9
    refine ⟨ρ2, b1, b2, ?_, b4⟩
    rw [List.map_cons, forW_cons, x_tgN, bnd_ret', a5, bnd_ret', oLoop_nx]
    exact b3
theorem lines_eq {m : Nat} {c b : Bool} {T : List (List Int)} (h6 : T.length ≤ 6) (hr : ∀ r ∈ T, Bl 10 r ∧ r.length = m) (m9 : m ≤ 1000) : F_lines_reduced [tD c b T] = ret (.list ((lines T).map lnD)) := by
  refine fn_rt (env := [some (tD c b T), none, none, none, none, none, none, none, none]) rfl ?_
  have e1 : lr1 ([some (tD c b T), none, none, none, none, none, none, none, none] : Py.Env) = ret (.nx [some (tD c b T), some (.list []), none, none, none, none, none, none, none]) := rfl
  obtain ⟨ρ', a1, a2, a3, _⟩ := rows_loop (m := m) (b := b) T [] [] [] [some (tD c b T), some (.list []), none, none, none, none, none, none, none] (inv_nil m) (by simp) (by simpa using h6) rfl rfl (fun i h => absurd h (by simp)) hr m9
  rw [b_lines_reduced_eq, seq_nx e1, x_sSeq, lr2, x_sFor, x_itSeq, var_eq (d := tD c b T) rfl, bnd_ret', seq_tD, bnd_ret', a3, bnd_ret', oThen_nx]
  show bnd (eVar 1 ρ') _ = _
  rw [var_eq a2, bnd_ret']
  rfl
theorem lines_B {m : Nat} {T : List (List Int)} (h6 : T.length ≤ 6) (hr : ∀ r ∈ T, Bl 10 r ∧ r.length = m) (m9 : m ≤ 1000) : ∀ i (h : i < (lines T).length), Bl (bnd' i) (lines T)[i].2 := by
  obtain ⟨_, _, _, _, h⟩ := rows_loop (m := m) (b := true) T [] [] [] [none, some (.list []), none, none, none, none, none, none, none] (inv_nil m) (by simp) (by simpa using h6) rfl rfl (fun i h => absurd h (by simp)) hr m9
  exact h
def natI (l : List Nat) : List Int := l.map fun (i : Nat) => (i : Int)
def lotD (l : List Nat) : D := tupI (natI l)
theorem dInts_nat (l : List Nat) : dInts (natI l) = l.map fun (i : Nat) => .int (i : Int) := by simp [dInts, natI]
theorem alikeAll_ints : ∀ a b : List Int, PySem.W.alikeAll (dInts a) (dInts b) = true
  | [], b => by simp [dInts, PySem.W.alikeAll]
  | x :: a, [] => by simp [dInts, PySem.W.alikeAll]
  | x :: a, y :: b => by
    show PySem.W.alikeAll (.int x :: dInts a) (.int y :: dInts b) = true
    simp [PySem.W.alikeAll, PySem.W.alike, alikeAll_ints a b]
theorem alike_lot (a b : List Nat) : PySem.W.alike (lotD a) (lotD b) = true := by
  show PySem.W.alike (.tuple (dInts (natI a))) (.tuple (dInts (natI b))) = true
  rw [PySem.W.alike]; exact alikeAll_ints _ _
theorem shp_lot (a : List Nat) : shp (lotD a) = true := shp_intsT _
end L78
namespace L78
open PySem hiding ret
open Py L2 R74
def lotT (L : List (List Int)) : D := .tuple (L.map tupI)
def ones (L : List (List Int)) : List (List Int) := L.map fun p => 1 :: p
theorem one_e {ρ : Py.Env} {i : Nat} {p : List Int} (h : ρ[i]? = some (some (tupI p))) (hl : p.length ≤ 1000) : eTup (aCons (eC (.int 1)) (aStar (eVar i) aNil)) ρ = ret (tupI (1 :: p)) := by
  rw [x_eTup, x_aCons, x_eC, bnd_ret', x_aStar, var_eq h, bnd_ret']
  show bnd (bnd (bnd (ret (dInts p)) _) _) _ = _
  rw [bnd_ret', x_aNil, bnd_ret', bnd_ret', bnd_ret', if_pos (by rw [lenOk_def]; simp; omega)]
  show ret (PyData.tuple (.int 1 :: (dInts p ++ []))) = _
  rw [List.append_nil]
  rfl
theorem with_one_eq {p : List Int} (hl : p.length ≤ 1000) : F_with_one [tupI p] = ret (tupI (1 :: p)) := by
  refine fn_rt (env := [some (tupI p)]) rfl ?_
  rw [b_with_one, x_sRet, one_e (p := p) rfl hl, bnd_ret']
theorem ones_e {ρ : Py.Env} {L : List (List Int)} {i r : Nat} (hr : r < ρ.length) (h : ρ[i]? = some (some (lotT L))) (hl : ∀ p ∈ L, p.length ≤ 1000) : mkL (eLc (itSeq (eVar i)) (tgN r) cYes (eCall 1 F_with_one (aCons (eVar r) aNil)) [r]) ρ = ret (tD true false (ones L)) := by
  have e := comp_all (ρ := ρ) (its := itSeq (eVar i)) (tg := tgN r) (elt := eCall 1 F_with_one (aCons (eVar r) aNil)) (vs := [r]) tupI (fun p => tupI (1 :: p)) L (by rw [x_itSeq, var_eq h, bnd_ret']; rfl) ?_
  · rw [e, tD, if_pos rfl, ones, List.map_map]
    rfl
  · intro p hp
    rw [x_wipeD_cons, x_wipeD_nil]
    exact ⟨_, rfl, (eCall_1 _ (args_1 (set9 (by rw [List.length_set]; exact hr)))).trans (with_one_eq (hl p hp))⟩
structure Lt (d : Nat) (L : List (List Int)) : Prop where
  ne : 1 ≤ L.length
  six : L.length ≤ 6
  len : ∀ p ∈ L, p.length = d
  bd : ∀ p ∈ L, Bl 9 p
  d1 : 1 ≤ d
  d3 : d ≤ 3
theorem Lt.rows {d : Nat} {L : List (List Int)} (h : Lt d L) : ∀ r ∈ ones L, Bl 10 r ∧ r.length = d + 1 := by
  intro r hr
  obtain ⟨p, hp, rfl⟩ := List.mem_map.mp hr
  refine ⟨fun x hx => ?_, by simp [h.len p hp]⟩
  rcases List.mem_cons.mp hx with rfl | hx
  · unfold B; decide
  · exact (h.bd p hp x hx).mono (by decide)
theorem Lt.ones_len {L : List (List Int)} : (ones L).length = L.length := by simp [ones]
theorem flat_eq {d : Nat} {L : List (List Int)} (h : Lt d L) : F_flat_size [lotT L] = ret (.int (((lines (ones L)).length : Nat) - 1)) := by
  have hp : ∀ p ∈ L, p.length ≤ 1000 := fun p hp => by rw [h.len p hp]; have := h.d3; omega
  refine fn_rt (env := [some (lotT L), none]) rfl ?_
  rw [b_flat_size, x_sRet, x_bin, x_cal, args_e ((eCall_1 _ (args_e (ones_e (i := 0) (r := 1) (by simp) rfl hp))).trans (lines_eq (m := d + 1) (by rw [Lt.ones_len]; exact h.six) h.rows (by have := h.d3; omega))), bnd_ret', x_cLen_l, List.length_map, bnd_ret', x_eC, bnd_ret', gSub_i, bnd_ret']
end L78
namespace L78
open PySem hiding ret
open Py L2 R74
open HS (P2 rowsT)
open HV (gc gc_pos)
def vD (w : P2) : D := .tuple [.int w.1, .int w.2]
def pI (w : P2) : List Int := [w.1, w.2]
theorem pB {n : Nat} {x : Int} (h : L78.B n x) : Py.B n x := h
theorem low_eq {p q : Int} {n m : Nat} (hp : Py.B n p) (hq : Py.B m q) (h : m < 9000) (h0 : q ≠ 0) : F_lowest_pair [.int p, .int q] = ret (vD (HV.red p q)) := by
  haveI := hp.q
  haveI := hq.q
  have g := gc_pos (p := p) h0
  unfold gc at g
  have gB : Py.B m ((Nat.gcd p.natAbs q.natAbs : Nat) : Int) := by
    have := Nat.gcd_le_right (n := q.natAbs) p.natAbs (by omega)
    unfold Py.B at hq ⊢
    rw [Int.natAbs_natCast]; omega
  haveI := gB.q
  have g0 : ((Nat.gcd p.natAbs q.natAbs : Nat) : Int) ≠ 0 := by omega
  have g1 : -((Nat.gcd p.natAbs q.natAbs : Nat) : Int) ≠ 0 := by omega
  show fnD 1 b_lowest_pair [.int p, .int q] = _
  by_cases z : 0 < q
  · simp only [Py.x_fnD, Py.x_sSeq, Py.x_sNx, Py.x_sAsg, Py.x_sOwn, Py.x_sTgt, Py.x_sRet, Py.x_sRetN, Py.x_sRetOwn, Py.x_sIf, Py.x_sFor, Py.x_sPar, Py.x_sPar3, Py.x_cal, Py.x_calL, Py.x_eCall, Py.x_bin, Py.x_una, Py.x_bAnd, Py.x_bOr, Py.x_bNot, Py.x_eAnd, Py.x_eOr, Py.x_eNot, Py.x_eIf, Py.x_eChain, Py.x_eSl, Py.x_oNo, Py.x_oPart, Py.x_aNil, Py.x_aCons, Py.x_aStar, Py.x_eTup, Py.x_lDisp, Py.x_mkL, Py.x_tgN, Py.x_tgsNil, Py.x_tgsCons, Py.x_tgTup, Py.x_itSeq, Py.x_itEnum, Py.x_itZip, Py.x_itRng1, Py.x_itRng2, Py.x_eVar, Py.x_eC, Py.x_tst, Py.x_cYes, Py.x_wipeD_cons, Py.x_wipeD_nil, Py.x_seqD_l, Py.x_seqD_t, Py.x_gNeg_i, Py.x_gAdd_i, Py.x_gAdd_t, Py.x_gAdd_l, Py.x_cTup_l, Py.x_cTup_t, Py.x_cLst_l, Py.x_cLst_t, Py.x_cLen_l, Py.x_cLen_t, Py.x_cInt_b, Py.x_cInt_i, Py.x_cAbs_i, Py.toB_b, Py.toI_i, Py.optM_some, Py.par2_2, Py.par3_3, Py.zip2_2, Py.enum1_1, Py.rng1_i, Py.rng2_i, Py.outD_rt, Py.outD_nx, Py.bnd_ret', Py.bnd_stuck', Py.oThen_nx, Py.oThen_rt, Py.oLoop_nx, Py.oLoop_rt, Py.a_mul, Py.a_fdiv, Py.a_mod, Py.a_sub, Py.a_lt, Py.a_le, Py.a_gt, Py.a_ge, Py.a_eq, Py.a_ne, Py.a_eqX, Py.a_neX, Py.a_notN, Py.a_isN, Py.i_t0, Py.i_t1, Py.i_t2, Py.i_t3, Py.i_l0, Py.i_l1, Py.i_l2, Py.i_l3, Py.a_cGcd, Py.a_sum2, Py.a_max2, Py.a_min2, Py.a_len, Py.a_slt, Py.a_sll, Py.nd_n, Py.nd_t, Py.nd_l, Py.nd_i, Py.nd_s, Py.nd_b, List.map_cons, List.map_nil, List.replicate, List.cons_append, List.nil_append, List.set_cons_succ, List.set_cons_zero, List.getElem?_cons_succ, List.getElem?_cons_zero, Option.getD_some, List.length_cons, List.length_nil, List.length_map, Nat.reduceAdd, Nat.reduceMul, Nat.reduceLT, Nat.reduceLeDiff, Nat.reduceEqDiff, Int.reduceEq, Int.reduceLT, Int.reduceToNat, ne_eq, not_false_eq_true, decide_true, decide_false, decide_eq_true_eq, if_true, if_false, Bool.false_eq_true, Bool.not_true, Bool.not_false, Bool.true_and, Bool.and_true, Bool.false_and, Bool.and_false, Nat.zero_add, b_lowest_pair, z, g0, h]
    rw [HV.red, if_pos z]
    rfl
  · simp only [Py.x_fnD, Py.x_sSeq, Py.x_sNx, Py.x_sAsg, Py.x_sOwn, Py.x_sTgt, Py.x_sRet, Py.x_sRetN, Py.x_sRetOwn, Py.x_sIf, Py.x_sFor, Py.x_sPar, Py.x_sPar3, Py.x_cal, Py.x_calL, Py.x_eCall, Py.x_bin, Py.x_una, Py.x_bAnd, Py.x_bOr, Py.x_bNot, Py.x_eAnd, Py.x_eOr, Py.x_eNot, Py.x_eIf, Py.x_eChain, Py.x_eSl, Py.x_oNo, Py.x_oPart, Py.x_aNil, Py.x_aCons, Py.x_aStar, Py.x_eTup, Py.x_lDisp, Py.x_mkL, Py.x_tgN, Py.x_tgsNil, Py.x_tgsCons, Py.x_tgTup, Py.x_itSeq, Py.x_itEnum, Py.x_itZip, Py.x_itRng1, Py.x_itRng2, Py.x_eVar, Py.x_eC, Py.x_tst, Py.x_cYes, Py.x_wipeD_cons, Py.x_wipeD_nil, Py.x_seqD_l, Py.x_seqD_t, Py.x_gNeg_i, Py.x_gAdd_i, Py.x_gAdd_t, Py.x_gAdd_l, Py.x_cTup_l, Py.x_cTup_t, Py.x_cLst_l, Py.x_cLst_t, Py.x_cLen_l, Py.x_cLen_t, Py.x_cInt_b, Py.x_cInt_i, Py.x_cAbs_i, Py.toB_b, Py.toI_i, Py.optM_some, Py.par2_2, Py.par3_3, Py.zip2_2, Py.enum1_1, Py.rng1_i, Py.rng2_i, Py.outD_rt, Py.outD_nx, Py.bnd_ret', Py.bnd_stuck', Py.oThen_nx, Py.oThen_rt, Py.oLoop_nx, Py.oLoop_rt, Py.a_mul, Py.a_fdiv, Py.a_mod, Py.a_sub, Py.a_lt, Py.a_le, Py.a_gt, Py.a_ge, Py.a_eq, Py.a_ne, Py.a_eqX, Py.a_neX, Py.a_notN, Py.a_isN, Py.i_t0, Py.i_t1, Py.i_t2, Py.i_t3, Py.i_l0, Py.i_l1, Py.i_l2, Py.i_l3, Py.a_cGcd, Py.a_sum2, Py.a_max2, Py.a_min2, Py.a_len, Py.a_slt, Py.a_sll, Py.nd_n, Py.nd_t, Py.nd_l, Py.nd_i, Py.nd_s, Py.nd_b, List.map_cons, List.map_nil, List.replicate, List.cons_append, List.nil_append, List.set_cons_succ, List.set_cons_zero, List.getElem?_cons_succ, List.getElem?_cons_zero, Option.getD_some, List.length_cons, List.length_nil, List.length_map, Nat.reduceAdd, Nat.reduceMul, Nat.reduceLT, Nat.reduceLeDiff, Nat.reduceEqDiff, Int.reduceEq, Int.reduceLT, Int.reduceToNat, ne_eq, not_false_eq_true, decide_true, decide_false, decide_eq_true_eq, if_true, if_false, Bool.false_eq_true, Bool.not_true, Bool.not_false, Bool.true_and, Bool.and_true, Bool.false_and, Bool.and_false, Nat.zero_add, b_lowest_pair, z, g0, g1, h]
    rw [HV.red, if_neg z]
    rfl
def frT (w : P2) : D := .tuple [.tuple [.int w.1, .int 1], .tuple [.int w.2, .int 1]]
theorem fdiv1 (x : Int) : x.fdiv 1 = x := Int.fdiv_one x
theorem whole_eq {w : P2} {n : Nat} (h : Py.B n w.1) (h' : Py.B n w.2) (hn : n < 1000) : F_whole_point [frT w] = ret (lstI [1, w.1, w.2]) := by
  haveI := h.q
  haveI := h'.q
  have e : mkL (eLc (itSeq (eVar 0)) (tgTup 2 (tgsCons (tgN 2) (tgsCons (tgN 3) tgsNil))) cYes (bin gMulX (eVar 2) (bin gFdiv (eVar 1) (eVar 3))) [2, 3]) ([some (frT w), some (.int 1), some (.int w.2), some (.int 1)] : Py.Env) = ret (.list [.int w.1, .int w.2]) := by
    refine comp_all (fun x : Int => .tuple [.int x, .int 1]) (fun x => .int x) [w.1, w.2] rfl ?_
    intro x hx
    have bx : Py.B n x := by
      simp only [List.mem_cons, List.not_mem_nil, or_false] at hx
      rcases hx with rfl | rfl <;> assumption
    haveI := bx.q
    refine ⟨[some (frT w), some (.int 1), some (.int x), some (.int 1)], rfl, ?_⟩
    have : n + 1 < 900000 := by omega
    simp only [Py.x_fnD, Py.x_sSeq, Py.x_sNx, Py.x_sAsg, Py.x_sOwn, Py.x_sTgt, Py.x_sRet, Py.x_sRetN, Py.x_sRetOwn, Py.x_sIf, Py.x_sFor, Py.x_sPar, Py.x_sPar3, Py.x_cal, Py.x_calL, Py.x_eCall, Py.x_bin, Py.x_una, Py.x_bAnd, Py.x_bOr, Py.x_bNot, Py.x_eAnd, Py.x_eOr, Py.x_eNot, Py.x_eIf, Py.x_eChain, Py.x_eSl, Py.x_oNo, Py.x_oPart, Py.x_aNil, Py.x_aCons, Py.x_aStar, Py.x_eTup, Py.x_lDisp, Py.x_mkL, Py.x_tgN, Py.x_tgsNil, Py.x_tgsCons, Py.x_tgTup, Py.x_itSeq, Py.x_itEnum, Py.x_itZip, Py.x_itRng1, Py.x_itRng2, Py.x_eVar, Py.x_eC, Py.x_tst, Py.x_cYes, Py.x_wipeD_cons, Py.x_wipeD_nil, Py.x_seqD_l, Py.x_seqD_t, Py.x_gNeg_i, Py.x_gAdd_i, Py.x_gAdd_t, Py.x_gAdd_l, Py.x_cTup_l, Py.x_cTup_t, Py.x_cLst_l, Py.x_cLst_t, Py.x_cLen_l, Py.x_cLen_t, Py.x_cInt_b, Py.x_cInt_i, Py.x_cAbs_i, Py.toB_b, Py.toI_i, Py.optM_some, Py.par2_2, Py.par3_3, Py.zip2_2, Py.enum1_1, Py.rng1_i, Py.rng2_i, Py.outD_rt, Py.outD_nx, Py.bnd_ret', Py.bnd_stuck', Py.oThen_nx, Py.oThen_rt, Py.oLoop_nx, Py.oLoop_rt, Py.a_mul, Py.a_fdiv, Py.a_mod, Py.a_sub, Py.a_lt, Py.a_le, Py.a_gt, Py.a_ge, Py.a_eq, Py.a_ne, Py.a_eqX, Py.a_neX, Py.a_notN, Py.a_isN, Py.i_t0, Py.i_t1, Py.i_t2, Py.i_t3, Py.i_l0, Py.i_l1, Py.i_l2, Py.i_l3, Py.a_cGcd, Py.a_sum2, Py.a_max2, Py.a_min2, Py.a_len, Py.a_slt, Py.a_sll, Py.nd_n, Py.nd_t, Py.nd_l, Py.nd_i, Py.nd_s, Py.nd_b, List.map_cons, List.map_nil, List.replicate, List.cons_append, List.nil_append, List.set_cons_succ, List.set_cons_zero, List.getElem?_cons_succ, List.getElem?_cons_zero, Option.getD_some, List.length_cons, List.length_nil, List.length_map, Nat.reduceAdd, Nat.reduceMul, Nat.reduceLT, Nat.reduceLeDiff, Nat.reduceEqDiff, Int.reduceEq, Int.reduceLT, Int.reduceToNat, ne_eq, not_false_eq_true, decide_true, decide_false, decide_eq_true_eq, if_true, if_false, Bool.false_eq_true, Bool.not_true, Bool.not_false, Bool.true_and, Bool.and_true, Bool.false_and, Bool.and_false, Nat.zero_add, fdiv1]
    rw [a_mul this, Int.mul_one]
  show fnD 3 b_whole_point [frT w] = _
  refine fn_rt (env := [some (frT w), none, none, none]) rfl ?_
  rw [b_whole_point]
  have l : (sFor (itSeq (eVar 0)) (tgTup 2 (tgsCons (tgN 2) (tgsCons (tgN 3) tgsNil))) (sAsg 1 (bin gMulX (eVar 1) (eVar 3)))) ([some (frT w), some (.int 1), none, none] : Py.Env) = ret (.nx [some (frT w), some (.int 1), some (.int w.2), some (.int 1)]) := by
    simp only [Py.x_fnD, Py.x_sSeq, Py.x_sNx, Py.x_sAsg, Py.x_sOwn, Py.x_sTgt, Py.x_sRet, Py.x_sRetN, Py.x_sRetOwn, Py.x_sIf, Py.x_sFor, Py.x_sPar, Py.x_sPar3, Py.x_cal, Py.x_calL, Py.x_eCall, Py.x_bin, Py.x_una, Py.x_bAnd, Py.x_bOr, Py.x_bNot, Py.x_eAnd, Py.x_eOr, Py.x_eNot, Py.x_eIf, Py.x_eChain, Py.x_eSl, Py.x_oNo, Py.x_oPart, Py.x_aNil, Py.x_aCons, Py.x_aStar, Py.x_eTup, Py.x_lDisp, Py.x_mkL, Py.x_tgN, Py.x_tgsNil, Py.x_tgsCons, Py.x_tgTup, Py.x_itSeq, Py.x_itEnum, Py.x_itZip, Py.x_itRng1, Py.x_itRng2, Py.x_eVar, Py.x_eC, Py.x_tst, Py.x_cYes, Py.x_wipeD_cons, Py.x_wipeD_nil, Py.x_seqD_l, Py.x_seqD_t, Py.x_gNeg_i, Py.x_gAdd_i, Py.x_gAdd_t, Py.x_gAdd_l, Py.x_cTup_l, Py.x_cTup_t, Py.x_cLst_l, Py.x_cLst_t, Py.x_cLen_l, Py.x_cLen_t, Py.x_cInt_b, Py.x_cInt_i, Py.x_cAbs_i, Py.toB_b, Py.toI_i, Py.optM_some, Py.par2_2, Py.par3_3, Py.zip2_2, Py.enum1_1, Py.rng1_i, Py.rng2_i, Py.outD_rt, Py.outD_nx, Py.bnd_ret', Py.bnd_stuck', Py.oThen_nx, Py.oThen_rt, Py.oLoop_nx, Py.oLoop_rt, Py.a_mul, Py.a_fdiv, Py.a_mod, Py.a_sub, Py.a_lt, Py.a_le, Py.a_gt, Py.a_ge, Py.a_eq, Py.a_ne, Py.a_eqX, Py.a_neX, Py.a_notN, Py.a_isN, Py.i_t0, Py.i_t1, Py.i_t2, Py.i_t3, Py.i_l0, Py.i_l1, Py.i_l2, Py.i_l3, Py.a_cGcd, Py.a_sum2, Py.a_max2, Py.a_min2, Py.a_len, Py.a_slt, Py.a_sll, Py.nd_n, Py.nd_t, Py.nd_l, Py.nd_i, Py.nd_s, Py.nd_b, List.map_cons, List.map_nil, List.replicate, List.cons_append, List.nil_append, List.set_cons_succ, List.set_cons_zero, List.getElem?_cons_succ, List.getElem?_cons_zero, Option.getD_some, List.length_cons, List.length_nil, List.length_map, Nat.reduceAdd, Nat.reduceMul, Nat.reduceLT, Nat.reduceLeDiff, Nat.reduceEqDiff, Int.reduceEq, Int.reduceLT, Int.reduceToNat, ne_eq, not_false_eq_true, decide_true, decide_false, decide_eq_true_eq, if_true, if_false, Bool.false_eq_true, Bool.not_true, Bool.not_false, Bool.true_and, Bool.and_true, Bool.false_and, Bool.and_false, Nat.zero_add, frT, forW_cons, forW_nil]
    rfl
  rw [asg_nx (d := .int 1) rfl]
  refine (seq_nx (ρ := [some (frT w), some (.int 1), none, none]) l).trans ?_
  rw [x_sRet, x_mkL, x_lDisp, x_aCons, var_eq (d := .int 1) rfl, bnd_ret', x_aStar, e, bnd_ret']
  rfl
/-! ### told numbers -/
def tstep : Py.Env → M Out := (sSeq (sTgt (bin gIx (eVar 1) (eVar 5)) (tgTup 2 (tgsCons (tgN 6) (tgsCons (tgN 7) tgsNil))))
  (sSeq (sAsg 3 (bin gSub (bin gMulX (eVar 3) (eVar 7)) (bin gMulX (bin gMulX (bin gIx (eVar 0) (eVar 5)) (eVar 6)) (eVar 4))))
  (sSeq (sAsg 4 (bin gMulX (eVar 4) (eVar 7)))
  (sSeq (sAsg 8 (cal cGcd (aCons (eVar 3) (aCons (eVar 4) aNil))))
  (sPar 3 4 (aCons (bin gFdiv (eVar 3) (eVar 8)) (aCons (bin gFdiv (eVar 4) (eVar 8)) aNil)))))))
theorem tstep_eq {l to pl : D} {a b k c : Int} {t : P2} {u6 u7 u8 : Option D} {n : Nat} (hto : gIx to (.int k) = ret (vD t)) (hl : gIx l (.int k) = ret (.int c)) (ba : Py.B n a) (bb : Py.B n b) (bc : Py.B n c) (b1 : Py.B n t.1) (b2 : Py.B n t.2) (hn : n < 4000) (pb : 0 < b) (pt : 0 < t.2) :
    tstep [some l, some to, some pl, some (.int a), some (.int b), some (.int k), u6, u7, u8] = ret (.nx [some l, some to, some pl, some (.int (HS.stp (a, b) c t).1), some (.int (HS.stp (a, b) c t).2), some (.int k), some (.int t.1), some (.int t.2), some (.int (gc (a * t.2 - c * t.1 * b) (b * t.2)))]) := by
  haveI := ba.q
  haveI := bb.q
  haveI := bc.q
  haveI := b1.q
  haveI := b2.q
  have h1 : n + n < 900000 := by omega
  have h2 : n + n + n < 900000 := by omega
  have pos : 0 < b * t.2 := Int.mul_pos pb pt
  have g := gc_pos (p := a * t.2 - c * t.1 * b) (q := b * t.2) (by omega)
  have gB : Py.B (n + n) (gc (a * t.2 - c * t.1 * b) (b * t.2)) := by
    have := Nat.gcd_le_right (n := (b * t.2).natAbs) (a * t.2 - c * t.1 * b).natAbs (by omega)
    have h := bb.mul b2
    unfold Py.B gc at *
    rw [Int.natAbs_natCast]; omega
  haveI := gB.q
  have g0 : gc (a * t.2 - c * t.1 * b) (b * t.2) ≠ 0 := by omega
  have h3 : n + n < 9000 := by omega
  unfold gc at *
  simp only [Py.x_fnD, Py.x_sSeq, Py.x_sNx, Py.x_sAsg, Py.x_sOwn, Py.x_sTgt, Py.x_sRet, Py.x_sRetN, Py.x_sRetOwn, Py.x_sIf, Py.x_sFor, Py.x_sPar, Py.x_sPar3, Py.x_cal, Py.x_calL, Py.x_eCall, Py.x_bin, Py.x_una, Py.x_bAnd, Py.x_bOr, Py.x_bNot, Py.x_eAnd, Py.x_eOr, Py.x_eNot, Py.x_eIf, Py.x_eChain, Py.x_eSl, Py.x_oNo, Py.x_oPart, Py.x_aNil, Py.x_aCons, Py.x_aStar, Py.x_eTup, Py.x_lDisp, Py.x_mkL, Py.x_tgN, Py.x_tgsNil, Py.x_tgsCons, Py.x_tgTup, Py.x_itSeq, Py.x_itEnum, Py.x_itZip, Py.x_itRng1, Py.x_itRng2, Py.x_eVar, Py.x_eC, Py.x_tst, Py.x_cYes, Py.x_wipeD_cons, Py.x_wipeD_nil, Py.x_seqD_l, Py.x_seqD_t, Py.x_gNeg_i, Py.x_gAdd_i, Py.x_gAdd_t, Py.x_gAdd_l, Py.x_cTup_l, Py.x_cTup_t, Py.x_cLst_l, Py.x_cLst_t, Py.x_cLen_l, Py.x_cLen_t, Py.x_cInt_b, Py.x_cInt_i, Py.x_cAbs_i, Py.toB_b, Py.toI_i, Py.optM_some, Py.par2_2, Py.par3_3, Py.zip2_2, Py.enum1_1, Py.rng1_i, Py.rng2_i, Py.outD_rt, Py.outD_nx, Py.bnd_ret', Py.bnd_stuck', Py.oThen_nx, Py.oThen_rt, Py.oLoop_nx, Py.oLoop_rt, Py.a_mul, Py.a_fdiv, Py.a_mod, Py.a_sub, Py.a_lt, Py.a_le, Py.a_gt, Py.a_ge, Py.a_eq, Py.a_ne, Py.a_eqX, Py.a_neX, Py.a_notN, Py.a_isN, Py.i_t0, Py.i_t1, Py.i_t2, Py.i_t3, Py.i_l0, Py.i_l1, Py.i_l2, Py.i_l3, Py.a_cGcd, Py.a_sum2, Py.a_max2, Py.a_min2, Py.a_len, Py.a_slt, Py.a_sll, Py.nd_n, Py.nd_t, Py.nd_l, Py.nd_i, Py.nd_s, Py.nd_b, List.map_cons, List.map_nil, List.replicate, List.cons_append, List.nil_append, List.set_cons_succ, List.set_cons_zero, List.getElem?_cons_succ, List.getElem?_cons_zero, Option.getD_some, List.length_cons, List.length_nil, List.length_map, Nat.reduceAdd, Nat.reduceMul, Nat.reduceLT, Nat.reduceLeDiff, Nat.reduceEqDiff, Int.reduceEq, Int.reduceLT, Int.reduceToNat, ne_eq, not_false_eq_true, decide_true, decide_false, decide_eq_true_eq, if_true, if_false, Bool.false_eq_true, Bool.not_true, Bool.not_false, Bool.true_and, Bool.and_true, Bool.false_and, Bool.and_false, Nat.zero_add, tstep, hto, vD, hl, h1, h2, g0, h3]
  rfl
theorem stp_B {a b c : Int} {t : P2} {n m : Nat} (ba : Py.B n a) (bb : Py.B n b) (bc : Py.B m c) (b1 : Py.B m t.1) (b2 : Py.B m t.2) : Py.B (n + m + m + n + m + 1) (HS.stp (a, b) c t).1 ∧ Py.B (n + m) (HS.stp (a, b) c t).2 := by
  constructor
  · refine Py.B.fdiv _ ?_
    refine ((ba.mul b2).sub ((bc.mul b1).mul bb)).mono ?_
    omega
  · exact Py.B.fdiv _ (bb.mul b2)
theorem i_m1 (a b c d : D) : gIx (.list [a, b, c, d]) (.int (-1)) = ret d := (rfl)
def lin (a b c d : Int) : D := .list [.int a, .int b, .int c, .int d]
def tol (a b c : P2) : D := .list [vD a, vD b, vD c]
theorem told2 {c0 c1 c2 c3 : Int} {t0 t1 t2 : P2} {n : Nat} (b2 : Py.B n c2) (b3 : Py.B n c3) (hn : n < 1000) (h0 : c2 ≠ 0) : F_told_number [lin c0 c1 c2 c3, tol t0 t1 t2, .int 2] = ret (vD (HV.red c3 (1 * c2))) := by
  haveI := b2.q
  have e : F_lowest_pair [.int c3, .int (1 * c2)] = _ := low_eq (n := n) (m := n) b3 (by rw [Int.one_mul]; exact b2) (by omega) (by omega)
  have h1 : 1 + n < 900000 := by omega
  have r : rangeD (2 + 1) ((((3 : Nat) : Int) - (2 + 1)).toNat) = [] := rfl
  have ok : (rngOk (2 + 1) && rngOk ((3 : Nat) : Int)) = true := rfl
  show fnD 6 b_told_number [lin c0 c1 c2 c3, tol t0 t1 t2, .int 2] = _
  simp only [Py.x_fnD, Py.x_sSeq, Py.x_sNx, Py.x_sAsg, Py.x_sOwn, Py.x_sTgt, Py.x_sRet, Py.x_sRetN, Py.x_sRetOwn, Py.x_sIf, Py.x_sFor, Py.x_sPar, Py.x_sPar3, Py.x_cal, Py.x_calL, Py.x_eCall, Py.x_bin, Py.x_una, Py.x_bAnd, Py.x_bOr, Py.x_bNot, Py.x_eAnd, Py.x_eOr, Py.x_eNot, Py.x_eIf, Py.x_eChain, Py.x_eSl, Py.x_oNo, Py.x_oPart, Py.x_aNil, Py.x_aCons, Py.x_aStar, Py.x_eTup, Py.x_lDisp, Py.x_mkL, Py.x_tgN, Py.x_tgsNil, Py.x_tgsCons, Py.x_tgTup, Py.x_itSeq, Py.x_itEnum, Py.x_itZip, Py.x_itRng1, Py.x_itRng2, Py.x_eVar, Py.x_eC, Py.x_tst, Py.x_cYes, Py.x_wipeD_cons, Py.x_wipeD_nil, Py.x_seqD_l, Py.x_seqD_t, Py.x_gNeg_i, Py.x_gAdd_i, Py.x_gAdd_t, Py.x_gAdd_l, Py.x_cTup_l, Py.x_cTup_t, Py.x_cLst_l, Py.x_cLst_t, Py.x_cLen_l, Py.x_cLen_t, Py.x_cInt_b, Py.x_cInt_i, Py.x_cAbs_i, Py.toB_b, Py.toI_i, Py.optM_some, Py.par2_2, Py.par3_3, Py.zip2_2, Py.enum1_1, Py.rng1_i, Py.rng2_i, Py.outD_rt, Py.outD_nx, Py.bnd_ret', Py.bnd_stuck', Py.oThen_nx, Py.oThen_rt, Py.oLoop_nx, Py.oLoop_rt, Py.a_mul, Py.a_fdiv, Py.a_mod, Py.a_sub, Py.a_lt, Py.a_le, Py.a_gt, Py.a_ge, Py.a_eq, Py.a_ne, Py.a_eqX, Py.a_neX, Py.a_notN, Py.a_isN, Py.i_t0, Py.i_t1, Py.i_t2, Py.i_t3, Py.i_l0, Py.i_l1, Py.i_l2, Py.i_l3, Py.a_cGcd, Py.a_sum2, Py.a_max2, Py.a_min2, Py.a_len, Py.a_slt, Py.a_sll, Py.nd_n, Py.nd_t, Py.nd_l, Py.nd_i, Py.nd_s, Py.nd_b, List.map_cons, List.map_nil, List.replicate, List.cons_append, List.nil_append, List.set_cons_succ, List.set_cons_zero, List.getElem?_cons_succ, List.getElem?_cons_zero, Option.getD_some, List.length_cons, List.length_nil, List.length_map, Nat.reduceAdd, Nat.reduceMul, Nat.reduceLT, Nat.reduceLeDiff, Nat.reduceEqDiff, Int.reduceEq, Int.reduceLT, Int.reduceToNat, ne_eq, not_false_eq_true, decide_true, decide_false, decide_eq_true_eq, if_true, if_false, Bool.false_eq_true, Bool.not_true, Bool.not_false, Bool.true_and, Bool.and_true, Bool.false_and, Bool.and_false, Nat.zero_add, b_told_number, lin, tol, i_m1, r, ok, forW_nil, h1, e]
theorem told1 {c0 c1 c2 c3 : Int} {t0 t1 t2 : P2} {n : Nat} (b1 : Py.B n c1) (b2 : Py.B n c2) (b3 : Py.B n c3) (d1 : Py.B n t2.1) (d2 : Py.B n t2.2) (hn : n < 150) (h0 : c1 ≠ 0) (p2 : 0 < t2.2) :
    F_told_number [lin c0 c1 c2 c3, tol t0 t1 t2, .int 1] = ret (vD (HV.red (HS.stp (c3, 1) c2 t2).1 ((HS.stp (c3, 1) c2 t2).2 * c1))) := by
  haveI := b1.q
  have one : Py.B n 1 := Nat.one_le_two_pow
  obtain ⟨s1, s2⟩ := stp_B b3 one b2 d1 d2
  have sp := (HS.stp_x (ab := (c3, 1)) c2 (show (0 : Int) < 1 by decide) p2).1
  have e := low_eq s1 (s2.mul b1) (by omega) (Int.mul_ne_zero (by omega) h0)
  have st := tstep_eq (l := lin c0 c1 c2 c3) (to := tol t0 t1 t2) (pl := .int 1) (a := c3) (b := 1) (k := 2) (c := c2) (t := t2) (u6 := none) (u7 := none) (u8 := none) (i_l2 _ _ _ _) (i_l2 _ _ _ _) b3 one b2 d1 d2 (by omega) (by decide) p2
  generalize HS.stp (c3, 1) c2 t2 = s at *
  haveI := s2.q
  have h1 : n + n + n < 900000 := by omega
  have r : rangeD (1 + 1) ((((3 : Nat) : Int) - (1 + 1)).toNat) = [.int 2] := rfl
  have ok : (rngOk (1 + 1) && rngOk ((3 : Nat) : Int)) = true := rfl
  show fnD 6 b_told_number [lin c0 c1 c2 c3, tol t0 t1 t2, .int 1] = _
  refine fn_rt (env := [some (lin c0 c1 c2 c3), some (tol t0 t1 t2), some (.int 1), none, none, none, none, none, none]) rfl ?_
  have l1 : (sPar 3 4 (aCons (bin gIx (eVar 0) (una gNeg (eC (.int 1)))) (aCons (eC (.int 1)) aNil))) [some (lin c0 c1 c2 c3), some (tol t0 t1 t2), some (.int 1), none, none, none, none, none, none] = ret (.nx [some (lin c0 c1 c2 c3), some (tol t0 t1 t2), some (.int 1), some (.int c3), some (.int 1), none, none, none, none]) := by
    simp only [Py.x_fnD, Py.x_sSeq, Py.x_sNx, Py.x_sAsg, Py.x_sOwn, Py.x_sTgt, Py.x_sRet, Py.x_sRetN, Py.x_sRetOwn, Py.x_sIf, Py.x_sFor, Py.x_sPar, Py.x_sPar3, Py.x_cal, Py.x_calL, Py.x_eCall, Py.x_bin, Py.x_una, Py.x_bAnd, Py.x_bOr, Py.x_bNot, Py.x_eAnd, Py.x_eOr, Py.x_eNot, Py.x_eIf, Py.x_eChain, Py.x_eSl, Py.x_oNo, Py.x_oPart, Py.x_aNil, Py.x_aCons, Py.x_aStar, Py.x_eTup, Py.x_lDisp, Py.x_mkL, Py.x_tgN, Py.x_tgsNil, Py.x_tgsCons, Py.x_tgTup, Py.x_itSeq, Py.x_itEnum, Py.x_itZip, Py.x_itRng1, Py.x_itRng2, Py.x_eVar, Py.x_eC, Py.x_tst, Py.x_cYes, Py.x_wipeD_cons, Py.x_wipeD_nil, Py.x_seqD_l, Py.x_seqD_t, Py.x_gNeg_i, Py.x_gAdd_i, Py.x_gAdd_t, Py.x_gAdd_l, Py.x_cTup_l, Py.x_cTup_t, Py.x_cLst_l, Py.x_cLst_t, Py.x_cLen_l, Py.x_cLen_t, Py.x_cInt_b, Py.x_cInt_i, Py.x_cAbs_i, Py.toB_b, Py.toI_i, Py.optM_some, Py.par2_2, Py.par3_3, Py.zip2_2, Py.enum1_1, Py.rng1_i, Py.rng2_i, Py.outD_rt, Py.outD_nx, Py.bnd_ret', Py.bnd_stuck', Py.oThen_nx, Py.oThen_rt, Py.oLoop_nx, Py.oLoop_rt, Py.a_mul, Py.a_fdiv, Py.a_mod, Py.a_sub, Py.a_lt, Py.a_le, Py.a_gt, Py.a_ge, Py.a_eq, Py.a_ne, Py.a_eqX, Py.a_neX, Py.a_notN, Py.a_isN, Py.i_t0, Py.i_t1, Py.i_t2, Py.i_t3, Py.i_l0, Py.i_l1, Py.i_l2, Py.i_l3, Py.a_cGcd, Py.a_sum2, Py.a_max2, Py.a_min2, Py.a_len, Py.a_slt, Py.a_sll, Py.nd_n, Py.nd_t, Py.nd_l, Py.nd_i, Py.nd_s, Py.nd_b, List.map_cons, List.map_nil, List.replicate, List.cons_append, List.nil_append, List.set_cons_succ, List.set_cons_zero, List.getElem?_cons_succ, List.getElem?_cons_zero, Option.getD_some, List.length_cons, List.length_nil, List.length_map, Nat.reduceAdd, Nat.reduceMul, Nat.reduceLT, Nat.reduceLeDiff, Nat.reduceEqDiff, Int.reduceEq, Int.reduceLT, Int.reduceToNat, ne_eq, not_false_eq_true, decide_true, decide_false, decide_eq_true_eq, if_true, if_false, Bool.false_eq_true, Bool.not_true, Bool.not_false, Bool.true_and, Bool.and_true, Bool.false_and, Bool.and_false, Nat.zero_add, lin, i_m1]
  have l2 : (sFor (itRng2 (aCons (bin gAdd (eVar 2) (eC (.int 1))) (aCons (cal cLen (aCons (eVar 1) aNil)) aNil))) (tgN 5) tstep) [some (lin c0 c1 c2 c3), some (tol t0 t1 t2), some (.int 1), some (.int c3), some (.int 1), none, none, none, none] = ret (.nx [some (lin c0 c1 c2 c3), some (tol t0 t1 t2), some (.int 1), some (.int s.1), some (.int s.2), some (.int 2), some (.int t2.1), some (.int t2.2), some (.int (gc (c3 * t2.2 - c2 * t2.1 * 1) (1 * t2.2)))]) := by
    have it : itRng2 (aCons (bin gAdd (eVar 2) (eC (.int 1))) (aCons (cal cLen (aCons (eVar 1) aNil)) aNil)) ([some (lin c0 c1 c2 c3), some (tol t0 t1 t2), some (.int 1), some (.int c3), some (.int 1), none, none, none, none] : Py.Env) = ret [.int 2] := by
      simp only [Py.x_fnD, Py.x_sSeq, Py.x_sNx, Py.x_sAsg, Py.x_sOwn, Py.x_sTgt, Py.x_sRet, Py.x_sRetN, Py.x_sRetOwn, Py.x_sIf, Py.x_sFor, Py.x_sPar, Py.x_sPar3, Py.x_cal, Py.x_calL, Py.x_eCall, Py.x_bin, Py.x_una, Py.x_bAnd, Py.x_bOr, Py.x_bNot, Py.x_eAnd, Py.x_eOr, Py.x_eNot, Py.x_eIf, Py.x_eChain, Py.x_eSl, Py.x_oNo, Py.x_oPart, Py.x_aNil, Py.x_aCons, Py.x_aStar, Py.x_eTup, Py.x_lDisp, Py.x_mkL, Py.x_tgN, Py.x_tgsNil, Py.x_tgsCons, Py.x_tgTup, Py.x_itSeq, Py.x_itEnum, Py.x_itZip, Py.x_itRng1, Py.x_itRng2, Py.x_eVar, Py.x_eC, Py.x_tst, Py.x_cYes, Py.x_wipeD_cons, Py.x_wipeD_nil, Py.x_seqD_l, Py.x_seqD_t, Py.x_gNeg_i, Py.x_gAdd_i, Py.x_gAdd_t, Py.x_gAdd_l, Py.x_cTup_l, Py.x_cTup_t, Py.x_cLst_l, Py.x_cLst_t, Py.x_cLen_l, Py.x_cLen_t, Py.x_cInt_b, Py.x_cInt_i, Py.x_cAbs_i, Py.toB_b, Py.toI_i, Py.optM_some, Py.par2_2, Py.par3_3, Py.zip2_2, Py.enum1_1, Py.rng1_i, Py.rng2_i, Py.outD_rt, Py.outD_nx, Py.bnd_ret', Py.bnd_stuck', Py.oThen_nx, Py.oThen_rt, Py.oLoop_nx, Py.oLoop_rt, Py.a_mul, Py.a_fdiv, Py.a_mod, Py.a_sub, Py.a_lt, Py.a_le, Py.a_gt, Py.a_ge, Py.a_eq, Py.a_ne, Py.a_eqX, Py.a_neX, Py.a_notN, Py.a_isN, Py.i_t0, Py.i_t1, Py.i_t2, Py.i_t3, Py.i_l0, Py.i_l1, Py.i_l2, Py.i_l3, Py.a_cGcd, Py.a_sum2, Py.a_max2, Py.a_min2, Py.a_len, Py.a_slt, Py.a_sll, Py.nd_n, Py.nd_t, Py.nd_l, Py.nd_i, Py.nd_s, Py.nd_b, List.map_cons, List.map_nil, List.replicate, List.cons_append, List.nil_append, List.set_cons_succ, List.set_cons_zero, List.getElem?_cons_succ, List.getElem?_cons_zero, Option.getD_some, List.length_cons, List.length_nil, List.length_map, Nat.reduceAdd, Nat.reduceMul, Nat.reduceLT, Nat.reduceLeDiff, Nat.reduceEqDiff, Int.reduceEq, Int.reduceLT, Int.reduceToNat, ne_eq, not_false_eq_true, decide_true, decide_false, decide_eq_true_eq, if_true, if_false, Bool.false_eq_true, Bool.not_true, Bool.not_false, Bool.true_and, Bool.and_true, Bool.false_and, Bool.and_false, Nat.zero_add, tol, r, ok]
    rw [x_sFor, it, bnd_ret', forW_cons, x_tgN, bnd_ret']
    refine (congrArg (fun z => bnd z _) st).trans ?_
    rw [bnd_ret', oLoop_nx, forW_nil]
  refine (seq_nx l1).trans ((seq_nx l2).trans ?_)
  simp only [Py.x_fnD, Py.x_sSeq, Py.x_sNx, Py.x_sAsg, Py.x_sOwn, Py.x_sTgt, Py.x_sRet, Py.x_sRetN, Py.x_sRetOwn, Py.x_sIf, Py.x_sFor, Py.x_sPar, Py.x_sPar3, Py.x_cal, Py.x_calL, Py.x_eCall, Py.x_bin, Py.x_una, Py.x_bAnd, Py.x_bOr, Py.x_bNot, Py.x_eAnd, Py.x_eOr, Py.x_eNot, Py.x_eIf, Py.x_eChain, Py.x_eSl, Py.x_oNo, Py.x_oPart, Py.x_aNil, Py.x_aCons, Py.x_aStar, Py.x_eTup, Py.x_lDisp, Py.x_mkL, Py.x_tgN, Py.x_tgsNil, Py.x_tgsCons, Py.x_tgTup, Py.x_itSeq, Py.x_itEnum, Py.x_itZip, Py.x_itRng1, Py.x_itRng2, Py.x_eVar, Py.x_eC, Py.x_tst, Py.x_cYes, Py.x_wipeD_cons, Py.x_wipeD_nil, Py.x_seqD_l, Py.x_seqD_t, Py.x_gNeg_i, Py.x_gAdd_i, Py.x_gAdd_t, Py.x_gAdd_l, Py.x_cTup_l, Py.x_cTup_t, Py.x_cLst_l, Py.x_cLst_t, Py.x_cLen_l, Py.x_cLen_t, Py.x_cInt_b, Py.x_cInt_i, Py.x_cAbs_i, Py.toB_b, Py.toI_i, Py.optM_some, Py.par2_2, Py.par3_3, Py.zip2_2, Py.enum1_1, Py.rng1_i, Py.rng2_i, Py.outD_rt, Py.outD_nx, Py.bnd_ret', Py.bnd_stuck', Py.oThen_nx, Py.oThen_rt, Py.oLoop_nx, Py.oLoop_rt, Py.a_mul, Py.a_fdiv, Py.a_mod, Py.a_sub, Py.a_lt, Py.a_le, Py.a_gt, Py.a_ge, Py.a_eq, Py.a_ne, Py.a_eqX, Py.a_neX, Py.a_notN, Py.a_isN, Py.i_t0, Py.i_t1, Py.i_t2, Py.i_t3, Py.i_l0, Py.i_l1, Py.i_l2, Py.i_l3, Py.a_cGcd, Py.a_sum2, Py.a_max2, Py.a_min2, Py.a_len, Py.a_slt, Py.a_sll, Py.nd_n, Py.nd_t, Py.nd_l, Py.nd_i, Py.nd_s, Py.nd_b, List.map_cons, List.map_nil, List.replicate, List.cons_append, List.nil_append, List.set_cons_succ, List.set_cons_zero, List.getElem?_cons_succ, List.getElem?_cons_zero, Option.getD_some, List.length_cons, List.length_nil, List.length_map, Nat.reduceAdd, Nat.reduceMul, Nat.reduceLT, Nat.reduceLeDiff, Nat.reduceEqDiff, Int.reduceEq, Int.reduceLT, Int.reduceToNat, ne_eq, not_false_eq_true, decide_true, decide_false, decide_eq_true_eq, if_true, if_false, Bool.false_eq_true, Bool.not_true, Bool.not_false, Bool.true_and, Bool.and_true, Bool.false_and, Bool.and_false, Nat.zero_add, lin, h1, e]
theorem told0 {c0 c1 c2 c3 : Int} {t0 t1 t2 : P2} {n : Nat} (b0 : Py.B n c0) (b1 : Py.B n c1) (b2 : Py.B n c2) (b3 : Py.B n c3) (f1 : Py.B n t1.1) (f2 : Py.B n t1.2) (d1 : Py.B n t2.1) (d2 : Py.B n t2.2) (hn : n < 300) (h0 : c0 ≠ 0) (p1 : 0 < t1.2) (p2 : 0 < t2.2) :
    F_told_number [lin c0 c1 c2 c3, tol t0 t1 t2, .int 0] = ret (vD (HV.red (HS.stp (HS.stp (c3, 1) c1 t1) c2 t2).1 ((HS.stp (HS.stp (c3, 1) c1 t1) c2 t2).2 * c0))) := by
  haveI := b0.q
  have one : Py.B n 1 := Nat.one_le_two_pow
  obtain ⟨r1, r2⟩ := stp_B b3 one b1 f1 f2
  have rp := (HS.stp_x (ab := (c3, 1)) c1 (show (0 : Int) < 1 by decide) p1).1
  have rt := tstep_eq (l := lin c0 c1 c2 c3) (to := tol t0 t1 t2) (pl := .int 0) (a := c3) (b := 1) (k := 1) (c := c1) (t := t1) (u6 := none) (u7 := none) (u8 := none) (i_l1 _ _ _) (i_l1 _ _ _) b3 one b1 f1 f2 (by omega) (by decide) p1
  generalize HS.stp (c3, 1) c1 t1 = r at *
  have mm : n + n + n + n + n + 1 = 5 * n + 1 := by omega
  rw [mm] at r1
  have r2' : Py.B (5 * n + 1) r.2 := r2.mono (by omega)
  have b2' : Py.B (5 * n + 1) c2 := b2.mono (by omega)
  have d1' : Py.B (5 * n + 1) t2.1 := d1.mono (by omega)
  have d2' : Py.B (5 * n + 1) t2.2 := d2.mono (by omega)
  obtain ⟨s1, s2⟩ := stp_B r1 r2' b2' d1' d2'
  have sp := (HS.stp_x (ab := r) c2 rp p2).1
  have e := low_eq s1 (s2.mul b0) (by omega) (Int.mul_ne_zero (by have : (HS.stp (r.1, r.2) c2 t2) = HS.stp r c2 t2 := rfl; rw [this]; omega) h0)
  have st := tstep_eq (l := lin c0 c1 c2 c3) (to := tol t0 t1 t2) (pl := .int 0) (a := r.1) (b := r.2) (k := 2) (c := c2) (t := t2) (u6 := some (.int t1.1)) (u7 := some (.int t1.2)) (u8 := some (.int (gc (c3 * t1.2 - c1 * t1.1 * 1) (1 * t1.2)))) (i_l2 _ _ _ _) (i_l2 _ _ _ _) r1 r2' b2' d1' d2' (by omega) rp p2
  have er : HS.stp (r.1, r.2) c2 t2 = HS.stp r c2 t2 := rfl
  rw [er] at s1 s2 e st
  generalize HS.stp r c2 t2 = s at *
  haveI := s2.q
  have h1 : 5 * n + 1 + (5 * n + 1) + n < 900000 := by omega
  have rg : rangeD (0 + 1) ((((3 : Nat) : Int) - (0 + 1)).toNat) = [.int 1, .int 2] := rfl
  have ok : (rngOk (0 + 1) && rngOk ((3 : Nat) : Int)) = true := rfl
  show fnD 6 b_told_number [lin c0 c1 c2 c3, tol t0 t1 t2, .int 0] = _
  refine fn_rt (env := [some (lin c0 c1 c2 c3), some (tol t0 t1 t2), some (.int 0), none, none, none, none, none, none]) rfl ?_
  have l1 : (sPar 3 4 (aCons (bin gIx (eVar 0) (una gNeg (eC (.int 1)))) (aCons (eC (.int 1)) aNil))) [some (lin c0 c1 c2 c3), some (tol t0 t1 t2), some (.int 0), none, none, none, none, none, none] = ret (.nx [some (lin c0 c1 c2 c3), some (tol t0 t1 t2), some (.int 0), some (.int c3), some (.int 1), none, none, none, none]) := by
    simp only [Py.x_fnD, Py.x_sSeq, Py.x_sNx, Py.x_sAsg, Py.x_sOwn, Py.x_sTgt, Py.x_sRet, Py.x_sRetN, Py.x_sRetOwn, Py.x_sIf, Py.x_sFor, Py.x_sPar, Py.x_sPar3, Py.x_cal, Py.x_calL, Py.x_eCall, Py.x_bin, Py.x_una, Py.x_bAnd, Py.x_bOr, Py.x_bNot, Py.x_eAnd, Py.x_eOr, Py.x_eNot, Py.x_eIf, Py.x_eChain, Py.x_eSl, Py.x_oNo, Py.x_oPart, Py.x_aNil, Py.x_aCons, Py.x_aStar, Py.x_eTup, Py.x_lDisp, Py.x_mkL, Py.x_tgN, Py.x_tgsNil, Py.x_tgsCons, Py.x_tgTup, Py.x_itSeq, Py.x_itEnum, Py.x_itZip, Py.x_itRng1, Py.x_itRng2, Py.x_eVar, Py.x_eC, Py.x_tst, Py.x_cYes, Py.x_wipeD_cons, Py.x_wipeD_nil, Py.x_seqD_l, Py.x_seqD_t, Py.x_gNeg_i, Py.x_gAdd_i, Py.x_gAdd_t, Py.x_gAdd_l, Py.x_cTup_l, Py.x_cTup_t, Py.x_cLst_l, Py.x_cLst_t, Py.x_cLen_l, Py.x_cLen_t, Py.x_cInt_b, Py.x_cInt_i, Py.x_cAbs_i, Py.toB_b, Py.toI_i, Py.optM_some, Py.par2_2, Py.par3_3, Py.zip2_2, Py.enum1_1, Py.rng1_i, Py.rng2_i, Py.outD_rt, Py.outD_nx, Py.bnd_ret', Py.bnd_stuck', Py.oThen_nx, Py.oThen_rt, Py.oLoop_nx, Py.oLoop_rt, Py.a_mul, Py.a_fdiv, Py.a_mod, Py.a_sub, Py.a_lt, Py.a_le, Py.a_gt, Py.a_ge, Py.a_eq, Py.a_ne, Py.a_eqX, Py.a_neX, Py.a_notN, Py.a_isN, Py.i_t0, Py.i_t1, Py.i_t2, Py.i_t3, Py.i_l0, Py.i_l1, Py.i_l2, Py.i_l3, Py.a_cGcd, Py.a_sum2, Py.a_max2, Py.a_min2, Py.a_len, Py.a_slt, Py.a_sll, Py.nd_n, Py.nd_t, Py.nd_l, Py.nd_i, Py.nd_s, Py.nd_b, List.map_cons, List.map_nil, List.replicate, List.cons_append, List.nil_append, List.set_cons_succ, List.set_cons_zero, List.getElem?_cons_succ, List.getElem?_cons_zero, Option.getD_some, List.length_cons, List.length_nil, List.length_map, Nat.reduceAdd, Nat.reduceMul, Nat.reduceLT, Nat.reduceLeDiff, Nat.reduceEqDiff, Int.reduceEq, Int.reduceLT, Int.reduceToNat, ne_eq, not_false_eq_true, decide_true, decide_false, decide_eq_true_eq, if_true, if_false, Bool.false_eq_true, Bool.not_true, Bool.not_false, Bool.true_and, Bool.and_true, Bool.false_and, Bool.and_false, Nat.zero_add, lin, i_m1]
  have l2 : (sFor (itRng2 (aCons (bin gAdd (eVar 2) (eC (.int 1))) (aCons (cal cLen (aCons (eVar 1) aNil)) aNil))) (tgN 5) tstep) [some (lin c0 c1 c2 c3), some (tol t0 t1 t2), some (.int 0), some (.int c3), some (.int 1), none, none, none, none] = ret (.nx [some (lin c0 c1 c2 c3), some (tol t0 t1 t2), some (.int 0), some (.int s.1), some (.int s.2), some (.int 2), some (.int t2.1), some (.int t2.2), some (.int (gc (r.1 * t2.2 - c2 * t2.1 * r.2) (r.2 * t2.2)))]) := by
    have it : itRng2 (aCons (bin gAdd (eVar 2) (eC (.int 1))) (aCons (cal cLen (aCons (eVar 1) aNil)) aNil)) ([some (lin c0 c1 c2 c3), some (tol t0 t1 t2), some (.int 0), some (.int c3), some (.int 1), none, none, none, none] : Py.Env) = ret [.int 1, .int 2] := by
      simp only [Py.x_fnD, Py.x_sSeq, Py.x_sNx, Py.x_sAsg, Py.x_sOwn, Py.x_sTgt, Py.x_sRet, Py.x_sRetN, Py.x_sRetOwn, Py.x_sIf, Py.x_sFor, Py.x_sPar, Py.x_sPar3, Py.x_cal, Py.x_calL, Py.x_eCall, Py.x_bin, Py.x_una, Py.x_bAnd, Py.x_bOr, Py.x_bNot, Py.x_eAnd, Py.x_eOr, Py.x_eNot, Py.x_eIf, Py.x_eChain, Py.x_eSl, Py.x_oNo, Py.x_oPart, Py.x_aNil, Py.x_aCons, Py.x_aStar, Py.x_eTup, Py.x_lDisp, Py.x_mkL, Py.x_tgN, Py.x_tgsNil, Py.x_tgsCons, Py.x_tgTup, Py.x_itSeq, Py.x_itEnum, Py.x_itZip, Py.x_itRng1, Py.x_itRng2, Py.x_eVar, Py.x_eC, Py.x_tst, Py.x_cYes, Py.x_wipeD_cons, Py.x_wipeD_nil, Py.x_seqD_l, Py.x_seqD_t, Py.x_gNeg_i, Py.x_gAdd_i, Py.x_gAdd_t, Py.x_gAdd_l, Py.x_cTup_l, Py.x_cTup_t, Py.x_cLst_l, Py.x_cLst_t, Py.x_cLen_l, Py.x_cLen_t, Py.x_cInt_b, Py.x_cInt_i, Py.x_cAbs_i, Py.toB_b, Py.toI_i, Py.optM_some, Py.par2_2, Py.par3_3, Py.zip2_2, Py.enum1_1, Py.rng1_i, Py.rng2_i, Py.outD_rt, Py.outD_nx, Py.bnd_ret', Py.bnd_stuck', Py.oThen_nx, Py.oThen_rt, Py.oLoop_nx, Py.oLoop_rt, Py.a_mul, Py.a_fdiv, Py.a_mod, Py.a_sub, Py.a_lt, Py.a_le, Py.a_gt, Py.a_ge, Py.a_eq, Py.a_ne, Py.a_eqX, Py.a_neX, Py.a_notN, Py.a_isN, Py.i_t0, Py.i_t1, Py.i_t2, Py.i_t3, Py.i_l0, Py.i_l1, Py.i_l2, Py.i_l3, Py.a_cGcd, Py.a_sum2, Py.a_max2, Py.a_min2, Py.a_len, Py.a_slt, Py.a_sll, Py.nd_n, Py.nd_t, Py.nd_l, Py.nd_i, Py.nd_s, Py.nd_b, List.map_cons, List.map_nil, List.replicate, List.cons_append, List.nil_append, List.set_cons_succ, List.set_cons_zero, List.getElem?_cons_succ, List.getElem?_cons_zero, Option.getD_some, List.length_cons, List.length_nil, List.length_map, Nat.reduceAdd, Nat.reduceMul, Nat.reduceLT, Nat.reduceLeDiff, Nat.reduceEqDiff, Int.reduceEq, Int.reduceLT, Int.reduceToNat, ne_eq, not_false_eq_true, decide_true, decide_false, decide_eq_true_eq, if_true, if_false, Bool.false_eq_true, Bool.not_true, Bool.not_false, Bool.true_and, Bool.and_true, Bool.false_and, Bool.and_false, Nat.zero_add, tol, rg, ok]
    rw [x_sFor, it, bnd_ret', forW_cons, x_tgN, bnd_ret']
    refine (congrArg (fun z => bnd z _) rt).trans ?_
    rw [bnd_ret', oLoop_nx, forW_cons, x_tgN, bnd_ret']
    refine (congrArg (fun z => bnd z _) st).trans ?_
    rw [bnd_ret', oLoop_nx, forW_nil]
  refine (seq_nx l1).trans ((seq_nx l2).trans ?_)
  simp only [Py.x_fnD, Py.x_sSeq, Py.x_sNx, Py.x_sAsg, Py.x_sOwn, Py.x_sTgt, Py.x_sRet, Py.x_sRetN, Py.x_sRetOwn, Py.x_sIf, Py.x_sFor, Py.x_sPar, Py.x_sPar3, Py.x_cal, Py.x_calL, Py.x_eCall, Py.x_bin, Py.x_una, Py.x_bAnd, Py.x_bOr, Py.x_bNot, Py.x_eAnd, Py.x_eOr, Py.x_eNot, Py.x_eIf, Py.x_eChain, Py.x_eSl, Py.x_oNo, Py.x_oPart, Py.x_aNil, Py.x_aCons, Py.x_aStar, Py.x_eTup, Py.x_lDisp, Py.x_mkL, Py.x_tgN, Py.x_tgsNil, Py.x_tgsCons, Py.x_tgTup, Py.x_itSeq, Py.x_itEnum, Py.x_itZip, Py.x_itRng1, Py.x_itRng2, Py.x_eVar, Py.x_eC, Py.x_tst, Py.x_cYes, Py.x_wipeD_cons, Py.x_wipeD_nil, Py.x_seqD_l, Py.x_seqD_t, Py.x_gNeg_i, Py.x_gAdd_i, Py.x_gAdd_t, Py.x_gAdd_l, Py.x_cTup_l, Py.x_cTup_t, Py.x_cLst_l, Py.x_cLst_t, Py.x_cLen_l, Py.x_cLen_t, Py.x_cInt_b, Py.x_cInt_i, Py.x_cAbs_i, Py.toB_b, Py.toI_i, Py.optM_some, Py.par2_2, Py.par3_3, Py.zip2_2, Py.enum1_1, Py.rng1_i, Py.rng2_i, Py.outD_rt, Py.outD_nx, Py.bnd_ret', Py.bnd_stuck', Py.oThen_nx, Py.oThen_rt, Py.oLoop_nx, Py.oLoop_rt, Py.a_mul, Py.a_fdiv, Py.a_mod, Py.a_sub, Py.a_lt, Py.a_le, Py.a_gt, Py.a_ge, Py.a_eq, Py.a_ne, Py.a_eqX, Py.a_neX, Py.a_notN, Py.a_isN, Py.i_t0, Py.i_t1, Py.i_t2, Py.i_t3, Py.i_l0, Py.i_l1, Py.i_l2, Py.i_l3, Py.a_cGcd, Py.a_sum2, Py.a_max2, Py.a_min2, Py.a_len, Py.a_slt, Py.a_sll, Py.nd_n, Py.nd_t, Py.nd_l, Py.nd_i, Py.nd_s, Py.nd_b, List.map_cons, List.map_nil, List.replicate, List.cons_append, List.nil_append, List.set_cons_succ, List.set_cons_zero, List.getElem?_cons_succ, List.getElem?_cons_zero, Option.getD_some, List.length_cons, List.length_nil, List.length_map, Nat.reduceAdd, Nat.reduceMul, Nat.reduceLT, Nat.reduceLeDiff, Nat.reduceEqDiff, Int.reduceEq, Int.reduceLT, Int.reduceToNat, ne_eq, not_false_eq_true, decide_true, decide_false, decide_eq_true_eq, if_true, if_false, Bool.false_eq_true, Bool.not_true, Bool.not_false, Bool.true_and, Bool.and_true, Bool.false_and, Bool.and_false, Nat.zero_add, lin, h1, e]
end L78
namespace L78
open PySem hiding ret
open Py L2 R74
open HS (P2 rowsT)
open HV (gc gc_pos)
def Bp (n : Nat) (w : P2) : Prop := Py.B n w.1 ∧ Py.B n w.2
def ptsT (L : List P2) : D := .tuple (L.map vD)
theorem ptsT_eq (L : List P2) : ptsT L = lotT (L.map pI) := by
  rw [ptsT, lotT, List.map_map]; rfl
def colD (q : P2 × Bool) : D := if q.2 = true then lstI [1, q.1.1, q.1.2] else tupI [1, q.1.1, q.1.2]
def cols' (L : List P2) (p : P2) : List (P2 × Bool) := L.map (fun w => (w, false)) ++ [(p, true)]
def wt1 : Py.Env → M Out := (sAsg 2 (mkL (lDisp (aStar (mkL (eLc (itSeq (eVar 0)) (tgN 9) cYes (eCall 1 F_with_one (aCons (eVar 9) aNil)) [9])) (aCons (eCall 1 F_whole_point (aCons (eVar 1) aNil)) aNil)))))
def wt2 : Py.Env → M Out := (sAsg 3 (mkL (eLc (itRng1 (aCons (cal cLen (aCons (bin gIx (eVar 2) (eC (.int 0))) aNil)) aNil)) (tgN 10) cYes (mkL (eLc (itSeq (eVar 2)) (tgN 11) cYes (bin gIx (eVar 11) (eVar 10)) [11])) [10])))
def wt3 : Py.Env → M Out := (sAsg 4 (eCall 1 F_lines_reduced (aCons (eVar 3) aNil)))
def wt4 : Py.Env → M Out := (sIf (tst (cal cAny (aCons (mkL (eLc (itSeq (eVar 4)) (tgTup 2 (tgsCons (tgN 7) (tgsCons (tgN 8) tgsNil))) cYes (bin gEq (eVar 7) (cal cLen (aCons (eVar 0) aNil))) [7, 8])) aNil))) (sRet (eC .none)) sNx)
def wt5 : Py.Env → M Out := (sParO 5 6 (bin gIx (bin gIx (eVar 2) (una gNeg (eC (.int 1)))) (eC (.int 0))) (repL (mkL (lDisp (aCons (eTup (aCons (eC (.int 0)) (aCons (eC (.int 1)) aNil))) aNil))) (cal cLen (aCons (eVar 0) aNil))))
def wt6f : Py.Env → M Out := (sSetI 6 (eVar 7) (eCallV 3 F_told_number (aCons (eVar 8) (aCons (eVar 6) (aCons (eVar 7) aNil)))))
def wt6 : Py.Env → M Out := (sFor (itSeq (mkL (eRevL (mkL (calL cSrt (aCons (eVar 4) aNil)))))) (tgTup 2 (tgsCons (tgN 7) (tgsCons (tgN 8) tgsNil))) wt6f)
def wt7 : Py.Env → M Out := (sRet (cal cTup (aCons (mkL (eLc (itSeq (eVar 6)) (tgTup 2 (tgsCons (tgN 12) (tgsCons (tgN 13) tgsNil))) cYes (eCall 2 F_lowest_pair (aCons (eVar 12) (aCons (bin gMulX (eVar 13) (eVar 5)) aNil))) [12, 13])) aNil)))
theorem b_weights_to_eq : b_weights_to = (sSeq wt1 (sSeq wt2 (sSeq wt3 (sSeq wt4 (sSeq wt5 (sSeq wt6 wt7)))))) := rfl
section
variable {L : List P2} {p : P2}
theorem wt1_eq {ρ : Py.Env} (hl : ρ.length = 14) (h0 : ρ[0]? = some (some (ptsT L))) (h1 : ρ[1]? = some (some (frT p))) (bp : Bp 9 p) (k3 : L.length ≤ 3) : wt1 ρ = ret (.nx (ρ.set 2 (some (.list ((cols' L p).map colD))))) := by
  have e1 := ones_e (ρ := ρ) (L := L.map pI) (i := 0) (r := 9) (by omega) (by rw [h0, ptsT_eq]) (fun q hq => by obtain ⟨w, _, rfl⟩ := List.mem_map.mp hq; simp [pI])
  have e2 : eCall 1 F_whole_point (aCons (eVar 1) aNil) ρ = ret (lstI [1, p.1, p.2]) := (eCall_1 _ (args_1 h1)).trans (whole_eq bp.1 bp.2 (by decide))
  have e3 : (cols' L p).map colD = (ones (L.map pI)).map (rD false) ++ [lstI [1, p.1, p.2]] := by
    rw [cols', List.map_append, List.map_map, ones, List.map_map, List.map_map]
    rfl
  rw [wt1, x_sAsg, x_mkL, x_lDisp, x_aStar, e1, bnd_ret', seq_tD, bnd_ret', x_aCons, e2, bnd_ret', x_aNil, bnd_ret', bnd_ret', bnd_ret', e3, if_pos (by rw [lenOk_def]; simp [ones]; omega), bnd_ret', bnd_ret']
theorem cols_len : ((cols' L p).map colD).length = L.length + 1 := by simp [cols']
def rowsL (L : List P2) (p : P2) : List (List Int) := rowsT (L ++ [p])
theorem wt2_eq {ρ : Py.Env} (hl : ρ.length = 14) (h2 : ρ[2]? = some (some (.list ((cols' L p).map colD)))) (k1 : 1 ≤ L.length) : wt2 ρ = ret (.nx (ρ.set 3 (some (tD true true (rowsL L p))))) := by
  have e : mkL (eLc (itRng1 (aCons (cal cLen (aCons (bin gIx (eVar 2) (eC (.int 0))) aNil)) aNil)) (tgN 10) cYes (mkL (eLc (itSeq (eVar 2)) (tgN 11) cYes (bin gIx (eVar 11) (eVar 10)) [11])) [10]) ρ = ret (tD true true (rowsL L p)) := by
    obtain ⟨a, L', rfl⟩ : ∃ a L', L = a :: L' := by
      cases L with
      | nil => simp at k1
      | cons a L' => exact ⟨a, L', rfl⟩
    have it : itRng1 (aCons (cal cLen (aCons (bin gIx (eVar 2) (eC (.int 0))) aNil)) aNil) ρ = ret [.int 0, .int 1, .int 2] := by
      have ix : bin gIx (eVar 2) (eC (.int 0)) ρ = ret (tupI [1, a.1, a.2]) := by
        rw [x_bin, var_eq h2, bnd_ret', x_eC, bnd_ret']
        exact i_l0 _ _
      have c3 : cLen [tupI [1, a.1, a.2]] = ret (.int 3) := (rfl)
      have ok : rngOk 3 = true := rfl
      have r : rangeD 0 (3 : Int).toNat = [.int 0, .int 1, .int 2] := rfl
      rw [x_itRng1, x_aCons, x_cal, args_e ix, bnd_ret', c3, bnd_ret', x_aNil, bnd_ret', bnd_ret', rng1_i, if_pos ok, r]
    have e := comp_all (ρ := ρ) (its := itRng1 (aCons (cal cLen (aCons (bin gIx (eVar 2) (eC (.int 0))) aNil)) aNil)) (tg := tgN 10) (elt := mkL (eLc (itSeq (eVar 2)) (tgN 11) cYes (bin gIx (eVar 11) (eVar 10)) [11])) (vs := [10])
      (fun i : Nat => .int (i : Int)) (fun i => lstI (((a :: L') ++ [p]).map fun w => if i = 0 then 1 else if i = 1 then w.1 else w.2)) [0, 1, 2] it ?_
    · rw [e]; rfl
    · intro i hi
      rw [x_wipeD_cons, x_wipeD_nil]
      refine ⟨_, rfl, ?_⟩
      have g2 : ((ρ.set 10 none).set 10 (some (.int (i : Int))))[2]? = some (some (.list ((cols' (a :: L') p).map colD))) := by rw [List.getElem?_set_ne (by decide), List.getElem?_set_ne (by decide), h2]
      have g10 : ((ρ.set 10 none).set 10 (some (.int (i : Int))))[10]? = some (some (.int (i : Int))) := set9 (by rw [List.length_set, hl]; decide)
      have gl : ((ρ.set 10 none).set 10 (some (.int (i : Int)))).length = 14 := by rw [List.length_set, List.length_set, hl]
      generalize (ρ.set 10 none).set 10 (some (.int (i : Int))) = ρ1 at *
      have e := comp_all (ρ := ρ1) (its := itSeq (eVar 2)) (tg := tgN 11) (elt := bin gIx (eVar 11) (eVar 10)) (vs := [11]) colD (fun q => .int (if i = 0 then 1 else if i = 1 then q.1.1 else q.1.2)) (cols' (a :: L') p) (by rw [x_itSeq, var_eq g2, bnd_ret']; rfl) ?_
      · rw [e, cols', List.map_append, List.map_map, lstI, dInts, List.map_map, List.map_append]
        rfl
      · intro q hq
        rw [x_wipeD_cons, x_wipeD_nil]
        refine ⟨_, rfl, ?_⟩
        rw [x_bin, var_eq (set9 (by rw [List.length_set, gl]; decide)), bnd_ret', var_eq (d := .int (i : Int)) (by rw [List.getElem?_set_ne (by decide), List.getElem?_set_ne (by decide), g10]), bnd_ret']
        obtain ⟨w, b⟩ := q
        simp only [List.mem_cons, List.not_mem_nil, or_false] at hi
        cases b <;> rcases hi with rfl | rfl | rfl <;> first
          | exact i_l0 _ _
          | exact i_l1 _ _ _
          | exact i_l2 _ _ _ _
          | exact i_t0 _ _
          | exact i_t1 _ _ _
          | exact i_t2 _ _ _ _
  rw [wt2, x_sAsg, e, bnd_ret']
theorem rowsL_ok (hL : ∀ w ∈ L, Bp 9 w) (bp : Bp 9 p) : ∀ r ∈ rowsL L p, Bl 10 r ∧ r.length = L.length + 1 := by
  intro r hr
  have all : ∀ w ∈ L ++ [p], Bp 9 w := fun w hw => by
    rcases List.mem_append.mp hw with h | h
    · exact hL w h
    · rw [List.mem_singleton.mp h]; exact bp
  refine ⟨?_, by rw [HS.rowsT_len r hr]; simp⟩
  simp only [rowsL, rowsT, List.mem_cons, List.not_mem_nil, or_false] at hr
  rcases hr with rfl | rfl | rfl
  · intro x hx
    obtain ⟨w, _, rfl⟩ := List.mem_map.mp hx
    show (1 : Int).natAbs ≤ 2 ^ 10
    decide
  · intro x hx
    obtain ⟨w, hw, rfl⟩ := List.mem_map.mp hx
    exact (all w hw).1.mono (by decide)
  · intro x hx
    obtain ⟨w, hw, rfl⟩ := List.mem_map.mp hx
    exact (all w hw).2.mono (by decide)
theorem wt3_eq {ρ : Py.Env} (h3 : ρ[3]? = some (some (tD true true (rowsL L p)))) (hL : ∀ w ∈ L, Bp 9 w) (bp : Bp 9 p) (k3 : L.length ≤ 3) : wt3 ρ = ret (.nx (ρ.set 4 (some (.list ((lines (rowsL L p)).map lnD))))) := by
  rw [wt3, x_sAsg, (eCall_1 _ (args_1 h3)).trans (lines_eq (m := L.length + 1) (show 3 ≤ 6 by decide) (rowsL_ok hL bp) (by omega)), bnd_ret']
theorem any_e {ρ : Py.Env} (hl : ρ.length = 14) (h0 : ρ[0]? = some (some (ptsT L))) (h4 : ρ[4]? = some (some (.list ((lines (rowsL L p)).map lnD)))) :
    tst (cal cAny (aCons (mkL (eLc (itSeq (eVar 4)) (tgTup 2 (tgsCons (tgN 7) (tgsCons (tgN 8) tgsNil))) cYes (bin gEq (eVar 7) (cal cLen (aCons (eVar 0) aNil))) [7, 8])) aNil)) ρ = ret ((lines (rowsL L p)).any fun ln => decide (ln.1 = L.length)) := by
  have e := comp_all (ρ := ρ) (its := itSeq (eVar 4)) (tg := tgTup 2 (tgsCons (tgN 7) (tgsCons (tgN 8) tgsNil))) (elt := bin gEq (eVar 7) (cal cLen (aCons (eVar 0) aNil))) (vs := [7, 8]) lnD (fun ln => .bool (decide (ln.1 = L.length))) (lines (rowsL L p)) (by rw [x_itSeq, var_eq h4, bnd_ret']; rfl) ?_
  · refine tst_b ?_
    rw [x_cal, x_aCons, e, bnd_ret', x_aNil, bnd_ret', bnd_ret', cAny_map]
  · intro ln hln
    refine ⟨_, tgAB, ?_⟩
    simp only [x_wipeD_cons, x_wipeD_nil]
    rw [x_bin, var_eq (d := .int (ln.1 : Nat)) (by rw [List.getElem?_set_ne (by decide)]; exact set9 (by simp only [List.length_set, hl]; decide)), bnd_ret', x_cal, args_1 (x := ptsT L) (by simp only [List.getElem?_set_ne, ne_eq, Nat.reduceEqDiff, not_false_eq_true]; exact h0), bnd_ret', ptsT, x_cLen_t, List.length_map, bnd_ret', a_eq]
    congr 2
    rw [Bool.eq_iff_iff, decide_eq_true_eq, decide_eq_true_eq]
    omega
/-- one point, two points: None -/
theorem wts_none (k1 : 1 ≤ L.length) (k3 : L.length ≤ 3) (hL : ∀ w ∈ L, Bp 9 w) (bp : Bp 9 p) (h : ∃ ln ∈ lines (rowsL L p), ln.1 = L.length) : F_weights_to [ptsT L, frT p] = ret .none := by
  refine fn_rt (env := [some (ptsT L), some (frT p), none, none, none, none, none, none, none, none, none, none, none, none]) rfl ?_
  rw [b_weights_to_eq, seq_nx (wt1_eq rfl rfl rfl bp k3), seq_nx (wt2_eq rfl rfl k1), seq_nx (wt3_eq rfl hL bp k3)]
  have a : (lines (rowsL L p)).any (fun ln => decide (ln.1 = L.length)) = true := by
    obtain ⟨ln, hl, e⟩ := h
    exact List.any_eq_true.mpr ⟨ln, hl, decide_eq_true e⟩
  rw [x_sSeq, wt4, x_sIf, any_e rfl rfl rfl, bnd_ret', a, if_pos rfl, x_sRet, x_eC, bnd_ret', bnd_ret', oThen_rt]
end
end L78
namespace L78
open PySem hiding ret
open Py L2 R74
open HS (P2 rowsT)
open HV (gc gc_pos)
theorem shp_ln (a : Nat × List Int) : shp (lnD a) = true := by
  refine shp_of ?_ ?_
  · have h := canLayAll_ints a.2
    show PyData.canLay0 (.tuple [.int (a.1 : Nat), lstI a.2]) = true
    simp [PyData.canLay0, PyData.canLayAll0, lstI, h]
  · have h := depthAll_ints a.2
    show PyData.depth (.tuple [.int (a.1 : Nat), lstI a.2]) ≤ 64
    simp [PyData.depth, PyData.depthAll, lstI, h]
theorem alike_ln (a b : Nat × List Int) : PySem.W.alike (lnD a) (lnD b) = true := by
  show PySem.W.alike (.tuple [.int (a.1 : Nat), lstI a.2]) (.tuple [.int (b.1 : Nat), lstI b.2]) = true
  simp [PySem.W.alike, PySem.W.alikeAll, lstI, alikeAll_ints]
theorem srtOk_ln (F : List (Nat × List Int)) : srtOk (F.map lnD) = true := by
  have h1 : alls (F.map lnD) = true := by
    unfold alls
    rw [List.all_eq_true]
    intro x hx
    obtain ⟨a, ha, rfl⟩ := List.mem_map.mp hx
    rw [Bool.and_eq_true, Bool.and_eq_true]
    refine ⟨⟨shp_ln a, rfl⟩, List.all_eq_true.mpr fun y hy => ?_⟩
    obtain ⟨b, hb, rfl⟩ := List.mem_map.mp hy
    exact alike_ln a b
  unfold srtOk
  rw [h1, Bool.true_and]
  have : (F.map lnD).all isTup1 = true := by
    rw [List.all_eq_true]
    intro d hd
    obtain ⟨a, _, rfl⟩ := List.mem_map.mp hd
    rfl
  rw [this, Bool.true_or, Bool.true_or]
theorem leD_ln {a b : Nat × List Int} (h : leD (lnD a) (lnD b) = true) : a.1 ≤ b.1 := by
  rcases Nat.lt_or_ge b.1 a.1 with z | z
  · exfalso
    have e : PySem.W.dataLt (lnD b) (lnD a) = true := by
      unfold lnD
      rw [PySem.W.dataLt_tuple, PySem.W.dataLt_all_no (by rfl) (by rw [a_eqv]; exact decide_eq_false (by omega)), PySem.W.dataLt_int]
      exact decide_eq_true (by omega)
    have h' : (!PySem.W.dataLt (lnD b) (lnD a)) = true := h
    rw [e] at h'
    cases h'
  · exact z
theorem sort_ln (F : List (Nat × List Int)) : ∃ S : List (Nat × List Int), S.Perm F ∧ S.Pairwise (fun a b => a.1 ≤ b.1) ∧ cSrt [.list (F.map lnD)] = ret (S.map lnD) := by
  refine ⟨F.mergeSort fun a b => leD (lnD a) (lnD b), List.mergeSort_perm _ _, ?_, ?_⟩
  · have tot : PySem.W.TotalLe leD := by unfold leD PySem.W.dataLe; exact PySem.W.sortLe_total _ _ _
    exact (List.pairwise_mergeSort (le := fun a b : Nat × List Int => leD (lnD a) (lnD b)) (fun a b c h1 h2 => tot.trans _ _ _ h1 h2) (fun a b => by
      have := tot.total (lnD a) (lnD b)
      simpa using this) F).imp fun h => leD_ln h
  · show (if srtOk (F.map lnD) = true then ret ((F.map lnD).mergeSort leD) else stuck) = _
    rw [if_pos (srtOk_ln F)]
    congr 1
    exact (List.map_mergeSort (r := fun a b => leD (lnD a) (lnD b)) (s := leD) (f := lnD) (l := F) (fun a _ b _ => rfl)).symm
theorem at4 {l : List Int} (h : l.length = 4) : lstI l = lin (at' l 0) (at' l 1) (at' l 2) (at' l 3) := by
  match l, h with
  | [a, b, c, d], _ => rfl
theorem setI_eq {i : Nat} {j e : Py.Env → M D} {ρ : Py.Env} {ds : List D} {d : D} {n : Int} {m : Nat} (he : e ρ = ret d) (hi : ρ[i]? = some (some (.list ds))) (hj : j ρ = ret (.int n)) (hm : ixN ds.length n = some m) :
    sSetI i j e ρ = ret (.nx (ρ.set i (some (.list (ds.set m d))))) := by
  unfold sSetI
  rw [he, bnd_ret', var_eq hi, bnd_ret', hj, bnd_ret']
  show (match ixN ds.length n with | some m => ret (Out.nx (ρ.set i (some (.list (ds.set m d))))) | none => stuck) = _
  rw [hm]
theorem parO_eq {i j : Nat} {e : Py.Env → M D} {f : Py.Env → M (List D)} {ρ : Py.Env} {d : D} {ds : List D} (he : e ρ = ret d) (hf : f ρ = ret ds) : sParO i j e f ρ = ret (.nx ((ρ.set i (some d)).set j (some (.list ds)))) := by
  unfold sParO
  rw [he, bnd_ret', hf, bnd_ret']
/-- one told number -/
theorem wt6f_eq {ρ : Py.Env} {l : D} {t0 t1 t2 u : P2} {i : Nat} (hl : ρ.length = 14) (h6 : ρ[6]? = some (some (tol t0 t1 t2))) (hi : i < 3) (h7 : ρ[7]? = some (some (.int (i : Nat)))) (h8 : ρ[8]? = some (some l)) (he : F_told_number [l, tol t0 t1 t2, .int (i : Nat)] = ret (vD u)) :
    wt6f ρ = ret (.nx (ρ.set 6 (some (.list ([vD t0, vD t1, vD t2].set i (vD u)))))) := by
  have e1 : eCallV 3 F_told_number (aCons (eVar 8) (aCons (eVar 6) (aCons (eVar 7) aNil))) ρ = ret (vD u) := by
    unfold eCallV
    rw [args_3 h8 h6 h7, bnd_ret', if_pos (show [l, tol t0 t1 t2, PyData.int (i : Nat)].length = 3 from rfl), he, bnd_ret', if_pos (show solid (vD u) = true from rfl)]
  exact setI_eq e1 h6 (var_eq h7) (ixN_nat hi)
theorem red_B {p q : Int} {n m : Nat} (hp : Py.B n p) (hq : Py.B m q) : Py.B n (HV.red p q).1 ∧ Py.B m (HV.red p q).2 := ⟨hp.fdiv _, hq.fdiv _⟩
theorem atB {n : Nat} {l : List Int} (h : Bl n l) (q : Nat) : Py.B n (at' l q) := at_B h q
/-- three points: the weights -/
theorem wts_some {a b c p : P2} (hL : ∀ w ∈ [a, b, c], Bp 9 w) (bp : Bp 9 p) (hD : HS.o3 a b c ≠ 0) :
    ∃ w0 w1 w2 : P2, F_weights_to [ptsT [a, b, c], frT p] = ret (.tuple [vD w0, vD w1, vD w2]) ∧ (0 ≤ w0.1 ↔ 0 ≤ HS.o3 p b c * HS.o3 a b c) ∧ (0 ≤ w1.1 ↔ 0 ≤ HS.o3 a p c * HS.o3 a b c) ∧ (0 ≤ w2.1 ↔ 0 ≤ HS.o3 a b p * HS.o3 a b c) := by
  obtain ⟨S, sp, ss, se⟩ := sort_ln (lines (rowsL [a, b, c] p))
  obtain ⟨l0, l1, l2, rfl, h0, h10, h1, h20, h21, h2, n0, n1, n2⟩ := HS.tri_lines (p := p) hD sp ss
  have bl : ∀ ln ∈ lines (rowsL [a, b, c] p), Bl 43 ln.2 := by
    intro ln hln
    obtain ⟨i, hi, rfl⟩ := List.getElem_of_mem hln
    have h3 : (lines (rowsL [a, b, c] p)).length = 3 := by rw [← sp.length_eq]; rfl
    have := lines_B (m := 4) (T := rowsL [a, b, c] p) (show 3 ≤ 6 by decide) (rowsL_ok hL bp) (by decide) i hi
    intro x hx
    refine (this x hx).mono ?_
    have : i = 0 ∨ i = 1 ∨ i = 2 := by omega
    rcases this with rfl | rfl | rfl <;> decide
  have B0 := bl (0, l0) (sp.mem_iff.mp (by simp))
  have B1 := bl (1, l1) (sp.mem_iff.mp (by simp))
  have B2 := bl (2, l2) (sp.mem_iff.mp (by simp))
  have W := HS.weights_sign (p := p) hD sp h0 h10 h1 h20 h21 h2
  -- bounds
  have t2B : Bp 43 (HS.tn2 l2) := by
    have := red_B (atB B2 3) (show Py.B 43 (1 * at' l2 2) by rw [Int.one_mul]; exact atB B2 2)
    exact this
  have t2x := (HS.tn2_x h2).1
  have one : Py.B 43 1 := by show (1 : Int).natAbs ≤ _; exact Nat.one_le_two_pow
  have t1B : Bp 216 (HS.tn1 l1 (HS.tn2 l2)) := by
    obtain ⟨s1, s2⟩ := stp_B (atB B1 3) one (atB B1 2) t2B.1 t2B.2
    have := red_B s1 (s2.mul (atB B1 1))
    exact ⟨this.1, this.2.mono (by decide)⟩
  have t1x := (HS.tn1_x (l1 := l1) h1 t2x).1
  have e2 := fun t0 t1 t2 => told2 (c0 := at' l2 0) (c1 := at' l2 1) (t0 := t0) (t1 := t1) (t2 := t2) (atB B2 2) (atB B2 3) (by decide) h2
  have e1 := fun t0 t1 => told1 (c0 := at' l1 0) (t0 := t0) (t1 := t1) (t2 := HS.tn2 l2) (atB B1 1) (atB B1 2) (atB B1 3) t2B.1 t2B.2 (by decide) h1 t2x
  have up : ∀ q, Py.B 216 (at' l0 q) := fun q => (atB B0 q).mono (by decide)
  have e0 := fun t0 => told0 (t0 := t0) (t1 := HS.tn1 l1 (HS.tn2 l2)) (t2 := HS.tn2 l2) (up 0) (up 1) (up 2) (up 3) t1B.1 t1B.2 (t2B.1.mono (by decide)) (t2B.2.mono (by decide)) (by decide) h0 t1x t2x
  have t0B : Py.B 6000 (HS.tn0 l0 (HS.tn1 l1 (HS.tn2 l2)) (HS.tn2 l2)).1 ∧ Py.B 6000 (HS.tn0 l0 (HS.tn1 l1 (HS.tn2 l2)) (HS.tn2 l2)).2 := by
    have one' : Py.B 216 1 := one.mono (by decide)
    obtain ⟨r1, r2⟩ := stp_B (up 3) one' (up 1) t1B.1 t1B.2
    have m1 : Py.B 1081 (at' l0 2) := (up 2).mono (by decide)
    obtain ⟨s1, s2⟩ := stp_B (a := (HS.stp (at' l0 3, 1) (at' l0 1) (HS.tn1 l1 (HS.tn2 l2))).1) (b := (HS.stp (at' l0 3, 1) (at' l0 1) (HS.tn1 l1 (HS.tn2 l2))).2) (n := 1081) r1 (r2.mono (by decide)) m1 (t2B.1.mono (by decide)) (t2B.2.mono (by decide))
    have := red_B s1 (s2.mul (up 0))
    exact ⟨this.1.mono (by decide), this.2.mono (by decide)⟩
  obtain ⟨⟨q2, q1, q0⟩, s0, s1, s2⟩ := W
  change ∀ t0 t1 t2, F_told_number [_, _, _] = ret (vD (HS.tn2 l2)) at e2
  change ∀ t0 t1, F_told_number [_, _, _] = ret (vD (HS.tn1 l1 (HS.tn2 l2))) at e1
  change ∀ t0, F_told_number [_, _, _] = ret (vD (HS.tn0 l0 (HS.tn1 l1 (HS.tn2 l2)) (HS.tn2 l2))) at e0
  simp only [← at4 n0] at e0
  simp only [← at4 n1] at e1
  simp only [← at4 n2] at e2
  generalize HS.tn0 l0 (HS.tn1 l1 (HS.tn2 l2)) (HS.tn2 l2) = t0 at *
  generalize HS.tn1 l1 (HS.tn2 l2) = t1 at *
  generalize HS.tn2 l2 = t2 at *
  refine ⟨HV.red t0.1 (t0.2 * 1), HV.red t1.1 (t1.2 * 1), HV.red t2.1 (t2.2 * 1), ?_, ?_, ?_, ?_⟩
  · refine fn_rt (env := [some (ptsT [a, b, c]), some (frT p), none, none, none, none, none, none, none, none, none, none, none, none]) rfl ?_
    rw [b_weights_to_eq, seq_nx (wt1_eq rfl rfl rfl bp (by simp)), seq_nx (wt2_eq rfl rfl (by simp)), seq_nx (wt3_eq rfl hL bp (by simp))]
    have no : (lines (rowsL [a, b, c] p)).any (fun ln => decide (ln.1 = [a, b, c].length)) = false := by
      rw [List.any_eq_false]
      intro ln hln
      have := sp.mem_iff.mpr hln
      simp only [List.mem_cons, List.not_mem_nil, or_false] at this
      rcases this with rfl | rfl | rfl <;> simp
    have w4 : wt4 (((([some (ptsT [a, b, c]), some (frT p), none, none, none, none, none, none, none, none, none, none, none, none] : Py.Env).set 2 (some (.list ((cols' [a, b, c] p).map colD)))).set 3 (some (tD true true (rowsL [a, b, c] p)))).set 4 (some (.list ((lines (rowsL [a, b, c] p)).map lnD)))) = ret (.nx ([some (ptsT [a, b, c]), some (frT p), some (.list ((cols' [a, b, c] p).map colD)), some (tD true true (rowsL [a, b, c] p)), some (.list ((lines (rowsL [a, b, c] p)).map lnD)), none, none, none, none, none, none, none, none, none])) := by
      rw [wt4, x_sIf, any_e rfl rfl rfl, bnd_ret', no, if_neg Bool.false_ne_true, x_sNx]
      rfl
    rw [seq_nx w4]
    generalize hT : tD true true (rowsL [a, b, c] p) = Td
    have w5 : wt5 ([some (ptsT [a, b, c]), some (frT p), some (.list ((cols' [a, b, c] p).map colD)), some Td, some (.list ((lines (rowsL [a, b, c] p)).map lnD)), none, none, none, none, none, none, none, none, none]) = ret (.nx [some (ptsT [a, b, c]), some (frT p), some (.list ((cols' [a, b, c] p).map colD)), some Td, some (.list ((lines (rowsL [a, b, c] p)).map lnD)), some (.int 1), some (tol (0, 1) (0, 1) (0, 1)), none, none, none, none, none, none, none]) := by
      generalize (lines (rowsL [a, b, c] p)).map lnD = LL
      have m1 : ∀ x y z w : D, gIx (.list [x, y, z, w]) (.int (-1)) = ret w := i_m1
      have rp : repL (mkL (lDisp (aCons (eTup (aCons (eC (.int 0)) (aCons (eC (.int 1)) aNil))) aNil))) (cal cLen (aCons (eVar 0) aNil)) ([some (ptsT [a, b, c]), some (frT p), some (.list ((cols' [a, b, c] p).map colD)), some Td, some (.list LL), none, none, none, none, none, none, none, none, none] : Py.Env) = ret [vD (0, 1), vD (0, 1), vD (0, 1)] := by
        unfold repL
        simp only [Py.x_fnD, Py.x_sSeq, Py.x_sNx, Py.x_sAsg, Py.x_sOwn, Py.x_sTgt, Py.x_sRet, Py.x_sRetN, Py.x_sRetOwn, Py.x_sIf, Py.x_sFor, Py.x_sPar, Py.x_sPar3, Py.x_cal, Py.x_calL, Py.x_eCall, Py.x_bin, Py.x_una, Py.x_bAnd, Py.x_bOr, Py.x_bNot, Py.x_eAnd, Py.x_eOr, Py.x_eNot, Py.x_eIf, Py.x_eChain, Py.x_eSl, Py.x_oNo, Py.x_oPart, Py.x_aNil, Py.x_aCons, Py.x_aStar, Py.x_eTup, Py.x_lDisp, Py.x_mkL, Py.x_tgN, Py.x_tgsNil, Py.x_tgsCons, Py.x_tgTup, Py.x_itSeq, Py.x_itEnum, Py.x_itZip, Py.x_itRng1, Py.x_itRng2, Py.x_eVar, Py.x_eC, Py.x_tst, Py.x_cYes, Py.x_wipeD_cons, Py.x_wipeD_nil, Py.x_seqD_l, Py.x_seqD_t, Py.x_gNeg_i, Py.x_gAdd_i, Py.x_gAdd_t, Py.x_gAdd_l, Py.x_cTup_l, Py.x_cTup_t, Py.x_cLst_l, Py.x_cLst_t, Py.x_cLen_l, Py.x_cLen_t, Py.x_cInt_b, Py.x_cInt_i, Py.x_cAbs_i, Py.toB_b, Py.toI_i, Py.optM_some, Py.par2_2, Py.par3_3, Py.zip2_2, Py.enum1_1, Py.rng1_i, Py.rng2_i, Py.outD_rt, Py.outD_nx, Py.bnd_ret', Py.bnd_stuck', Py.oThen_nx, Py.oThen_rt, Py.oLoop_nx, Py.oLoop_rt, Py.a_mul, Py.a_fdiv, Py.a_mod, Py.a_sub, Py.a_lt, Py.a_le, Py.a_gt, Py.a_ge, Py.a_eq, Py.a_ne, Py.a_eqX, Py.a_neX, Py.a_notN, Py.a_isN, Py.i_t0, Py.i_t1, Py.i_t2, Py.i_t3, Py.i_l0, Py.i_l1, Py.i_l2, Py.i_l3, Py.a_cGcd, Py.a_sum2, Py.a_max2, Py.a_min2, Py.a_len, Py.a_slt, Py.a_sll, Py.nd_n, Py.nd_t, Py.nd_l, Py.nd_i, Py.nd_s, Py.nd_b, List.map_cons, List.map_nil, List.replicate, List.cons_append, List.nil_append, List.set_cons_succ, List.set_cons_zero, List.getElem?_cons_succ, List.getElem?_cons_zero, Option.getD_some, List.length_cons, List.length_nil, List.length_map, Nat.reduceAdd, Nat.reduceMul, Nat.reduceLT, Nat.reduceLeDiff, Nat.reduceEqDiff, Int.reduceEq, Int.reduceLT, Int.reduceToNat, ne_eq, not_false_eq_true, decide_true, decide_false, decide_eq_true_eq, if_true, if_false, Bool.false_eq_true, Bool.not_true, Bool.not_false, Bool.true_and, Bool.and_true, Bool.false_and, Bool.and_false, Nat.zero_add, ptsT]
        rfl
      refine (parO_eq (d := .int 1) ?_ rp).trans rfl
      simp only [Py.x_fnD, Py.x_sSeq, Py.x_sNx, Py.x_sAsg, Py.x_sOwn, Py.x_sTgt, Py.x_sRet, Py.x_sRetN, Py.x_sRetOwn, Py.x_sIf, Py.x_sFor, Py.x_sPar, Py.x_sPar3, Py.x_cal, Py.x_calL, Py.x_eCall, Py.x_bin, Py.x_una, Py.x_bAnd, Py.x_bOr, Py.x_bNot, Py.x_eAnd, Py.x_eOr, Py.x_eNot, Py.x_eIf, Py.x_eChain, Py.x_eSl, Py.x_oNo, Py.x_oPart, Py.x_aNil, Py.x_aCons, Py.x_aStar, Py.x_eTup, Py.x_lDisp, Py.x_mkL, Py.x_tgN, Py.x_tgsNil, Py.x_tgsCons, Py.x_tgTup, Py.x_itSeq, Py.x_itEnum, Py.x_itZip, Py.x_itRng1, Py.x_itRng2, Py.x_eVar, Py.x_eC, Py.x_tst, Py.x_cYes, Py.x_wipeD_cons, Py.x_wipeD_nil, Py.x_seqD_l, Py.x_seqD_t, Py.x_gNeg_i, Py.x_gAdd_i, Py.x_gAdd_t, Py.x_gAdd_l, Py.x_cTup_l, Py.x_cTup_t, Py.x_cLst_l, Py.x_cLst_t, Py.x_cLen_l, Py.x_cLen_t, Py.x_cInt_b, Py.x_cInt_i, Py.x_cAbs_i, Py.toB_b, Py.toI_i, Py.optM_some, Py.par2_2, Py.par3_3, Py.zip2_2, Py.enum1_1, Py.rng1_i, Py.rng2_i, Py.outD_rt, Py.outD_nx, Py.bnd_ret', Py.bnd_stuck', Py.oThen_nx, Py.oThen_rt, Py.oLoop_nx, Py.oLoop_rt, Py.a_mul, Py.a_fdiv, Py.a_mod, Py.a_sub, Py.a_lt, Py.a_le, Py.a_gt, Py.a_ge, Py.a_eq, Py.a_ne, Py.a_eqX, Py.a_neX, Py.a_notN, Py.a_isN, Py.i_t0, Py.i_t1, Py.i_t2, Py.i_t3, Py.i_l0, Py.i_l1, Py.i_l2, Py.i_l3, Py.a_cGcd, Py.a_sum2, Py.a_max2, Py.a_min2, Py.a_len, Py.a_slt, Py.a_sll, Py.nd_n, Py.nd_t, Py.nd_l, Py.nd_i, Py.nd_s, Py.nd_b, List.map_cons, List.map_nil, List.replicate, List.cons_append, List.nil_append, List.set_cons_succ, List.set_cons_zero, List.getElem?_cons_succ, List.getElem?_cons_zero, Option.getD_some, List.length_cons, List.length_nil, List.length_map, Nat.reduceAdd, Nat.reduceMul, Nat.reduceLT, Nat.reduceLeDiff, Nat.reduceEqDiff, Int.reduceEq, Int.reduceLT, Int.reduceToNat, ne_eq, not_false_eq_true, decide_true, decide_false, decide_eq_true_eq, if_true, if_false, Bool.false_eq_true, Bool.not_true, Bool.not_false, Bool.true_and, Bool.and_true, Bool.false_and, Bool.and_false, Nat.zero_add, cols', colD, lstI, dInts, m1]
    rw [seq_nx w5]
    generalize (cols' [a, b, c] p).map colD = CC
    have w6 : wt6 ([some (ptsT [a, b, c]), some (frT p), some (.list CC), some Td, some (.list ((lines (rowsL [a, b, c] p)).map lnD)), some (.int 1), some (tol (0, 1) (0, 1) (0, 1)), none, none, none, none, none, none, none]) = ret (.nx [some (ptsT [a, b, c]), some (frT p), some (.list CC), some Td, some (.list ((lines (rowsL [a, b, c] p)).map lnD)), some (.int 1), some (tol t0 t1 t2), some (.int 0), some (lstI l0), none, none, none, none, none]) := by
      generalize (lines (rowsL [a, b, c] p)).map lnD = LL at *
      have it : itSeq (mkL (eRevL (mkL (calL cSrt (aCons (eVar 4) aNil))))) ([some (ptsT [a, b, c]), some (frT p), some (.list CC), some Td, some (.list LL), some (.int 1), some (tol (0, 1) (0, 1) (0, 1)), none, none, none, none, none, none, none] : Py.Env) = ret [lnD (2, l2), lnD (1, l1), lnD (0, l0)] := by
        rw [x_itSeq, x_mkL]
        unfold eRevL
        rw [x_mkL, x_calL, args_1 rfl, bnd_ret', se]
        rfl
      rw [wt6, x_sFor, it, bnd_ret']
      have st2 := wt6f_eq (ρ := [some (ptsT [a, b, c]), some (frT p), some (.list CC), some Td, some (.list LL), some (.int 1), some (tol (0, 1) (0, 1) (0, 1)), some (.int (2 : Nat)), some (lstI l2), none, none, none, none, none]) (u := t2) rfl rfl (show 2 < 3 by decide) rfl rfl (e2 _ _ _)
      have st1 := wt6f_eq (ρ := [some (ptsT [a, b, c]), some (frT p), some (.list CC), some Td, some (.list LL), some (.int 1), some (tol (0, 1) (0, 1) t2), some (.int (1 : Nat)), some (lstI l1), none, none, none, none, none]) (u := t1) rfl rfl (show 1 < 3 by decide) rfl rfl (e1 _ _)
      have st0 := wt6f_eq (ρ := [some (ptsT [a, b, c]), some (frT p), some (.list CC), some Td, some (.list LL), some (.int 1), some (tol (0, 1) t1 t2), some (.int (0 : Nat)), some (lstI l0), none, none, none, none, none]) (u := t0) rfl rfl (show 0 < 3 by decide) rfl rfl (e0 _)
      rw [forW_cons]
      refine (congrArg (fun z => bnd z _) tgAB).trans ?_
      rw [bnd_ret']
      refine (congrArg (fun z => bnd z _) st2).trans ?_
      rw [bnd_ret', oLoop_nx, forW_cons]
      refine (congrArg (fun z => bnd z _) tgAB).trans ?_
      rw [bnd_ret']
      refine (congrArg (fun z => bnd z _) st1).trans ?_
      rw [bnd_ret', oLoop_nx, forW_cons]
      refine (congrArg (fun z => bnd z _) tgAB).trans ?_
      rw [bnd_ret']
      refine (congrArg (fun z => bnd z _) st0).trans ?_
      rw [bnd_ret', oLoop_nx, forW_nil]
      rfl
    rw [seq_nx w6]
    have w7 := comp_all (ρ := [some (ptsT [a, b, c]), some (frT p), some (.list CC), some Td, some (.list ((lines (rowsL [a, b, c] p)).map lnD)), some (.int 1), some (tol t0 t1 t2), some (.int 0), some (lstI l0), none, none, none, none, none]) (its := itSeq (eVar 6)) (tg := tgTup 2 (tgsCons (tgN 12) (tgsCons (tgN 13) tgsNil))) (elt := eCall 2 F_lowest_pair (aCons (eVar 12) (aCons (bin gMulX (eVar 13) (eVar 5)) aNil))) (vs := [12, 13])
      vD (fun t => vD (HV.red t.1 (t.2 * 1))) [t0, t1, t2] rfl (fun t ht => by
        refine ⟨_, tgAB, ?_⟩
        have h : Py.B 6000 t.1 ∧ Py.B 6000 t.2 ∧ 0 < t.2 := by
          simp only [List.mem_cons, List.not_mem_nil, or_false] at ht
          rcases ht with rfl | rfl | rfl
          · exact ⟨t0B.1, t0B.2, q0⟩
          · exact ⟨t1B.1.mono (by decide), t1B.2.mono (by decide), q1⟩
          · exact ⟨t2B.1.mono (by decide), t2B.2.mono (by decide), q2⟩
        obtain ⟨hb1, hb2, hp⟩ := h
        haveI := hb2.q
        have lo := low_eq (p := t.1) (q := t.2 * 1) hb1 (by rw [Int.mul_one]; exact hb2) (by decide) (by omega)
        have mm : (6000 : Nat) + 1 < 900000 := by decide
        rw [x_eCall, x_aCons, var_eq (d := .int t.1) rfl, bnd_ret', x_aCons, x_bin, var_eq (d := .int t.2) rfl, bnd_ret', var_eq (d := .int 1) rfl, bnd_ret', a_mul mm, bnd_ret', x_aNil, bnd_ret', bnd_ret', bnd_ret', if_pos (show [PyData.int t.1, PyData.int (t.2 * 1)].length = 2 from rfl)]
        exact lo)
    rw [wt7, x_sRet, x_cal, args_e w7, bnd_ret', x_cTup_l, bnd_ret']
    rfl
  · rw [← s0]
    have := (HV.red_sign (p := t0.1) (q := t0.2 * 1) (by omega)).2.1
    omega
  · rw [← s1]
    have := (HV.red_sign (p := t1.1) (q := t1.2 * 1) (by omega)).2.1
    omega
  · rw [← s2]
    have := (HV.red_sign (p := t2.1) (q := t2.2 * 1) (by omega)).2.1
    omega
end L78
namespace L78
open PySem hiding ret
open Py L2 R74
def ls1 : Py.Env → M Out := (sAsg 2 (mkL (lDisp (aCons (eTup aNil) aNil))))
def ls2f : Py.Env → M Out := (sAsg 2 (bin gAdd (eVar 2) (mkL (eLc (itSeq (eVar 2)) (tgN 4) (tst (bin gLt (cal cLen (aCons (eVar 4) aNil)) (eVar 1))) (bin gAdd (eVar 4) (eTup (aCons (eVar 3) aNil))) [4]))))
def ls2 : Py.Env → M Out := (sFor (itRng1 (aCons (eVar 0) aNil)) (tgN 3) ls2f)
def ls3 : Py.Env → M Out := (sRet (mkL (calL cSrt (aCons (mkL (eLc (itSeq (eVar 2)) (tgN 4) (tst (bin gEq (cal cLen (aCons (eVar 4) aNil)) (eVar 1))) (eVar 4) [4])) aNil))))
theorem b__law_some_eq : b__law_some = (sSeq ls1 (sSeq ls2 ls3)) := rfl
def someS (k : Nat) : Nat → List (List Nat)
  | 0 => [[]]
  | n + 1 => someS k n ++ ((someS k n).filter fun l => decide (l.length < k)).map (· ++ [n])
theorem someS_mem {k : Nat} : ∀ {n : Nat} {l : List Nat}, l ∈ someS k n ↔ l.length ≤ k ∧ l.Pairwise (· < ·) ∧ ∀ x ∈ l, x < n
  | 0, l => by
    constructor
    · intro h
      have : l = [] := by simpa [someS] using h
      subst this
      exact ⟨by simp, .nil, by simp⟩
    · rintro ⟨_, _, h⟩
      have : l = [] := by
        cases l with
        | nil => rfl
        | cons x l => exact absurd (h x (by simp)) (by omega)
      subst this
      simp [someS]
  | n + 1, l => by
    rw [someS, List.mem_append, someS_mem, List.mem_map]
    constructor
    · rintro (⟨h1, h2, h3⟩ | ⟨l', hl, rfl⟩)
      · exact ⟨h1, h2, fun x hx => Nat.lt_succ_of_lt (h3 x hx)⟩
      · rw [List.mem_filter, someS_mem, decide_eq_true_eq] at hl
        obtain ⟨⟨h1, h2, h3⟩, h4⟩ := hl
        refine ⟨by simp; omega, ?_, fun x hx => ?_⟩
        · rw [List.pairwise_append]
          exact ⟨h2, by simp, fun a ha b hb => by rw [List.mem_singleton.mp hb]; exact h3 a ha⟩
        · rcases List.mem_append.mp hx with q | q
          · exact Nat.lt_succ_of_lt (h3 x q)
          · rw [List.mem_singleton.mp q]; omega
    · rintro ⟨h1, h2, h3⟩
      by_cases e : n ∈ l
      · right
        obtain ⟨a, b, rfl⟩ := List.append_of_mem e
        obtain ⟨p1, p2, p3⟩ := List.pairwise_append.mp h2
        have hb : b = [] := by
          cases b with
          | nil => rfl
          | cons x b =>
            have q1 := (List.pairwise_cons.mp p2).1 x (by simp)
            have q2 := h3 x (by simp)
            omega
        subst hb
        refine ⟨a, ?_, rfl⟩
        rw [List.mem_filter, someS_mem, decide_eq_true_eq]
        rw [List.length_append, List.length_singleton] at h1
        exact ⟨⟨by omega, p1, fun x hx => p3 x hx n (by simp)⟩, by omega⟩
      · left
        refine ⟨h1, h2, fun x hx => ?_⟩
        have := h3 x hx
        have : x ≠ n := fun z => e (z ▸ hx)
        omega
theorem someS_len (k : Nat) : ∀ n, (someS k n).length ≤ 2 ^ n
  | 0 => by simp [someS]
  | n + 1 => by
    have h := someS_len k n
    rw [someS, List.length_append, List.length_map, Nat.pow_succ]
    have := List.length_filter_le (fun l : List Nat => decide (l.length < k)) (someS k n)
    omega
def some' (k n : Nat) : List (List Nat) := ((someS k n).filter fun l => decide (l.length = k)).mergeSort fun a b => leD (lotD a) (lotD b)
theorem some_mem {k n : Nat} {l : List Nat} : l ∈ some' k n ↔ l.length = k ∧ l.Pairwise (· < ·) ∧ ∀ x ∈ l, x < n := by
  rw [some', List.mem_mergeSort, List.mem_filter, someS_mem, decide_eq_true_eq]
  constructor
  · rintro ⟨⟨_, h2, h3⟩, h4⟩
    exact ⟨h4, h2, h3⟩
  · rintro ⟨h1, h2, h3⟩
    exact ⟨⟨by omega, h2, h3⟩, h1⟩
theorem len_lot (l : List Nat) : cLen [lotD l] = ret (.int (l.length : Nat)) := by
  rw [lotD, tupI, x_cLen_t, dInts_len]
  simp [natI]
theorem ls_one {k n : Nat} {ρ : Py.Env} (hl : ρ.length = 5) (h1 : ρ[1]? = some (some (.int (k : Nat)))) (h2 : ρ[2]? = some (some (.list ((someS k n).map lotD)))) (h3 : ρ[3]? = some (some (.int (n : Nat)))) (hn : n ≤ 10) : ls2f ρ = ret (.nx (ρ.set 2 (some (.list ((someS k (n + 1)).map lotD))))) := by
  have e := comp_map (ρ := ρ) (its := itSeq (eVar 2)) (tg := tgN 4) (cond := tst (bin gLt (cal cLen (aCons (eVar 4) aNil)) (eVar 1))) (elt := bin gAdd (eVar 4) (eTup (aCons (eVar 3) aNil))) (vs := [4]) lotD (fun l => decide (l.length < k)) (fun l => lotD (l ++ [n])) (someS k n) (by rw [x_itSeq, var_eq h2, bnd_ret']; rfl) ?_
  · have l1 := someS_len k n
    have l2 : 2 ^ n ≤ 2 ^ 10 := Nat.pow_le_pow_right (by decide) hn
    have l3 := List.length_filter_le (fun l : List Nat => decide (l.length < k)) (someS k n)
    rw [ls2f, x_sAsg, x_bin, var_eq h2, bnd_ret', e, bnd_ret', x_gAdd_l, if_pos (by rw [lenOk_def, List.length_map, List.length_map]; omega), bnd_ret', someS, List.map_append, List.map_map]
    rfl
  · intro l hl'
    rw [x_wipeD_cons, x_wipeD_nil]
    have g4 : ((ρ.set 4 none).set 4 (some (lotD l)))[4]? = some (some (lotD l)) := set9 (by rw [List.length_set]; omega)
    have g : ∀ i, i ≠ 4 → ((ρ.set 4 none).set 4 (some (lotD l)))[i]? = ρ[i]? := fun i hi => by rw [List.getElem?_set_ne (by omega), List.getElem?_set_ne (by omega)]
    refine ⟨_, rfl, tst_b ?_, fun _ => ?_⟩
    · rw [x_bin, x_cal, args_1 g4, bnd_ret', len_lot, bnd_ret', var_eq ((g 1 (by decide)).trans h1), bnd_ret']
      show ret (PyData.bool (decide (((l.length : Nat) : Int) < (k : Nat)))) = _
      congr 2
      rw [decide_eq_decide]; omega
    · have ll := (someS_mem.mp hl')
      have : l.length ≤ n := by
        have := asc_len l 0 n ll.2.1 (fun x hx => ⟨by omega, ll.2.2 x hx⟩) (by omega)
        omega
      rw [x_bin, var_eq g4, bnd_ret', eTup_1 (var_eq ((g 3 (by decide)).trans h3)), bnd_ret', lotD, tupI, x_gAdd_t, if_pos (by rw [lenOk_def]; simp [natI]; omega), lotD, tupI, dInts_nat, dInts_nat, List.map_append]
      rfl
theorem ls_loop {k : Nat} {x0 : D} : ∀ (m n : Nat) (ρ : Py.Env), ρ.length = 5 → ρ[1]? = some (some (.int (k : Nat))) → ρ[2]? = some (some (.list ((someS k n).map lotD))) → n + m ≤ 10 →
    ∃ ρ', ρ'.length = 5 ∧ ρ'[1]? = some (some (.int (k : Nat))) ∧ ρ'[2]? = some (some (.list ((someS k (n + m)).map lotD))) ∧ forW (tgN 3) ls2f (rangeD (n : Nat) m) ρ = ret (.nx ρ')
  | 0, n, ρ, hl, h1, h2, _ => ⟨ρ, hl, h1, h2, rfl⟩
  | m + 1, n, ρ, hl, h1, h2, hm => by
    have e := ls_one (k := k) (n := n) (ρ := ρ.set 3 (some (.int (n : Nat)))) (by rw [List.length_set]; exact hl) (by rw [List.getElem?_set_ne (by decide), h1]) (by rw [List.getElem?_set_ne (by decide), h2]) (set9 (by omega)) (by omega)
    obtain ⟨ρ', r1, r2, r3, r4⟩ := ls_loop (x0 := x0) m (n + 1) _ (by simp only [List.length_set]; exact hl : (((ρ.set 3 (some (.int (n : Nat)))).set 2 (some (.list ((someS k (n + 1)).map lotD))))).length = 5) (by rw [List.getElem?_set_ne (by decide), List.getElem?_set_ne (by decide), h1]) (set9 (by rw [List.length_set]; omega)) (by omega)
    refine ⟨ρ', r1, r2, by rw [r3, show n + 1 + m = n + (m + 1) by omega], ?_⟩
    rw [rangeD_succ, forW_cons, x_tgN, bnd_ret', e, bnd_ret', oLoop_nx]
    exact r4
theorem srt_some {k n : Nat} (k1 : 1 ≤ k) : cSrt [.list (((someS k n).filter fun l => decide (l.length = k)).map lotD)] = ret ((some' k n).map lotD) := by
  have h1 : alls (((someS k n).filter fun l => decide (l.length = k)).map lotD) = true := by
    unfold alls
    rw [List.all_eq_true]
    intro x hx
    obtain ⟨a, ha, rfl⟩ := List.mem_map.mp hx
    rw [Bool.and_eq_true, Bool.and_eq_true]
    refine ⟨⟨shp_lot a, rfl⟩, List.all_eq_true.mpr fun y hy => ?_⟩
    obtain ⟨b, hb, rfl⟩ := List.mem_map.mp hy
    exact alike_lot a b
  have ok : srtOk (((someS k n).filter fun l => decide (l.length = k)).map lotD) = true := by
    unfold srtOk
    rw [h1, Bool.true_and]
    have : (((someS k n).filter fun l => decide (l.length = k)).map lotD).all isTup1 = true := by
      rw [List.all_eq_true]
      intro x hx
      obtain ⟨a, ha, rfl⟩ := List.mem_map.mp hx
      rw [List.mem_filter, decide_eq_true_eq] at ha
      cases a with
      | nil => have := ha.2; simp at this; omega
      | cons _ _ => rfl
    rw [this, Bool.true_or, Bool.true_or]
  show (if srtOk (((someS k n).filter fun l => decide (l.length = k)).map lotD) = true then ret ((((someS k n).filter fun l => decide (l.length = k)).map lotD).mergeSort leD) else stuck) = _
  rw [if_pos ok, some', List.map_mergeSort]
  intros; rfl
theorem some_eq {k n : Nat} (k1 : 1 ≤ k) (hn : n ≤ 10) : F__law_some [.int (n : Nat), .int (k : Nat)] = ret (.list ((some' k n).map lotD)) := by
  refine fn_rt (env := [some (.int (n : Nat)), some (.int (k : Nat)), none, none, none]) rfl ?_
  have e1 : mkL (lDisp (aCons (eTup aNil) aNil)) ([some (.int (n : Nat)), some (.int (k : Nat)), none, none, none] : Py.Env) = ret (.list ((someS k 0).map lotD)) := by
    have e0 : eTup aNil ([some (.int (n : Nat)), some (.int (k : Nat)), none, none, none] : Py.Env) = ret (.tuple []) := by rw [x_eTup, x_aNil, bnd_ret', if_pos (by decide)]
    rw [x_mkL, x_lDisp, args_e e0, bnd_ret', if_pos (by simp [lenOk]), bnd_ret']
    rfl
  rw [b__law_some_eq, ls1, asg_nx e1]
  have r1 : rngOk (n : Int) = true := by simp [rngOk]; omega
  obtain ⟨ρ', a1, a2, a3, a4⟩ := ls_loop (k := k) (x0 := .none) n 0 (([some (.int (n : Nat)), some (.int (k : Nat)), none, none, none] : Py.Env).set 2 (some (.list ((someS k 0).map lotD)))) rfl rfl rfl (by omega)
  have it : itRng1 (aCons (eVar 0) aNil) (([some (.int (n : Nat)), some (.int (k : Nat)), none, none, none] : Py.Env).set 2 (some (.list ((someS k 0).map lotD)))) = ret (rangeD ((0 : Nat) : Int) n) := by
    rw [x_itRng1, args_1 (x := .int (n : Nat)) rfl, bnd_ret', rng1_i, if_pos r1, Int.toNat_natCast]
    rfl
  rw [x_sSeq, ls2, x_sFor, it, bnd_ret', a4, bnd_ret', oThen_nx]
  rw [Nat.zero_add] at a3
  have e := comp_map (ρ := ρ') (its := itSeq (eVar 2)) (tg := tgN 4) (cond := tst (bin gEq (cal cLen (aCons (eVar 4) aNil)) (eVar 1))) (elt := eVar 4) (vs := [4]) lotD (fun l => decide (l.length = k)) lotD (someS k n) (by rw [x_itSeq, var_eq a3, bnd_ret']; rfl) (by
    intro l hl
    rw [x_wipeD_cons, x_wipeD_nil]
    have g4 : ((ρ'.set 4 none).set 4 (some (lotD l)))[4]? = some (some (lotD l)) := set9 (by rw [List.length_set]; omega)
    refine ⟨_, rfl, tst_b ?_, fun _ => var_eq g4⟩
    rw [x_bin, x_cal, args_1 g4, bnd_ret', len_lot, bnd_ret', var_eq (d := .int (k : Nat)) (by rw [List.getElem?_set_ne (by decide), List.getElem?_set_ne (by decide), a2]), bnd_ret', gEq_i]
    congr 2
    rw [decide_eq_decide]; omega)
  rw [ls3, x_sRet, x_mkL, x_calL, args_e e, bnd_ret', srt_some k1, bnd_ret', bnd_ret']
def po1 : Py.Env → M Out := (sAsg 2 (mkL (lDisp (aCons (eTup aNil) aNil))))
def po2f : Py.Env → M Out := (sAsg 2 (bin gAdd (eVar 2) (mkL (eLc (itSeq (eVar 2)) (tgN 4) (tst (bin gLt (cal cLen (aCons (eVar 4) aNil)) (eVar 1))) (eTup (aStar (eVar 4) (aCons (eVar 3) aNil))) [4]))))
def po2 : Py.Env → M Out := (sFor (itRng1 (aCons (eVar 0) aNil)) (tgN 3) po2f)
def po3 : Py.Env → M Out := (sRet (mkL (calL cSrt (aCons (mkL (eLc (itSeq (eVar 2)) (tgN 4) (tst (bin gEq (cal cLen (aCons (eVar 4) aNil)) (eVar 1))) (eVar 4) [4])) aNil))))
theorem b_places_of_eq : b_places_of = (sSeq po1 (sSeq po2 po3)) := rfl
theorem po_one {k n : Nat} {ρ : Py.Env} (hl : ρ.length = 5) (h1 : ρ[1]? = some (some (.int (k : Nat)))) (h2 : ρ[2]? = some (some (.list ((someS k n).map lotD)))) (h3 : ρ[3]? = some (some (.int (n : Nat)))) (hn : n ≤ 10) : po2f ρ = ret (.nx (ρ.set 2 (some (.list ((someS k (n + 1)).map lotD))))) := by
  have e := comp_map (ρ := ρ) (its := itSeq (eVar 2)) (tg := tgN 4) (cond := tst (bin gLt (cal cLen (aCons (eVar 4) aNil)) (eVar 1))) (elt := eTup (aStar (eVar 4) (aCons (eVar 3) aNil))) (vs := [4]) lotD (fun l => decide (l.length < k)) (fun l => lotD (l ++ [n])) (someS k n) (by rw [x_itSeq, var_eq h2, bnd_ret']; rfl) ?_
  · have l1 := someS_len k n
    have l2 : 2 ^ n ≤ 2 ^ 10 := Nat.pow_le_pow_right (by decide) hn
    have l3 := List.length_filter_le (fun l : List Nat => decide (l.length < k)) (someS k n)
    rw [po2f, x_sAsg, x_bin, var_eq h2, bnd_ret', e, bnd_ret', x_gAdd_l, if_pos (by rw [lenOk_def, List.length_map, List.length_map]; omega), bnd_ret', someS, List.map_append, List.map_map]
    rfl
  · intro l hl'
    rw [x_wipeD_cons, x_wipeD_nil]
    have g4 : ((ρ.set 4 none).set 4 (some (lotD l)))[4]? = some (some (lotD l)) := set9 (by rw [List.length_set]; omega)
    have g : ∀ i, i ≠ 4 → ((ρ.set 4 none).set 4 (some (lotD l)))[i]? = ρ[i]? := fun i hi => by rw [List.getElem?_set_ne (by omega), List.getElem?_set_ne (by omega)]
    refine ⟨_, rfl, tst_b ?_, fun _ => ?_⟩
    · rw [x_bin, x_cal, args_1 g4, bnd_ret', len_lot, bnd_ret', var_eq ((g 1 (by decide)).trans h1), bnd_ret']
      show ret (PyData.bool (decide (((l.length : Nat) : Int) < (k : Nat)))) = _
      congr 2
      rw [decide_eq_decide]; omega
    · have ll := (someS_mem.mp hl')
      have : l.length ≤ n := by
        have := asc_len l 0 n ll.2.1 (fun x hx => ⟨by omega, ll.2.2 x hx⟩) (by omega)
        omega
      rw [x_eTup, x_aStar, var_eq g4, bnd_ret', x_aCons, var_eq ((g 3 (by decide)).trans h3), bnd_ret', x_aNil, bnd_ret', lotD, tupI, x_seqD_t, bnd_ret', bnd_ret', bnd_ret', if_pos (by rw [lenOk_def]; simp [natI]; omega), lotD, tupI, dInts_nat, dInts_nat, List.map_append]
      rfl
theorem po_loop {k : Nat} {x0 : D} : ∀ (m n : Nat) (ρ : Py.Env), ρ.length = 5 → ρ[1]? = some (some (.int (k : Nat))) → ρ[2]? = some (some (.list ((someS k n).map lotD))) → n + m ≤ 10 →
    ∃ ρ', ρ'.length = 5 ∧ ρ'[1]? = some (some (.int (k : Nat))) ∧ ρ'[2]? = some (some (.list ((someS k (n + m)).map lotD))) ∧ forW (tgN 3) po2f (rangeD (n : Nat) m) ρ = ret (.nx ρ')
  | 0, n, ρ, hl, h1, h2, _ => ⟨ρ, hl, h1, h2, rfl⟩
  | m + 1, n, ρ, hl, h1, h2, hm => by
    have e := po_one (k := k) (n := n) (ρ := ρ.set 3 (some (.int (n : Nat)))) (by rw [List.length_set]; exact hl) (by rw [List.getElem?_set_ne (by decide), h1]) (by rw [List.getElem?_set_ne (by decide), h2]) (set9 (by omega)) (by omega)
    obtain ⟨ρ', r1, r2, r3, r4⟩ := po_loop (x0 := x0) m (n + 1) _ (by simp only [List.length_set]; exact hl : (((ρ.set 3 (some (.int (n : Nat)))).set 2 (some (.list ((someS k (n + 1)).map lotD))))).length = 5) (by rw [List.getElem?_set_ne (by decide), List.getElem?_set_ne (by decide), h1]) (set9 (by rw [List.length_set]; omega)) (by omega)
    refine ⟨ρ', r1, r2, by rw [r3, show n + 1 + m = n + (m + 1) by omega], ?_⟩
    rw [rangeD_succ, forW_cons, x_tgN, bnd_ret', e, bnd_ret', oLoop_nx]
    exact r4
theorem plc_eq {k n : Nat} (k1 : 1 ≤ k) (hn : n ≤ 10) : F_places_of [.int (n : Nat), .int (k : Nat)] = ret (.list ((some' k n).map lotD)) := by
  refine fn_rt (env := [some (.int (n : Nat)), some (.int (k : Nat)), none, none, none]) rfl ?_
  have e1 : mkL (lDisp (aCons (eTup aNil) aNil)) ([some (.int (n : Nat)), some (.int (k : Nat)), none, none, none] : Py.Env) = ret (.list ((someS k 0).map lotD)) := by
    have e0 : eTup aNil ([some (.int (n : Nat)), some (.int (k : Nat)), none, none, none] : Py.Env) = ret (.tuple []) := by rw [x_eTup, x_aNil, bnd_ret', if_pos (by decide)]
    rw [x_mkL, x_lDisp, args_e e0, bnd_ret', if_pos (by simp [lenOk]), bnd_ret']
    rfl
  rw [b_places_of_eq, po1, asg_nx e1]
  have r1 : rngOk (n : Int) = true := by simp [rngOk]; omega
  obtain ⟨ρ', a1, a2, a3, a4⟩ := po_loop (k := k) (x0 := .none) n 0 (([some (.int (n : Nat)), some (.int (k : Nat)), none, none, none] : Py.Env).set 2 (some (.list ((someS k 0).map lotD)))) rfl rfl rfl (by omega)
  have it : itRng1 (aCons (eVar 0) aNil) (([some (.int (n : Nat)), some (.int (k : Nat)), none, none, none] : Py.Env).set 2 (some (.list ((someS k 0).map lotD)))) = ret (rangeD ((0 : Nat) : Int) n) := by
    rw [x_itRng1, args_1 (x := .int (n : Nat)) rfl, bnd_ret', rng1_i, if_pos r1, Int.toNat_natCast]
    rfl
  rw [x_sSeq, po2, x_sFor, it, bnd_ret', a4, bnd_ret', oThen_nx]
  rw [Nat.zero_add] at a3
  have e := comp_map (ρ := ρ') (its := itSeq (eVar 2)) (tg := tgN 4) (cond := tst (bin gEq (cal cLen (aCons (eVar 4) aNil)) (eVar 1))) (elt := eVar 4) (vs := [4]) lotD (fun l => decide (l.length = k)) lotD (someS k n) (by rw [x_itSeq, var_eq a3, bnd_ret']; rfl) (by
    intro l hl
    rw [x_wipeD_cons, x_wipeD_nil]
    have g4 : ((ρ'.set 4 none).set 4 (some (lotD l)))[4]? = some (some (lotD l)) := set9 (by rw [List.length_set]; omega)
    refine ⟨_, rfl, tst_b ?_, fun _ => var_eq g4⟩
    rw [x_bin, x_cal, args_1 g4, bnd_ret', len_lot, bnd_ret', var_eq (d := .int (k : Nat)) (by rw [List.getElem?_set_ne (by decide), List.getElem?_set_ne (by decide), a2]), bnd_ret', gEq_i]
    congr 2
    rw [decide_eq_decide]; omega)
  rw [po3, x_sRet, x_mkL, x_calL, args_e e, bnd_ret', srt_some k1, bnd_ret', bnd_ret']
end L78
namespace L78
open PySem hiding ret
open Py L2 R74
open HS (P2 rowsT Gen)
/-! ### flat sizes of few points -/
theorem inv1 (L : List P2) : ∃ I, Inv 3 (ones (L.map pI)) (lines (ones (L.map pI))) I := inv_lines fun r hr => by
  rw [ones, List.map_map] at hr
  obtain ⟨w, _, rfl⟩ := List.mem_map.mp hr
  rfl
theorem ones_l (L : List P2) : (ones (L.map pI)).length = L.length := by simp [ones]
theorem rk1 (a : P2) : (lines (ones ([a].map pI))).length = 1 := by
  obtain ⟨I, h⟩ := inv1 [a]
  have le : (lines (ones ([a].map pI))).length ≤ 1 := (rank_le h).2
  apply Classical.byContradiction
  intro ne
  obtain ⟨z, zl, ⟨w, hw, nw⟩, e⟩ := null_rows (HS.dep' h) (by rw [List.length_map, ones_l]; show _ < 1; omega)
  match z, zl with
  | [z0], _ =>
    have e0 : z0 * 1 + 0 = 0 := e 0
    simp at e0; subst e0
    simp at hw
    exact nw hw
theorem rk2 {a b : P2} (hn : a ≠ b) : (lines (ones ([a, b].map pI))).length = 2 := by
  obtain ⟨I, h⟩ := inv1 [a, b]
  have le : (lines (ones ([a, b].map pI))).length ≤ 2 := (rank_le h).2
  apply Classical.byContradiction
  intro ne
  obtain ⟨z, zl, ⟨w, hw, nw⟩, e⟩ := null_rows (HS.dep' h) (by rw [List.length_map, ones_l]; show _ < 2; omega)
  obtain ⟨z0, z1, rfl⟩ := HS.l2 zl
  have e0 : z0 * 1 + (z1 * 1 + 0) = 0 := e 0
  have e1 : z0 * a.1 + (z1 * b.1 + 0) = 0 := e 1
  have e2 : z0 * a.2 + (z1 * b.2 + 0) = 0 := e 2
  have zz : z0 = -z1 := by omega
  subst zz
  have k1 : z1 * (b.1 - a.1) = 0 := by rw [Int.mul_sub]; rw [Int.neg_mul] at e1; omega
  have k2 : z1 * (b.2 - a.2) = 0 := by rw [Int.mul_sub]; rw [Int.neg_mul] at e2; omega
  have z : z1 = 0 := by
    rcases Int.mul_eq_zero.mp k1 with q | q
    · exact q
    · rcases Int.mul_eq_zero.mp k2 with q' | q'
      · exact q'
      · exact absurd (Prod.ext (by omega) (by omega)) hn
  subst z
  simp at hw
  exact nw hw
theorem rk3 {a b c : P2} (hD : HS.o3 a b c ≠ 0) : (lines (ones ([a, b, c].map pI))).length = 3 := by
  obtain ⟨I, h⟩ := inv1 [a, b, c]
  have le : (lines (ones ([a, b, c].map pI))).length ≤ 3 := (rank_le h).2
  apply Classical.byContradiction
  intro ne
  obtain ⟨z, zl, ⟨w, hw, nw⟩, e⟩ := null_rows (HS.dep' h) (by rw [List.length_map, ones_l]; show _ < 3; omega)
  obtain ⟨z0, z1, z2, rfl⟩ := HS.l3 zl
  have e0 : z0 * 1 + (z1 * 1 + (z2 * 1 + 0)) = 0 := e 0
  have e1 : z0 * a.1 + (z1 * b.1 + (z2 * c.1 + 0)) = 0 := e 1
  have e2 : z0 * a.2 + (z1 * b.2 + (z2 * c.2 + 0)) = 0 := e 2
  have zz : z0 = -z1 - z2 := by omega
  subst zz
  have k1 : z1 * (b.1 - a.1) + z2 * (c.1 - a.1) = 0 := by
    have : z1 * (b.1 - a.1) + z2 * (c.1 - a.1) = (-z1 - z2) * a.1 + (z1 * b.1 + (z2 * c.1 + 0)) := by grind
    rw [this, e1]
  have k2 : z1 * (b.2 - a.2) + z2 * (c.2 - a.2) = 0 := by
    have : z1 * (b.2 - a.2) + z2 * (c.2 - a.2) = (-z1 - z2) * a.2 + (z1 * b.2 + (z2 * c.2 + 0)) := by grind
    rw [this, e2]
  have d1 : z1 * HS.o3 a b c = 0 := by
    have : z1 * HS.o3 a b c = (z1 * (b.1 - a.1) + z2 * (c.1 - a.1)) * (c.2 - a.2) - (z1 * (b.2 - a.2) + z2 * (c.2 - a.2)) * (c.1 - a.1) := by unfold HS.o3; grind
    rw [this, k1, k2]; simp
  have d2 : z2 * HS.o3 a b c = 0 := by
    have : z2 * HS.o3 a b c = (z1 * (b.2 - a.2) + z2 * (c.2 - a.2)) * (b.1 - a.1) - (z1 * (b.1 - a.1) + z2 * (c.1 - a.1)) * (b.2 - a.2) := by unfold HS.o3; grind
    rw [this, k1, k2]; simp
  have q1 := (Int.mul_eq_zero.mp d1).resolve_right hD
  have q2 := (Int.mul_eq_zero.mp d2).resolve_right hD
  subst q1; subst q2
  simp at hw
  exact nw hw
theorem flatP {L : List P2} (k1 : 1 ≤ L.length) (k6 : L.length ≤ 6) (hL : ∀ w ∈ L, Bp 9 w) : F_flat_size [ptsT L] = ret (.int (((lines (ones (L.map pI))).length : Nat) - 1)) := by
  rw [ptsT_eq]
  refine flat_eq (d := 2) ⟨by simpa using k1, by simpa using k6, fun q hq => ?_, fun q hq => ?_, by decide, by decide⟩
  · obtain ⟨w, _, rfl⟩ := List.mem_map.mp hq
    rfl
  · obtain ⟨w, hw, rfl⟩ := List.mem_map.mp hq
    intro x hx
    simp only [pI, List.mem_cons, List.not_mem_nil, or_false] at hx
    rcases hx with rfl | rfl
    · exact (hL w hw).1
    · exact (hL w hw).2
/-! ### general position -/
structure Gp (S : List P2) : Prop where
  nd : S.Nodup
  gen : Gen S
  bd : ∀ w ∈ S, Bp 9 w
def pick (L : List P2) (pl : List Nat) : List P2 := pl.map fun i => L.getD i (0, 0)
theorem pick_mem {L : List P2} {i : Nat} (h : i < L.length) : L.getD i (0, 0) ∈ L := by
  rw [List.getD_eq_getElem?_getD, List.getElem?_eq_getElem h]
  exact List.getElem_mem h
theorem pick_ne {L : List P2} (nd : L.Nodup) {i j : Nat} (hi : i < L.length) (hj : j < L.length) (h : i ≠ j) : L.getD i (0, 0) ≠ L.getD j (0, 0) := by
  rw [List.getD_eq_getElem?_getD, List.getElem?_eq_getElem hi, List.getD_eq_getElem?_getD, List.getElem?_eq_getElem hj]
  rcases Nat.lt_or_gt_of_ne h with z | z
  · exact List.pairwise_iff_getElem.mp nd i j hi hj z
  · exact (List.pairwise_iff_getElem.mp nd j i hj hi z).symm
theorem pick_e {ρ : Py.Env} {L : List P2} {pl : List Nat} {i j r : Nat} (hr : r < ρ.length) (h0 : ρ[i]? = some (some (ptsT L))) (hj : ρ[j]? = some (some (lotD pl))) (ir : i ≠ r) (hp : ∀ x ∈ pl, x < L.length) :
    mkL (eLc (itSeq (eVar j)) (tgN r) cYes (bin gIx (eVar i) (eVar r)) [r]) ρ = ret (.list ((pick L pl).map vD)) := by
  have e := comp_all (ρ := ρ) (its := itSeq (eVar j)) (tg := tgN r) (elt := bin gIx (eVar i) (eVar r)) (vs := [r]) (fun x : Nat => .int (x : Nat)) (fun x => vD (L.getD x (0, 0))) pl (by
    rw [x_itSeq, var_eq hj, bnd_ret', lotD, tupI, x_seqD_t, dInts_nat]) ?_
  · rw [e, pick, List.map_map]; rfl
  · intro x hx
    rw [x_wipeD_cons, x_wipeD_nil]
    refine ⟨_, rfl, ?_⟩
    rw [x_bin, var_eq (d := ptsT L) (by rw [List.getElem?_set_ne (Ne.symm ir), List.getElem?_set_ne (Ne.symm ir), h0]), bnd_ret', var_eq (set9 (by rw [List.length_set]; exact hr)), bnd_ret']
    refine gIx_t (Py.atI_nat ?_)
    rw [List.getElem?_map, List.getElem?_eq_getElem (hp x hx), List.getD_eq_getElem?_getD, List.getElem?_eq_getElem (hp x hx)]
    rfl
/-! ### weights_paper -/
def wr1ff1 : Py.Env → M Out := (sAsg 4 (cal cTup (aCons (mkL (eLc (itSeq (eVar 3)) (tgN 6) cYes (bin gIx (eVar 0) (eVar 6)) [6])) aNil)))
def wr1ff2a1 : Py.Env → M Out := (sAsg 5 (eCall 2 F_weights_to (aCons (eVar 4) (aCons (eVar 1) aNil))))
def wr1ff2a2 : Py.Env → M Out := (sIf (bAnd (tst (bin gNotN (eVar 5) (eC .none))) (tst (cal cAll (aCons (mkL (eLc (itSeq (eVar 5)) (tgTup 2 (tgsCons (tgN 7) (tgsCons (tgN 8) tgsNil))) cYes (bin gGe (eVar 7) (eC (.int 0))) [7, 8])) aNil)))) (sRet (eTup (aCons (eVar 3) (aCons (eVar 5) aNil)))) sNx)
def wr1ff2a : Py.Env → M Out := (sSeq wr1ff2a1 wr1ff2a2)
def wr1ff2 : Py.Env → M Out := (sIf (tst (bin gEq (eCall 1 F_flat_size (aCons (eVar 4) aNil)) (bin gSub (eVar 2) (eC (.int 1))))) wr1ff2a sNx)
def wr1ff : Py.Env → M Out := (sSeq wr1ff1 wr1ff2)
def wr1f : Py.Env → M Out := (sFor (itSeq (eCall 2 F_places_of (aCons (cal cLen (aCons (eVar 0) aNil)) (aCons (eVar 2) aNil)))) (tgN 3) wr1ff)
def wr1 : Py.Env → M Out := (sFor (itRng2 (aCons (eC (.int 1)) (aCons (bin gAdd (cal cLen (aCons (bin gIx (eVar 0) (eC (.int 0))) aNil)) (eC (.int 2))) aNil))) (tgN 2) wr1f)
theorem b_weights_paper_eq : b_weights_paper = (sSeq wr1 (sRet (eC .none))) := rfl
def hit (p : P2) : List P2 → Bool
  | [a, b, c] => HS.ins p a b c
  | _ => false
structure Wp (L : List P2) (p : P2) (k : Nat) (ρ : Py.Env) : Prop where
  len : ρ.length = 9
  e0 : ρ[0]? = some (some (ptsT L))
  e1 : ρ[1]? = some (some (frT p))
  e2 : ρ[2]? = some (some (.int (k : Nat)))
theorem Wp.set {L : List P2} {p : P2} {k : Nat} {ρ : Py.Env} (s : Wp L p k ρ) {i : Nat} {v : Option D} (hi : 3 ≤ i) : Wp L p k (ρ.set i v) :=
  ⟨by rw [List.length_set, s.len], by rw [List.getElem?_set_ne (by omega), s.e0], by rw [List.getElem?_set_ne (by omega), s.e1], by rw [List.getElem?_set_ne (by omega), s.e2]⟩
/-- what a lap over one set of places does -/
theorem lap_wp {L : List P2} {p : P2} {k : Nat} {pl : List Nat} {ρ : Py.Env} (g : Gp (p :: L)) (s : Wp L p k ρ) (h3 : ρ[3]? = some (some (lotD pl))) (k1 : 1 ≤ k) (k3 : k ≤ 3) (hp : pl ∈ some' k L.length) :
    (hit p (pick L pl) = false ∧ ∃ ρ', Wp L p k ρ' ∧ wr1ff ρ = ret (.nx ρ')) ∨ (hit p (pick L pl) = true ∧ ∃ ws, wr1ff ρ = ret (.rt (.tuple ws))) := by
  obtain ⟨pk, asc, lt⟩ := some_mem.mp hp
  have bL : ∀ w ∈ pick L pl, Bp 9 w := by
    intro w hw
    obtain ⟨i, hi, rfl⟩ := List.mem_map.mp hw
    exact g.bd _ (List.mem_cons_of_mem _ (pick_mem (lt i hi)))
  have nd := (List.nodup_cons.mp g.nd)
  have lpk : (pick L pl).length = k := by rw [pick, List.length_map, pk]
  have rk : (lines (ones ((pick L pl).map pI))).length = k ∧ ((k ≤ 2 ∧ hit p (pick L pl) = false ∧ F_weights_to [ptsT (pick L pl), frT p] = ret .none) ∨
      (∃ w0 w1 w2 : P2, F_weights_to [ptsT (pick L pl), frT p] = ret (.tuple [vD w0, vD w1, vD w2]) ∧ hit p (pick L pl) = (decide (0 ≤ w0.1) && (decide (0 ≤ w1.1) && decide (0 ≤ w2.1))))) := by
    have ks : k = 1 ∨ k = 2 ∨ k = 3 := by omega
    have np : ∀ w ∈ L, w ≠ p := fun w hw e => nd.1 (e ▸ hw)
    rcases ks with rfl | rfl | rfl
    · match pl, pk with
      | [i], _ =>
        have hi := lt i (by simp)
        refine ⟨rk1 _, .inl ⟨by decide, rfl, ?_⟩⟩
        exact wts_none (by simp [pick]) (by simp [pick]) bL (g.bd p (by simp)) (HS.none1 (np _ (pick_mem hi)))
    · match pl, pk with
      | [i, j], _ =>
        have hi := lt i (by simp)
        have hj := lt j (by simp)
        simp only [List.pairwise_cons, List.mem_cons, List.not_mem_nil, or_false] at asc
        have ij := asc.1 j rfl
        have ne := pick_ne nd.2 hi hj (by omega)
        refine ⟨rk2 ne, .inl ⟨by decide, rfl, ?_⟩⟩
        exact wts_none (by simp [pick]) (by simp [pick]) bL (g.bd p (by simp)) (HS.none2 (g.gen _ (List.mem_cons_of_mem _ (pick_mem hi)) _ (List.mem_cons_of_mem _ (pick_mem hj)) p (by simp) ne (np _ (pick_mem hj)) (np _ (pick_mem hi))))
    · match pl, pk with
      | [i, j, l], _ =>
        have hi := lt i (by simp)
        have hj := lt j (by simp)
        have hl := lt l (by simp)
        simp only [List.pairwise_cons, List.mem_cons, List.not_mem_nil, or_false] at asc
        have ij := asc.1 j (.inl rfl)
        have il := asc.1 l (.inr rfl)
        have jl := asc.2.1 l rfl
        have nij := pick_ne nd.2 hi hj (by omega)
        have nil' := pick_ne nd.2 hi hl (by omega)
        have njl := pick_ne nd.2 hj hl (by omega)
        have mi := List.mem_cons_of_mem p (pick_mem hi)
        have mj := List.mem_cons_of_mem p (pick_mem hj)
        have ml := List.mem_cons_of_mem p (pick_mem hl)
        have mp : p ∈ p :: L := by simp
        have ni := np _ (pick_mem hi)
        have nj := np _ (pick_mem hj)
        have nl := np _ (pick_mem hl)
        have hD := g.gen _ mi _ mj _ ml nij njl nil'
        obtain ⟨w0, w1, w2, e, s0, s1, s2⟩ := wts_some (a := L.getD i (0, 0)) (b := L.getD j (0, 0)) (c := L.getD l (0, 0)) (p := p) bL (g.bd p mp) hD
        refine ⟨rk3 hD, .inr ⟨w0, w1, w2, e, ?_⟩⟩
        have io := HS.ins_iff hD (g.gen p mp _ mj _ ml (Ne.symm nj) njl (Ne.symm nl)) (g.gen _ mi p mp _ ml ni (Ne.symm nl) nil') (g.gen _ mi _ mj p mp nij nj ni)
        show HS.ins p _ _ _ = _
        rw [Bool.eq_iff_iff, io, Bool.and_eq_true, Bool.and_eq_true, decide_eq_true_eq, decide_eq_true_eq, decide_eq_true_eq, s0, s1, s2]
  have e1 : wr1ff1 ρ = ret (.nx (ρ.set 4 (some (ptsT (pick L pl))))) := by
    rw [wr1ff1, x_sAsg, x_cal, args_e (pick_e (i := 0) (j := 3) (r := 6) (by rw [s.len]; decide) s.e0 h3 (by decide) lt), bnd_ret', x_cTup_l, bnd_ret']
    rfl
  have s4 := s.set (i := 4) (v := some (ptsT (pick L pl))) (by decide)
  have g4 : (ρ.set 4 (some (ptsT (pick L pl))))[4]? = some (some (ptsT (pick L pl))) := set9 (by rw [s.len]; decide)
  have g3 : (ρ.set 4 (some (ptsT (pick L pl))))[3]? = some (some (lotD pl)) := by rw [List.getElem?_set_ne (by decide), h3]
  have e1' : wr1ff ρ = wr1ff2 (ρ.set 4 (some (ptsT (pick L pl)))) := seq_nx e1
  rw [e1']
  generalize ρ.set 4 (some (ptsT (pick L pl))) = ρ1 at *
  have t : tst (bin gEq (eCall 1 F_flat_size (aCons (eVar 4) aNil)) (bin gSub (eVar 2) (eC (.int 1)))) ρ1 = ret true := by
    refine tst_b ?_
    rw [x_bin, (eCall_1 _ (args_1 g4)).trans (flatP (by rw [lpk]; exact k1) (by rw [lpk]; omega) bL), rk.1, bnd_ret', x_bin, var_eq s4.e2, bnd_ret', x_eC, bnd_ret', a_sub, bnd_ret', a_eq, decide_eq_true rfl]
  rw [wr1ff2, x_sIf, t, bnd_ret', if_pos rfl]
  rcases rk.2 with ⟨_, hf, e⟩ | ⟨w0, w1, w2, e, hw⟩
  · left
    refine ⟨hf, ρ1.set 5 (some .none), s4.set (by decide), ?_⟩
    have ee : eCall 2 F_weights_to (aCons (eVar 4) (aCons (eVar 1) aNil)) ρ1 = ret .none := (eCall_2 _ (args_2 g4 s4.e1)).trans e
    rw [wr1ff2a, wr1ff2a1, asg_nx ee, wr1ff2a2, x_sIf, x_bAnd]
    have t1 : tst (bin gNotN (eVar 5) (eC .none)) (ρ1.set 5 (some .none)) = ret false := by
      refine tst_b ?_
      rw [x_bin, var_eq (set9 (by rw [s4.len]; decide)), bnd_ret', x_eC, bnd_ret']
      rfl
    rw [t1, bnd_ret', if_neg Bool.false_ne_true, bnd_ret', if_neg Bool.false_ne_true, x_sNx]
  · have ee : eCall 2 F_weights_to (aCons (eVar 4) (aCons (eVar 1) aNil)) ρ1 = ret (.tuple [vD w0, vD w1, vD w2]) := (eCall_2 _ (args_2 g4 s4.e1)).trans e
    rw [wr1ff2a, wr1ff2a1, asg_nx ee]
    have s5 := s4.set (i := 5) (v := some (.tuple [vD w0, vD w1, vD w2])) (by decide)
    have g5 : (ρ1.set 5 (some (.tuple [vD w0, vD w1, vD w2])))[5]? = some (some (.tuple [vD w0, vD w1, vD w2])) := set9 (by rw [s4.len]; decide)
    have g3' : (ρ1.set 5 (some (.tuple [vD w0, vD w1, vD w2])))[3]? = some (some (lotD pl)) := by rw [List.getElem?_set_ne (by decide), g3]
    generalize ρ1.set 5 (some (.tuple [vD w0, vD w1, vD w2])) = ρ2 at *
    have t1 : tst (bin gNotN (eVar 5) (eC .none)) ρ2 = ret true := by
      refine tst_b ?_
      rw [x_bin, var_eq g5, bnd_ret', x_eC, bnd_ret']
      rfl
    have t2 : tst (cal cAll (aCons (mkL (eLc (itSeq (eVar 5)) (tgTup 2 (tgsCons (tgN 7) (tgsCons (tgN 8) tgsNil))) cYes (bin gGe (eVar 7) (eC (.int 0))) [7, 8])) aNil)) ρ2 = ret (hit p (pick L pl)) := by
      refine tst_b ?_
      have ec := comp_all (ρ := ρ2) (its := itSeq (eVar 5)) (tg := tgTup 2 (tgsCons (tgN 7) (tgsCons (tgN 8) tgsNil))) (elt := bin gGe (eVar 7) (eC (.int 0))) (vs := [7, 8]) vD (fun w => .bool (decide (0 ≤ w.1))) [w0, w1, w2] (by rw [x_itSeq, var_eq g5, bnd_ret']; rfl) (fun w hw => by
        refine ⟨_, tgAB, ?_⟩
        simp only [x_wipeD_cons, x_wipeD_nil]
        rw [x_bin, var_eq (d := .int w.1) (by rw [List.getElem?_set_ne (by decide)]; exact set9 (by simp only [List.length_set, s5.len]; decide)), bnd_ret', x_eC, bnd_ret', a_ge])
      rw [x_cal, args_e ec, bnd_ret', cAll_map, hw]
      simp
    have t3 : bAnd (tst (bin gNotN (eVar 5) (eC .none))) (tst (cal cAll (aCons (mkL (eLc (itSeq (eVar 5)) (tgTup 2 (tgsCons (tgN 7) (tgsCons (tgN 8) tgsNil))) cYes (bin gGe (eVar 7) (eC (.int 0))) [7, 8])) aNil))) ρ2 = ret (hit p (pick L pl)) := by
      rw [x_bAnd, t1, bnd_ret', if_pos rfl, t2]
    rw [wr1ff2a2, x_sIf, t3, bnd_ret']
    cases hh : hit p (pick L pl) with
    | false =>
      left
      refine ⟨rfl, ρ2, s5, ?_⟩
      rw [if_neg Bool.false_ne_true, x_sNx]
    | true =>
      right
      refine ⟨rfl, [lotD pl, .tuple [vD w0, vD w1, vD w2]], ?_⟩
      rw [if_pos rfl, x_sRet, eTup_2 (var_eq g3') (var_eq g5), bnd_ret']
end L78
namespace L78
open PySem hiding ret
open Py L2 R74
open HS (P2 rowsT Gen)
theorem laps_wp {L : List P2} {p : P2} {k : Nat} (g : Gp (p :: L)) (k1 : 1 ≤ k) (k3 : k ≤ 3) : ∀ (pls : List (List Nat)) (ρ : Py.Env), Wp L p k ρ → (∀ pl ∈ pls, pl ∈ some' k L.length) →
    ((pls.any fun pl => hit p (pick L pl)) = false ∧ ∃ ρ', Wp L p k ρ' ∧ forW (tgN 3) wr1ff (pls.map lotD) ρ = ret (.nx ρ')) ∨ ((pls.any fun pl => hit p (pick L pl)) = true ∧ ∃ ws, forW (tgN 3) wr1ff (pls.map lotD) ρ = ret (.rt (.tuple ws)))
  | [], ρ, s, _ => .inl ⟨rfl, ρ, s, rfl⟩
  | pl :: pls, ρ, s, h => by
    have s3 := s.set (i := 3) (v := some (lotD pl)) (by decide)
    have st := lap_wp g s3 (set9 (by rw [s.len]; decide)) k1 k3 (h pl (by simp))
    rw [List.map_cons, forW_cons, x_tgN, bnd_ret', List.any_cons]
    rcases st with ⟨hf, ρ', s', e⟩ | ⟨hf, ws, e⟩
    · rw [e, bnd_ret', oLoop_nx, hf, Bool.false_or]
      exact laps_wp g k1 k3 pls ρ' s' fun x hx => h x (List.mem_cons_of_mem _ hx)
    · right
      refine ⟨by rw [hf, Bool.true_or], ws, ?_⟩
      rw [e, bnd_ret', oLoop_rt]
def hits (p : P2) (L : List P2) (k : Nat) : Bool := (some' k L.length).any fun pl => hit p (pick L pl)
structure W0 (L : List P2) (p : P2) (ρ : Py.Env) : Prop where
  len : ρ.length = 9
  e0 : ρ[0]? = some (some (ptsT L))
  e1 : ρ[1]? = some (some (frT p))
theorem Wp.w0 {L : List P2} {p : P2} {k : Nat} {ρ : Py.Env} (s : Wp L p k ρ) : W0 L p ρ := ⟨s.len, s.e0, s.e1⟩
theorem one_k {L : List P2} {p : P2} {k : Nat} {ρ : Py.Env} (g : Gp (p :: L)) (s : W0 L p ρ) (k1 : 1 ≤ k) (k3 : k ≤ 3) (n10 : L.length ≤ 10) :
    (hits p L k = false ∧ ∃ ρ', Wp L p k ρ' ∧ wr1f (ρ.set 2 (some (.int (k : Nat)))) = ret (.nx ρ')) ∨ (hits p L k = true ∧ ∃ ws, wr1f (ρ.set 2 (some (.int (k : Nat)))) = ret (.rt (.tuple ws))) := by
  have s2 : Wp L p k (ρ.set 2 (some (.int (k : Nat)))) := ⟨by rw [List.length_set, s.len], by rw [List.getElem?_set_ne (by decide), s.e0], by rw [List.getElem?_set_ne (by decide), s.e1], set9 (by rw [s.len]; decide)⟩
  generalize ρ.set 2 (some (.int (k : Nat))) = ρ1 at *
  have it : itSeq (eCall 2 F_places_of (aCons (cal cLen (aCons (eVar 0) aNil)) (aCons (eVar 2) aNil))) ρ1 = ret ((some' k L.length).map lotD) := by
    rw [x_itSeq, x_eCall, x_aCons, x_cal, args_1 s2.e0, bnd_ret', ptsT, x_cLen_t, List.length_map, bnd_ret', args_1 s2.e2, bnd_ret', bnd_ret', if_pos (show [PyData.int (L.length : Nat), PyData.int (k : Nat)].length = 2 from rfl), plc_eq k1 n10, bnd_ret']
    rfl
  rw [wr1f, x_sFor, it, bnd_ret']
  exact laps_wp g k1 k3 _ ρ1 s2 fun _ h => h
theorem hit_low {L : List P2} {p : P2} {k : Nat} (h : k ≠ 3) : hits p L k = false := by
  unfold hits
  rw [List.any_eq_false]
  intro pl hp
  obtain ⟨pk, _, _⟩ := some_mem.mp hp
  have l : (pick L pl).length ≠ 3 := by rw [pick, List.length_map, pk]; exact h
  unfold hit
  split
  · rename_i e
    rw [e] at l
    exact absurd rfl l
  · decide
theorem holds_eq {L : List P2} {p : P2} (g : Gp (p :: L)) (l1 : 1 ≤ L.length) (n10 : L.length ≤ 10) : F_holds_point [ptsT L, frT p] = ret (.bool (hits p L 3)) := by
  have w : ∃ d, F_weights_paper [ptsT L, frT p] = ret d ∧ (!isNonD d) = hits p L 3 := by
    have it : itRng2 (aCons (eC (.int 1)) (aCons (bin gAdd (cal cLen (aCons (bin gIx (eVar 0) (eC (.int 0))) aNil)) (eC (.int 2))) aNil)) ([some (ptsT L), some (frT p), none, none, none, none, none, none, none] : Py.Env) = ret [.int 1, .int 2, .int 3] := by
      obtain ⟨a, L', rfl⟩ : ∃ a L', L = a :: L' := by
        cases L with
        | nil => simp at l1
        | cons a L' => exact ⟨a, L', rfl⟩
      have ok : (rngOk 1 && rngOk (((2 : Nat) : Int) + 2)) = true := rfl
      have r : rangeD 1 ((((2 : Nat) : Int) + 2 - 1).toNat) = [.int 1, .int 2, .int 3] := rfl
      simp only [Py.x_fnD, Py.x_sSeq, Py.x_sNx, Py.x_sAsg, Py.x_sOwn, Py.x_sTgt, Py.x_sRet, Py.x_sRetN, Py.x_sRetOwn, Py.x_sIf, Py.x_sFor, Py.x_sPar, Py.x_sPar3, Py.x_cal, Py.x_calL, Py.x_eCall, Py.x_bin, Py.x_una, Py.x_bAnd, Py.x_bOr, Py.x_bNot, Py.x_eAnd, Py.x_eOr, Py.x_eNot, Py.x_eIf, Py.x_eChain, Py.x_eSl, Py.x_oNo, Py.x_oPart, Py.x_aNil, Py.x_aCons, Py.x_aStar, Py.x_eTup, Py.x_lDisp, Py.x_mkL, Py.x_tgN, Py.x_tgsNil, Py.x_tgsCons, Py.x_tgTup, Py.x_itSeq, Py.x_itEnum, Py.x_itZip, Py.x_itRng1, Py.x_itRng2, Py.x_eVar, Py.x_eC, Py.x_tst, Py.x_cYes, Py.x_wipeD_cons, Py.x_wipeD_nil, Py.x_seqD_l, Py.x_seqD_t, Py.x_gNeg_i, Py.x_gAdd_i, Py.x_gAdd_t, Py.x_gAdd_l, Py.x_cTup_l, Py.x_cTup_t, Py.x_cLst_l, Py.x_cLst_t, Py.x_cLen_l, Py.x_cLen_t, Py.x_cInt_b, Py.x_cInt_i, Py.x_cAbs_i, Py.toB_b, Py.toI_i, Py.optM_some, Py.par2_2, Py.par3_3, Py.zip2_2, Py.enum1_1, Py.rng1_i, Py.rng2_i, Py.outD_rt, Py.outD_nx, Py.bnd_ret', Py.bnd_stuck', Py.oThen_nx, Py.oThen_rt, Py.oLoop_nx, Py.oLoop_rt, Py.a_mul, Py.a_fdiv, Py.a_mod, Py.a_sub, Py.a_lt, Py.a_le, Py.a_gt, Py.a_ge, Py.a_eq, Py.a_ne, Py.a_eqX, Py.a_neX, Py.a_notN, Py.a_isN, Py.i_t0, Py.i_t1, Py.i_t2, Py.i_t3, Py.i_l0, Py.i_l1, Py.i_l2, Py.i_l3, Py.a_cGcd, Py.a_sum2, Py.a_max2, Py.a_min2, Py.a_len, Py.a_slt, Py.a_sll, Py.nd_n, Py.nd_t, Py.nd_l, Py.nd_i, Py.nd_s, Py.nd_b, List.map_cons, List.map_nil, List.replicate, List.cons_append, List.nil_append, List.set_cons_succ, List.set_cons_zero, List.getElem?_cons_succ, List.getElem?_cons_zero, Option.getD_some, List.length_cons, List.length_nil, List.length_map, Nat.reduceAdd, Nat.reduceMul, Nat.reduceLT, Nat.reduceLeDiff, Nat.reduceEqDiff, Int.reduceEq, Int.reduceLT, Int.reduceToNat, ne_eq, not_false_eq_true, decide_true, decide_false, decide_eq_true_eq, if_true, if_false, Bool.false_eq_true, Bool.not_true, Bool.not_false, Bool.true_and, Bool.and_true, Bool.false_and, Bool.and_false, Nat.zero_add, ptsT, vD, ok, r]
    have s0 : W0 L p ([some (ptsT L), some (frT p), none, none, none, none, none, none, none]) := ⟨rfl, rfl, rfl⟩
    generalize hρ : ([some (ptsT L), some (frT p), none, none, none, none, none, none, none] : Py.Env) = ρ0 at *
    have fin : ∃ d, (sSeq wr1 (sRet (eC .none))) ρ0 = ret (.rt d) ∧ (!isNonD d) = hits p L 3 := by
      rw [x_sSeq, wr1, x_sFor, it, bnd_ret', forW_cons, x_tgN, bnd_ret']
      rcases one_k (k := 1) g s0 (by decide) (by decide) n10 with ⟨_, ρ1, s1, e1⟩ | ⟨h, _⟩
      · rw [show (.int 1 : D) = .int ((1 : Nat) : Int) from rfl, e1, bnd_ret', oLoop_nx, forW_cons, x_tgN, bnd_ret']
        rcases one_k (k := 2) g s1.w0 (by decide) (by decide) n10 with ⟨_, ρ2, s2, e2⟩ | ⟨h, _⟩
        · rw [show (.int 2 : D) = .int ((2 : Nat) : Int) from rfl, e2, bnd_ret', oLoop_nx, forW_cons, x_tgN, bnd_ret']
          rcases one_k (k := 3) g s2.w0 (by decide) (by decide) n10 with ⟨h3, ρ3, s3, e3⟩ | ⟨h3, ws, e3⟩
          · rw [show (.int 3 : D) = .int ((3 : Nat) : Int) from rfl, e3, bnd_ret', oLoop_nx, forW_nil, bnd_ret', oThen_nx, h3]
            exact ⟨.none, rfl, rfl⟩
          · rw [show (.int 3 : D) = .int ((3 : Nat) : Int) from rfl, e3, bnd_ret', oLoop_rt, bnd_ret', oThen_rt, h3]
            exact ⟨_, rfl, rfl⟩
        · rw [hit_low (by decide)] at h; cases h
      · rw [hit_low (by decide)] at h; cases h
    obtain ⟨d, e, h⟩ := fin
    refine ⟨d, fn_rt (m := 7) (b := b_weights_paper) (env := ρ0) (by rw [← hρ]; rfl) ?_, h⟩
    rw [b_weights_paper_eq]
    exact e
  obtain ⟨d, e, h⟩ := w
  refine fn_rt (env := [some (ptsT L), some (frT p)]) rfl ?_
  have ee : eCall 2 F_weights_paper (aCons (eVar 0) (aCons (eVar 1) aNil)) ([some (ptsT L), some (frT p)] : Py.Env) = ret d := (eCall_2 _ (args_2 rfl rfl)).trans e
  rw [b_holds_point, x_sRet, x_bin, ee, bnd_ret', x_eC, bnd_ret', a_notN, bnd_ret', h]
end L78
namespace L78
open PySem hiding ret
open Py L2 R74
open HS (P2 rowsT Gen)
theorem Gp.perm {S T : List P2} (h : Gp S) (p : S.Perm T) : Gp T := ⟨p.nodup_iff.mp h.nd, fun a ha b hb c hc => h.gen a (p.mem_iff.mpr ha) b (p.mem_iff.mpr hb) c (p.mem_iff.mpr hc), fun w hw => h.bd w (p.mem_iff.mpr hw)⟩
def less (L : List P2) (i : Nat) : List P2 := L.take i ++ L.drop (i + 1)
theorem less_perm {L : List P2} {i : Nat} (h : i < L.length) : L.Perm (L.getD i (0, 0) :: less L i) := by
  have e : L = L.take i ++ L.getD i (0, 0) :: L.drop (i + 1) := by
    rw [List.getD_eq_getElem?_getD, List.getElem?_eq_getElem h]
    show L = L.take i ++ L[i] :: L.drop (i + 1)
    rw [← List.drop_eq_getElem_cons h, List.take_append_drop]
  have p : (L.take i ++ L.getD i (0, 0) :: L.drop (i + 1)).Perm (L.getD i (0, 0) :: less L i) := List.perm_middle
  rw [← e] at p
  exact p
theorem less_len {L : List P2} {i : Nat} (h : i < L.length) : (less L i).length + 1 = L.length := by
  have := (less_perm h).length_eq
  rw [this, List.length_cons]
theorem lay_v (w : P2) : (vD w).canLay0 = true ∧ (vD w).depth ≤ 1 := lay_ints [w.1, w.2]
theorem shp_pts (L : List P2) : shp (ptsT L) = true := by
  have h := layD (k := 1) (ds := L.map vD) fun d hd => by
    obtain ⟨w, _, rfl⟩ := List.mem_map.mp hd
    exact lay_v w
  refine shp_of ?_ ?_
  · show PyData.canLay0 (.tuple (L.map vD)) = true
    rw [PyData.canLay0]
    exact h.1
  · show PyData.depth (.tuple (L.map vD)) ≤ 64
    rw [PyData.depth]
    have := h.2
    omega
theorem frT_e (w : P2) : F_as_fractions [vD w] = ret (frT w) := by
  refine fn_rt (env := [some (vD w), none]) rfl ?_
  have e := comp_all (ρ := [some (vD w), none]) (its := itSeq (eVar 0)) (tg := tgN 1) (elt := eTup (aCons (eVar 1) (aCons (eC (.int 1)) aNil))) (vs := [1]) PyData.int (fun x => .tuple [.int x, .int 1]) [w.1, w.2] rfl (fun x hx => ⟨_, rfl, eTup_2 (var_eq (d := .int x) rfl) (x_eC _ _)⟩)
  rw [b_as_fractions, x_sRet, x_cal, args_e e, bnd_ret', x_cTup_l, bnd_ret']
  rfl
def crn (L : List P2) (i : Nat) : Bool := !hits (L.getD i (0, 0)) (less L i) 3
def corners (L : List P2) : List P2 := ((List.range L.length).filter (crn L)).map fun i => L.getD i (0, 0)
def hc2f1 : Py.Env → M Out := (sAsg 4 (bin gAdd (eSl (eVar 0) oNo (oPart (eVar 2))) (eSl (eVar 0) (oPart (bin gAdd (eVar 2) (eC (.int 1)))) oNo)))
def hc2f2a : Py.Env → M Out := (sApp 1 (eVar 3))
def hc2f2 : Py.Env → M Out := (sIf (bOr (tst (bin gEq (eVar 4) (eTup aNil))) (bNot (tst (eCall 2 F_holds_point (aCons (eVar 4) (aCons (eCall 1 F_as_fractions (aCons (eVar 3) aNil)) aNil)))))) hc2f2a sNx)
def hc2f : Py.Env → M Out := (sSeq hc2f1 hc2f2)
def hc2 : Py.Env → M Out := (sFor (itEnum (aCons (eVar 0) aNil)) (tgTup 2 (tgsCons (tgN 2) (tgsCons (tgN 3) tgsNil))) hc2f)
theorem b_hull_corners_eq : b_hull_corners = (sSeq (sOwn 1 (lDisp aNil)) (sSeq hc2 (sRet (cal cTup (aCons (eVar 1) aNil))))) := rfl
theorem hc_one {L : List P2} {K : List P2} {i : Nat} {ρ : Py.Env} (g : Gp L) (l2 : 2 ≤ L.length) (n10 : L.length ≤ 10) (hl : ρ.length = 5) (h0 : ρ[0]? = some (some (ptsT L))) (h1 : ρ[1]? = some (some (.list (K.map vD)))) (kl : K.length ≤ 100)
    (h2 : ρ[2]? = some (some (.int (i : Nat)))) (h3 : ρ[3]? = some (some (vD (L.getD i (0, 0))))) (hi : i < L.length) :
    ∃ ρ', ρ'.length = 5 ∧ ρ'[0]? = some (some (ptsT L)) ∧ ρ'[1]? = some (some (.list ((K ++ if crn L i = true then [L.getD i (0, 0)] else []).map vD))) ∧ hc2f ρ = ret (.nx ρ') := by
  have gg := g.perm (less_perm hi)
  have ll := less_len hi
  have e1 : bin gAdd (eSl (eVar 0) oNo (oPart (eVar 2))) (eSl (eVar 0) (oPart (bin gAdd (eVar 2) (eC (.int 1)))) oNo) ρ = ret (ptsT (less L i)) := by
    have a : eSl (eVar 0) oNo (oPart (eVar 2)) ρ = ret (ptsT (L.take i)) := by
      rw [x_eSl, var_eq h0, bnd_ret', x_oNo, bnd_ret', x_oPart, var_eq h2, bnd_ret', toI_i, bnd_ret', ptsT, a_slt, Py.cutD_to (by rw [List.length_map]; omega), ptsT, List.map_take]
    have b : eSl (eVar 0) (oPart (bin gAdd (eVar 2) (eC (.int 1)))) oNo ρ = ret (ptsT (L.drop (i + 1))) := by
      have t : bin gAdd (eVar 2) (eC (.int 1)) ρ = ret (.int ((i + 1 : Nat) : Int)) := by
        rw [x_bin, var_eq h2, bnd_ret', x_eC, bnd_ret', x_gAdd_i]; rfl
      rw [x_eSl, var_eq h0, bnd_ret', x_oPart, t, bnd_ret', toI_i, bnd_ret', x_oNo, bnd_ret', ptsT, a_slt, Py.cutD_from (by rw [List.length_map]; omega), ptsT, List.map_drop]
    rw [x_bin, a, bnd_ret', b, bnd_ret', ptsT, ptsT, x_gAdd_t, if_pos (by rw [lenOk_def]; simp; omega), ptsT, less, List.map_append]
  have e1' : hc2f ρ = hc2f2 (ρ.set 4 (some (ptsT (less L i)))) := asg_nx e1
  rw [e1']
  have q : (ρ.set 4 (some (ptsT (less L i)))).length = 5 := by rw [List.length_set, hl]
  have q4 : (ρ.set 4 (some (ptsT (less L i))))[4]? = some (some (ptsT (less L i))) := set9 (by rw [hl]; decide)
  have q0 : (ρ.set 4 (some (ptsT (less L i))))[0]? = some (some (ptsT L)) := by rw [List.getElem?_set_ne (by decide), h0]
  have q1 : (ρ.set 4 (some (ptsT (less L i))))[1]? = some (some (.list (K.map vD))) := by rw [List.getElem?_set_ne (by decide), h1]
  have q3 : (ρ.set 4 (some (ptsT (less L i))))[3]? = some (some (vD (L.getD i (0, 0)))) := by rw [List.getElem?_set_ne (by decide), h3]
  generalize ρ.set 4 (some (ptsT (less L i))) = ρ1 at *
  have t1 : tst (bin gEq (eVar 4) (eTup aNil)) ρ1 = ret false := by
    refine tst_b ?_
    have e0 : eTup aNil ρ1 = ret (.tuple []) := by rw [x_eTup, x_aNil, bnd_ret', if_pos (by decide)]
    rw [x_bin, var_eq q4, bnd_ret', e0, bnd_ret']
    show (if (shp (ptsT (less L i)) && shp (.tuple [])) = true then ret (PyData.bool (PyData.eqv (ptsT (less L i)) (.tuple []))) else stuck) = _
    rw [shp_pts, if_pos (by rfl)]
    have : ∃ a M, less L i = a :: M := by
      cases h : less L i with
      | nil => rw [h] at ll; simp at ll; omega
      | cons a M => exact ⟨a, M, rfl⟩
    obtain ⟨a, M, e⟩ := this
    rw [e]
    rfl
  have t2 : tst (eCall 2 F_holds_point (aCons (eVar 4) (aCons (eCall 1 F_as_fractions (aCons (eVar 3) aNil)) aNil))) ρ1 = ret (hits (L.getD i (0, 0)) (less L i) 3) := by
    refine tst_b ?_
    have f : eCall 1 F_as_fractions (aCons (eVar 3) aNil) ρ1 = ret (frT (L.getD i (0, 0))) := (eCall_1 _ (args_1 q3)).trans (frT_e _)
    have ar : (aCons (eVar 4) (aCons (eCall 1 F_as_fractions (aCons (eVar 3) aNil)) aNil)) ρ1 = ret [ptsT (less L i), frT (L.getD i (0, 0))] := by
      rw [x_aCons, var_eq q4, bnd_ret', args_e f, bnd_ret']
    exact (eCall_2 _ ar).trans (holds_eq gg (by omega) (by omega))
  have t3 : bOr (tst (bin gEq (eVar 4) (eTup aNil))) (bNot (tst (eCall 2 F_holds_point (aCons (eVar 4) (aCons (eCall 1 F_as_fractions (aCons (eVar 3) aNil)) aNil))))) ρ1 = ret (crn L i) := by
    rw [x_bOr, t1, bnd_ret', if_neg Bool.false_ne_true, x_bNot, t2, bnd_ret']
    rfl
  rw [hc2f2, x_sIf, t3, bnd_ret']
  cases crn L i with
  | true =>
    rw [if_pos rfl, if_pos rfl, hc2f2a, app_e q1 (var_eq q3) (by rw [List.length_map]; omega)]
    exact ⟨_, by rw [List.length_set, q], by rw [List.getElem?_set_ne (by decide), q0], by rw [set9 (by rw [q]; decide), List.map_append]; rfl, rfl⟩
  | false =>
    rw [if_neg Bool.false_ne_true, if_neg Bool.false_ne_true, x_sNx, List.append_nil]
    exact ⟨ρ1, q, q0, q1, rfl⟩
theorem hc_loop {L : List P2} (g : Gp L) (l2 : 2 ≤ L.length) (n10 : L.length ≤ 10) : ∀ (m j : Nat) (K : List P2) (ρ : Py.Env), j + m = L.length → K.length ≤ j → ρ.length = 5 → ρ[0]? = some (some (ptsT L)) → ρ[1]? = some (some (.list (K.map vD))) →
    ∃ ρ', ρ'.length = 5 ∧ ρ'[1]? = some (some (.list ((K ++ ((List.range' j m).filter (crn L)).map fun i => L.getD i (0, 0)).map vD))) ∧ forW (tgTup 2 (tgsCons (tgN 2) (tgsCons (tgN 3) tgsNil))) hc2f (enumD j ((L.drop j).map vD)) ρ = ret (.nx ρ')
  | 0, j, K, ρ, hj, kl, hl, h0, h1 => by
    rw [List.drop_of_length_le (by omega)]
    exact ⟨ρ, hl, by rw [h1]; simp, rfl⟩
  | m + 1, j, K, ρ, hj, kl, hl, h0, h1 => by
    have hjl : j < L.length := by omega
    have ed : L.drop j = L.getD j (0, 0) :: L.drop (j + 1) := by
      rw [List.drop_eq_getElem_cons hjl, List.getD_eq_getElem?_getD, List.getElem?_eq_getElem hjl]
      rfl
    obtain ⟨ρ1, a1, a2, a3, a4⟩ := hc_one (K := K) (i := j) (ρ := (ρ.set 2 (some (.int (j : Nat)))).set 3 (some (vD (L.getD j (0, 0))))) g l2 n10 (by simp only [List.length_set, hl]) (by rw [List.getElem?_set_ne (by decide), List.getElem?_set_ne (by decide), h0]) (by rw [List.getElem?_set_ne (by decide), List.getElem?_set_ne (by decide), h1]) (by omega) (by rw [List.getElem?_set_ne (by decide), set9 (by rw [hl]; decide)]) (set9 (by rw [List.length_set, hl]; decide)) hjl
    obtain ⟨ρ2, b1, b2, b3⟩ := hc_loop g l2 n10 m (j + 1) _ ρ1 (by omega) (by rw [List.length_append]; split <;> simp <;> omega) a1 a2 a3
    refine ⟨ρ2, b1, ?_, ?_⟩
    · rw [b2]
      congr 4
      rw [List.range'_succ, List.filter_cons]
      cases crn L j <;> simp
    · rw [ed, List.map_cons]
      show forW _ hc2f (.tuple [.int (j : Nat), vD (L.getD j (0, 0))] :: enumD (j + 1) ((L.drop (j + 1)).map vD)) ρ = _
      rw [forW_cons, tgAB, bnd_ret', a4, bnd_ret', oLoop_nx]
      exact b3
theorem hull_eq {L : List P2} (g : Gp L) (l2 : 2 ≤ L.length) (n10 : L.length ≤ 10) : F_hull_corners [ptsT L] = ret (ptsT (corners L)) := by
  refine fn_rt (env := [some (ptsT L), none, none, none, none]) rfl ?_
  have e1 : (sOwn 1 (lDisp aNil)) ([some (ptsT L), none, none, none, none] : Py.Env) = ret (.nx [some (ptsT L), some (.list []), none, none, none]) := rfl
  obtain ⟨ρ', a1, a2, a3⟩ := hc_loop g l2 n10 L.length 0 [] [some (ptsT L), some (.list []), none, none, none] (by omega) (by simp) rfl rfl rfl
  have it : itEnum (aCons (eVar 0) aNil) ([some (ptsT L), some (.list []), none, none, none] : Py.Env) = ret (enumD 0 ((L.drop 0).map vD)) := by
    rw [x_itEnum, args_1 rfl, bnd_ret']
    rfl
  rw [b_hull_corners_eq, seq_nx e1, x_sSeq, hc2, x_sFor, it, bnd_ret', a3, bnd_ret', oThen_nx, x_sRet, x_cal, args_1 a2, bnd_ret', x_cTup_l, bnd_ret', List.nil_append, corners, List.range_eq_range']
  rfl
end L78
namespace L78
open PySem hiding ret
open Py L2 R74
open HS (P2 rowsT Gen ins spr cor)
theorem any_perm {α : Type} {l l' : List α} (h : l.Perm l') (f : α → Bool) : l.any f = l'.any f := by
  rw [Bool.eq_iff_iff, List.any_eq_true, List.any_eq_true]
  exact ⟨fun ⟨x, m, e⟩ => ⟨x, h.mem_iff.mp m, e⟩, fun ⟨x, m, e⟩ => ⟨x, h.mem_iff.mpr m, e⟩⟩
theorem some_perm (k n : Nat) : (some' k n).Perm ((someS k n).filter fun l => decide (l.length = k)) := List.mergeSort_perm _ _
theorem hits3 (p a b c : P2) : hits p [a, b, c] 3 = ins p a b c := by
  unfold hits
  rw [any_perm (some_perm 3 _)]
  have e : ((someS 3 3).filter fun l => decide (l.length = 3)) = [[0, 1, 2]] := by decide
  rw [show [a, b, c].length = 3 from rfl, e]
  simp [hit, pick]
theorem hits4 (p a b c d : P2) : hits p [a, b, c, d] 3 = (ins p a b c || ins p a b d || ins p a c d || ins p b c d) := by
  unfold hits
  rw [any_perm (some_perm 3 _)]
  have e : ((someS 3 4).filter fun l => decide (l.length = 3)) = [[0, 1, 2], [0, 1, 3], [0, 2, 3], [1, 2, 3]] := by decide
  rw [show [a, b, c, d].length = 4 from rfl, e]
  simp [hit, pick, Bool.or_assoc]
theorem corners5 (a b c d e : P2) : (corners [a, b, c, d, e]).length = (cor a b c d e).toNat + (cor b a c d e).toNat + (cor c a b d e).toNat + (cor d a b c e).toNat + (cor e a b c d).toNat := by
  have h0 : crn [a, b, c, d, e] 0 = cor a b c d e := by show (!hits a [b, c, d, e] 3) = _; rw [hits4]; rfl
  have h1 : crn [a, b, c, d, e] 1 = cor b a c d e := by show (!hits b [a, c, d, e] 3) = _; rw [hits4]; rfl
  have h2 : crn [a, b, c, d, e] 2 = cor c a b d e := by show (!hits c [a, b, d, e] 3) = _; rw [hits4]; rfl
  have h3 : crn [a, b, c, d, e] 3 = cor d a b c e := by show (!hits d [a, b, c, e] 3) = _; rw [hits4]; rfl
  have h4 : crn [a, b, c, d, e] 4 = cor e a b c d := by show (!hits e [a, b, c, d] 3) = _; rw [hits4]; rfl
  rw [corners, List.length_map]
  show (List.filter _ [0, 1, 2, 3, 4]).length = _
  simp only [List.filter_cons, h0, h1, h2, h3, h4, List.filter_nil]
  cases cor a b c d e <;> cases cor b a c d e <;> cases cor c a b d e <;> cases cor d a b c e <;> cases cor e a b c d <;> rfl
theorem corners4 (a b c d : P2) : decide (corners [a, b, c, d] = [a, b, c, d]) = spr a b c d := by
  have h0 : crn [a, b, c, d] 0 = !ins a b c d := by show (!hits a [b, c, d] 3) = _; rw [hits3]
  have h1 : crn [a, b, c, d] 1 = !ins b a c d := by show (!hits b [a, c, d] 3) = _; rw [hits3]
  have h2 : crn [a, b, c, d] 2 = !ins c a b d := by show (!hits c [a, b, d] 3) = _; rw [hits3]
  have h3 : crn [a, b, c, d] 3 = !ins d a b c := by show (!hits d [a, b, c] 3) = _; rw [hits3]
  unfold corners spr
  rw [show List.range [a, b, c, d].length = [0, 1, 2, 3] from rfl]
  simp only [List.filter_cons, h0, h1, h2, h3, List.filter_nil]
  cases ins a b c d <;> cases ins b a c d <;> cases ins c a b d <;> cases ins d a b c <;> simp
theorem eqv_v (a b : P2) : PyData.eqv (vD a) (vD b) = decide (a = b) := Lot.eqv_v a b
theorem eqvAll_v : ∀ a b : List P2, PyData.eqvAll (a.map vD) (b.map vD) = decide (a = b)
  | [], [] => by simp [PyData.eqvAll]
  | [], y :: b => by simp [PyData.eqvAll]
  | x :: a, [] => by simp [PyData.eqvAll]
  | x :: a, y :: b => by
    rw [List.map_cons, List.map_cons, PyData.eqvAll, eqv_v, eqvAll_v a b, Bool.eq_iff_iff]
    simp
theorem eqv_pts (a b : List P2) : PyData.eqv (ptsT a) (ptsT b) = decide (a = b) := by
  unfold ptsT
  rw [PyData.eqv, eqvAll_v]
theorem l4 {α : Type} {L : List α} (h : L.length = 4) : ∃ a b c d, L = [a, b, c, d] := by
  match L, h with
  | [a, b, c, d], _ => exact ⟨a, b, c, d, rfl⟩
def sprL : List P2 → Bool
  | [a, b, c, d] => spr a b c d
  | _ => false
theorem spread_eq {L : List P2} (g : Gp L) (l4' : L.length = 4) : F_is_spread [ptsT L] = ret (.bool (sprL L)) := by
  refine fn_rt (env := [some (ptsT L)]) rfl ?_
  have e : eCall 1 F_hull_corners (aCons (eVar 0) aNil) ([some (ptsT L)] : Py.Env) = ret (ptsT (corners L)) := (eCall_1 _ (args_1 rfl)).trans (hull_eq g (by omega) (by omega))
  rw [b_is_spread, x_sRet, x_bin, e, bnd_ret', var_eq (d := ptsT L) rfl, bnd_ret']
  show bnd (if (shp (ptsT (corners L)) && shp (ptsT L)) = true then ret (PyData.bool (PyData.eqv (ptsT (corners L)) (ptsT L))) else stuck) _ = _
  rw [shp_pts, shp_pts, if_pos (by rfl), bnd_ret', eqv_pts]
  obtain ⟨a, b, c, d, rfl⟩ := l4 l4'
  rw [corners4]
  rfl
/-! ### the law's -/
def sg (x : Int) : Int := (if x > 0 then 1 else 0) - (if x < 0 then 1 else 0)
theorem side_eq {a b c : P2} {n : Nat} (ha : Bp n a) (hb : Bp n b) (hc : Bp n c) (hn : n < 1000) : F__law_side [vD a, vD b, vD c] = ret (.int (sg (HS.o3 a b c))) := by
  haveI := ha.1.q
  haveI := ha.2.q
  haveI := hb.1.q
  haveI := hb.2.q
  haveI := hc.1.q
  haveI := hc.2.q
  have h1 : n + n + 1 + (n + n + 1) < 900000 := by omega
  show fnD 1 b__law_side [vD a, vD b, vD c] = _
  simp only [Py.x_fnD, Py.x_sSeq, Py.x_sNx, Py.x_sAsg, Py.x_sOwn, Py.x_sTgt, Py.x_sRet, Py.x_sRetN, Py.x_sRetOwn, Py.x_sIf, Py.x_sFor, Py.x_sPar, Py.x_sPar3, Py.x_cal, Py.x_calL, Py.x_eCall, Py.x_bin, Py.x_una, Py.x_bAnd, Py.x_bOr, Py.x_bNot, Py.x_eAnd, Py.x_eOr, Py.x_eNot, Py.x_eIf, Py.x_eChain, Py.x_eSl, Py.x_oNo, Py.x_oPart, Py.x_aNil, Py.x_aCons, Py.x_aStar, Py.x_eTup, Py.x_lDisp, Py.x_mkL, Py.x_tgN, Py.x_tgsNil, Py.x_tgsCons, Py.x_tgTup, Py.x_itSeq, Py.x_itEnum, Py.x_itZip, Py.x_itRng1, Py.x_itRng2, Py.x_eVar, Py.x_eC, Py.x_tst, Py.x_cYes, Py.x_wipeD_cons, Py.x_wipeD_nil, Py.x_seqD_l, Py.x_seqD_t, Py.x_gNeg_i, Py.x_gAdd_i, Py.x_gAdd_t, Py.x_gAdd_l, Py.x_cTup_l, Py.x_cTup_t, Py.x_cLst_l, Py.x_cLst_t, Py.x_cLen_l, Py.x_cLen_t, Py.x_cInt_b, Py.x_cInt_i, Py.x_cAbs_i, Py.toB_b, Py.toI_i, Py.optM_some, Py.par2_2, Py.par3_3, Py.zip2_2, Py.enum1_1, Py.rng1_i, Py.rng2_i, Py.outD_rt, Py.outD_nx, Py.bnd_ret', Py.bnd_stuck', Py.oThen_nx, Py.oThen_rt, Py.oLoop_nx, Py.oLoop_rt, Py.a_mul, Py.a_fdiv, Py.a_mod, Py.a_sub, Py.a_lt, Py.a_le, Py.a_gt, Py.a_ge, Py.a_eq, Py.a_ne, Py.a_eqX, Py.a_neX, Py.a_notN, Py.a_isN, Py.i_t0, Py.i_t1, Py.i_t2, Py.i_t3, Py.i_l0, Py.i_l1, Py.i_l2, Py.i_l3, Py.a_cGcd, Py.a_sum2, Py.a_max2, Py.a_min2, Py.a_len, Py.a_slt, Py.a_sll, Py.nd_n, Py.nd_t, Py.nd_l, Py.nd_i, Py.nd_s, Py.nd_b, List.map_cons, List.map_nil, List.replicate, List.cons_append, List.nil_append, List.set_cons_succ, List.set_cons_zero, List.getElem?_cons_succ, List.getElem?_cons_zero, Option.getD_some, List.length_cons, List.length_nil, List.length_map, Nat.reduceAdd, Nat.reduceMul, Nat.reduceLT, Nat.reduceLeDiff, Nat.reduceEqDiff, Int.reduceEq, Int.reduceLT, Int.reduceToNat, ne_eq, not_false_eq_true, decide_true, decide_false, decide_eq_true_eq, if_true, if_false, Bool.false_eq_true, Bool.not_true, Bool.not_false, Bool.true_and, Bool.and_true, Bool.false_and, Bool.and_false, Nat.zero_add, b__law_side, vD, h1]
  rfl
theorem sg_eq {x y : Int} (hx : x ≠ 0) (hy : y ≠ 0) : decide (sg x = sg y) = (decide (0 < x) == decide (0 < y)) := by
  unfold sg
  by_cases h : 0 < x <;> by_cases h' : 0 < y
  · simp [h, h', Int.not_lt.mpr (Int.le_of_lt h), Int.not_lt.mpr (Int.le_of_lt h')]
  · simp [h, h', Int.not_lt.mpr (Int.le_of_lt h), show y < 0 by omega]
  · simp [h, h', Int.not_lt.mpr (Int.le_of_lt h'), show x < 0 by omega]
  · simp [h, h', show x < 0 by omega, show y < 0 by omega]
theorem inside_eq {p a b c : P2} {n : Nat} (hp : Bp n p) (ha : Bp n a) (hb : Bp n b) (hc : Bp n c) (hn : n < 1000) (n1 : HS.o3 a b p ≠ 0) (n2 : HS.o3 b c p ≠ 0) (n3 : HS.o3 c a p ≠ 0) : F__law_inside [vD p, vD a, vD b, vD c] = ret (.bool (ins p a b c)) := by
  refine fn_rt (env := [some (vD p), some (vD a), some (vD b), some (vD c)]) rfl ?_
  have e1 : eCall 3 F__law_side (aCons (eVar 1) (aCons (eVar 2) (aCons (eVar 0) aNil))) ([some (vD p), some (vD a), some (vD b), some (vD c)] : Py.Env) = ret (.int (sg (HS.o3 a b p))) := (eCall_3 _ (args_3 rfl rfl rfl)).trans (side_eq ha hb hp hn)
  have e2 : eCall 3 F__law_side (aCons (eVar 2) (aCons (eVar 3) (aCons (eVar 0) aNil))) ([some (vD p), some (vD a), some (vD b), some (vD c)] : Py.Env) = ret (.int (sg (HS.o3 b c p))) := (eCall_3 _ (args_3 rfl rfl rfl)).trans (side_eq hb hc hp hn)
  have e3 : eCall 3 F__law_side (aCons (eVar 3) (aCons (eVar 1) (aCons (eVar 0) aNil))) ([some (vD p), some (vD a), some (vD b), some (vD c)] : Py.Env) = ret (.int (sg (HS.o3 c a p))) := (eCall_3 _ (args_3 rfl rfl rfl)).trans (side_eq hc ha hp hn)
  rw [b__law_inside, x_sRet, x_eChain, e1, bnd_ret', e2, bnd_ret', a_eq]
  unfold ins HS.bit
  rw [sg_eq n1 n2]
  cases h : (decide (0 < HS.o3 a b p) == decide (0 < HS.o3 b c p)) with
  | true =>
    rw [bnd_ret', toB_b, bnd_ret', if_pos rfl, e3, bnd_ret', a_eq, sg_eq n2 n3, bnd_ret', Bool.true_and]
  | false =>
    rw [bnd_ret', toB_b, bnd_ret', if_neg Bool.false_ne_true, bnd_ret', Bool.false_and]
end L78
namespace L78
open PySem hiding ret
open Py L2 R74
open HS (P2 rowsT Gen ins spr cor)
def ptsD (c : Bool) (L : List P2) : D := if c = true then .list (L.map vD) else ptsT L
theorem seq_pts (c : Bool) (L : List P2) : seqD (ptsD c L) = ret (L.map vD) := by cases c <;> rfl
theorem shp_v (w : P2) : shp (vD w) = true := shp_intsT [w.1, w.2]
def ipf1 : Py.Env → M Out := (sTgt (mkL (eLc (itSeq (eVar 0)) (tgN 6) (tst (bin gNe (eVar 6) (eVar 2))) (eVar 6) [6])) (tgLst 3 (tgsCons (tgN 3) (tgsCons (tgN 4) (tgsCons (tgN 5) tgsNil)))))
def ipf2 : Py.Env → M Out := (sIf (tst (eCall 4 F__law_inside (aCons (eVar 2) (aCons (eVar 3) (aCons (eVar 4) (aCons (eVar 5) aNil)))))) (sRet (eC (.bool false))) sNx)
def ipf : Py.Env → M Out := (sSeq ipf1 ipf2)
def ip1 : Py.Env → M Out := (sFor (itEnum (aCons (eVar 0) aNil)) (tgTup 2 (tgsCons (tgN 1) (tgsCons (tgN 2) tgsNil))) ipf)
theorem b__law_is_spread_eq : b__law_is_spread = (sSeq ip1 (sRet (eC (.bool true)))) := rfl
theorem ip_lap {c : Bool} {L : List P2} {p x y z : P2} {ρ : Py.Env} (g : Gp L) (hl : ρ.length = 7) (h0 : ρ[0]? = some (some (ptsD c L))) (h2 : ρ[2]? = some (some (vD p))) (hp : p ∈ L) (hf : (L.filter fun w => !decide (w = p)) = [x, y, z]) (xy : x ≠ y) (yz : y ≠ z) (xz : x ≠ z) :
    (ins p x y z = true ∧ ipf ρ = ret (.rt (.bool false))) ∨ (ins p x y z = false ∧ ∃ ρ', ρ'.length = 7 ∧ ρ'[0]? = some (some (ptsD c L)) ∧ ipf ρ = ret (.nx ρ')) := by
  have e := comp_map (ρ := ρ) (its := itSeq (eVar 0)) (tg := tgN 6) (cond := tst (bin gNe (eVar 6) (eVar 2))) (elt := eVar 6) (vs := [6]) vD (fun w => !decide (w = p)) vD L (by rw [x_itSeq, var_eq h0, bnd_ret', seq_pts]) (fun w hw => by
    rw [x_wipeD_cons, x_wipeD_nil]
    have g6 : ((ρ.set 6 none).set 6 (some (vD w)))[6]? = some (some (vD w)) := set9 (by rw [List.length_set, hl]; decide)
    refine ⟨_, rfl, tst_b ?_, fun _ => var_eq g6⟩
    rw [x_bin, var_eq g6, bnd_ret', var_eq (d := vD p) (by rw [List.getElem?_set_ne (by decide), List.getElem?_set_ne (by decide), h2]), bnd_ret']
    show (if (shp (vD w) && shp (vD p)) = true then ret (PyData.bool (!PyData.eqv (vD w) (vD p))) else stuck) = _
    rw [shp_v, shp_v, if_pos (by rfl), eqv_v])
  rw [hf] at e
  have e1 : ipf1 ρ = ret (.nx (((ρ.set 3 (some (vD x))).set 4 (some (vD y))).set 5 (some (vD z)))) := by
    rw [ipf1, x_sTgt, e, bnd_ret', x_tgLst, if_pos (by rfl)]
    rfl
  have e1' : ipf ρ = ipf2 (((ρ.set 3 (some (vD x))).set 4 (some (vD y))).set 5 (some (vD z))) := seq_nx e1
  rw [e1']
  have m : ∀ w ∈ [x, y, z], w ∈ L ∧ w ≠ p := by
    intro w hw
    rw [← hf, List.mem_filter] at hw
    exact ⟨hw.1, by simpa using hw.2⟩
  obtain ⟨mx, nx⟩ := m x (by simp)
  obtain ⟨my, ny⟩ := m y (by simp)
  obtain ⟨mz, nz⟩ := m z (by simp)
  have q2 : ((((ρ.set 3 (some (vD x))).set 4 (some (vD y))).set 5 (some (vD z))))[2]? = some (some (vD p)) := by rw [List.getElem?_set_ne (by decide), List.getElem?_set_ne (by decide), List.getElem?_set_ne (by decide), h2]
  have q0 : ((((ρ.set 3 (some (vD x))).set 4 (some (vD y))).set 5 (some (vD z))))[0]? = some (some (ptsD c L)) := by rw [List.getElem?_set_ne (by decide), List.getElem?_set_ne (by decide), List.getElem?_set_ne (by decide), h0]
  have q3 : ((((ρ.set 3 (some (vD x))).set 4 (some (vD y))).set 5 (some (vD z))))[3]? = some (some (vD x)) := by rw [List.getElem?_set_ne (by decide), List.getElem?_set_ne (by decide), set9 (by rw [hl]; decide)]
  have q4 : ((((ρ.set 3 (some (vD x))).set 4 (some (vD y))).set 5 (some (vD z))))[4]? = some (some (vD y)) := by rw [List.getElem?_set_ne (by decide), set9 (by rw [List.length_set, hl]; decide)]
  have q5 : ((((ρ.set 3 (some (vD x))).set 4 (some (vD y))).set 5 (some (vD z))))[5]? = some (some (vD z)) := set9 (by rw [List.length_set, List.length_set, hl]; decide)
  have ql : ((((ρ.set 3 (some (vD x))).set 4 (some (vD y))).set 5 (some (vD z)))).length = 7 := by simp only [List.length_set, hl]
  generalize (((ρ.set 3 (some (vD x))).set 4 (some (vD y))).set 5 (some (vD z))) = ρ1 at *
  have t : tst (eCall 4 F__law_inside (aCons (eVar 2) (aCons (eVar 3) (aCons (eVar 4) (aCons (eVar 5) aNil))))) ρ1 = ret (ins p x y z) := by
    refine tst_b ?_
    rw [x_eCall, x_aCons, var_eq q2, bnd_ret', args_3 q3 q4 q5, bnd_ret', bnd_ret', if_pos (show [vD p, vD x, vD y, vD z].length = 4 from rfl)]
    exact inside_eq (g.bd p hp) (g.bd x mx) (g.bd y my) (g.bd z mz) (by decide) (g.gen x mx y my p hp xy ny nx) (g.gen y my z mz p hp yz nz ny) (g.gen z mz x mx p hp (Ne.symm xz) nx nz)
  rw [ipf2, x_sIf, t, bnd_ret']
  cases h : ins p x y z with
  | true =>
    left
    rw [if_pos rfl, x_sRet, x_eC, bnd_ret']
    exact ⟨rfl, rfl⟩
  | false =>
    right
    rw [if_neg Bool.false_ne_true, x_sNx]
    exact ⟨rfl, ρ1, ql, q0, rfl⟩
theorem lspread_eq {cc : Bool} {L : List P2} (g : Gp L) (l4' : L.length = 4) : F__law_is_spread [ptsD cc L] = ret (.bool (sprL L)) := by
  obtain ⟨a, b, c, d, rfl⟩ := l4 l4'
  have nd := g.nd
  simp only [List.nodup_cons, List.mem_cons, List.not_mem_nil, or_false, not_or] at nd
  obtain ⟨⟨ab, ac, ad⟩, ⟨bc, bd⟩, cd, _⟩ := nd
  have ba := Ne.symm ab
  have ca := Ne.symm ac
  have da := Ne.symm ad
  have cb := Ne.symm bc
  have db := Ne.symm bd
  have dc := Ne.symm cd
  have f0 : ([a, b, c, d].filter fun w => !decide (w = a)) = [b, c, d] := by simp [List.filter_cons, ba, ca, da]
  have f1 : ([a, b, c, d].filter fun w => !decide (w = b)) = [a, c, d] := by simp [List.filter_cons, ab, cb, db]
  have f2 : ([a, b, c, d].filter fun w => !decide (w = c)) = [a, b, d] := by simp [List.filter_cons, ac, bc, dc]
  have f3 : ([a, b, c, d].filter fun w => !decide (w = d)) = [a, b, c] := by simp [List.filter_cons, ad, bd, cd]
  refine fn_rt (env := [some (ptsD cc [a, b, c, d]), none, none, none, none, none, none]) rfl ?_
  have it : itEnum (aCons (eVar 0) aNil) ([some (ptsD cc [a, b, c, d]), none, none, none, none, none, none] : Py.Env) = ret [.tuple [.int (0 : Nat), vD a], .tuple [.int (1 : Nat), vD b], .tuple [.int (2 : Nat), vD c], .tuple [.int (3 : Nat), vD d]] := by
    rw [x_itEnum, args_1 rfl, bnd_ret']
    cases cc <;> rfl
  rw [b__law_is_spread_eq, x_sSeq, ip1, x_sFor, it, bnd_ret']
  rw [show sprL [a, b, c, d] = (!(ins a b c d) && !(ins b a c d) && !(ins c a b d) && !(ins d a b c)) from rfl]
  have h0 : ([some (ptsD cc [a, b, c, d]), none, none, none, none, none, none] : Py.Env)[0]? = some (some (ptsD cc [a, b, c, d])) := rfl
  have hl : ([some (ptsD cc [a, b, c, d]), none, none, none, none, none, none] : Py.Env).length = 7 := rfl
  generalize ([some (ptsD cc [a, b, c, d]), none, none, none, none, none, none] : Py.Env) = ρ0 at *
  clear it
  have step : ∀ (ρ : Py.Env) (i : Nat) (p : P2), ρ.length = 7 → ρ[0]? = some (some (ptsD cc [a, b, c, d])) → ((ρ.set 1 (some (.int (i : Nat)))).set 2 (some (vD p))).length = 7 ∧ ((ρ.set 1 (some (.int (i : Nat)))).set 2 (some (vD p)))[0]? = some (some (ptsD cc [a, b, c, d])) ∧ ((ρ.set 1 (some (.int (i : Nat)))).set 2 (some (vD p)))[2]? = some (some (vD p)) := by
    intro ρ i p hl h0
    exact ⟨by simp only [List.length_set, hl], by rw [List.getElem?_set_ne (by decide), List.getElem?_set_ne (by decide), h0], set9 (by rw [List.length_set, hl]; decide)⟩
  rw [forW_cons, tgAB, bnd_ret']
  obtain ⟨s1, s2, s3⟩ := step ρ0 0 a hl h0
  rcases ip_lap g s1 s2 s3 (by simp) f0 bc cd bd with ⟨i0, e⟩ | ⟨i0, ρ1, hl1, h1, e⟩
  · rw [e, bnd_ret', oLoop_rt, bnd_ret', oThen_rt, i0]; rfl
  rw [e, bnd_ret', oLoop_nx, forW_cons, tgAB, bnd_ret', i0]
  obtain ⟨s1, s2, s3⟩ := step ρ1 1 b hl1 h1
  rcases ip_lap g s1 s2 s3 (by simp) f1 ac cd ad with ⟨i1, e⟩ | ⟨i1, ρ2, hl2, h2, e⟩
  · rw [e, bnd_ret', oLoop_rt, bnd_ret', oThen_rt, i1]; rfl
  rw [e, bnd_ret', oLoop_nx, forW_cons, tgAB, bnd_ret', i1]
  obtain ⟨s1, s2, s3⟩ := step ρ2 2 c hl2 h2
  rcases ip_lap g s1 s2 s3 (by simp) f2 ab bd ad with ⟨i2, e⟩ | ⟨i2, ρ3, hl3, h3, e⟩
  · rw [e, bnd_ret', oLoop_rt, bnd_ret', oThen_rt, i2]; rfl
  rw [e, bnd_ret', oLoop_nx, forW_cons, tgAB, bnd_ret', i2]
  obtain ⟨s1, s2, s3⟩ := step ρ3 3 d hl3 h3
  rcases ip_lap g s1 s2 s3 (by simp) f3 ab bc ac with ⟨i3, e⟩ | ⟨i3, ρ4, hl4, h4, e⟩
  · rw [e, bnd_ret', oLoop_rt, bnd_ret', oThen_rt, i3]; rfl
  rw [e, bnd_ret', oLoop_nx, forW_nil, bnd_ret', oThen_nx, i3, x_sRet, x_eC, bnd_ret']
  rfl
end L78
namespace L78
open PySem hiding ret
open Py L2 R74
open HS (P2 rowsT Gen ins spr cor)
theorem pick_gp {L : List P2} {pl : List Nat} (g : Gp L) (asc : pl.Pairwise (· < ·)) (lt : ∀ x ∈ pl, x < L.length) : Gp (pick L pl) := by
  have m : ∀ w ∈ pick L pl, w ∈ L := by
    intro w hw
    obtain ⟨i, hi, rfl⟩ := List.mem_map.mp hw
    exact pick_mem (lt i hi)
  refine ⟨?_, fun a ha b hb c hc => g.gen a (m a ha) b (m b hb) c (m c hc), fun w hw => g.bd w (m w hw)⟩
  refine List.pairwise_map.mpr (List.Pairwise.imp_of_mem (fun {i j} hi hj h => ?_) asc)
  exact pick_ne g.nd (lt i hi) (lt j hj) (by omega)
def due (L : List P2) : List (List Nat) := (some' 4 L.length).filter fun pl => sprL (pick L pl)
theorem fours_eq {L : List P2} (g : Gp L) (n10 : L.length ≤ 10) : F_spread_fours [ptsT L] = ret (.tuple ((due L).map lotD)) := by
  refine fn_rt (env := [some (ptsT L), none, none]) rfl ?_
  have pe : itSeq (eCall 2 F_places_of (aCons (cal cLen (aCons (eVar 0) aNil)) (aCons (eC (.int 4)) aNil))) ([some (ptsT L), none, none] : Py.Env) = ret ((some' 4 L.length).map lotD) := by
    have cl : cal cLen (aCons (eVar 0) aNil) ([some (ptsT L), none, none] : Py.Env) = ret (.int (L.length : Nat)) := by rw [x_cal, args_1 rfl, bnd_ret', ptsT, x_cLen_t, List.length_map]
    rw [x_itSeq, x_eCall, x_aCons, cl, bnd_ret', args_e (x_eC _ _), bnd_ret', bnd_ret', if_pos (show [PyData.int (L.length : Nat), PyData.int 4].length = 2 from rfl)]
    rw [show (PyData.int 4) = .int ((4 : Nat) : Int) from rfl, plc_eq (by decide) n10, bnd_ret']
    rfl
  have e := comp_map (ρ := [some (ptsT L), none, none]) (its := itSeq (eCall 2 F_places_of (aCons (cal cLen (aCons (eVar 0) aNil)) (aCons (eC (.int 4)) aNil)))) (tg := tgN 1) (cond := tst (eCall 1 F_is_spread (aCons (cal cTup (aCons (mkL (eLc (itSeq (eVar 1)) (tgN 2) cYes (bin gIx (eVar 0) (eVar 2)) [2])) aNil)) aNil))) (elt := eVar 1) (vs := [1]) lotD (fun pl => sprL (pick L pl)) lotD (some' 4 L.length) pe (fun pl hp => by
    obtain ⟨pk, asc, lt⟩ := some_mem.mp hp
    refine ⟨[some (ptsT L), some (lotD pl), none], rfl, tst_b ?_, fun _ => rfl⟩
    have pp := pick_e (ρ := [some (ptsT L), some (lotD pl), none]) (L := L) (pl := pl) (i := 0) (j := 1) (r := 2) (by simp) rfl rfl (by decide) lt
    have ct : cal cTup (aCons (mkL (eLc (itSeq (eVar 1)) (tgN 2) cYes (bin gIx (eVar 0) (eVar 2)) [2])) aNil) ([some (ptsT L), some (lotD pl), none] : Py.Env) = ret (ptsT (pick L pl)) := by rw [x_cal, args_e pp, bnd_ret', x_cTup_l]; rfl
    exact (eCall_1 _ (args_e ct)).trans (spread_eq (pick_gp g asc lt) (by rw [pick, List.length_map, pk])))
  rw [b_spread_fours, x_sRet, x_cal, args_e e, bnd_ret', x_cTup_l, bnd_ret', due]
/-! ### counts -/
theorem flt_len {α : Type} (p : α → Bool) (x : α) (l : List α) : ((x :: l).filter p).length = (p x).toNat + (l.filter p).length := by
  rw [List.filter_cons]
  cases p x <;> simp <;> omega
theorem flt_nil {α : Type} (p : α → Bool) : (([] : List α).filter p).length = 0 := rfl
def sub (pl x : List Nat) : Bool := (x.filter fun i => !decide (i ∈ pl)).isEmpty
def inn (L : List P2) (pl : List Nat) : List (List Nat) := (due L).filter (sub pl)
theorem due_len (L : List P2) : (due L).length = (((someS 4 L.length).filter fun l => decide (l.length = 4)).filter fun pl => sprL (pick L pl)).length := ((some_perm 4 L.length).filter _).length_eq
theorem inn_len (L : List P2) (pl : List Nat) : (inn L pl).length = (((someS 4 L.length).filter fun l => decide (l.length = 4)).filter fun x => sub pl x && sprL (pick L x)).length := by
  unfold inn due
  rw [List.filter_filter]
  exact ((some_perm 4 L.length).filter _).length_eq
theorem f5 : ((someS 4 5).filter fun l => decide (l.length = 4)) = [[0, 1, 2, 3], [0, 1, 2, 4], [0, 1, 3, 4], [0, 2, 3, 4], [1, 2, 3, 4]] := by decide
theorem f6 : ((someS 4 6).filter fun l => decide (l.length = 4)) = [[0, 1, 2, 3], [0, 1, 2, 4], [0, 1, 3, 4], [0, 2, 3, 4], [1, 2, 3, 4], [0, 1, 2, 5], [0, 1, 3, 5], [0, 2, 3, 5], [1, 2, 3, 5], [0, 1, 4, 5], [0, 2, 4, 5], [1, 2, 4, 5], [0, 3, 4, 5], [1, 3, 4, 5], [2, 3, 4, 5]] := by decide
theorem v5 : ((someS 5 5).filter fun l => decide (l.length = 5)) = [[0, 1, 2, 3, 4]] := by decide
theorem v6 : ((someS 5 6).filter fun l => decide (l.length = 5)) = [[0, 1, 2, 3, 4], [0, 1, 2, 3, 5], [0, 1, 2, 4, 5], [0, 1, 3, 4, 5], [0, 2, 3, 4, 5], [1, 2, 3, 4, 5]] := by decide
def five5 (a b c d e : P2) : Nat := (spr a b c d).toNat + (spr a b c e).toNat + (spr a b d e).toNat + (spr a c d e).toNat + (spr b c d e).toNat
theorem five_gp {a b c d e : P2} (g : Gp [a, b, c, d, e]) : five5 a b c d e + 5 = 2 * (corners [a, b, c, d, e]).length ∧ 1 ≤ five5 a b c d e := by
  have nd := g.nd
  simp only [List.nodup_cons, List.mem_cons, List.not_mem_nil, or_false, not_or] at nd
  obtain ⟨⟨ab, ac, ad, ae⟩, ⟨bc, bd, be⟩, ⟨cd, ce⟩, de, _⟩ := nd
  have G : ∀ x y z, x ∈ [a, b, c, d, e] → y ∈ [a, b, c, d, e] → z ∈ [a, b, c, d, e] → x ≠ y → y ≠ z → x ≠ z → HS.o3 x y z ≠ 0 := fun x y z hx hy hz => g.gen x hx y hy z hz
  have := HS.five (G a b c (by simp) (by simp) (by simp) ab bc ac) (G a b d (by simp) (by simp) (by simp) ab bd ad) (G a b e (by simp) (by simp) (by simp) ab be ae) (G a c d (by simp) (by simp) (by simp) ac cd ad) (G a c e (by simp) (by simp) (by simp) ac ce ae) (G a d e (by simp) (by simp) (by simp) ad de ae)
    (G b c d (by simp) (by simp) (by simp) bc cd bd) (G b c e (by simp) (by simp) (by simp) bc ce be) (G b d e (by simp) (by simp) (by simp) bd de be) (G c d e (by simp) (by simp) (by simp) cd de ce)
  rw [corners5]
  exact this
theorem sub_t {b : Bool} : (true && b) = b := rfl
theorem inn5 (a b c d e : P2) : (inn [a, b, c, d, e] [0, 1, 2, 3, 4]).length = five5 a b c d e ∧ (due [a, b, c, d, e]).length = five5 a b c d e := by
  constructor
  · rw [inn_len, show [a, b, c, d, e].length = 5 from rfl, f5]
    simp only [flt_len, flt_nil]
    show (spr a b c d).toNat + ((spr a b c e).toNat + ((spr a b d e).toNat + ((spr a c d e).toNat + ((spr b c d e).toNat + 0)))) = _
    unfold five5; omega
  · rw [due_len, show [a, b, c, d, e].length = 5 from rfl, f5]
    simp only [flt_len, flt_nil]
    show (spr a b c d).toNat + ((spr a b c e).toNat + ((spr a b d e).toNat + ((spr a c d e).toNat + ((spr b c d e).toNat + 0)))) = _
    unfold five5; omega
theorem toNat_f {b : Bool} : (false && b).toNat = 0 := rfl
theorem inn6 (a b c d e f : P2) : (inn [a, b, c, d, e, f] [0, 1, 2, 3, 4]).length = five5 a b c d e ∧ (inn [a, b, c, d, e, f] [0, 1, 2, 3, 5]).length = five5 a b c d f ∧ (inn [a, b, c, d, e, f] [0, 1, 2, 4, 5]).length = five5 a b c e f ∧
    (inn [a, b, c, d, e, f] [0, 1, 3, 4, 5]).length = five5 a b d e f ∧ (inn [a, b, c, d, e, f] [0, 2, 3, 4, 5]).length = five5 a c d e f ∧ (inn [a, b, c, d, e, f] [1, 2, 3, 4, 5]).length = five5 b c d e f ∧
    2 * (due [a, b, c, d, e, f]).length = five5 a b c d e + five5 a b c d f + five5 a b c e f + five5 a b d e f + five5 a c d e f + five5 b c d e f := by
  have l6 : [a, b, c, d, e, f].length = 6 := rfl
  have s : ∀ pl, (inn [a, b, c, d, e, f] pl).length = (sub pl [0, 1, 2, 3] && spr a b c d).toNat + ((sub pl [0, 1, 2, 4] && spr a b c e).toNat + ((sub pl [0, 1, 3, 4] && spr a b d e).toNat + ((sub pl [0, 2, 3, 4] && spr a c d e).toNat + ((sub pl [1, 2, 3, 4] && spr b c d e).toNat +
      ((sub pl [0, 1, 2, 5] && spr a b c f).toNat + ((sub pl [0, 1, 3, 5] && spr a b d f).toNat + ((sub pl [0, 2, 3, 5] && spr a c d f).toNat + ((sub pl [1, 2, 3, 5] && spr b c d f).toNat + ((sub pl [0, 1, 4, 5] && spr a b e f).toNat + ((sub pl [0, 2, 4, 5] && spr a c e f).toNat + ((sub pl [1, 2, 4, 5] && spr b c e f).toNat + ((sub pl [0, 3, 4, 5] && spr a d e f).toNat + ((sub pl [1, 3, 4, 5] && spr b d e f).toNat + ((sub pl [2, 3, 4, 5] && spr c d e f).toNat + 0)))))))))))))) := by
    intro pl
    rw [inn_len, l6, f6]
    simp only [flt_len, flt_nil]
    rfl
  refine ⟨?_, ?_, ?_, ?_, ?_, ?_, ?_⟩
  · rw [s]
    show (true && spr a b c d).toNat + ((true && spr a b c e).toNat + ((true && spr a b d e).toNat + ((true && spr a c d e).toNat + ((true && spr b c d e).toNat + ((false && spr a b c f).toNat + ((false && spr a b d f).toNat + ((false && spr a c d f).toNat + ((false && spr b c d f).toNat + ((false && spr a b e f).toNat + ((false && spr a c e f).toNat + ((false && spr b c e f).toNat + ((false && spr a d e f).toNat + ((false && spr b d e f).toNat + ((false && spr c d e f).toNat + 0)))))))))))))) = _
    simp only [Bool.true_and, Bool.false_and, Bool.toNat_false]
    unfold five5; omega
  · rw [s]
    show (true && spr a b c d).toNat + ((false && spr a b c e).toNat + ((false && spr a b d e).toNat + ((false && spr a c d e).toNat + ((false && spr b c d e).toNat + ((true && spr a b c f).toNat + ((true && spr a b d f).toNat + ((true && spr a c d f).toNat + ((true && spr b c d f).toNat + ((false && spr a b e f).toNat + ((false && spr a c e f).toNat + ((false && spr b c e f).toNat + ((false && spr a d e f).toNat + ((false && spr b d e f).toNat + ((false && spr c d e f).toNat + 0)))))))))))))) = _
    simp only [Bool.true_and, Bool.false_and, Bool.toNat_false]
    unfold five5; omega
  · rw [s]
    show (false && spr a b c d).toNat + ((true && spr a b c e).toNat + ((false && spr a b d e).toNat + ((false && spr a c d e).toNat + ((false && spr b c d e).toNat + ((true && spr a b c f).toNat + ((false && spr a b d f).toNat + ((false && spr a c d f).toNat + ((false && spr b c d f).toNat + ((true && spr a b e f).toNat + ((true && spr a c e f).toNat + ((true && spr b c e f).toNat + ((false && spr a d e f).toNat + ((false && spr b d e f).toNat + ((false && spr c d e f).toNat + 0)))))))))))))) = _
    simp only [Bool.true_and, Bool.false_and, Bool.toNat_false]
    unfold five5; omega
  · rw [s]
    show (false && spr a b c d).toNat + ((false && spr a b c e).toNat + ((true && spr a b d e).toNat + ((false && spr a c d e).toNat + ((false && spr b c d e).toNat + ((false && spr a b c f).toNat + ((true && spr a b d f).toNat + ((false && spr a c d f).toNat + ((false && spr b c d f).toNat + ((true && spr a b e f).toNat + ((false && spr a c e f).toNat + ((false && spr b c e f).toNat + ((true && spr a d e f).toNat + ((true && spr b d e f).toNat + ((false && spr c d e f).toNat + 0)))))))))))))) = _
    simp only [Bool.true_and, Bool.false_and, Bool.toNat_false]
    unfold five5; omega
  · rw [s]
    show (false && spr a b c d).toNat + ((false && spr a b c e).toNat + ((false && spr a b d e).toNat + ((true && spr a c d e).toNat + ((false && spr b c d e).toNat + ((false && spr a b c f).toNat + ((false && spr a b d f).toNat + ((true && spr a c d f).toNat + ((false && spr b c d f).toNat + ((false && spr a b e f).toNat + ((true && spr a c e f).toNat + ((false && spr b c e f).toNat + ((true && spr a d e f).toNat + ((false && spr b d e f).toNat + ((true && spr c d e f).toNat + 0)))))))))))))) = _
    simp only [Bool.true_and, Bool.false_and, Bool.toNat_false]
    unfold five5; omega
  · rw [s]
    show (false && spr a b c d).toNat + ((false && spr a b c e).toNat + ((false && spr a b d e).toNat + ((false && spr a c d e).toNat + ((true && spr b c d e).toNat + ((false && spr a b c f).toNat + ((false && spr a b d f).toNat + ((false && spr a c d f).toNat + ((true && spr b c d f).toNat + ((false && spr a b e f).toNat + ((false && spr a c e f).toNat + ((true && spr b c e f).toNat + ((false && spr a d e f).toNat + ((true && spr b d e f).toNat + ((true && spr c d e f).toNat + 0)))))))))))))) = _
    simp only [Bool.true_and, Bool.false_and, Bool.toNat_false]
    unfold five5; omega
  · rw [due_len, l6, f6]
    simp only [flt_len, flt_nil]
    show 2 * ((spr a b c d).toNat + ((spr a b c e).toNat + ((spr a b d e).toNat + ((spr a c d e).toNat + ((spr b c d e).toNat + ((spr a b c f).toNat + ((spr a b d f).toNat + ((spr a c d f).toNat + ((spr b c d f).toNat + ((spr a b e f).toNat + ((spr a c e f).toNat + ((spr b c e f).toNat + ((spr a d e f).toNat + ((spr b d e f).toNat + ((spr c d e f).toNat + 0))))))))))))))) = _
    unfold five5; omega
/-- all fives -/
theorem all_fives {L : List P2} (g : Gp L) (n : L.length = 5 ∨ L.length = 6) : (∀ pl ∈ some' 5 L.length, (inn L pl).length + 5 = 2 * (corners (pick L pl)).length ∧ 1 ≤ (inn L pl).length) ∧
    ((((someS 5 L.length).filter fun l => decide (l.length = 5)).map fun pl => (inn L pl).length).sum = (L.length - 4) * (due L).length) ∧ (some' 4 L.length).length ≤ 5 * (due L).length := by
  have key : ∀ pl ∈ some' 5 L.length, Gp (pick L pl) := fun pl hp => by
    obtain ⟨_, asc, lt⟩ := some_mem.mp hp
    exact pick_gp g asc lt
  have l4 : (some' 4 L.length).length = ((someS 4 L.length).filter fun l => decide (l.length = 4)).length := (some_perm 4 L.length).length_eq
  rcases n with h | h
  · obtain ⟨a, b, c, d, e, rfl⟩ : ∃ a b c d e, L = [a, b, c, d, e] := by
      match L, h with
      | [a, b, c, d, e], _ => exact ⟨a, b, c, d, e, rfl⟩
    · have i5 := inn5 a b c d e
      have f := five_gp g
      refine ⟨fun pl hp => ?_, ?_, ?_⟩
      · have hp' := (some_perm 5 5).mem_iff.mp hp
        rw [v5, List.mem_singleton] at hp'
        subst hp'
        rw [i5.1]
        exact f
      · rw [show [a, b, c, d, e].length = 5 from rfl, v5]
        simp only [List.map_cons, List.map_nil, List.sum_cons, List.sum_nil, i5.1, i5.2]
        omega
      · rw [l4, show [a, b, c, d, e].length = 5 from rfl, f5, i5.2]
        show 5 ≤ _
        omega
  · obtain ⟨a, b, c, d, e, x, rfl⟩ : ∃ a b c d e x, L = [a, b, c, d, e, x] := by
      match L, h with
      | [a, b, c, d, e, x], _ => exact ⟨a, b, c, d, e, x, rfl⟩
    · 
      obtain ⟨i1, i2, i3, i4, i5, i6, i7⟩ := inn6 a b c d e x
      have m : ∀ pl ∈ [[0, 1, 2, 3, 4], [0, 1, 2, 3, 5], [0, 1, 2, 4, 5], [0, 1, 3, 4, 5], [0, 2, 3, 4, 5], [1, 2, 3, 4, 5]], Gp (pick [a, b, c, d, e, x] pl) := fun pl hp => key pl ((some_perm 5 6).mem_iff.mpr (by rw [v6]; exact hp))
      have q1 := five_gp (a := a) (b := b) (c := c) (d := d) (e := e) (m [0, 1, 2, 3, 4] (by simp))
      have q2 := five_gp (a := a) (b := b) (c := c) (d := d) (e := x) (m [0, 1, 2, 3, 5] (by simp))
      have q3 := five_gp (a := a) (b := b) (c := c) (d := e) (e := x) (m [0, 1, 2, 4, 5] (by simp))
      have q4 := five_gp (a := a) (b := b) (c := d) (d := e) (e := x) (m [0, 1, 3, 4, 5] (by simp))
      have q5 := five_gp (a := a) (b := c) (c := d) (d := e) (e := x) (m [0, 2, 3, 4, 5] (by simp))
      have q6 := five_gp (a := b) (b := c) (c := d) (d := e) (e := x) (m [1, 2, 3, 4, 5] (by simp))
      refine ⟨fun pl hp => ?_, ?_, ?_⟩
      · have hp' := (some_perm 5 6).mem_iff.mp hp
        rw [v6] at hp'
        simp only [List.mem_cons, List.not_mem_nil, or_false] at hp'
        rcases hp' with rfl | rfl | rfl | rfl | rfl | rfl
        · rw [i1]; exact q1
        · rw [i2]; exact q2
        · rw [i3]; exact q3
        · rw [i4]; exact q4
        · rw [i5]; exact q5
        · rw [i6]; exact q6
      · rw [show [a, b, c, d, e, x].length = 6 from rfl, v6]
        simp only [List.map_cons, List.map_nil, List.sum_cons, List.sum_nil, i1, i2, i3, i4, i5, i6]
        omega
      · rw [l4, show [a, b, c, d, e, x].length = 6 from rfl, f6]
        show 15 ≤ _
        omega
end L78
namespace L78
open PySem hiding ret
open Py L2 R74
open HS (P2 rowsT Gen ins spr cor)
theorem perm_sum {l l' : List Nat} (h : l.Perm l') : l.sum = l'.sum := by
  induction h with
  | nil => rfl
  | cons x _ ih => rw [List.sum_cons, List.sum_cons, ih]
  | swap x y l => rw [List.sum_cons, List.sum_cons, List.sum_cons, List.sum_cons]; omega
  | trans _ _ h1 h2 => exact h1.trans h2
def cf2f : Py.Env → M Out := (sAsg 1 (bin gSub (bin gAdd (eVar 1) (bin gMulX (eC (.int 2)) (cal cLen (aCons (eCall 1 F_hull_corners (aCons (cal cTup (aCons (mkL (eLc (itSeq (eVar 2)) (tgN 3) cYes (bin gIx (eVar 0) (eVar 3)) [3])) aNil)) aNil)) aNil)))) (eC (.int 5))))
def cf2 : Py.Env → M Out := (sFor (itSeq (eCall 2 F_places_of (aCons (cal cLen (aCons (eVar 0) aNil)) (aCons (eC (.int 5)) aNil)))) (tgN 2) cf2f)
def cf3 : Py.Env → M Out := (sRet (bin gFdiv (eVar 1) (bin gSub (cal cLen (aCons (eVar 0) aNil)) (eC (.int 4)))))
theorem b_count_by_fives_eq : b_count_by_fives = (sSeq (sAsg 1 (eC (.int 0))) (sSeq cf2 cf3)) := rfl
theorem cor_le {L : List P2} : (corners L).length ≤ L.length := by
  rw [corners, List.length_map]
  have := List.length_filter_le (crn L) (List.range L.length)
  rw [List.length_range] at this
  exact this
theorem cf_loop {L : List P2} (g : Gp L) (n : L.length = 5 ∨ L.length = 6) : ∀ (pls : List (List Nat)) (t : Int) (ρ : Py.Env), (∀ pl ∈ pls, pl ∈ some' 5 L.length) → ρ.length = 4 → ρ[0]? = some (some (ptsT L)) → ρ[1]? = some (some (.int t)) →
    ∃ ρ', ρ'.length = 4 ∧ ρ'[0]? = some (some (ptsT L)) ∧ ρ'[1]? = some (some (.int (t + ((pls.map fun pl => (inn L pl).length).sum : Nat)))) ∧ forW (tgN 2) cf2f (pls.map lotD) ρ = ret (.nx ρ')
  | [], t, ρ, _, hl, h0, h1 => ⟨ρ, hl, h0, by rw [h1]; simp, rfl⟩
  | pl :: pls, t, ρ, hp, hl, h0, h1 => by
    obtain ⟨pk, asc, lt⟩ := some_mem.mp (hp pl (by simp))
    have q := (all_fives g n).1 pl (hp pl (by simp))
    have g5 := pick_gp g asc lt
    have k5 : (pick L pl).length = 5 := by rw [pick, List.length_map, pk]
    have r0 : (ρ.set 2 (some (lotD pl)))[0]? = some (some (ptsT L)) := by rw [List.getElem?_set_ne (by decide), h0]
    have r1 : (ρ.set 2 (some (lotD pl)))[1]? = some (some (.int t)) := by rw [List.getElem?_set_ne (by decide), h1]
    have r2 : (ρ.set 2 (some (lotD pl)))[2]? = some (some (lotD pl)) := set9 (by rw [hl]; decide)
    have rl : (ρ.set 2 (some (lotD pl))).length = 4 := by rw [List.length_set, hl]
    generalize hρ : ρ.set 2 (some (lotD pl)) = ρ1 at *
    have pp := pick_e (ρ := ρ1) (L := L) (pl := pl) (i := 0) (j := 2) (r := 3) (by rw [rl]; decide) r0 r2 (by decide) lt
    have ct : cal cTup (aCons (mkL (eLc (itSeq (eVar 2)) (tgN 3) cYes (bin gIx (eVar 0) (eVar 3)) [3])) aNil) ρ1 = ret (ptsT (pick L pl)) := by rw [x_cal, args_e pp, bnd_ret', x_cTup_l]; rfl
    have hu : eCall 1 F_hull_corners (aCons (cal cTup (aCons (mkL (eLc (itSeq (eVar 2)) (tgN 3) cYes (bin gIx (eVar 0) (eVar 3)) [3])) aNil)) aNil) ρ1 = ret (ptsT (corners (pick L pl))) := (eCall_1 _ (args_e ct)).trans (hull_eq g5 (by omega) (by omega))
    have cl : cal cLen (aCons (eCall 1 F_hull_corners (aCons (cal cTup (aCons (mkL (eLc (itSeq (eVar 2)) (tgN 3) cYes (bin gIx (eVar 0) (eVar 3)) [3])) aNil)) aNil)) aNil) ρ1 = ret (.int ((corners (pick L pl)).length : Nat)) := by
      rw [x_cal, args_e hu, bnd_ret', ptsT, x_cLen_t, List.length_map]
    have cb : Py.B 4 (((corners (pick L pl)).length : Nat) : Int) := by
      have := cor_le (L := pick L pl)
      unfold Py.B
      rw [Int.natAbs_natCast]; omega
    haveI := cb.q
    have e : bin gSub (bin gAdd (eVar 1) (bin gMulX (eC (.int 2)) (cal cLen (aCons (eCall 1 F_hull_corners (aCons (cal cTup (aCons (mkL (eLc (itSeq (eVar 2)) (tgN 3) cYes (bin gIx (eVar 0) (eVar 3)) [3])) aNil)) aNil)) aNil)))) (eC (.int 5)) ρ1 = ret (.int (t + ((inn L pl).length : Nat))) := by
      rw [x_bin, x_bin, var_eq r1, bnd_ret', x_bin, x_eC, bnd_ret', cl, bnd_ret', a_mul (show 2 + 4 < 900000 by decide), bnd_ret', x_gAdd_i, bnd_ret', x_eC, bnd_ret', a_sub]
      congr 2
      omega
    obtain ⟨ρ2, a1, a2, a3, a4⟩ := cf_loop g n pls (t + ((inn L pl).length : Nat)) (ρ1.set 1 (some (.int (t + ((inn L pl).length : Nat))))) (fun x hx => hp x (List.mem_cons_of_mem _ hx)) (by rw [List.length_set, rl]) (by rw [List.getElem?_set_ne (by decide), r0]) (set9 (by rw [rl]; decide))
    refine ⟨ρ2, a1, a2, ?_, ?_⟩
    · rw [a3, List.map_cons, List.sum_cons]
      congr 3
      omega
    · rw [List.map_cons, forW_cons, x_tgN, bnd_ret', hρ, cf2f, x_sAsg, e, bnd_ret', bnd_ret', oLoop_nx]
      exact a4
theorem count_eq {L : List P2} (g : Gp L) (n : L.length = 5 ∨ L.length = 6) : F_count_by_fives [ptsT L] = ret (.int ((due L).length : Nat)) := by
  refine fn_rt (env := [some (ptsT L), none, none, none]) rfl ?_
  have cl : ∀ ρ : Py.Env, ρ[0]? = some (some (ptsT L)) → cal cLen (aCons (eVar 0) aNil) ρ = ret (.int (L.length : Nat)) := fun ρ h => by rw [x_cal, args_1 h, bnd_ret', ptsT, x_cLen_t, List.length_map]
  have it : itSeq (eCall 2 F_places_of (aCons (cal cLen (aCons (eVar 0) aNil)) (aCons (eC (.int 5)) aNil))) (([some (ptsT L), none, none, none] : Py.Env).set 1 (some (.int 0))) = ret ((some' 5 L.length).map lotD) := by
    rw [x_itSeq, x_eCall, x_aCons, cl _ rfl, bnd_ret', args_e (x_eC _ _), bnd_ret', bnd_ret', if_pos (show [PyData.int (L.length : Nat), PyData.int 5].length = 2 from rfl)]
    rw [show (PyData.int 5) = .int ((5 : Nat) : Int) from rfl, plc_eq (by decide) (by omega), bnd_ret']
    rfl
  obtain ⟨ρ', a1, a2, a3, a4⟩ := cf_loop g n (some' 5 L.length) 0 (([some (ptsT L), none, none, none] : Py.Env).set 1 (some (.int 0))) (fun _ h => h) rfl rfl rfl
  rw [b_count_by_fives_eq, asg_nx (x_eC _ _), x_sSeq, cf2, x_sFor, it, bnd_ret', a4, bnd_ret', oThen_nx, cf3, x_sRet, x_bin, var_eq a3, bnd_ret', x_bin, cl _ a2, bnd_ret', x_eC, bnd_ret', a_sub, bnd_ret']
  have s := (all_fives g n).2.1
  rw [← perm_sum ((some_perm 5 L.length).map _)] at s
  have qb : Py.B 3 (((L.length : Nat) : Int) - 4) := by unfold Py.B; omega
  haveI := qb.q
  rw [a_fdiv (by omega) (show 3 < 9000 by decide), bnd_ret', s]
  congr 3
  have e : (0 + (((L.length - 4) * (due L).length : Nat) : Int)) = ((due L).length : Int) * (((L.length : Nat) : Int) - 4) := by
    rw [Int.zero_add, Int.natCast_mul, Int.mul_comm]
    congr 1
    omega
  rw [e, Int.mul_fdiv_cancel _ (by omega)]
end L78
namespace HS
/-! a free place on the way (x + t, y + t * t) -/
def pairsL : List P2 → List (P2 × P2)
  | [] => []
  | a :: K => K.map (fun b => (a, b)) ++ pairsL K
theorem pairs_pw {R : P2 → P2 → Prop} : ∀ {K : List P2}, (∀ q ∈ pairsL K, R q.1 q.2) → K.Pairwise R
  | [], _ => .nil
  | a :: K, h => by
    refine List.pairwise_cons.mpr ⟨fun b hb => ?_, pairs_pw fun q hq => h q (List.mem_append_right _ hq)⟩
    exact h (a, b) (List.mem_append_left _ (List.mem_map.mpr ⟨b, hb, rfl⟩))
theorem pairs_ne : ∀ {K : List P2}, K.Nodup → ∀ q ∈ pairsL K, q.1 ≠ q.2
  | [], _, q, hq => by cases hq
  | a :: K, nd, q, hq => by
    rcases List.mem_append.mp hq with h | h
    · obtain ⟨b, hb, rfl⟩ := List.mem_map.mp h
      exact fun e => (List.nodup_cons.mp nd).1 (by have e' : a = b := e; rw [e']; exact hb)
    · exact pairs_ne (List.nodup_cons.mp nd).2 q h
theorem pairs_len {K : List P2} (h : K.length ≤ 5) : (pairsL K).length ≤ 10 := by
  match K, h with
  | [], _ => simp [pairsL]
  | [a], _ => simp [pairsL]
  | [a, b], _ => simp [pairsL]
  | [a, b, c], _ => simp [pairsL]
  | [a, b, c, d], _ => simp [pairsL]
  | [a, b, c, d, e], _ => simp [pairsL]
  | a :: b :: c :: d :: e :: f :: K, h => simp at h
def way (x y : Int) (t : Nat) : P2 := (x + (t : Int), y + (t : Int) * (t : Int))
/-- a line meets the way twice at most -/
theorem no_three {a b : P2} {x y : Int} (hn : a ≠ b) {s t u : Nat} (st : s < t) (tu : t < u) (hs : o3 a b (way x y s) = 0) (ht : o3 a b (way x y t) = 0) (hu : o3 a b (way x y u) = 0) : False := by
  unfold o3 way at *
  dsimp only at hs ht hu
  have e1 : ((t : Int) - (s : Int)) * ((b.1 - a.1) * ((t : Int) + (s : Int)) - (b.2 - a.2)) = 0 := by grind
  have e2 : ((u : Int) - (t : Int)) * ((b.1 - a.1) * ((u : Int) + (t : Int)) - (b.2 - a.2)) = 0 := by grind
  have f1 := (Int.mul_eq_zero.mp e1).resolve_left (by omega)
  have f2 := (Int.mul_eq_zero.mp e2).resolve_left (by omega)
  have e3 : (b.1 - a.1) * ((u : Int) - (s : Int)) = 0 := by grind
  have f3 := (Int.mul_eq_zero.mp e3).resolve_right (by omega)
  rw [f3] at f1
  have f4 : b.2 - a.2 = 0 := by simp at f1; omega
  exact hn (Prod.ext (by omega) (by omega))
theorem two_roots {a b : P2} {x y : Int} (hn : a ≠ b) (n : Nat) : ((List.range n).filter fun t => decide (o3 a b (way x y t) = 0)).length ≤ 2 := by
  have pw : ((List.range n).filter fun t => decide (o3 a b (way x y t) = 0)).Pairwise (· < ·) := (List.pairwise_lt_range).filter _
  have m : ∀ t ∈ (List.range n).filter fun t => decide (o3 a b (way x y t) = 0), o3 a b (way x y t) = 0 := fun t ht => of_decide_eq_true (List.mem_filter.mp ht).2
  match h : (List.range n).filter fun t => decide (o3 a b (way x y t) = 0) with
  | [] => simp
  | [_] => simp
  | [_, _] => simp
  | s :: t :: u :: l =>
    rw [h] at pw m
    simp only [List.pairwise_cons] at pw
    exact (no_three hn (pw.1 t (by simp)) (pw.2.1 u (by simp)) (m s (by simp)) (m t (by simp)) (m u (by simp))).elim
theorem flt_or {α : Type} (p q : α → Bool) : ∀ l : List α, (l.filter fun x => p x || q x).length ≤ (l.filter p).length + (l.filter q).length
  | [] => by simp
  | x :: l => by
    have := flt_or p q l
    rw [List.filter_cons, List.filter_cons, List.filter_cons]
    cases p x <;> cases q x <;> simp <;> omega
theorem flt_any {α : Type} (P : List (α → Bool)) (l : List α) (k : Nat) (h : ∀ p ∈ P, (l.filter p).length ≤ k) : (l.filter fun x => P.any fun p => p x).length ≤ k * P.length := by
  induction P with
  | nil => simp
  | cons p P ih =>
    have h1 := h p (by simp)
    have h2 := ih fun q hq => h q (List.mem_cons_of_mem _ hq)
    have h3 := flt_or p (fun x => P.any fun p => p x) l
    simp only [List.any_cons, List.length_cons]
    rw [Nat.mul_succ]
    omega
/-- free of K -/
def FreeOf (K : List P2) (p : P2) : Prop := p ∉ K ∧ K.Pairwise fun b a => o3 a b p ≠ 0
theorem exists_free {K : List P2} (nd : K.Nodup) (h5 : K.length ≤ 5) (x y : Int) : ∃ t : Nat, t ≤ 20 ∧ FreeOf K (way x y t) := by
  by_cases h2 : K.length ≤ 1
  · match K, h2 with
    | [], _ => exact ⟨0, by omega, by simp, .nil⟩
    | [a], _ =>
      by_cases e : way x y 0 = a
      · refine ⟨1, by omega, ?_, by simp⟩
        rw [List.mem_singleton]
        intro e'
        have := congrArg Prod.fst (e'.trans e.symm)
        unfold way at this
        dsimp only at this
        omega
      · exact ⟨0, by omega, by rw [List.mem_singleton]; exact e, by simp⟩
  · have cnt := flt_any ((pairsL K).map fun q t => decide (o3 q.1 q.2 (way x y t) = 0)) (List.range 21) 2 (by
      intro p hp
      obtain ⟨q, hq, rfl⟩ := List.mem_map.mp hp
      exact two_roots (pairs_ne nd q hq) 21)
    rw [List.length_map] at cnt
    have pl := pairs_len h5
    have ex : ∃ t ∈ List.range 21, (((pairsL K).map fun q t => decide (o3 q.1 q.2 (way x y t) = 0)).any fun p => p t) = false := by
      apply Classical.byContradiction
      intro no
      have : ((List.range 21).filter fun x_1 => ((pairsL K).map fun q t => decide (o3 q.1 q.2 (way x y t) = 0)).any fun p => p x_1) = List.range 21 := by
        rw [List.filter_eq_self]
        intro t ht
        cases e : (((pairsL K).map fun q t => decide (o3 q.1 q.2 (way x y t) = 0)).any fun p => p t) with
        | true => rfl
        | false => exact absurd ⟨t, ht, e⟩ no
      rw [this, List.length_range] at cnt
      omega
    obtain ⟨t, ht, et⟩ := ex
    rw [List.any_eq_false] at et
    have ok : ∀ q ∈ pairsL K, o3 q.1 q.2 (way x y t) ≠ 0 := fun q hq e => by
      have := et _ (List.mem_map.mpr ⟨q, hq, rfl⟩)
      simp [e] at this
    have pw : K.Pairwise fun a b => o3 a b (way x y t) ≠ 0 := pairs_pw ok
    refine ⟨t, by have := List.mem_range.mp ht; omega, ?_, pw.imp fun {a b} h => by rw [o3_sw]; omega⟩
    intro hm
    -- on a line with another one
    obtain ⟨l1, l2, e⟩ := List.append_of_mem hm
    have z1 : ∀ b, o3 (way x y t) b (way x y t) = 0 := fun b => by unfold o3; grind
    have z2 : ∀ b, o3 b (way x y t) (way x y t) = 0 := fun b => by unfold o3; grind
    cases l1 with
    | cons c l1 =>
      rw [e] at pw
      exact (List.pairwise_cons.mp pw).1 (way x y t) (by simp) (z2 c)
    | nil =>
      cases l2 with
      | nil => rw [e] at h2; simp at h2
      | cons c l2 =>
        rw [e] at pw
        exact (List.pairwise_cons.mp pw).1 c (by simp) (z1 c)
theorem free_gen {K : List P2} {p : P2} (gen : Gen K) (f : FreeOf K p) : Gen (K ++ [p]) := by
  obtain ⟨np, pw⟩ := f
  have key : ∀ a ∈ K, ∀ b ∈ K, a ≠ b → o3 a b p ≠ 0 := by
    intro a ha b hb ab
    obtain ⟨i, hi, rfl⟩ := List.getElem_of_mem ha
    obtain ⟨j, hj, rfl⟩ := List.getElem_of_mem hb
    rcases Nat.lt_trichotomy i j with h | h | h
    · have := List.pairwise_iff_getElem.mp pw i j hi hj h
      rw [o3_sw]; omega
    · subst h; exact absurd rfl ab
    · exact List.pairwise_iff_getElem.mp pw j i hj hi h
  intro a ha b hb c hc ab bc ac
  have cs : ∀ w ∈ K ++ [p], w ∈ K ∨ w = p := fun w hw => by
    rcases List.mem_append.mp hw with h | h
    · exact .inl h
    · exact .inr (List.mem_singleton.mp h)
  rcases cs a ha with ha' | rfl
  · rcases cs b hb with hb' | rfl
    · rcases cs c hc with hc' | rfl
      · exact gen a ha' b hb' c hc' ab bc ac
      · exact key a ha' b hb' ab
    · rcases cs c hc with hc' | rfl
      · have := key a ha' c hc' ac
        rw [o3_sw2]; omega
      · exact absurd rfl bc
  · rcases cs b hb with hb' | rfl
    · rcases cs c hc with hc' | rfl
      · have := key b hb' c hc' bc
        rw [← o3_cyc]; exact this
      · exact absurd rfl ac
    · exact absurd rfl ab
end HS
namespace L78
open PySem hiding ret
open Py L2 R74
open HS (P2 rowsT Gen ins spr cor FreeOf way)
def fr1f : Py.Env → M Out := (sIf (bOr (tst (bin gEq (eVar 3) (eVar 1))) (tst (bin gNe (mkL (eLc (itSeq (eSl (eVar 0) oNo (oPart (eVar 2)))) (tgN 4) (tst (bin gEq (eCall 3 F__law_side (aCons (eVar 3) (aCons (eVar 4) (aCons (eVar 1) aNil)))) (eC (.int 0)))) (eVar 4) [4])) (mkL (lDisp aNil))))) (sRet (eC (.bool false))) sNx)
def fr1 : Py.Env → M Out := (sFor (itEnum (aCons (eVar 0) aNil)) (tgTup 2 (tgsCons (tgN 2) (tgsCons (tgN 3) tgsNil))) fr1f)
theorem b__law_is_free_eq : b__law_is_free = (sSeq fr1 (sRet (eC (.bool true)))) := rfl
def lotS (K : List P2) : D := .list (K.map vD)
/-- one more is all right -/
def okA (K : List P2) (p : P2) (i : Nat) : Bool := !decide (K.getD i (0, 0) = p) && (K.take i).all fun b => !decide (HS.o3 (K.getD i (0, 0)) b p = 0)
theorem sg0 (x : Int) : decide (sg x = 0) = decide (x = 0) := by
  unfold sg
  by_cases h : 0 < x
  · simp [h, Int.not_lt.mpr (Int.le_of_lt h)]; omega
  · by_cases h' : x < 0
    · simp [h, h']; omega
    · simp [h, h']; omega
theorem shp_lotS (K : List P2) : shp (lotS K) = true := by
  have h := layD (k := 1) (ds := K.map vD) fun d hd => by
    obtain ⟨w, _, rfl⟩ := List.mem_map.mp hd
    exact lay_v w
  refine shp_of ?_ ?_
  · show PyData.canLay0 (.list (K.map vD)) = true
    rw [PyData.canLay0]
    exact h.1
  · show PyData.depth (.list (K.map vD)) ≤ 64
    rw [PyData.depth]
    have := h.2
    omega
theorem fr_lap {K : List P2} {p : P2} {i : Nat} {ρ : Py.Env} (bK : ∀ w ∈ K, Bp 9 w) (bp : Bp 9 p) (hl : ρ.length = 5) (h0 : ρ[0]? = some (some (lotS K))) (h1 : ρ[1]? = some (some (vD p))) (h2 : ρ[2]? = some (some (.int (i : Nat)))) (h3 : ρ[3]? = some (some (vD (K.getD i (0, 0))))) (hi : i < K.length) :
    fr1f ρ = if okA K p i = true then ret (.nx ρ) else ret (.rt (.bool false)) := by
  have t1 : tst (bin gEq (eVar 3) (eVar 1)) ρ = ret (decide (K.getD i (0, 0) = p)) := by
    refine tst_b ?_
    rw [x_bin, var_eq h3, bnd_ret', var_eq h1, bnd_ret']
    show (if (shp (vD (K.getD i (0, 0))) && shp (vD p)) = true then ret (PyData.bool (PyData.eqv (vD (K.getD i (0, 0))) (vD p))) else stuck) = _
    rw [shp_v, shp_v, if_pos (by rfl), eqv_v]
  have e := comp_map (ρ := ρ) (its := itSeq (eSl (eVar 0) oNo (oPart (eVar 2)))) (tg := tgN 4) (cond := tst (bin gEq (eCall 3 F__law_side (aCons (eVar 3) (aCons (eVar 4) (aCons (eVar 1) aNil)))) (eC (.int 0)))) (elt := eVar 4) (vs := [4]) vD (fun b => decide (HS.o3 (K.getD i (0, 0)) b p = 0)) vD (K.take i) (by
    rw [x_itSeq, x_eSl, var_eq h0, bnd_ret', x_oNo, bnd_ret', x_oPart, var_eq h2, bnd_ret', toI_i, bnd_ret', lotS, a_sll, Py.cutD_to (by rw [List.length_map]; omega), bnd_ret', List.map_take]
    rfl) (fun b hb => by
    rw [x_wipeD_cons, x_wipeD_nil]
    have g4 : ((ρ.set 4 none).set 4 (some (vD b)))[4]? = some (some (vD b)) := set9 (by rw [List.length_set, hl]; decide)
    have g3 : ((ρ.set 4 none).set 4 (some (vD b)))[3]? = some (some (vD (K.getD i (0, 0)))) := by rw [List.getElem?_set_ne (by decide), List.getElem?_set_ne (by decide), h3]
    have g1 : ((ρ.set 4 none).set 4 (some (vD b)))[1]? = some (some (vD p)) := by rw [List.getElem?_set_ne (by decide), List.getElem?_set_ne (by decide), h1]
    refine ⟨_, rfl, tst_b ?_, fun _ => var_eq g4⟩
    have se : eCall 3 F__law_side (aCons (eVar 3) (aCons (eVar 4) (aCons (eVar 1) aNil))) ((ρ.set 4 none).set 4 (some (vD b))) = ret (.int (sg (HS.o3 (K.getD i (0, 0)) b p))) := (eCall_3 _ (args_3 g3 g4 g1)).trans (side_eq (bK _ (pick_mem hi)) (bK b (List.mem_of_mem_take hb)) bp (by decide))
    rw [x_bin, se, bnd_ret', x_eC, bnd_ret', a_eq, sg0])
  have t2 : tst (bin gNe (mkL (eLc (itSeq (eSl (eVar 0) oNo (oPart (eVar 2)))) (tgN 4) (tst (bin gEq (eCall 3 F__law_side (aCons (eVar 3) (aCons (eVar 4) (aCons (eVar 1) aNil)))) (eC (.int 0)))) (eVar 4) [4])) (mkL (lDisp aNil))) ρ = ret (!((K.take i).all fun b => !decide (HS.o3 (K.getD i (0, 0)) b p = 0))) := by
    refine tst_b ?_
    rw [x_bin, e, bnd_ret', lnil_e, bnd_ret']
    show (if (shp (lotS ((K.take i).filter fun b => decide (HS.o3 (K.getD i (0, 0)) b p = 0))) && shp (.list [])) = true then ret (PyData.bool (!PyData.eqv (.list (((K.take i).filter fun b => decide (HS.o3 (K.getD i (0, 0)) b p = 0)).map vD)) (.list []))) else stuck) = _
    rw [shp_lotS, shp_nil, if_pos (by rfl), eqv_ints_nil]
    congr 3
    rw [Bool.eq_iff_iff, List.all_eq_true]
    simp only [List.isEmpty_iff, List.map_eq_nil_iff, List.filter_eq_nil_iff, decide_eq_true_eq, Bool.not_eq_true', decide_eq_false_iff_not]
  have t3 : bOr (tst (bin gEq (eVar 3) (eVar 1))) (tst (bin gNe (mkL (eLc (itSeq (eSl (eVar 0) oNo (oPart (eVar 2)))) (tgN 4) (tst (bin gEq (eCall 3 F__law_side (aCons (eVar 3) (aCons (eVar 4) (aCons (eVar 1) aNil)))) (eC (.int 0)))) (eVar 4) [4])) (mkL (lDisp aNil)))) ρ = ret (!okA K p i) := by
    rw [x_bOr, t1, bnd_ret']
    unfold okA
    cases decide (K.getD i (0, 0) = p) with
    | true => rw [if_pos rfl]; rfl
    | false => rw [if_neg Bool.false_ne_true, t2]; rfl
  rw [fr1f, x_sIf, t3, bnd_ret']
  cases okA K p i with
  | true => rw [if_pos rfl]; rw [show (!true) = false from rfl, if_neg Bool.false_ne_true, x_sNx]
  | false => rw [if_neg Bool.false_ne_true]; rw [show (!false) = true from rfl, if_pos rfl, x_sRet, x_eC, bnd_ret']
theorem fr_loop {K : List P2} {p : P2} (bK : ∀ w ∈ K, Bp 9 w) (bp : Bp 9 p) : ∀ (m j : Nat) (ρ : Py.Env), j + m = K.length → ρ.length = 5 → ρ[0]? = some (some (lotS K)) → ρ[1]? = some (some (vD p)) →
    (((List.range' j m).all (okA K p)) = true ∧ ∃ ρ', forW (tgTup 2 (tgsCons (tgN 2) (tgsCons (tgN 3) tgsNil))) fr1f (enumD j ((K.drop j).map vD)) ρ = ret (.nx ρ')) ∨
    (((List.range' j m).all (okA K p)) = false ∧ forW (tgTup 2 (tgsCons (tgN 2) (tgsCons (tgN 3) tgsNil))) fr1f (enumD j ((K.drop j).map vD)) ρ = ret (.rt (.bool false)))
  | 0, j, ρ, hj, hl, h0, h1 => by
    rw [List.drop_of_length_le (by omega)]
    exact .inl ⟨rfl, ρ, rfl⟩
  | m + 1, j, ρ, hj, hl, h0, h1 => by
    have hjl : j < K.length := by omega
    have ed : K.drop j = K.getD j (0, 0) :: K.drop (j + 1) := by
      rw [List.drop_eq_getElem_cons hjl, List.getD_eq_getElem?_getD, List.getElem?_eq_getElem hjl]
      rfl
    have st := fr_lap (K := K) (p := p) (i := j) (ρ := (ρ.set 2 (some (.int (j : Nat)))).set 3 (some (vD (K.getD j (0, 0))))) bK bp (by simp only [List.length_set, hl]) (by rw [List.getElem?_set_ne (by decide), List.getElem?_set_ne (by decide), h0]) (by rw [List.getElem?_set_ne (by decide), List.getElem?_set_ne (by decide), h1]) (by rw [List.getElem?_set_ne (by decide), set9 (by rw [hl]; decide)]) (set9 (by rw [List.length_set, hl]; decide)) hjl
    rw [ed, List.map_cons, List.range'_succ, List.all_cons]
    show _ ∨ _ ∧ forW _ fr1f (.tuple [.int (j : Nat), vD (K.getD j (0, 0))] :: enumD (j + 1) ((K.drop (j + 1)).map vD)) ρ = _
    have e0 : forW (tgTup 2 (tgsCons (tgN 2) (tgsCons (tgN 3) tgsNil))) fr1f (.tuple [.int (j : Nat), vD (K.getD j (0, 0))] :: enumD (j + 1) ((K.drop (j + 1)).map vD)) ρ = bnd (fr1f ((ρ.set 2 (some (.int (j : Nat)))).set 3 (some (vD (K.getD j (0, 0)))))) fun o => oLoop o (forW (tgTup 2 (tgsCons (tgN 2) (tgsCons (tgN 3) tgsNil))) fr1f (enumD (j + 1) ((K.drop (j + 1)).map vD))) := by
      rw [forW_cons, tgAB, bnd_ret']
    show (_ ∧ ∃ ρ', forW _ fr1f (.tuple [.int (j : Nat), vD (K.getD j (0, 0))] :: enumD (j + 1) ((K.drop (j + 1)).map vD)) ρ = _) ∨ _
    rw [e0, st]
    cases h : okA K p j with
    | true =>
      rw [if_pos rfl, bnd_ret', oLoop_nx, Bool.true_and]
      exact fr_loop bK bp m (j + 1) _ (by omega) (by simp only [List.length_set, hl]) (by rw [List.getElem?_set_ne (by decide), List.getElem?_set_ne (by decide), h0]) (by rw [List.getElem?_set_ne (by decide), List.getElem?_set_ne (by decide), h1])
    | false =>
      rw [if_neg Bool.false_ne_true, bnd_ret', oLoop_rt, Bool.false_and]
      exact .inr ⟨rfl, rfl⟩
def freeB (K : List P2) (p : P2) : Bool := (List.range K.length).all (okA K p)
theorem free_eq {K : List P2} {p : P2} (bK : ∀ w ∈ K, Bp 9 w) (bp : Bp 9 p) : F__law_is_free [lotS K, vD p] = ret (.bool (freeB K p)) := by
  refine fn_rt (env := [some (lotS K), some (vD p), none, none, none]) rfl ?_
  have it : itEnum (aCons (eVar 0) aNil) ([some (lotS K), some (vD p), none, none, none] : Py.Env) = ret (enumD 0 ((K.drop 0).map vD)) := by
    rw [x_itEnum, args_1 rfl, bnd_ret']
    rfl
  rw [b__law_is_free_eq, x_sSeq, fr1, x_sFor, it, bnd_ret', freeB, List.range_eq_range']
  rcases fr_loop bK bp K.length 0 [some (lotS K), some (vD p), none, none, none] (by omega) rfl rfl rfl with ⟨a, ρ', e⟩ | ⟨a, e⟩
  · rw [e, bnd_ret', oThen_nx, a, x_sRet, x_eC, bnd_ret']
  · rw [e, bnd_ret', oThen_rt, a]
theorem freeB_iff {K : List P2} {p : P2} : freeB K p = true ↔ FreeOf K p := by
  unfold freeB FreeOf okA
  rw [List.all_eq_true]
  simp only [List.mem_range, Bool.and_eq_true, Bool.not_eq_true', decide_eq_false_iff_not, List.all_eq_true]
  have gd : ∀ i (h : i < K.length), K.getD i (0, 0) = K[i] := fun i h => by rw [List.getD_eq_getElem?_getD, List.getElem?_eq_getElem h]; rfl
  constructor
  · intro h
    refine ⟨fun m => ?_, List.pairwise_iff_getElem.mpr fun i j hi hj ij => ?_⟩
    · obtain ⟨i, hi, e⟩ := List.getElem_of_mem m
      exact (h i hi).1 (by rw [gd i hi]; exact e)
    · have := (h j hj).2 K[i] (List.mem_take_iff_getElem.mpr ⟨i, by omega, rfl⟩)
      rw [gd j hj] at this
      exact this
  · rintro ⟨h1, h2⟩ j hj
    rw [gd j hj]
    refine ⟨fun e => h1 (e ▸ List.getElem_mem hj), fun b hb => ?_⟩
    obtain ⟨i, hi, rfl⟩ := List.mem_take_iff_getElem.mp hb
    exact List.pairwise_iff_getElem.mp h2 i j (by omega) hj (by omega)
end L78
namespace L78
open PySem hiding ret
open Py L2 R74
open HS (P2 rowsT Gen ins spr cor FreeOf way)
def wcond : Py.Env → M Bool := (bNot (tst (eCallV 2 F__law_is_free (aCons (eVar 3) (aCons (eVar 9) aNil)))))
def wbody : Py.Env → M Out := (sSeq (sAsg 10 (bin gAdd (eVar 10) (eC (.int 1))))
  (sAsg 9 (eTup (aCons (bin gAdd (eVar 7) (eVar 10)) (aCons (bin gAdd (eVar 8) (bin gMulX (eVar 10) (eVar 10))) aNil)))))
def la1f3f1 : Py.Env → M Out := (sPar 7 8 (aCons (bin gSub (eCallS 1 1 F__law_pick (aCons (bin gAdd (bin gMulX (eC (.int 2)) (eVar 5)) (eC (.int 1))) aNil)) (eVar 5)) (aCons (bin gSub (eCallS 1 1 F__law_pick (aCons (bin gAdd (bin gMulX (eC (.int 2)) (eVar 5)) (eC (.int 1))) aNil)) (eVar 5)) aNil)))
def la1f3f2 : Py.Env → M Out := (sPar 9 10 (aCons (eTup (aCons (eVar 7) (aCons (eVar 8) aNil))) (aCons (eC (.int 0)) aNil)))
def la1f3f3 : Py.Env → M Out := (sWhile (fun _ => 200) wcond wbody)
def la1f3f4 : Py.Env → M Out := (sApp 3 (eVar 9))
def la1f3f : Py.Env → M Out := (sSeq la1f3f1 (sSeq la1f3f2 (sSeq la1f3f3 la1f3f4)))
structure Dr (n : Nat) (most : Int) (K : List P2) (ρ : Py.Env) : Prop where
  len : ρ.length = 18
  e1 : ρ[1]? = some (some .none)
  e3 : ρ[3]? = some (some (lotS K))
  e4 : ρ[4]? = some (some (.int (n : Nat)))
  e5 : ρ[5]? = some (some (.int most))
theorem Dr.set {n : Nat} {most : Int} {K : List P2} {ρ : Py.Env} (s : Dr n most K ρ) {i : Nat} {v : Option D} (hi : 6 ≤ i) : Dr n most K (ρ.set i v) :=
  ⟨by rw [List.length_set, s.len], by rw [List.getElem?_set_ne (by omega), s.e1], by rw [List.getElem?_set_ne (by omega), s.e3], by rw [List.getElem?_set_ne (by omega), s.e4], by rw [List.getElem?_set_ne (by omega), s.e5]⟩
theorem way_B {x y : Int} {t : Nat} (x0 : -20 ≤ x) (x1 : x ≤ 20) (y0 : -20 ≤ y) (y1 : y ≤ 20) (ht : t ≤ 20) : Bp 9 (way x y t) := by
  have h : t * t ≤ 20 * 20 := Nat.mul_le_mul ht ht
  have h' : (t : Int) * (t : Int) = ((t * t : Nat) : Int) := by rw [Int.natCast_mul]
  unfold way
  constructor
  · show (x + (t : Int)).natAbs ≤ 512
    omega
  · show (y + (t : Int) * (t : Int)).natAbs ≤ 512
    rw [h']; omega
theorem while_ok {n : Nat} {most : Int} {K : List P2} {x y : Int} {t0 : Nat} (bK : ∀ w ∈ K, Bp 9 w) (x0 : -20 ≤ x) (x1 : x ≤ 20) (y0 : -20 ≤ y) (y1 : y ≤ 20) (h20 : t0 ≤ 20) (hf : FreeOf K (way x y t0)) : ∀ (d t f : Nat) (ρ : Py.Env), d < f → t + d = t0 →
    Dr n most K ρ → ρ[7]? = some (some (.int x)) → ρ[8]? = some (some (.int y)) → ρ[9]? = some (some (vD (way x y t))) → ρ[10]? = some (some (.int (t : Nat))) →
    ∃ t' ρ', t' ≤ 20 ∧ FreeOf K (way x y t') ∧ Dr n most K ρ' ∧ ρ'[9]? = some (some (vD (way x y t'))) ∧ whW wcond wbody f ρ = ret (.nx ρ') := by
  intro d
  induction d with
  | zero =>
    intro t f ρ hf' ht s h7 h8 h9 h10
    obtain ⟨f, rfl⟩ : ∃ g, f = g + 1 := ⟨f - 1, by omega⟩
    have et : t = t0 := by omega
    subst et
    have fb := freeB_iff.mpr hf
    have g : wcond ρ = ret false := by
      have e : eCallV 2 F__law_is_free (aCons (eVar 3) (aCons (eVar 9) aNil)) ρ = ret (.bool true) := by
        unfold eCallV
        rw [args_2 s.e3 h9, bnd_ret', if_pos (show [lotS K, vD (way x y t)].length = 2 from rfl), free_eq bK (way_B x0 x1 y0 y1 h20), bnd_ret', fb]
        rfl
      rw [wcond, x_bNot, tst_b e, bnd_ret']
      rfl
    refine ⟨t, ρ, h20, hf, s, h9, ?_⟩
    show bnd (wcond ρ) _ = _
    rw [g, bnd_ret', if_neg Bool.false_ne_true]
  | succ d ih =>
    intro t f ρ hf' ht s h7 h8 h9 h10
    obtain ⟨f, rfl⟩ : ∃ g, f = g + 1 := ⟨f - 1, by omega⟩
    have e : eCallV 2 F__law_is_free (aCons (eVar 3) (aCons (eVar 9) aNil)) ρ = ret (.bool (freeB K (way x y t))) := by
      unfold eCallV
      rw [args_2 s.e3 h9, bnd_ret', if_pos (show [lotS K, vD (way x y t)].length = 2 from rfl), free_eq bK (way_B x0 x1 y0 y1 (by omega)), bnd_ret']
      rfl
    have g : wcond ρ = ret (!freeB K (way x y t)) := by rw [wcond, x_bNot, tst_b e, bnd_ret']
    cases fb : freeB K (way x y t) with
    | true =>
      refine ⟨t, ρ, by omega, freeB_iff.mp fb, s, h9, ?_⟩
      show bnd (wcond ρ) _ = _
      rw [g, fb, bnd_ret']
      rfl
    | false =>
      have s1 := s.set (i := 10) (v := some (.int ((t + 1 : Nat) : Int))) (by decide)
      have q10 : (ρ.set 10 (some (.int ((t + 1 : Nat) : Int))))[10]? = some (some (.int ((t + 1 : Nat) : Int))) := set9 (by rw [s.len]; decide)
      have q7 : (ρ.set 10 (some (.int ((t + 1 : Nat) : Int))))[7]? = some (some (.int x)) := by rw [List.getElem?_set_ne (by decide), h7]
      have q8 : (ρ.set 10 (some (.int ((t + 1 : Nat) : Int))))[8]? = some (some (.int y)) := by rw [List.getElem?_set_ne (by decide), h8]
      have eb : wbody ρ = ret (.nx ((ρ.set 10 (some (.int ((t + 1 : Nat) : Int)))).set 9 (some (vD (way x y (t + 1)))))) := by
        have a1 : bin gAdd (eVar 10) (eC (.int 1)) ρ = ret (.int ((t + 1 : Nat) : Int)) := by rw [x_bin, var_eq h10, bnd_ret', x_eC, bnd_ret', x_gAdd_i]; rfl
        rw [wbody, asg_nx a1]
        generalize (ρ.set 10 (some (.int ((t + 1 : Nat) : Int)))) = ρ1 at *
        have bt : Py.B 5 ((t + 1 : Nat) : Int) := by unfold Py.B; rw [Int.natAbs_natCast]; omega
        haveI := bt.q
        have e1 : bin gAdd (eVar 7) (eVar 10) ρ1 = ret (.int (x + ((t + 1 : Nat) : Int))) := by rw [x_bin, var_eq q7, bnd_ret', var_eq q10, bnd_ret', x_gAdd_i]
        have e2 : bin gAdd (eVar 8) (bin gMulX (eVar 10) (eVar 10)) ρ1 = ret (.int (y + ((t + 1 : Nat) : Int) * ((t + 1 : Nat) : Int))) := by rw [x_bin, var_eq q8, bnd_ret', x_bin, var_eq q10, bnd_ret', bnd_ret', a_mul (show 5 + 5 < 900000 by decide), bnd_ret', x_gAdd_i]
        rw [x_sAsg, eTup_2 e1 e2, bnd_ret']
        rfl
      obtain ⟨t', ρ', a1, a2, a3, a4, a5⟩ := ih (t + 1) f ((ρ.set 10 (some (.int ((t + 1 : Nat) : Int)))).set 9 (some (vD (way x y (t + 1))))) (by omega) (by omega) (s1.set (by decide)) (by rw [List.getElem?_set_ne (by decide), q7]) (by rw [List.getElem?_set_ne (by decide), q8]) (set9 (by rw [s1.len]; decide)) (by rw [List.getElem?_set_ne (by decide), q10])
      refine ⟨t', ρ', a1, a2, a3, a4, ?_⟩
      show bnd (wcond ρ) _ = _
      rw [g, fb, bnd_ret', if_pos (show (!false) = true from rfl), eb, bnd_ret', oLoop_nx]
      exact a5
theorem draw_n {n : Nat} {most : Int} {K : List P2} {ρ : Py.Env} {Q : D → Prop} (s : Dr n most K ρ) (m1 : 1 ≤ most) (m2 : most ≤ 20) (k : ∀ x : Int, -20 ≤ x → x ≤ 20 → Q (.int x)) :
    bin gSub (eCallS 1 1 F__law_pick (aCons (bin gAdd (bin gMulX (eC (.int 2)) (eVar 5)) (eC (.int 1))) aNil)) (eVar 5) ρ Q := by
  have bm : Py.B 5 most := by unfold Py.B; omega
  haveI := bm.q
  have e : bin gAdd (bin gMulX (eC (.int 2)) (eVar 5)) (eC (.int 1)) ρ = ret (.int (2 * most + 1)) := by
    rw [x_bin, x_bin, x_eC, bnd_ret', var_eq s.e5, bnd_ret', a_mul (show 2 + 5 < 900000 by decide), bnd_ret', x_eC, bnd_ret', x_gAdd_i]
  rw [x_bin, bnd_app']
  refine Py.pick_c (s := 1) s.e1 e (by omega) (by omega) fun j j0 j1 => ?_
  rw [var_eq s.e5, bnd_ret', a_sub, ret_app]
  exact k _ (by omega) (by omega)
/-- one point more -/
theorem lap_dr {n : Nat} {most : Int} {K : List P2} {ρ : Py.Env} {P : Out → Prop} (s : Dr n most K ρ) (g : Gp K) (k5 : K.length ≤ 5) (m1 : 1 ≤ most) (m2 : most ≤ 20) (k : ∀ p ρ', Gp (K ++ [p]) → Dr n most (K ++ [p]) ρ' → P (.nx ρ')) : la1f3f ρ P := by
  rw [la1f3f, x_sSeq, bnd_app', la1f3f1, x_sPar, bnd_app', aCons_app]
  refine draw_n s m1 m2 fun x x0 x1 => ?_
  rw [aCons_app]
  refine draw_n s m1 m2 fun y y0 y1 => ?_
  show oThen (.nx ((ρ.set 7 (some (.int x))).set 8 (some (.int y)))) (sSeq la1f3f2 (sSeq la1f3f3 la1f3f4)) P
  rw [oThen_nx]
  have s2 : Dr n most K ((ρ.set 7 (some (.int x))).set 8 (some (.int y))) := (s.set (by decide)).set (by decide)
  have q7 : ((ρ.set 7 (some (.int x))).set 8 (some (.int y)))[7]? = some (some (.int x)) := by rw [List.getElem?_set_ne (by decide), set9 (by rw [s.len]; decide)]
  have q8 : ((ρ.set 7 (some (.int x))).set 8 (some (.int y)))[8]? = some (some (.int y)) := set9 (by rw [List.length_set, s.len]; decide)
  generalize (ρ.set 7 (some (.int x))).set 8 (some (.int y)) = ρ1 at *
  have e2 : la1f3f2 ρ1 = ret (.nx ((ρ1.set 9 (some (vD (way x y 0)))).set 10 (some (.int ((0 : Nat) : Int))))) := by
    rw [la1f3f2, x_sPar, x_aCons, eTup_2 (var_eq q7) (var_eq q8), bnd_ret', args_e (x_eC _ _), bnd_ret', bnd_ret', par2_2]
    have w : vD (way x y 0) = .tuple [.int x, .int y] := by
      show PyData.tuple [.int (x + ((0 : Nat) : Int)), .int (y + ((0 : Nat) : Int) * ((0 : Nat) : Int))] = _
      simp
    rw [w]
    rfl
  rw [seq_nx e2]
  have s3 : Dr n most K ((ρ1.set 9 (some (vD (way x y 0)))).set 10 (some (.int ((0 : Nat) : Int)))) := (s2.set (by decide)).set (by decide)
  obtain ⟨t0, h20, hf⟩ := HS.exists_free g.nd k5 x y
  obtain ⟨t', ρ', a1, a2, a3, a4, a5⟩ := while_ok (n := n) (most := most) (K := K) (x := x) (y := y) (t0 := t0) g.bd x0 x1 y0 y1 h20 hf t0 0 200 ((ρ1.set 9 (some (vD (way x y 0)))).set 10 (some (.int ((0 : Nat) : Int)))) (by omega) (by omega) s3 (by rw [List.getElem?_set_ne (by decide), List.getElem?_set_ne (by decide), q7]) (by rw [List.getElem?_set_ne (by decide), List.getElem?_set_ne (by decide), q8])
    (by rw [List.getElem?_set_ne (by decide), set9 (by rw [s2.len]; decide)]) (set9 (by rw [List.length_set, s2.len]; decide))
  have e3 : la1f3f3 ((ρ1.set 9 (some (vD (way x y 0)))).set 10 (some (.int ((0 : Nat) : Int)))) = ret (.nx ρ') := a5
  rw [seq_nx e3, la1f3f4, app_e a3.e3 (var_eq a4) (by rw [List.length_map]; omega), ret_app]
  refine k (way x y t') _ ⟨?_, HS.free_gen g.gen a2, ?_⟩ ⟨by rw [List.length_set, a3.len], by rw [List.getElem?_set_ne (by decide), a3.e1], ?_, by rw [List.getElem?_set_ne (by decide), a3.e4], by rw [List.getElem?_set_ne (by decide), a3.e5]⟩
  · rw [List.nodup_append]
    exact ⟨g.nd, by simp, fun u hu v hv e => a2.1 (by rw [List.mem_singleton.mp hv] at e; rw [← e]; exact hu)⟩
  · intro w hw
    rcases List.mem_append.mp hw with h | h
    · exact g.bd w h
    · rw [List.mem_singleton.mp h]; exact way_B x0 x1 y0 y1 a1
  · rw [set9 (by rw [a3.len]; decide), lotS, List.map_append]
    rfl
theorem laps_dr {n : Nat} {most : Int} {P : Out → Prop} (m1 : 1 ≤ most) (m2 : most ≤ 20) : ∀ (ds : List D) (K : List P2) (ρ : Py.Env), Dr n most K ρ → Gp K → K.length + ds.length ≤ 6 → (∀ K' ρ', Gp K' → Dr n most K' ρ' → K'.length = K.length + ds.length → P (.nx ρ')) → forW (tgN 6) la1f3f ds ρ P
  | [], K, ρ, s, g, _, k => k K ρ g s (by simp)
  | d :: ds, K, ρ, s, g, h6, k => by
    rw [List.length_cons] at h6
    rw [forW_cons, x_tgN, bnd_ret', bnd_app']
    refine lap_dr (s.set (by decide)) g (by omega) m1 m2 fun p ρ' g' s' => ?_
    rw [oLoop_nx]
    refine laps_dr m1 m2 ds (K ++ [p]) ρ' s' g' (by rw [List.length_append, List.length_singleton]; omega) fun K' ρ2 g2 s2 hl => ?_
    exact k K' ρ2 g2 s2 (by rw [hl, List.length_append, List.length_singleton, List.length_cons]; omega)
end L78
namespace L78
open PySem hiding ret
open Py L2
structure RqOk (d : D) : Prop where
  rep : cReprX [d] = ret (.str d.shown)
  shp : Py.shp (.str d.shown) = true
theorem rokq {d : D} (h : rok d) : RqOk d := ⟨by
  show (if rpOk d = true then ret (PyData.str d.shown) else if rpX d = true then ret (.str d.shown) else stuck) = _
  rw [if_pos h.rp], h.shp⟩
theorem neX_self {x : Str} (h : Py.shp (.str x) = true) : gNeX (.str x) (.str x) = ret (.bool false) := by
  show (if (Py.shp (.str x) && Py.shp (.str x)) = true then ret (PyData.bool (!PyData.eqv (.str x) (.str x))) else _) = _
  rw [h, Bool.and_self, if_pos rfl]
  simp [PyData.eqv]
theorem rep_neX {a b : Py.Env → M D} {ρ : Py.Env} {d : D} (ha : a ρ = ret d) (hb : b ρ = ret d) (h : RqOk d) : bin gNeX (cal cReprX (aCons a aNil)) (cal cReprX (aCons b aNil)) ρ = ret (.bool false) := by
  rw [x_bin, x_cal, args_e ha, bnd_ret', h.rep, bnd_ret', x_cal, args_e hb, bnd_ret', h.rep, bnd_ret', neX_self h.shp]
theorem rep_held {a b : Py.Env → M D} {ρ : Py.Env} {d : D} (ha : a ρ = ret d) (hb : b ρ = ret (.str d.shown)) (h : RqOk d) : bin gNeX (cal cReprX (aCons a aNil)) b ρ = ret (.bool false) := by
  rw [x_bin, x_cal, args_e ha, bnd_ret', h.rep, bnd_ret', hb, bnd_ret', neX_self h.shp]
theorem eqX_i (a b : Int) : gEqX (.int a) (.int b) = ret (.bool (decide (a = b))) := by
  show (if (Py.shp (.int a) && Py.shp (.int b)) = true then ret (PyData.bool (PyData.eqv (.int a) (.int b))) else _) = _
  rw [shp_int, shp_int, Bool.and_self, if_pos rfl, eqv_int]
theorem neX_i (a b : Int) : gNeX (.int a) (.int b) = ret (.bool (!decide (a = b))) := by
  show (if (Py.shp (.int a) && Py.shp (.int b)) = true then ret (PyData.bool (!PyData.eqv (.int a) (.int b))) else _) = _
  rw [shp_int, shp_int, Bool.and_self, if_pos rfl, eqv_int]
theorem neX_b (a b : Bool) : gNeX (.bool a) (.bool b) = ret (.bool (!decide (a = b))) := by
  cases a <;> cases b <;> rfl
end L78
namespace L78
open PySem hiding ret
open Py L2 R74
open HS (P2 rowsT Gen ins spr cor FreeOf way)
def la1f1 : Py.Env → M Out := (sParO2 3 4 (lDisp aNil) (bin gAdd (eC (.int 4)) (eCallS 1 1 F__law_pick (aCons (eC (.int 3)) aNil))))
def la1f2 : Py.Env → M Out := (sAsg 5 (eCallS 1 1 F__law_of (aCons (mkL (lDisp (aCons (eC (.int 3)) (aCons (eC (.int 6)) (aCons (eC (.int 20)) aNil))))) aNil)))
def la1f3 : Py.Env → M Out := (sFor (itRng1 (aCons (eVar 4) aNil)) (tgN 6) la1f3f)
def la1f4 : Py.Env → M Out := (sAsg 3 (cal cTup (aCons (mkL (calL cSrt (aCons (eVar 3) aNil))) aNil)))
def la1f5 : Py.Env → M Out := (sPar 11 12 (aCons (cal cReprX (aCons (eVar 3) aNil)) (aCons (mkL (eLc (itSeq (eCall 2 F__law_some (aCons (eVar 4) (aCons (eC (.int 4)) aNil)))) (tgN 14) (tst (eCall 1 F__law_is_spread (aCons (mkL (eLc (itSeq (eVar 14)) (tgN 17) cYes (bin gIx (eVar 3) (eVar 17)) [17])) aNil))) (eVar 14) [14])) aNil)))
def la1f6 : Py.Env → M Out := (sIf (tst (bin gNeX (cal cReprX (aCons (eCall 1 F_spread_fours (aCons (eVar 3) aNil)) aNil)) (cal cReprX (aCons (cal cTup (aCons (eVar 12) aNil)) aNil)))) (sRet (eC (.bool false))) sNx)
def la1f7 : Py.Env → M Out := (sAsg 13 (cal cTup (aCons (mkL (eLc (itSeq (eCallS 1 1 F__law_of (aCons (eCall 2 F__law_some (aCons (eVar 4) (aCons (eC (.int 4)) aNil))) aNil))) (tgN 17) cYes (bin gIx (eVar 3) (eVar 17)) [17])) aNil)))
def la1f8 : Py.Env → M Out := (sIf (tst (bin gNeX (cal cReprX (aCons (eCall 1 F_is_spread (aCons (eVar 13) aNil)) aNil)) (cal cReprX (aCons (eCall 1 F__law_is_spread (aCons (eVar 13) aNil)) aNil)))) (sRet (eC (.bool false))) sNx)
def la1f9a1f1 : Py.Env → M Out := (sAsg 15 (cal cTup (aCons (mkL (eLc (itSeq (eVar 14)) (tgN 17) cYes (bin gIx (eVar 3) (eVar 17)) [17])) aNil)))
def la1f9a1f2 : Py.Env → M Out := (sAsg 16 (mkL (eLc (itSeq (eVar 12)) (tgN 13) (tst (bin gEqX (mkL (eLc (itSeq (eVar 13)) (tgN 17) (tst (bin (gIn true) (eVar 17) (eVar 14))) (eVar 17) [17])) (mkL (lDisp aNil)))) (eVar 13) [13])))
def la1f9a1f3 : Py.Env → M Out := (sIf (bOr (tst (bin gNeX (cal cLen (aCons (eVar 16) aNil)) (bin gSub (bin gMulX (eC (.int 2)) (cal cLen (aCons (eCall 1 F_hull_corners (aCons (eVar 15) aNil)) aNil))) (eC (.int 5))))) (tst (bin gEqX (eVar 16) (mkL (lDisp aNil))))) (sRet (eC (.bool false))) sNx)
def la1f9a1f : Py.Env → M Out := (sSeq la1f9a1f1 (sSeq la1f9a1f2 la1f9a1f3))
def la1f9a1 : Py.Env → M Out := (sFor (itSeq (eCall 2 F__law_some (aCons (eVar 4) (aCons (eC (.int 5)) aNil)))) (tgN 14) la1f9a1f)
def la1f9a2 : Py.Env → M Out := (sIf (bOr (tst (bin gNeX (cal cReprX (aCons (eCall 1 F_count_by_fives (aCons (eVar 3) aNil)) aNil)) (cal cReprX (aCons (cal cLen (aCons (eVar 12) aNil)) aNil)))) (tst (bin gLt (bin gMulX (eC (.int 5)) (cal cLen (aCons (eVar 12) aNil))) (cal cLen (aCons (eCall 2 F__law_some (aCons (eVar 4) (aCons (eC (.int 4)) aNil))) aNil))))) (sRet (eC (.bool false))) sNx)
def la1f9a : Py.Env → M Out := (sSeq la1f9a1 la1f9a2)
def la1f9 : Py.Env → M Out := (sIf (tst (bin gGt (eVar 4) (eC (.int 4)))) la1f9a sNx)
def la1f10 : Py.Env → M Out := (sIf (tst (bin gNeX (cal cReprX (aCons (eVar 3) aNil)) (eVar 11))) (sRet (eC (.bool false))) sNx)
def la1f : Py.Env → M Out := (sSeq la1f1 (sSeq la1f2 (sSeq la1f3 (sSeq la1f4 (sSeq la1f5 (sSeq la1f6 (sSeq la1f7 (sSeq la1f8 (sSeq la1f9 la1f10)))))))))
def la1 : Py.Env → M Out := (sFor (itRng1 (aCons (eC (.int 3)) aNil)) (tgN 2) la1f)
def la2 : Py.Env → M Out := (sRet (bin gEqX (eCall 1 F_spread_fours (aCons (eTup (aCons (eTup (aCons (eC (.int 0)) (aCons (eC (.int 0)) aNil))) (aCons (eTup (aCons (eC (.int 0)) (aCons (eC (.int 4)) aNil))) (aCons (eTup (aCons (eC (.int 1)) (aCons (eC (.int 1)) aNil))) (aCons (eTup (aCons (eC (.int 2)) (aCons (eC (.int 1)) aNil))) (aCons (eTup (aCons (eC (.int 6)) (aCons (eC (.int 0)) aNil))) aNil)))))) aNil)) (eTup (aCons (eTup (aCons (eC (.int 0)) (aCons (eC (.int 2)) (aCons (eC (.int 3)) (aCons (eC (.int 4)) aNil))))) aNil))))
theorem b_law_eq : b_law = (sSeq la1 la2) := rfl
structure Ck (n : Nat) (L : List P2) (ρ : Py.Env) : Prop where
  len : ρ.length = 18
  e1 : ρ[1]? = some (some .none)
  e3 : ρ[3]? = some (some (ptsT L))
  e4 : ρ[4]? = some (some (.int (n : Nat)))
  g : Gp L
  ln : L.length = n
  n4 : 4 ≤ n
  n6 : n ≤ 6
theorem Ck.set {n : Nat} {L : List P2} {ρ : Py.Env} (s : Ck n L ρ) {i : Nat} {v : Option D} (hi : 5 ≤ i) : Ck n L (ρ.set i v) :=
  ⟨by rw [List.length_set, s.len], by rw [List.getElem?_set_ne (by omega), s.e1], by rw [List.getElem?_set_ne (by omega), s.e3], by rw [List.getElem?_set_ne (by omega), s.e4], s.g, s.ln, s.n4, s.n6⟩
/-! ### what repr wants -/
theorem rk_pts {n : Nat} {L : List P2} {ρ : Py.Env} (s : Ck n L ρ) : rok (ptsT L) :=
  (rk_tuple (n := 6) (m := 1) (s := 2 * (9 + 5) + 3) (fun d hd => by
    obtain ⟨w, hw, rfl⟩ := List.mem_map.mp hd
    exact rk_ints (xs := [w.1, w.2]) (k := 9) (fun x hx => by
      simp only [List.mem_cons, List.not_mem_nil, or_false] at hx
      rcases hx with rfl | rfl
      · exact (s.g.bd w hw).1
      · exact (s.g.bd w hw).2) (by decide) (by simp)) (by rw [List.length_map, s.ln]; exact s.n6)).ok
theorem due_le {L : List P2} {n : Nat} {ρ : Py.Env} (s : Ck n L ρ) : (due L).length ≤ 15 := by
  rw [due_len]
  refine Nat.le_trans (List.length_filter_le _ _) ?_
  have : L.length = 4 ∨ L.length = 5 ∨ L.length = 6 := by have := s.ln; have := s.n4; have := s.n6; omega
  rcases this with h | h | h <;> rw [h] <;> decide
theorem rk_due {n : Nat} {L : List P2} {ρ : Py.Env} (s : Ck n L ρ) : rok (.tuple ((due L).map lotD)) :=
  (rk_tuple (n := 15) (m := 1) (s := 4 * (9 + 5) + 3) (fun d hd => by
    obtain ⟨pl, hp, rfl⟩ := List.mem_map.mp hd
    obtain ⟨pk, _, lt⟩ := some_mem.mp (List.mem_filter.mp hp).1
    exact rk_ints (xs := natI pl) (k := 9) (fun x hx => by
      obtain ⟨i, hi, rfl⟩ := List.mem_map.mp hx
      have := lt i hi
      have := s.ln
      have := s.n6
      rw [Int.natAbs_natCast]; omega) (by decide) (by simp [natI, pk])) (by rw [List.length_map]; exact due_le s)).ok
theorem f5_ok {n : Nat} {L : List P2} {ρ : Py.Env} (s : Ck n L ρ) : la1f5 ρ = ret (.nx ((ρ.set 11 (some (.str (ptsT L).shown))).set 12 (some (.list ((due L).map lotD))))) := by
  have e1 : cal cReprX (aCons (eVar 3) aNil) ρ = ret (.str (ptsT L).shown) := by rw [x_cal, args_1 s.e3, bnd_ret', (rokq (rk_pts s)).rep]
  have it : itSeq (eCall 2 F__law_some (aCons (eVar 4) (aCons (eC (.int 4)) aNil))) ρ = ret ((some' 4 n).map lotD) := by
    rw [x_itSeq, x_eCall, x_aCons, var_eq s.e4, bnd_ret', args_e (x_eC _ _), bnd_ret', bnd_ret', if_pos (show [PyData.int (n : Nat), PyData.int 4].length = 2 from rfl)]
    rw [show (PyData.int 4) = .int ((4 : Nat) : Int) from rfl, some_eq (by decide) (by have := s.n6; omega), bnd_ret']
    rfl
  have e2 := comp_map (ρ := ρ) (its := itSeq (eCall 2 F__law_some (aCons (eVar 4) (aCons (eC (.int 4)) aNil)))) (tg := tgN 14) (cond := tst (eCall 1 F__law_is_spread (aCons (mkL (eLc (itSeq (eVar 14)) (tgN 17) cYes (bin gIx (eVar 3) (eVar 17)) [17])) aNil))) (elt := eVar 14) (vs := [14]) lotD (fun pl => sprL (pick L pl)) lotD (some' 4 n) it (fun pl hp => by
    obtain ⟨pk, asc, lt⟩ := some_mem.mp hp
    rw [← s.ln] at lt
    rw [x_wipeD_cons, x_wipeD_nil]
    have g14 : ((ρ.set 14 none).set 14 (some (lotD pl)))[14]? = some (some (lotD pl)) := set9 (by rw [List.length_set, s.len]; decide)
    have g3 : ((ρ.set 14 none).set 14 (some (lotD pl)))[3]? = some (some (ptsT L)) := by rw [List.getElem?_set_ne (by decide), List.getElem?_set_ne (by decide), s.e3]
    refine ⟨_, rfl, tst_b ?_, fun _ => var_eq g14⟩
    have pp := pick_e (i := 3) (j := 14) (r := 17) (by simp only [List.length_set, s.len]; decide) g3 g14 (by decide) lt
    exact (eCall_1 _ (args_e pp)).trans (lspread_eq (cc := true) (pick_gp s.g asc lt) (by rw [pick, List.length_map, pk])))
  have ed : ((some' 4 n).filter fun pl => sprL (pick L pl)) = due L := by rw [due, s.ln]
  rw [ed] at e2
  rw [la1f5, x_sPar, x_aCons, e1, bnd_ret', args_e e2, bnd_ret', bnd_ret', par2_2]
theorem f6_ok {n : Nat} {L : List P2} {ρ : Py.Env} (s : Ck n L ρ) (h12 : ρ[12]? = some (some (.list ((due L).map lotD)))) : tst (bin gNeX (cal cReprX (aCons (eCall 1 F_spread_fours (aCons (eVar 3) aNil)) aNil)) (cal cReprX (aCons (cal cTup (aCons (eVar 12) aNil)) aNil))) ρ = ret false := by
  have e1 : eCall 1 F_spread_fours (aCons (eVar 3) aNil) ρ = ret (.tuple ((due L).map lotD)) := (eCall_1 _ (args_1 s.e3)).trans (fours_eq s.g (by have := s.ln; have := s.n6; omega))
  have e2 : cal cTup (aCons (eVar 12) aNil) ρ = ret (.tuple ((due L).map lotD)) := by rw [x_cal, args_1 h12, bnd_ret', x_cTup_l]
  exact tst_b (rep_neX e1 e2 (rokq (rk_due s)))
theorem some_pos {n : Nat} (n4 : 4 ≤ n) (n6 : n ≤ 6) : 1 ≤ (some' 4 n).length ∧ (some' 4 n).length ≤ 15 := by
  rw [(some_perm 4 n).length_eq]
  have : n = 4 ∨ n = 5 ∨ n = 6 := by omega
  rcases this with h | h | h <;> rw [h] <;> decide
theorem f7_ok {n : Nat} {L : List P2} {ρ : Py.Env} {P : Out → Prop} (s : Ck n L ρ) (k : ∀ M, Gp M → M.length = 4 → P (.nx (ρ.set 13 (some (ptsT M))))) : la1f7 ρ P := by
  have he : eCall 2 F__law_some (aCons (eVar 4) (aCons (eC (.int 4)) aNil)) ρ = ret (.list ((some' 4 n).map lotD)) := by
    rw [x_eCall, x_aCons, var_eq s.e4, bnd_ret', args_e (x_eC _ _), bnd_ret', bnd_ret', if_pos (show [PyData.int (n : Nat), PyData.int 4].length = 2 from rfl)]
    rw [show (PyData.int 4) = .int ((4 : Nat) : Int) from rfl, some_eq (by decide) (by have := s.n6; omega)]
  have sp := some_pos s.n4 s.n6
  rw [la1f7, x_sAsg, bnd_app', x_cal, bnd_app', x_aCons, bnd_app', x_mkL, bnd_app', x_eLc, bnd_app', x_itSeq, bnd_app']
  refine Py.of_c (s := 1) s.e1 he (.inl rfl) (by rw [List.length_map]; exact sp.1) (by rw [List.length_map]; omega) fun d hd => ?_
  obtain ⟨pl, hp, rfl⟩ := List.mem_map.mp hd
  obtain ⟨pk, asc, lt⟩ := some_mem.mp hp
  rw [← s.ln] at lt
  have e := lcW_all (ρ := wipeD ρ [17]) (tg := tgN 17) (elt := bin gIx (eVar 3) (eVar 17)) (fun x : Nat => .int (x : Nat)) (fun x => vD (L.getD x (0, 0))) pl (fun x hx => by
    rw [x_wipeD_cons, x_wipeD_nil]
    refine ⟨_, rfl, ?_⟩
    rw [x_bin, var_eq (d := ptsT L) (by rw [List.getElem?_set_ne (by decide), List.getElem?_set_ne (by decide), s.e3]), bnd_ret', var_eq (set9 (by rw [List.length_set, s.len]; decide)), bnd_ret']
    refine gIx_t (Py.atI_nat ?_)
    rw [List.getElem?_map, List.getElem?_eq_getElem (lt x hx), List.getD_eq_getElem?_getD, List.getElem?_eq_getElem (lt x hx)]
    rfl)
  rw [lotD, tupI, x_seqD_t, dInts_nat, ret_app, e, ret_app, ret_app, x_aNil, bnd_app', ret_app, ret_app, x_cTup_l, ret_app, ret_app]
  have em : (pl.map fun x => vD (L.getD x (0, 0))) = (pick L pl).map vD := by rw [pick, List.map_map]; rfl
  rw [em]
  exact k (pick L pl) (pick_gp s.g asc lt) (by rw [pick, List.length_map, pk])
theorem f8_ok {M : List P2} {ρ : Py.Env} (g : Gp M) (m4 : M.length = 4) (h13 : ρ[13]? = some (some (ptsT M))) : tst (bin gNeX (cal cReprX (aCons (eCall 1 F_is_spread (aCons (eVar 13) aNil)) aNil)) (cal cReprX (aCons (eCall 1 F__law_is_spread (aCons (eVar 13) aNil)) aNil))) ρ = ret false := by
  have e1 : eCall 1 F_is_spread (aCons (eVar 13) aNil) ρ = ret (.bool (sprL M)) := (eCall_1 _ (args_1 h13)).trans (spread_eq g m4)
  have e2 : eCall 1 F__law_is_spread (aCons (eVar 13) aNil) ρ = ret (.bool (sprL M)) := (eCall_1 _ (args_1 h13)).trans (lspread_eq (cc := false) g m4)
  exact tst_b (rep_neX e1 e2 (rokq (rk_bool _).ok))
end L78
namespace L78
open PySem hiding ret
open Py L2 R74
open HS (P2 rowsT Gen ins spr cor FreeOf way)
structure C2 (n : Nat) (L : List P2) (ρ : Py.Env) : Prop where
  ck : Ck n L ρ
  e11 : ρ[11]? = some (some (.str (ptsT L).shown))
  e12 : ρ[12]? = some (some (.list ((due L).map lotD)))
theorem C2.set {n : Nat} {L : List P2} {ρ : Py.Env} (s : C2 n L ρ) {i : Nat} {v : Option D} (hi : 13 ≤ i) : C2 n L (ρ.set i v) :=
  ⟨s.ck.set (by omega), by rw [List.getElem?_set_ne (by omega), s.e11], by rw [List.getElem?_set_ne (by omega), s.e12]⟩
theorem C2.set2 {n : Nat} {L : List P2} {ρ : Py.Env} (s : C2 n L ρ) {v : Option D} : C2 n L (ρ.set 2 v) :=
  ⟨⟨by rw [List.length_set, s.ck.len], by rw [List.getElem?_set_ne (by decide), s.ck.e1], by rw [List.getElem?_set_ne (by decide), s.ck.e3], by rw [List.getElem?_set_ne (by decide), s.ck.e4], s.ck.g, s.ck.ln, s.ck.n4, s.ck.n6⟩, by rw [List.getElem?_set_ne (by decide), s.e11], by rw [List.getElem?_set_ne (by decide), s.e12]⟩
theorem in_nat (i : Nat) (pl : List Nat) : gIn true (.int (i : Int)) (lotD pl) = ret (.bool (!decide (i ∈ pl))) := by
  show (if (shp (.int (i : Int)) && PyData.canLayAll0 (dInts (natI pl))) = true then ret (PyData.bool (xor true ((dInts (natI pl)).any fun z => PyData.eqv z (.int (i : Int))))) else stuck) = _
  rw [canLayAll_ints, shp_int, if_pos (show (true && true) = true from rfl), Bool.true_xor]
  congr 3
  rw [dInts_nat, List.any_map, Bool.eq_iff_iff, List.any_eq_true, decide_eq_true_eq]
  constructor
  · rintro ⟨x, hx, e⟩
    have e' : PyData.eqv (.int (x : Int)) (.int (i : Int)) = true := e
    rw [eqv_int, decide_eq_true_eq] at e'
    have : x = i := by omega
    rw [← this]; exact hx
  · intro h
    refine ⟨i, h, ?_⟩
    show PyData.eqv (.int (i : Int)) (.int (i : Int)) = true
    rw [eqv_int, decide_eq_true_eq]
theorem shp_lots (K : List (List Nat)) : shp (.list (K.map lotD)) = true := by
  have h := layD (k := 1) (ds := K.map lotD) fun d hd => by
    obtain ⟨w, _, rfl⟩ := List.mem_map.mp hd
    exact lay_ints _
  refine shp_of ?_ ?_
  · rw [PyData.canLay0]
    exact h.1
  · rw [PyData.depth]
    have := h.2
    omega
theorem eqX_nil {xs : List D} (h : shp (.list xs) = true) : gEqX (.list xs) (.list []) = ret (.bool xs.isEmpty) := by
  show (if (shp (.list xs) && shp (.list [])) = true then ret (PyData.bool (PyData.eqv (.list xs) (.list []))) else _) = _
  rw [h, shp_nil, if_pos (by rfl), eqv_ints_nil]
theorem inner_e {n : Nat} {L : List P2} {ρ : Py.Env} {pl : List Nat} (s : C2 n L ρ) (h14 : ρ[14]? = some (some (lotD pl))) :
    mkL (eLc (itSeq (eVar 12)) (tgN 13) (tst (bin gEqX (mkL (eLc (itSeq (eVar 13)) (tgN 17) (tst (bin (gIn true) (eVar 17) (eVar 14))) (eVar 17) [17])) (mkL (lDisp aNil)))) (eVar 13) [13]) ρ = ret (.list ((inn L pl).map lotD)) := by
  refine comp_map lotD (sub pl) lotD (due L) (by rw [x_itSeq, var_eq s.e12, bnd_ret']; rfl) (fun x hx => ?_)
  rw [x_wipeD_cons, x_wipeD_nil]
  have q13 : ((ρ.set 13 none).set 13 (some (lotD x)))[13]? = some (some (lotD x)) := set9 (by rw [List.length_set, s.ck.len]; decide)
  have q14 : ((ρ.set 13 none).set 13 (some (lotD x)))[14]? = some (some (lotD pl)) := by rw [List.getElem?_set_ne (by decide), List.getElem?_set_ne (by decide), h14]
  have ql : ((ρ.set 13 none).set 13 (some (lotD x))).length = 18 := by simp only [List.length_set, s.ck.len]
  refine ⟨_, rfl, tst_b ?_, fun _ => var_eq q13⟩
  generalize (ρ.set 13 none).set 13 (some (lotD x)) = ρ1 at *
  have e := comp_map (ρ := ρ1) (its := itSeq (eVar 13)) (tg := tgN 17) (cond := tst (bin (gIn true) (eVar 17) (eVar 14))) (elt := eVar 17) (vs := [17]) (fun i : Nat => .int (i : Nat)) (fun i => !decide (i ∈ pl)) (fun i : Nat => .int (i : Nat)) x (by rw [x_itSeq, var_eq q13, bnd_ret', lotD, tupI, x_seqD_t, dInts_nat]) (fun i hi => by
    rw [x_wipeD_cons, x_wipeD_nil]
    have g17 : ((ρ1.set 17 none).set 17 (some (.int (i : Nat))))[17]? = some (some (.int (i : Nat))) := set9 (by rw [List.length_set, ql]; decide)
    refine ⟨_, rfl, tst_b ?_, fun _ => var_eq g17⟩
    rw [x_bin, var_eq g17, bnd_ret', var_eq (d := lotD pl) (by rw [List.getElem?_set_ne (by decide), List.getElem?_set_ne (by decide), q14]), bnd_ret', in_nat])
  rw [x_bin, e, bnd_ret', lnil_e, bnd_ret', eqX_nil (by
    have := shp_ints (natI (x.filter fun i => !decide (i ∈ pl)))
    rw [dInts_nat] at this
    exact this)]
  congr 2
  unfold sub
  cases x.filter fun i => !decide (i ∈ pl) <;> rfl
/-- one five -/
theorem five_lap {n : Nat} {L : List P2} {ρ : Py.Env} {pl : List Nat} (s : C2 n L ρ) (n5 : 5 ≤ n) (h14 : ρ[14]? = some (some (lotD pl))) (hp : pl ∈ some' 5 n) : ∃ ρ', C2 n L ρ' ∧ la1f9a1f ρ = ret (.nx ρ') := by
  have hn : L.length = 5 ∨ L.length = 6 := by have := s.ck.ln; have := s.ck.n6; omega
  rw [← s.ck.ln] at hp
  obtain ⟨pk, asc, lt⟩ := some_mem.mp hp
  have q := (all_fives s.ck.g hn).1 pl hp
  have g5 := pick_gp s.ck.g asc lt
  have k5 : (pick L pl).length = 5 := by rw [pick, List.length_map, pk]
  have pp := pick_e (ρ := ρ) (L := L) (pl := pl) (i := 3) (j := 14) (r := 17) (by rw [s.ck.len]; decide) s.ck.e3 h14 (by decide) lt
  have e1 : cal cTup (aCons (mkL (eLc (itSeq (eVar 14)) (tgN 17) cYes (bin gIx (eVar 3) (eVar 17)) [17])) aNil) ρ = ret (ptsT (pick L pl)) := by rw [x_cal, args_e pp, bnd_ret', x_cTup_l]; rfl
  rw [la1f9a1f, la1f9a1f1, asg_nx e1]
  have s1 := s.set (i := 15) (v := some (ptsT (pick L pl))) (by decide)
  have q15 : (ρ.set 15 (some (ptsT (pick L pl))))[15]? = some (some (ptsT (pick L pl))) := set9 (by rw [s.ck.len]; decide)
  have q14 : (ρ.set 15 (some (ptsT (pick L pl))))[14]? = some (some (lotD pl)) := by rw [List.getElem?_set_ne (by decide), h14]
  generalize ρ.set 15 (some (ptsT (pick L pl))) = ρ1 at *
  rw [la1f9a1f2, asg_nx (inner_e s1 q14)]
  have s2 := s1.set (i := 16) (v := some (.list ((inn L pl).map lotD))) (by decide)
  have r16 : (ρ1.set 16 (some (.list ((inn L pl).map lotD))))[16]? = some (some (.list ((inn L pl).map lotD))) := set9 (by rw [s1.ck.len]; decide)
  have r15 : (ρ1.set 16 (some (.list ((inn L pl).map lotD))))[15]? = some (some (ptsT (pick L pl))) := by rw [List.getElem?_set_ne (by decide), q15]
  generalize ρ1.set 16 (some (.list ((inn L pl).map lotD))) = ρ2 at *
  have hu : eCall 1 F_hull_corners (aCons (eVar 15) aNil) ρ2 = ret (ptsT (corners (pick L pl))) := (eCall_1 _ (args_1 r15)).trans (hull_eq g5 (by omega) (by omega))
  have cl : cal cLen (aCons (eCall 1 F_hull_corners (aCons (eVar 15) aNil)) aNil) ρ2 = ret (.int ((corners (pick L pl)).length : Nat)) := by
    rw [x_cal, args_e hu, bnd_ret', ptsT, x_cLen_t, List.length_map]
  have cb : Py.B 4 (((corners (pick L pl)).length : Nat) : Int) := by
    have := cor_le (L := pick L pl)
    unfold Py.B
    rw [Int.natAbs_natCast]; omega
  haveI := cb.q
  have t1 : tst (bin gNeX (cal cLen (aCons (eVar 16) aNil)) (bin gSub (bin gMulX (eC (.int 2)) (cal cLen (aCons (eCall 1 F_hull_corners (aCons (eVar 15) aNil)) aNil))) (eC (.int 5)))) ρ2 = ret false := by
    refine tst_b ?_
    rw [x_bin, x_cal, args_1 r16, bnd_ret', x_cLen_l, List.length_map, bnd_ret', x_bin, x_bin, x_eC, bnd_ret', cl, bnd_ret', a_mul (show 2 + 4 < 900000 by decide), bnd_ret', x_eC, bnd_ret', a_sub, bnd_ret', a_neX, decide_eq_true (show (((inn L pl).length : Nat) : Int) = 2 * (((corners (pick L pl)).length : Nat) : Int) - 5 by omega)]
    rfl
  have t2 : tst (bin gEqX (eVar 16) (mkL (lDisp aNil))) ρ2 = ret false := by
    refine tst_b ?_
    rw [x_bin, var_eq r16, bnd_ret', lnil_e, bnd_ret', eqX_nil (shp_lots _)]
    have := q.2
    cases h : inn L pl with
    | nil => rw [h] at this; simp at this
    | cons _ _ => rfl
  refine ⟨ρ2, s2, ?_⟩
  rw [la1f9a1f3, x_sIf, or_no t1 t2, bnd_ret', if_neg Bool.false_ne_true, x_sNx]
theorem five_laps {n : Nat} {L : List P2} (n5 : 5 ≤ n) : ∀ (pls : List (List Nat)) (ρ : Py.Env), C2 n L ρ → (∀ pl ∈ pls, pl ∈ some' 5 n) → ∃ ρ', C2 n L ρ' ∧ forW (tgN 14) la1f9a1f (pls.map lotD) ρ = ret (.nx ρ')
  | [], ρ, s, _ => ⟨ρ, s, rfl⟩
  | pl :: pls, ρ, s, h => by
    obtain ⟨ρ1, s1, e1⟩ := five_lap (s.set (i := 14) (v := some (lotD pl)) (by decide)) n5 (set9 (by rw [s.ck.len]; decide)) (h pl (by simp))
    obtain ⟨ρ2, s2, e2⟩ := five_laps n5 pls ρ1 s1 fun x hx => h x (List.mem_cons_of_mem _ hx)
    refine ⟨ρ2, s2, ?_⟩
    rw [List.map_cons, forW_cons, x_tgN, bnd_ret', e1, bnd_ret', oLoop_nx]
    exact e2
theorem some_call {n k : Nat} {ρ : Py.Env} (h4 : ρ[4]? = some (some (.int (n : Nat)))) (k1 : 1 ≤ k) (n6 : n ≤ 6) : eCall 2 F__law_some (aCons (eVar 4) (aCons (eC (.int (k : Nat))) aNil)) ρ = ret (.list ((some' k n).map lotD)) := by
  rw [x_eCall, x_aCons, var_eq h4, bnd_ret', args_e (x_eC _ _), bnd_ret', bnd_ret', if_pos (show [PyData.int (n : Nat), PyData.int (k : Nat)].length = 2 from rfl), some_eq k1 (by omega)]
theorem f9_ok {n : Nat} {L : List P2} {ρ : Py.Env} (s : C2 n L ρ) : ∃ ρ', C2 n L ρ' ∧ la1f9 ρ = ret (.nx ρ') := by
  have t : tst (bin gGt (eVar 4) (eC (.int 4))) ρ = ret (decide (4 < (n : Int))) := by
    refine tst_b ?_
    rw [x_bin, var_eq s.ck.e4, bnd_ret', x_eC, bnd_ret', a_gt]
  rw [la1f9, x_sIf, t, bnd_ret']
  by_cases z : 4 < (n : Int)
  · rw [decide_eq_true z, if_pos rfl]
    have it : itSeq (eCall 2 F__law_some (aCons (eVar 4) (aCons (eC (.int 5)) aNil))) ρ = ret ((some' 5 n).map lotD) := by
      have l5 : eCall 2 F__law_some (aCons (eVar 4) (aCons (eC (.int 5)) aNil)) ρ = ret (.list ((some' 5 n).map lotD)) := some_call (k := 5) s.ck.e4 (by decide) s.ck.n6
      rw [x_itSeq, l5, bnd_ret']
      rfl
    obtain ⟨ρ1, s1, e1⟩ := five_laps (n := n) (L := L) (by omega) (some' 5 n) ρ s fun _ h => h
    have e1' : la1f9a1 ρ = ret (.nx ρ1) := by rw [la1f9a1, x_sFor, it, bnd_ret', e1]
    refine ⟨ρ1, s1, ?_⟩
    rw [la1f9a, seq_nx e1', la1f9a2, x_sIf]
    have hn : L.length = 5 ∨ L.length = 6 := by have := s.ck.ln; have := s.ck.n6; omega
    have c1 : eCall 1 F_count_by_fives (aCons (eVar 3) aNil) ρ1 = ret (.int ((due L).length : Nat)) := (eCall_1 _ (args_1 s1.ck.e3)).trans (count_eq s1.ck.g hn)
    have c2 : cal cLen (aCons (eVar 12) aNil) ρ1 = ret (.int ((due L).length : Nat)) := by rw [x_cal, args_1 s1.e12, bnd_ret', x_cLen_l, List.length_map]
    have dl := due_le s1.ck
    have t1 := tst_b (rep_neX c1 c2 (rokq (rk_int (k := 10) (i := ((due L).length : Nat)) (by rw [Int.natAbs_natCast]; omega) (by decide)).ok))
    have db : Py.B 4 (((due L).length : Nat) : Int) := by unfold Py.B; rw [Int.natAbs_natCast]; omega
    haveI := db.q
    have c3 : cal cLen (aCons (eCall 2 F__law_some (aCons (eVar 4) (aCons (eC (.int 4)) aNil))) aNil) ρ1 = ret (.int ((some' 4 n).length : Nat)) := by
      have l4 : eCall 2 F__law_some (aCons (eVar 4) (aCons (eC (.int 4)) aNil)) ρ1 = ret (.list ((some' 4 n).map lotD)) := some_call (k := 4) s1.ck.e4 (by decide) s1.ck.n6
      rw [x_cal, args_e l4, bnd_ret', x_cLen_l, List.length_map]
    have le := (all_fives s1.ck.g hn).2.2
    rw [s1.ck.ln] at le
    have t2 : tst (bin gLt (bin gMulX (eC (.int 5)) (cal cLen (aCons (eVar 12) aNil))) (cal cLen (aCons (eCall 2 F__law_some (aCons (eVar 4) (aCons (eC (.int 4)) aNil))) aNil))) ρ1 = ret false := by
      refine tst_b ?_
      rw [x_bin, x_bin, x_eC, bnd_ret', c2, bnd_ret', a_mul (show 5 + 4 < 900000 by decide), bnd_ret', c3, bnd_ret', a_lt, decide_eq_false (by omega)]
    rw [or_no t1 t2, bnd_ret', if_neg Bool.false_ne_true, x_sNx]
  · rw [decide_eq_false z, if_neg Bool.false_ne_true, x_sNx]
    exact ⟨ρ, s, rfl⟩
theorem f10_ok {n : Nat} {L : List P2} {ρ : Py.Env} (s : C2 n L ρ) : la1f10 ρ = ret (.nx ρ) := by
  have t := tst_b (rep_held (var_eq s.ck.e3) (var_eq s.e11) (rokq (rk_pts s.ck)))
  rw [la1f10, x_sIf, t, bnd_ret', if_neg Bool.false_ne_true, x_sNx]
end L78
namespace L78
open PySem hiding ret
open Py L2 R74
open HS (P2 rowsT Gen ins spr cor FreeOf way)
structure L0 (ρ : Py.Env) : Prop where
  len : ρ.length = 18
  e1 : ρ[1]? = some (some .none)
theorem L0.set {ρ : Py.Env} (s : L0 ρ) {i : Nat} {v : Option D} (hi : 2 ≤ i) : L0 (ρ.set i v) := ⟨by rw [List.length_set, s.len], by rw [List.getElem?_set_ne (by omega), s.e1]⟩
theorem C2.l0 {n : Nat} {L : List P2} {ρ : Py.Env} (s : C2 n L ρ) : L0 ρ := ⟨s.ck.len, s.ck.e1⟩
theorem gp_nil : Gp [] := ⟨.nil, (fun a ha => absurd ha (by simp)), (fun w hw => absurd hw (by simp))⟩
theorem sort_pts (K : List P2) : ∃ K' : List P2, K'.Perm K ∧ cSrt [lotS K] = ret (K'.map vD) := by
  refine ⟨K.mergeSort fun a b => leD (vD a) (vD b), List.mergeSort_perm _ _, ?_⟩
  have h1 : alls (K.map vD) = true := Lot.alls_v K
  have ok : srtOk (K.map vD) = true := by
    unfold srtOk
    rw [h1, Bool.true_and]
    have : (K.map vD).all isTup1 = true := by
      rw [List.all_eq_true]
      intro d hd
      obtain ⟨a, _, rfl⟩ := List.mem_map.mp hd
      rfl
    rw [this, Bool.true_or, Bool.true_or]
  show (if srtOk (K.map vD) = true then ret ((K.map vD).mergeSort leD) else stuck) = _
  rw [if_pos ok]
  congr 1
  exact (List.map_mergeSort (r := fun a b => leD (vD a) (vD b)) (s := leD) (f := vD) (l := K) (fun a _ b _ => rfl)).symm
/-- one lap of the law -/
theorem lap_ok {ρ : Py.Env} {P : Out → Prop} (s : L0 ρ) (k : ∀ ρ', L0 ρ' → P (.nx ρ')) : la1f ρ P := by
  -- behind the drawn lot
  have rest : ∀ {n : Nat} {most : Int} {K : List P2} {ρ : Py.Env}, Dr n most K ρ → Gp K → K.length = n → 4 ≤ n → n ≤ 6 → (sSeq la1f4 (sSeq la1f5 (sSeq la1f6 (sSeq la1f7 (sSeq la1f8 (sSeq la1f9 la1f10)))))) ρ P := by
    intro n most K ρ s g hl n4 n6
    obtain ⟨L, pk, se⟩ := sort_pts K
    have e4 : cal cTup (aCons (mkL (calL cSrt (aCons (eVar 3) aNil))) aNil) ρ = ret (ptsT L) := by
      have cs : mkL (calL cSrt (aCons (eVar 3) aNil)) ρ = ret (.list (L.map vD)) := by rw [x_mkL, x_calL, args_1 s.e3, bnd_ret', se, bnd_ret']
      rw [x_cal, args_e cs, bnd_ret', x_cTup_l]
      rfl
    rw [la1f4, asg_nx e4]
    have c : Ck n L (ρ.set 3 (some (ptsT L))) := ⟨by rw [List.length_set, s.len], by rw [List.getElem?_set_ne (by decide), s.e1], set9 (by rw [s.len]; decide), by rw [List.getElem?_set_ne (by decide), s.e4], g.perm pk.symm, by rw [pk.length_eq, hl], n4, n6⟩
    generalize ρ.set 3 (some (ptsT L)) = ρ1 at *
    rw [seq_nx (f5_ok c)]
    have c2 : C2 n L ((ρ1.set 11 (some (.str (ptsT L).shown))).set 12 (some (.list ((due L).map lotD)))) := ⟨(c.set (by decide)).set (by decide), by rw [List.getElem?_set_ne (by decide), set9 (by rw [c.len]; decide)], set9 (by rw [List.length_set, c.len]; decide)⟩
    generalize (ρ1.set 11 (some (.str (ptsT L).shown))).set 12 (some (.list ((due L).map lotD))) = ρ2 at *
    rw [la1f6, if_no (f6_ok c2.ck c2.e12), x_sSeq, bnd_app']
    refine f7_ok c2.ck fun M gM m4 => ?_
    rw [oThen_nx]
    have c3 := c2.set (i := 13) (v := some (ptsT M)) (by decide)
    have h13 : (ρ2.set 13 (some (ptsT M)))[13]? = some (some (ptsT M)) := set9 (by rw [c2.ck.len]; decide)
    generalize ρ2.set 13 (some (ptsT M)) = ρ3 at *
    rw [la1f8, if_no (f8_ok gM m4 h13)]
    obtain ⟨ρ4, c4, e9⟩ := f9_ok c3
    rw [seq_nx e9, f10_ok c4, ret_app]
    exact k ρ4 c4.l0
  rw [la1f, x_sSeq, bnd_app', la1f1]
  unfold sParO2
  rw [x_lDisp, x_aNil, bnd_ret', if_pos (by decide), bnd_ret', bnd_app', x_bin, x_eC, bnd_ret', bnd_app']
  refine Py.pick_c (s := 1) s.e1 (x_eC _ _) (by decide) (by decide) fun j j0 j1 => ?_
  rw [x_gAdd_i, ret_app]
  dsimp only
  rw [ret_app]
  rw [oThen_nx]
  obtain ⟨n, hn⟩ : ∃ n : Nat, 4 + j = (n : Int) := ⟨(4 + j).toNat, by omega⟩
  rw [hn]
  have n4 : 4 ≤ n := by omega
  have n6 : n ≤ 6 := by omega
  have s2 : L0 ((ρ.set 3 (some (.list []))).set 4 (some (.int (n : Nat)))) := (s.set (by decide)).set (by decide)
  have h3 : ((ρ.set 3 (some (.list []))).set 4 (some (.int (n : Nat))))[3]? = some (some (.list [])) := by rw [List.getElem?_set_ne (by decide), set9 (by rw [s.len]; decide)]
  have h4 : ((ρ.set 3 (some (.list []))).set 4 (some (.int (n : Nat))))[4]? = some (some (.int (n : Nat))) := set9 (by rw [List.length_set, s.len]; decide)
  generalize (ρ.set 3 (some (.list []))).set 4 (some (.int (n : Nat))) = ρ1 at *
  have el : mkL (lDisp (aCons (eC (.int 3)) (aCons (eC (.int 6)) (aCons (eC (.int 20)) aNil)))) ρ1 = ret (.list [.int 3, .int 6, .int 20]) := by
    simp only [Py.x_fnD, Py.x_sSeq, Py.x_sNx, Py.x_sAsg, Py.x_sOwn, Py.x_sTgt, Py.x_sRet, Py.x_sRetN, Py.x_sRetOwn, Py.x_sIf, Py.x_sFor, Py.x_sPar, Py.x_sPar3, Py.x_cal, Py.x_calL, Py.x_eCall, Py.x_bin, Py.x_una, Py.x_bAnd, Py.x_bOr, Py.x_bNot, Py.x_eAnd, Py.x_eOr, Py.x_eNot, Py.x_eIf, Py.x_eChain, Py.x_eSl, Py.x_oNo, Py.x_oPart, Py.x_aNil, Py.x_aCons, Py.x_aStar, Py.x_eTup, Py.x_lDisp, Py.x_mkL, Py.x_tgN, Py.x_tgsNil, Py.x_tgsCons, Py.x_tgTup, Py.x_itSeq, Py.x_itEnum, Py.x_itZip, Py.x_itRng1, Py.x_itRng2, Py.x_eVar, Py.x_eC, Py.x_tst, Py.x_cYes, Py.x_wipeD_cons, Py.x_wipeD_nil, Py.x_seqD_l, Py.x_seqD_t, Py.x_gNeg_i, Py.x_gAdd_i, Py.x_gAdd_t, Py.x_gAdd_l, Py.x_cTup_l, Py.x_cTup_t, Py.x_cLst_l, Py.x_cLst_t, Py.x_cLen_l, Py.x_cLen_t, Py.x_cInt_b, Py.x_cInt_i, Py.x_cAbs_i, Py.toB_b, Py.toI_i, Py.optM_some, Py.par2_2, Py.par3_3, Py.zip2_2, Py.enum1_1, Py.rng1_i, Py.rng2_i, Py.outD_rt, Py.outD_nx, Py.bnd_ret', Py.bnd_stuck', Py.oThen_nx, Py.oThen_rt, Py.oLoop_nx, Py.oLoop_rt, Py.a_mul, Py.a_fdiv, Py.a_mod, Py.a_sub, Py.a_lt, Py.a_le, Py.a_gt, Py.a_ge, Py.a_eq, Py.a_ne, Py.a_eqX, Py.a_neX, Py.a_notN, Py.a_isN, Py.i_t0, Py.i_t1, Py.i_t2, Py.i_t3, Py.i_l0, Py.i_l1, Py.i_l2, Py.i_l3, Py.a_cGcd, Py.a_sum2, Py.a_max2, Py.a_min2, Py.a_len, Py.a_slt, Py.a_sll, Py.nd_n, Py.nd_t, Py.nd_l, Py.nd_i, Py.nd_s, Py.nd_b, List.map_cons, List.map_nil, List.replicate, List.cons_append, List.nil_append, List.set_cons_succ, List.set_cons_zero, List.getElem?_cons_succ, List.getElem?_cons_zero, Option.getD_some, List.length_cons, List.length_nil, List.length_map, Nat.reduceAdd, Nat.reduceMul, Nat.reduceLT, Nat.reduceLeDiff, Nat.reduceEqDiff, Int.reduceEq, Int.reduceLT, Int.reduceToNat, ne_eq, not_false_eq_true, decide_true, decide_false, decide_eq_true_eq, if_true, if_false, Bool.false_eq_true, Bool.not_true, Bool.not_false, Bool.true_and, Bool.and_true, Bool.false_and, Bool.and_false, Nat.zero_add]
  rw [x_sSeq, bnd_app', la1f2, x_sAsg, bnd_app']
  refine Py.of_c (s := 1) s2.e1 el (.inl rfl) (by simp) (by simp) fun d hd => ?_
  obtain ⟨most, f1, f2, rfl⟩ : ∃ far : Int, 1 ≤ far ∧ far ≤ 20 ∧ d = .int far := by
    simp only [List.mem_cons, List.not_mem_nil, or_false] at hd
    rcases hd with rfl | rfl | rfl
    · exact ⟨3, by decide, by decide, rfl⟩
    · exact ⟨6, by decide, by decide, rfl⟩
    · exact ⟨20, by decide, by decide, rfl⟩
  rw [ret_app, oThen_nx, x_sSeq, bnd_app']
  have d0 : Dr n most [] (ρ1.set 5 (some (.int most))) := ⟨by rw [List.length_set, s2.len], by rw [List.getElem?_set_ne (by decide), s2.e1], by rw [List.getElem?_set_ne (by decide), h3]; rfl, by rw [List.getElem?_set_ne (by decide), h4], set9 (by rw [s2.len]; decide)⟩
  generalize ρ1.set 5 (some (.int most)) = ρ2 at *
  have ok : rngOk ((n : Nat) : Int) = true := by simp [rngOk]; omega
  have it : itRng1 (aCons (eVar 4) aNil) ρ2 = ret (rangeD 0 n) := by
    rw [x_itRng1, args_1 d0.e4, bnd_ret', rng1_i, if_pos ok, Int.toNat_natCast]
  rw [la1f3, x_sFor, it, bnd_ret']
  refine laps_dr f1 f2 (rangeD 0 n) [] ρ2 d0 gp_nil (by simp [rangeD]; omega) fun K ρ3 g d3 hl => ?_
  rw [oThen_nx]
  exact rest d3 g (by rw [hl]; simp [rangeD]) n4 n6
theorem laps_ok {P : Out → Prop} : ∀ (ds : List D) (ρ : Py.Env), L0 ρ → (∀ ρ', L0 ρ' → P (.nx ρ')) → forW (tgN 2) la1f ds ρ P
  | [], ρ, s, k => k ρ s
  | d :: ds, ρ, s, k => by
    rw [forW_cons, x_tgN, bnd_ret', bnd_app']
    refine lap_ok (s.set (by decide)) fun ρ' s' => ?_
    rw [oLoop_nx]
    exact laps_ok ds ρ' s' k
def fix : List P2 := [(0, 0), (0, 4), (1, 1), (2, 1), (6, 0)]
theorem fix_gp : Gp fix := by
  refine ⟨by decide, ?_, ?_⟩
  · have : ∀ a ∈ fix, ∀ b ∈ fix, ∀ c ∈ fix, a ≠ b → b ≠ c → a ≠ c → HS.o3 a b c ≠ 0 := by decide
    exact this
  · intro w hw
    have : ∀ w ∈ fix, w.1.natAbs ≤ 512 ∧ w.2.natAbs ≤ 512 := by decide
    exact this w hw
theorem fix_due : (due fix).map lotD = [lotD [0, 2, 3, 4]] := by
  have p : (due fix).Perm (((someS 4 5).filter fun l => decide (l.length = 4)).filter fun pl => sprL (pick fix pl)) := (some_perm 4 5).filter _
  have e : (((someS 4 5).filter fun l => decide (l.length = 4)).filter fun pl => sprL (pick fix pl)) = [[0, 2, 3, 4]] := by decide
  rw [e] at p
  rw [List.perm_singleton.mp p]
  rfl
theorem la2_eq {ρ : Py.Env} : la2 ρ = ret (.rt (.bool true)) := by
  have a : eTup (aCons (eTup (aCons (eC (.int 0)) (aCons (eC (.int 0)) aNil))) (aCons (eTup (aCons (eC (.int 0)) (aCons (eC (.int 4)) aNil))) (aCons (eTup (aCons (eC (.int 1)) (aCons (eC (.int 1)) aNil))) (aCons (eTup (aCons (eC (.int 2)) (aCons (eC (.int 1)) aNil))) (aCons (eTup (aCons (eC (.int 6)) (aCons (eC (.int 0)) aNil))) aNil))))) ρ = ret (ptsT fix) := by
    simp only [Py.x_fnD, Py.x_sSeq, Py.x_sNx, Py.x_sAsg, Py.x_sOwn, Py.x_sTgt, Py.x_sRet, Py.x_sRetN, Py.x_sRetOwn, Py.x_sIf, Py.x_sFor, Py.x_sPar, Py.x_sPar3, Py.x_cal, Py.x_calL, Py.x_eCall, Py.x_bin, Py.x_una, Py.x_bAnd, Py.x_bOr, Py.x_bNot, Py.x_eAnd, Py.x_eOr, Py.x_eNot, Py.x_eIf, Py.x_eChain, Py.x_eSl, Py.x_oNo, Py.x_oPart, Py.x_aNil, Py.x_aCons, Py.x_aStar, Py.x_eTup, Py.x_lDisp, Py.x_mkL, Py.x_tgN, Py.x_tgsNil, Py.x_tgsCons, Py.x_tgTup, Py.x_itSeq, Py.x_itEnum, Py.x_itZip, Py.x_itRng1, Py.x_itRng2, Py.x_eVar, Py.x_eC, Py.x_tst, Py.x_cYes, Py.x_wipeD_cons, Py.x_wipeD_nil, Py.x_seqD_l, Py.x_seqD_t, Py.x_gNeg_i, Py.x_gAdd_i, Py.x_gAdd_t, Py.x_gAdd_l, Py.x_cTup_l, Py.x_cTup_t, Py.x_cLst_l, Py.x_cLst_t, Py.x_cLen_l, Py.x_cLen_t, Py.x_cInt_b, Py.x_cInt_i, Py.x_cAbs_i, Py.toB_b, Py.toI_i, Py.optM_some, Py.par2_2, Py.par3_3, Py.zip2_2, Py.enum1_1, Py.rng1_i, Py.rng2_i, Py.outD_rt, Py.outD_nx, Py.bnd_ret', Py.bnd_stuck', Py.oThen_nx, Py.oThen_rt, Py.oLoop_nx, Py.oLoop_rt, Py.a_mul, Py.a_fdiv, Py.a_mod, Py.a_sub, Py.a_lt, Py.a_le, Py.a_gt, Py.a_ge, Py.a_eq, Py.a_ne, Py.a_eqX, Py.a_neX, Py.a_notN, Py.a_isN, Py.i_t0, Py.i_t1, Py.i_t2, Py.i_t3, Py.i_l0, Py.i_l1, Py.i_l2, Py.i_l3, Py.a_cGcd, Py.a_sum2, Py.a_max2, Py.a_min2, Py.a_len, Py.a_slt, Py.a_sll, Py.nd_n, Py.nd_t, Py.nd_l, Py.nd_i, Py.nd_s, Py.nd_b, List.map_cons, List.map_nil, List.replicate, List.cons_append, List.nil_append, List.set_cons_succ, List.set_cons_zero, List.getElem?_cons_succ, List.getElem?_cons_zero, Option.getD_some, List.length_cons, List.length_nil, List.length_map, Nat.reduceAdd, Nat.reduceMul, Nat.reduceLT, Nat.reduceLeDiff, Nat.reduceEqDiff, Int.reduceEq, Int.reduceLT, Int.reduceToNat, ne_eq, not_false_eq_true, decide_true, decide_false, decide_eq_true_eq, if_true, if_false, Bool.false_eq_true, Bool.not_true, Bool.not_false, Bool.true_and, Bool.and_true, Bool.false_and, Bool.and_false, Nat.zero_add]
    rfl
  have b : eTup (aCons (eTup (aCons (eC (.int 0)) (aCons (eC (.int 2)) (aCons (eC (.int 3)) (aCons (eC (.int 4)) aNil))))) aNil) ρ = ret (.tuple [lotD [0, 2, 3, 4]]) := by
    simp only [Py.x_fnD, Py.x_sSeq, Py.x_sNx, Py.x_sAsg, Py.x_sOwn, Py.x_sTgt, Py.x_sRet, Py.x_sRetN, Py.x_sRetOwn, Py.x_sIf, Py.x_sFor, Py.x_sPar, Py.x_sPar3, Py.x_cal, Py.x_calL, Py.x_eCall, Py.x_bin, Py.x_una, Py.x_bAnd, Py.x_bOr, Py.x_bNot, Py.x_eAnd, Py.x_eOr, Py.x_eNot, Py.x_eIf, Py.x_eChain, Py.x_eSl, Py.x_oNo, Py.x_oPart, Py.x_aNil, Py.x_aCons, Py.x_aStar, Py.x_eTup, Py.x_lDisp, Py.x_mkL, Py.x_tgN, Py.x_tgsNil, Py.x_tgsCons, Py.x_tgTup, Py.x_itSeq, Py.x_itEnum, Py.x_itZip, Py.x_itRng1, Py.x_itRng2, Py.x_eVar, Py.x_eC, Py.x_tst, Py.x_cYes, Py.x_wipeD_cons, Py.x_wipeD_nil, Py.x_seqD_l, Py.x_seqD_t, Py.x_gNeg_i, Py.x_gAdd_i, Py.x_gAdd_t, Py.x_gAdd_l, Py.x_cTup_l, Py.x_cTup_t, Py.x_cLst_l, Py.x_cLst_t, Py.x_cLen_l, Py.x_cLen_t, Py.x_cInt_b, Py.x_cInt_i, Py.x_cAbs_i, Py.toB_b, Py.toI_i, Py.optM_some, Py.par2_2, Py.par3_3, Py.zip2_2, Py.enum1_1, Py.rng1_i, Py.rng2_i, Py.outD_rt, Py.outD_nx, Py.bnd_ret', Py.bnd_stuck', Py.oThen_nx, Py.oThen_rt, Py.oLoop_nx, Py.oLoop_rt, Py.a_mul, Py.a_fdiv, Py.a_mod, Py.a_sub, Py.a_lt, Py.a_le, Py.a_gt, Py.a_ge, Py.a_eq, Py.a_ne, Py.a_eqX, Py.a_neX, Py.a_notN, Py.a_isN, Py.i_t0, Py.i_t1, Py.i_t2, Py.i_t3, Py.i_l0, Py.i_l1, Py.i_l2, Py.i_l3, Py.a_cGcd, Py.a_sum2, Py.a_max2, Py.a_min2, Py.a_len, Py.a_slt, Py.a_sll, Py.nd_n, Py.nd_t, Py.nd_l, Py.nd_i, Py.nd_s, Py.nd_b, List.map_cons, List.map_nil, List.replicate, List.cons_append, List.nil_append, List.set_cons_succ, List.set_cons_zero, List.getElem?_cons_succ, List.getElem?_cons_zero, Option.getD_some, List.length_cons, List.length_nil, List.length_map, Nat.reduceAdd, Nat.reduceMul, Nat.reduceLT, Nat.reduceLeDiff, Nat.reduceEqDiff, Int.reduceEq, Int.reduceLT, Int.reduceToNat, ne_eq, not_false_eq_true, decide_true, decide_false, decide_eq_true_eq, if_true, if_false, Bool.false_eq_true, Bool.not_true, Bool.not_false, Bool.true_and, Bool.and_true, Bool.false_and, Bool.and_false, Nat.zero_add]
    rfl
  have c := (eCall_1 F_spread_fours (args_e a)).trans (fours_eq fix_gp (by decide))
  rw [fix_due] at c
  rw [la2, x_sRet, x_bin, c, bnd_ret', b, bnd_ret']
  rfl
theorem law_true : b_law (none :: some .none :: List.replicate 16 none) (fun o => o = .rt (.bool true)) := by
  have e : itRng1 (aCons (eC (.int 3)) aNil) (none :: some .none :: List.replicate 16 none) = ret (([0, 1, 2] : List Int).map .int) := by simp only [Py.x_fnD, Py.x_sSeq, Py.x_sNx, Py.x_sAsg, Py.x_sOwn, Py.x_sTgt, Py.x_sRet, Py.x_sRetN, Py.x_sRetOwn, Py.x_sIf, Py.x_sFor, Py.x_sPar, Py.x_sPar3, Py.x_cal, Py.x_calL, Py.x_eCall, Py.x_bin, Py.x_una, Py.x_bAnd, Py.x_bOr, Py.x_bNot, Py.x_eAnd, Py.x_eOr, Py.x_eNot, Py.x_eIf, Py.x_eChain, Py.x_eSl, Py.x_oNo, Py.x_oPart, Py.x_aNil, Py.x_aCons, Py.x_aStar, Py.x_eTup, Py.x_lDisp, Py.x_mkL, Py.x_tgN, Py.x_tgsNil, Py.x_tgsCons, Py.x_tgTup, Py.x_itSeq, Py.x_itEnum, Py.x_itZip, Py.x_itRng1, Py.x_itRng2, Py.x_eVar, Py.x_eC, Py.x_tst, Py.x_cYes, Py.x_wipeD_cons, Py.x_wipeD_nil, Py.x_seqD_l, Py.x_seqD_t, Py.x_gNeg_i, Py.x_gAdd_i, Py.x_gAdd_t, Py.x_gAdd_l, Py.x_cTup_l, Py.x_cTup_t, Py.x_cLst_l, Py.x_cLst_t, Py.x_cLen_l, Py.x_cLen_t, Py.x_cInt_b, Py.x_cInt_i, Py.x_cAbs_i, Py.toB_b, Py.toI_i, Py.optM_some, Py.par2_2, Py.par3_3, Py.zip2_2, Py.enum1_1, Py.rng1_i, Py.rng2_i, Py.outD_rt, Py.outD_nx, Py.bnd_ret', Py.bnd_stuck', Py.oThen_nx, Py.oThen_rt, Py.oLoop_nx, Py.oLoop_rt, Py.a_mul, Py.a_fdiv, Py.a_mod, Py.a_sub, Py.a_lt, Py.a_le, Py.a_gt, Py.a_ge, Py.a_eq, Py.a_ne, Py.a_eqX, Py.a_neX, Py.a_notN, Py.a_isN, Py.i_t0, Py.i_t1, Py.i_t2, Py.i_t3, Py.i_l0, Py.i_l1, Py.i_l2, Py.i_l3, Py.a_cGcd, Py.a_sum2, Py.a_max2, Py.a_min2, Py.a_len, Py.a_slt, Py.a_sll, Py.nd_n, Py.nd_t, Py.nd_l, Py.nd_i, Py.nd_s, Py.nd_b, List.map_cons, List.map_nil, List.replicate, List.cons_append, List.nil_append, List.set_cons_succ, List.set_cons_zero, List.getElem?_cons_succ, List.getElem?_cons_zero, Option.getD_some, List.length_cons, List.length_nil, List.length_map, Nat.reduceAdd, Nat.reduceMul, Nat.reduceLT, Nat.reduceLeDiff, Nat.reduceEqDiff, Int.reduceEq, Int.reduceLT, Int.reduceToNat, ne_eq, not_false_eq_true, decide_true, decide_false, decide_eq_true_eq, if_true, if_false, Bool.false_eq_true, Bool.not_true, Bool.not_false, Bool.true_and, Bool.and_true, Bool.false_and, Bool.and_false, Nat.zero_add]; rfl
  rw [b_law_eq, x_sSeq, la1, x_sFor, e, bnd_ret', bnd_app']
  refine laps_ok _ _ ⟨rfl, rfl⟩ fun ρ s => ?_
  rw [oThen_nx, la2_eq]
  rfl
end L78
namespace L78
open PySem PySem.Spec PyProof.Rows L2 Py StX
def topS (i : Nat) : Stmt := PySem.Challenge.pw_cornersmet_k78_whole_spread_fours.main.body.getD i (.Pass ⟨0, 0, 0, 0⟩)
abbrev s_divisor_of_all : Stmt := topS 2
theorem sc_divisor_of_all : FnScope ["numbers", "found", "number"] ["numbers"] (defScope s_divisor_of_all) := ⟨rfl, rfl, rfl, by decide +kernel, rfl, by decide +kernel, by decide +kernel⟩
abbrev s_lines_reduced : Stmt := topS 3
theorem sc_lines_reduced : FnScope ["rows", "found", "row", "line", "place", "late", "common", "x", "y"] ["rows"] (defScope s_lines_reduced) := ⟨rfl, rfl, rfl, by decide +kernel, rfl, by decide +kernel, by decide +kernel⟩
abbrev s_with_one : Stmt := topS 4
theorem sc_with_one : FnScope ["point"] ["point"] (defScope s_with_one) := ⟨rfl, rfl, rfl, by decide +kernel, rfl, by decide +kernel, by decide +kernel⟩
abbrev s_flat_size : Stmt := topS 5
theorem sc_flat_size : FnScope ["lot", "point"] ["lot"] (defScope s_flat_size) := ⟨rfl, rfl, rfl, by decide +kernel, rfl, by decide +kernel, by decide +kernel⟩
abbrev s_lowest_pair : Stmt := topS 7
theorem sc_lowest_pair : FnScope ["p", "q", "by"] ["p", "q"] (defScope s_lowest_pair) := ⟨rfl, rfl, rfl, by decide +kernel, rfl, by decide +kernel, by decide +kernel⟩
abbrev s_whole_point : Stmt := topS 8
theorem sc_whole_point : FnScope ["p", "below", "x", "y"] ["p"] (defScope s_whole_point) := ⟨rfl, rfl, rfl, by decide +kernel, rfl, by decide +kernel, by decide +kernel⟩
abbrev s_told_number : Stmt := topS 10
theorem sc_told_number : FnScope ["line", "told", "place", "above", "below", "k", "x", "y", "common"] ["line", "told", "place"] (defScope s_told_number) := ⟨rfl, rfl, rfl, by decide +kernel, rfl, by decide +kernel, by decide +kernel⟩
abbrev s_weights_to : Stmt := topS 9
theorem sc_weights_to : FnScope ["points", "p", "columns", "rows", "lines", "below", "told", "place", "line", "point", "j", "column", "x", "y"] ["points", "p"] (defScope s_weights_to) := ⟨rfl, rfl, rfl, by decide +kernel, rfl, by decide +kernel, by decide +kernel⟩
abbrev s_places_of : Stmt := topS 11
theorem sc_places_of : FnScope ["n", "k", "found", "i", "some"] ["n", "k"] (defScope s_places_of) := ⟨rfl, rfl, rfl, by decide +kernel, rfl, by decide +kernel, by decide +kernel⟩
abbrev s_weights_paper : Stmt := topS 12
theorem sc_weights_paper : FnScope ["lot", "p", "k", "places", "points", "weights", "i", "x", "y"] ["lot", "p"] (defScope s_weights_paper) := ⟨rfl, rfl, rfl, by decide +kernel, rfl, by decide +kernel, by decide +kernel⟩
abbrev s_holds_point : Stmt := topS 13
theorem sc_holds_point : FnScope ["lot", "p"] ["lot", "p"] (defScope s_holds_point) := ⟨rfl, rfl, rfl, by decide +kernel, rfl, by decide +kernel, by decide +kernel⟩
abbrev s_as_fractions : Stmt := topS 15
theorem sc_as_fractions : FnScope ["point", "x"] ["point"] (defScope s_as_fractions) := ⟨rfl, rfl, rfl, by decide +kernel, rfl, by decide +kernel, by decide +kernel⟩
abbrev s_hull_corners : Stmt := topS 16
theorem sc_hull_corners : FnScope ["lot", "found", "i", "point", "others"] ["lot"] (defScope s_hull_corners) := ⟨rfl, rfl, rfl, by decide +kernel, rfl, by decide +kernel, by decide +kernel⟩
abbrev s_is_spread : Stmt := topS 18
theorem sc_is_spread : FnScope ["four"] ["four"] (defScope s_is_spread) := ⟨rfl, rfl, rfl, by decide +kernel, rfl, by decide +kernel, by decide +kernel⟩
abbrev s_spread_fours : Stmt := topS 19
theorem sc_spread_fours : FnScope ["lot", "some", "i"] ["lot"] (defScope s_spread_fours) := ⟨rfl, rfl, rfl, by decide +kernel, rfl, by decide +kernel, by decide +kernel⟩
abbrev s_count_by_fives : Stmt := topS 20
theorem sc_count_by_fives : FnScope ["lot", "total", "some", "i"] ["lot"] (defScope s_count_by_fives) := ⟨rfl, rfl, rfl, by decide +kernel, rfl, by decide +kernel, by decide +kernel⟩
abbrev s__law_open_cells : Stmt := topS 22
theorem sc__law_open_cells : FnScope ["script", "stirred", "cell", "cells"] ["script"] (defScope s__law_open_cells) := ⟨rfl, rfl, rfl, by decide +kernel, rfl, by decide +kernel, by decide +kernel⟩
abbrev s__law_pick : Stmt := topS 23
theorem sc__law_pick : FnScope ["source", "most", "cells", "others", "lap", "stirred"] ["source", "most"] (defScope s__law_pick) := ⟨rfl, rfl, rfl, by decide +kernel, rfl, by decide +kernel, by decide +kernel⟩
abbrev s__law_of : Stmt := topS 24
theorem sc__law_of : FnScope ["source", "some"] ["source", "some"] (defScope s__law_of) := ⟨rfl, rfl, rfl, by decide +kernel, rfl, by decide +kernel, by decide +kernel⟩
abbrev s__law_some : Stmt := topS 25
theorem sc__law_some : FnScope ["n", "k", "found", "i", "some"] ["n", "k"] (defScope s__law_some) := ⟨rfl, rfl, rfl, by decide +kernel, rfl, by decide +kernel, by decide +kernel⟩
abbrev s__law_side : Stmt := topS 26
theorem sc__law_side : FnScope ["a", "b", "c", "told"] ["a", "b", "c"] (defScope s__law_side) := ⟨rfl, rfl, rfl, by decide +kernel, rfl, by decide +kernel, by decide +kernel⟩
abbrev s__law_inside : Stmt := topS 27
theorem sc__law_inside : FnScope ["p", "a", "b", "c"] ["p", "a", "b", "c"] (defScope s__law_inside) := ⟨rfl, rfl, rfl, by decide +kernel, rfl, by decide +kernel, by decide +kernel⟩
abbrev s__law_is_spread : Stmt := topS 28
theorem sc__law_is_spread : FnScope ["four", "i", "p", "a", "b", "c", "point"] ["four"] (defScope s__law_is_spread) := ⟨rfl, rfl, rfl, by decide +kernel, rfl, by decide +kernel, by decide +kernel⟩
abbrev s__law_is_free : Stmt := topS 29
theorem sc__law_is_free : FnScope ["lot", "p", "i", "a", "b"] ["lot", "p"] (defScope s__law_is_free) := ⟨rfl, rfl, rfl, by decide +kernel, rfl, by decide +kernel, by decide +kernel⟩
abbrev s_law : Stmt := topS 30
theorem sc_law : FnScope ["script", "source", "lap", "lot", "n", "most", "step", "x", "y", "p", "t", "kept", "due", "four", "some", "five", "inner", "i"] ["script"] (defScope s_law) := ⟨rfl, rfl, rfl, by decide +kernel, rfl, by decide +kernel, by decide +kernel⟩
structure Tx (K : PySem.W.Frag) (mg : Str → Option Value) where
  m_abs : mg "abs" = none
  m_all : mg "all" = none
  m_any : mg "any" = none
  m_enumerate : mg "enumerate" = none
  m_int : mg "int" = none
  m_len : mg "len" = none
  m_list : mg "list" = none
  m_range : mg "range" = none
  m_repr : mg "repr" = none
  m_sorted : mg "sorted" = none
  m_tuple : mg "tuple" = none
  m_zip : mg "zip" = none
  m_gcd : mg "gcd" = some (.builtin "math.gcd")
  a_divisor_of_all : Addr
  fd_divisor_of_all : FuncData
  F_divisor_of_all : Fun K "divisor_of_all" "divisor_of_all" s_divisor_of_all a_divisor_of_all fd_divisor_of_all
  g_divisor_of_all : mg "divisor_of_all" = some (.ref a_divisor_of_all)
  a_lines_reduced : Addr
  fd_lines_reduced : FuncData
  F_lines_reduced : Fun K "lines_reduced" "lines_reduced" s_lines_reduced a_lines_reduced fd_lines_reduced
  g_lines_reduced : mg "lines_reduced" = some (.ref a_lines_reduced)
  a_with_one : Addr
  fd_with_one : FuncData
  F_with_one : Fun K "with_one" "with_one" s_with_one a_with_one fd_with_one
  g_with_one : mg "with_one" = some (.ref a_with_one)
  a_flat_size : Addr
  fd_flat_size : FuncData
  F_flat_size : Fun K "flat_size" "flat_size" s_flat_size a_flat_size fd_flat_size
  g_flat_size : mg "flat_size" = some (.ref a_flat_size)
  a_lowest_pair : Addr
  fd_lowest_pair : FuncData
  F_lowest_pair : Fun K "lowest_pair" "lowest_pair" s_lowest_pair a_lowest_pair fd_lowest_pair
  g_lowest_pair : mg "lowest_pair" = some (.ref a_lowest_pair)
  a_whole_point : Addr
  fd_whole_point : FuncData
  F_whole_point : Fun K "whole_point" "whole_point" s_whole_point a_whole_point fd_whole_point
  g_whole_point : mg "whole_point" = some (.ref a_whole_point)
  a_told_number : Addr
  fd_told_number : FuncData
  F_told_number : Fun K "told_number" "told_number" s_told_number a_told_number fd_told_number
  g_told_number : mg "told_number" = some (.ref a_told_number)
  a_weights_to : Addr
  fd_weights_to : FuncData
  F_weights_to : Fun K "weights_to" "weights_to" s_weights_to a_weights_to fd_weights_to
  g_weights_to : mg "weights_to" = some (.ref a_weights_to)
  a_places_of : Addr
  fd_places_of : FuncData
  F_places_of : Fun K "places_of" "places_of" s_places_of a_places_of fd_places_of
  g_places_of : mg "places_of" = some (.ref a_places_of)
  a_weights_paper : Addr
  fd_weights_paper : FuncData
  F_weights_paper : Fun K "weights_paper" "weights_paper" s_weights_paper a_weights_paper fd_weights_paper
  g_weights_paper : mg "weights_paper" = some (.ref a_weights_paper)
  a_holds_point : Addr
  fd_holds_point : FuncData
  F_holds_point : Fun K "holds_point" "holds_point" s_holds_point a_holds_point fd_holds_point
  g_holds_point : mg "holds_point" = some (.ref a_holds_point)
  a_as_fractions : Addr
  fd_as_fractions : FuncData
  F_as_fractions : Fun K "as_fractions" "as_fractions" s_as_fractions a_as_fractions fd_as_fractions
  g_as_fractions : mg "as_fractions" = some (.ref a_as_fractions)
  a_hull_corners : Addr
  fd_hull_corners : FuncData
  F_hull_corners : Fun K "hull_corners" "hull_corners" s_hull_corners a_hull_corners fd_hull_corners
  g_hull_corners : mg "hull_corners" = some (.ref a_hull_corners)
  a_is_spread : Addr
  fd_is_spread : FuncData
  F_is_spread : Fun K "is_spread" "is_spread" s_is_spread a_is_spread fd_is_spread
  g_is_spread : mg "is_spread" = some (.ref a_is_spread)
  a_spread_fours : Addr
  fd_spread_fours : FuncData
  F_spread_fours : Fun K "spread_fours" "spread_fours" s_spread_fours a_spread_fours fd_spread_fours
  g_spread_fours : mg "spread_fours" = some (.ref a_spread_fours)
  a_count_by_fives : Addr
  fd_count_by_fives : FuncData
  F_count_by_fives : Fun K "count_by_fives" "count_by_fives" s_count_by_fives a_count_by_fives fd_count_by_fives
  g_count_by_fives : mg "count_by_fives" = some (.ref a_count_by_fives)
  a__law_open_cells : Addr
  fd__law_open_cells : FuncData
  F__law_open_cells : Fun K "_law_open_cells" "_law_open_cells" s__law_open_cells a__law_open_cells fd__law_open_cells
  g__law_open_cells : mg "_law_open_cells" = some (.ref a__law_open_cells)
  a__law_pick : Addr
  fd__law_pick : FuncData
  F__law_pick : Fun K "_law_pick" "_law_pick" s__law_pick a__law_pick fd__law_pick
  g__law_pick : mg "_law_pick" = some (.ref a__law_pick)
  a__law_of : Addr
  fd__law_of : FuncData
  F__law_of : Fun K "_law_of" "_law_of" s__law_of a__law_of fd__law_of
  g__law_of : mg "_law_of" = some (.ref a__law_of)
  a__law_some : Addr
  fd__law_some : FuncData
  F__law_some : Fun K "_law_some" "_law_some" s__law_some a__law_some fd__law_some
  g__law_some : mg "_law_some" = some (.ref a__law_some)
  a__law_side : Addr
  fd__law_side : FuncData
  F__law_side : Fun K "_law_side" "_law_side" s__law_side a__law_side fd__law_side
  g__law_side : mg "_law_side" = some (.ref a__law_side)
  a__law_inside : Addr
  fd__law_inside : FuncData
  F__law_inside : Fun K "_law_inside" "_law_inside" s__law_inside a__law_inside fd__law_inside
  g__law_inside : mg "_law_inside" = some (.ref a__law_inside)
  a__law_is_spread : Addr
  fd__law_is_spread : FuncData
  F__law_is_spread : Fun K "_law_is_spread" "_law_is_spread" s__law_is_spread a__law_is_spread fd__law_is_spread
  g__law_is_spread : mg "_law_is_spread" = some (.ref a__law_is_spread)
  a__law_is_free : Addr
  fd__law_is_free : FuncData
  F__law_is_free : Fun K "_law_is_free" "_law_is_free" s__law_is_free a__law_is_free fd__law_is_free
  g__law_is_free : mg "_law_is_free" = some (.ref a__law_is_free)
  a_law : Addr
  fd_law : FuncData
  F_law : Fun K "law" "law" s_law a_law fd_law
  g_law : mg "law" = some (.ref a_law)
section
variable {Pr : Program} {w : World} {K : PySem.W.Frag} {mg : Str → Option Value} {base : Heap}
theorem b_divisor_of_all_T (T : Tx K mg) : Binds K T.fd_divisor_of_all ["numbers"] [] := T.F_divisor_of_all.binds fun _ _ _ _ _ _ us hl => match us, hl with | [_], _ => rfl
set_option maxHeartbeats 4000000 in
theorem ok_divisor_of_all (T : Tx K mg) : FnG Pr w K mg base 1 T.a_divisor_of_all T.fd_divisor_of_all ["numbers"] (spP 1 F_divisor_of_all) := by
  refine fn_g (k := 0) T.F_divisor_of_all sc_divisor_of_all (fun vs H Q E h => h.1) (fun cdv A outer s H vs Q E hgd hr h => ⟨_, (pss_cons (ps_set (i := 1) sc_divisor_of_all.nd rfl (Or.inl rfl) pe_int)
  (pss_cons (ps_for PassesOwn.never rfl (piSeq (K := K) (pv 0)) (pg_name (i := 2) sc_divisor_of_all.nd rfl (Or.inl rfl))
  (pss_one (ps_set (i := 1) sc_divisor_of_all.nd rfl (Or.inl rfl) (pe_callBfun cr_gcd (by rfl) T.m_gcd (pa_cons (pv 1) (pa_cons (pv 2) pa_nil))))))
  (pss_one (ps_ret (pv 1))))), ?_⟩)
  exact body_p (n := 1) (m := 2) (Γr := [.fro, .fro]) (Γl := []) (Γ' := []) (N := ["numbers", "found", "number"]) (sem_seq (sem_asg sem_int (by decide))
  (sem_seq (sem_for (semI_seq (sem_var (i := 0) rfl)) (sem_gname (i := 2) rfl)
  (sem_asg (sem_cb ca_gcd (sem_vcons ((sem_var (i := 1) rfl)).v (sem_vcons ((sem_var (i := 2) rfl)).v sem_vnil))) (by decide)))
  (sem_ret (sem_var (i := 1) rfl)))) rfl rfl h
theorem b_lines_reduced_T (T : Tx K mg) : Binds K T.fd_lines_reduced ["rows"] [] := T.F_lines_reduced.binds fun _ _ _ _ _ _ us hl => match us, hl with | [_], _ => rfl
set_option maxHeartbeats 4000000 in
theorem ok_lines_reduced (T : Tx K mg) : FnG Pr w K mg base 2 T.a_lines_reduced T.fd_lines_reduced ["rows"] (spP 1 F_lines_reduced) := by
  refine fn_g (k := 1) T.F_lines_reduced sc_lines_reduced (fun vs H Q E h => h.1) (fun cdv A outer s H vs Q E hgd hr h => ⟨_, (pss_cons (ps_set (i := 1) sc_lines_reduced.nd rfl (Or.inl rfl) (pe_lst pa_nil))
  (pss_cons (ps_for PassesOwn.never rfl (piSeq (K := K) (pv 0)) (pg_name (i := 2) sc_lines_reduced.nd rfl (Or.inl rfl))
  (pss_cons (ps_set (i := 3) sc_lines_reduced.nd rfl (Or.inr rfl) (pe_callTy (kLst (K := K)) (by rfl) T.m_list bt_list (pa_cons (pv 2) pa_nil)))
  (pss_cons (ps_for PassesOwn.never rfl (piSeq (K := K) (pv 1)) (pgTup (K := K) (n := 2) rfl (pgs_cons (pg_name (i := 4) sc_lines_reduced.nd rfl (Or.inr rfl)) (pgs_cons (pg_name (i := 5) sc_lines_reduced.nd rfl (Or.inr rfl)) pgs_nil)))
  (pss_one (ps_if (pt_cmpR (kNe (K := K) hr) (pe_ix (kIx (K := K)) (pv 3) (pv 4) (fun _ _ => rfl)) pe_int (nomark _)) (pss_one (ps_set (i := 3) sc_lines_reduced.nd rfl (Or.inr rfl) (pe_lc (own := [("x", 7), ("y", 8)]) rfl sc_lines_reduced.nd  (piZip (K := K) (by rfl) T.m_zip (pa_cons (pv 3) (pa_cons (pv 5) pa_nil))) (blkOk_by (by kernel_rfl)) (fun _ _ _ _ _ => (pgTup (K := K) (n := 2) rfl (pgs_cons (pg_name (i := 7) sc_lines_reduced.nd rfl (Or.inl rfl)) (pgs_cons (pg_name (i := 8) sc_lines_reduced.nd rfl (Or.inl rfl)) pgs_nil)))) (fun _ _ _ _ _ => pts_nil) (fun _ _ _ _ _ => (pe_op op_sub (pe_op (kMul (K := K)) (pe_ix (kIx (K := K)) (pv 5) (pv 4) (fun _ _ => rfl)) (pv 7)) (pe_op (kMul (K := K)) (pe_ix (kIx (K := K)) (pv 3) (pv 4) (fun _ _ => rfl)) (pv 8))))))) pss_nil)))
  (pss_cons (ps_set (i := 6) sc_lines_reduced.nd rfl (Or.inr rfl) (pe_callG ((ok_divisor_of_all T).mono (by decide)) hgd hr (by rfl) T.g_divisor_of_all T.F_divisor_of_all.kp (b_divisor_of_all_T T) (pa_cons (pv 3) pa_nil)))
  (pss_one (ps_if (pt_cmpR op_gt (pv 6) pe_int (nomark _)) (pss_cons (ps_set (i := 3) sc_lines_reduced.nd rfl (Or.inr rfl) (pe_lc (own := [("x", 7)]) rfl sc_lines_reduced.nd  (piSeq (K := K) (pv 3)) (blkOk_by (by kernel_rfl)) (fun _ _ _ _ _ => (pg_name (i := 7) sc_lines_reduced.nd rfl (Or.inl rfl))) (fun _ _ _ _ _ => pts_nil) (fun _ _ _ _ _ => (pe_op op_fdivF (pv 7) (pv 6)))))
  (pss_one (ps_expr (pe_bm PySem.F.plainAttrs_list PySem.F.slot_list_append PySem.F.type_list_append mt_append (pv 1) (pa_cons (pe_tup (pa_cons (pe_ix (kIx (K := K)) (pe_lc (own := [("place", 4), ("x", 7)]) rfl sc_lines_reduced.nd  (piEnum (K := K) (by rfl) T.m_enumerate (pa_cons (pv 3) pa_nil)) (blkOk_by (by kernel_rfl)) (fun _ _ _ _ _ => (pgTup (K := K) (n := 2) rfl (pgs_cons (pg_name (i := 4) sc_lines_reduced.nd rfl (Or.inl rfl)) (pgs_cons (pg_name (i := 7) sc_lines_reduced.nd rfl (Or.inl rfl)) pgs_nil)))) (fun _ _ _ _ _ => (pts_one (pt_cmpR (kNe (K := K) hr) (pv 7) pe_int (nomark _)))) (fun _ _ _ _ _ => (pv 4))) pe_int (fun _ _ => rfl)) (pa_cons (pv 3) pa_nil))) pa_nil))))) pss_nil))))))
  (pss_one (ps_ret (pv 1))))), ?_⟩)
  exact body_p (n := 1) (m := 8) (Γr := [.own, .fro, .fro, .fro, .fro, .fro, .fro, .fro]) (Γl := []) (Γ' := []) (N := ["rows", "found", "row", "line", "place", "late", "common", "x", "y"]) (sem_seq (sem_asgOwn (sem_lst sem_anil) (by decide))
  (sem_seq (sem_for (semI_seq (sem_var (i := 0) rfl)) (sem_gname (i := 2) rfl)
  (sem_seq (sem_asg ((sem_cbL ca_lst (sem_vcons ((sem_var (i := 2) rfl)).v sem_vnil))).e (by decide))
  (sem_seq (sem_forO (K := K) (i := 1) rfl (fun _ _ => (sem_gtup (sem_gscons (sem_gname (i := 4) rfl) (sem_gscons (sem_gname (i := 5) rfl) sem_gsnil)))) (fun _ _ => (sem_if (sem_test ((sem_op oe_ne ((sem_op oe_ix ((sem_var (i := 3) rfl)).v ((sem_var (i := 4) rfl)).v)).v (sem_int).v)).v) (sem_asg ((sem_lc (semIc_zip (sem_vcons ((sem_var (i := 3) rfl)).v (sem_vcons ((sem_var (i := 5) rfl)).v sem_vnil))) (sem_gtup (sem_gscons (sem_gname (i := 7) rfl) (sem_gscons (sem_gname (i := 8) rfl) sem_gsnil))) sem_yes (sem_op oe_sub ((sem_op oe_mulX ((sem_op oe_ix ((sem_var (i := 5) rfl)).v ((sem_var (i := 4) rfl)).v)).v ((sem_var (i := 7) rfl)).v)).v ((sem_op oe_mulX ((sem_op oe_ix ((sem_var (i := 3) rfl)).v ((sem_var (i := 4) rfl)).v)).v ((sem_var (i := 8) rfl)).v)).v) (allFro rfl) (by decide))).e (by simp)) sem_nx)))
  (sem_seq (sem_asg (sem_call (sem_acons (sem_var (i := 3) rfl) sem_anil)) (by decide))
  (sem_if (sem_test ((sem_op oe_gt ((sem_var (i := 6) rfl)).v (sem_int).v)).v) (sem_seq (sem_asg ((sem_lc (semIc_seq ((sem_var (i := 3) rfl)).v) (sem_gname (i := 7) rfl) sem_yes (sem_op oe_fdiv ((sem_var (i := 7) rfl)).v ((sem_var (i := 6) rfl)).v) (allFro rfl) (by decide))).e (by decide))
  (sem_app (i := 1) rfl (sem_tup (sem_acons (sem_op oe_ix ((sem_lc (semIc_enum (sem_vcons ((sem_var (i := 3) rfl)).v sem_vnil)) (sem_gtup (sem_gscons (sem_gname (i := 4) rfl) (sem_gscons (sem_gname (i := 7) rfl) sem_gsnil))) (sem_test ((sem_op oe_ne ((sem_var (i := 7) rfl)).v (sem_int).v)).v) (sem_var (i := 4) rfl) (allFro rfl) (by decide))).e.v (sem_int).v) (sem_acons (sem_var (i := 3) rfl) sem_anil))))) sem_nx)))))
  (sem_retOwn (i := 1) rfl))) rfl rfl h
theorem b_with_one_T (T : Tx K mg) : Binds K T.fd_with_one ["point"] [] := T.F_with_one.binds fun _ _ _ _ _ _ us hl => match us, hl with | [_], _ => rfl
set_option maxHeartbeats 4000000 in
theorem ok_with_one (T : Tx K mg) : FnG Pr w K mg base 1 T.a_with_one T.fd_with_one ["point"] (spP 1 F_with_one) := by
  refine fn_g (k := 0) T.F_with_one sc_with_one (fun vs H Q E h => h.1) (fun cdv A outer s H vs Q E hgd hr h => ⟨_, (pss_one (ps_ret (pe_tup (pa_cons pe_int (paStar (K := K) (pv 0) pa_nil))))), ?_⟩)
  exact body_p (n := 1) (m := 0) (Γr := []) (Γl := []) (Γ' := []) (N := ["point"]) (sem_ret (sem_tup (sem_acons sem_int (sem_astar ((sem_var (i := 0) rfl)).v sem_anil)))) rfl rfl h
theorem b_flat_size_T (T : Tx K mg) : Binds K T.fd_flat_size ["lot"] [] := T.F_flat_size.binds fun _ _ _ _ _ _ us hl => match us, hl with | [_], _ => rfl
set_option maxHeartbeats 4000000 in
theorem ok_flat_size (T : Tx K mg) : FnG Pr w K mg base 3 T.a_flat_size T.fd_flat_size ["lot"] (spP 1 F_flat_size) := by
  refine fn_g (k := 2) T.F_flat_size sc_flat_size (fun vs H Q E h => h.1) (fun cdv A outer s H vs Q E hgd hr h => ⟨_, (pss_one (ps_ret (pe_op op_sub (pe_callB (kLen (K := K)) (by rfl) T.m_len bt_len (pa_cons (pe_callG ((ok_lines_reduced T).mono (by decide)) hgd hr (by rfl) T.g_lines_reduced T.F_lines_reduced.kp (b_lines_reduced_T T) (pa_cons (pe_lc (own := [("point", 1)]) rfl sc_flat_size.nd  (piSeq (K := K) (pv 0)) (blkOk_by (by kernel_rfl)) (fun _ _ _ _ _ => (pg_name (i := 1) sc_flat_size.nd rfl (Or.inl rfl))) (fun _ _ _ _ _ => pts_nil) (fun _ _ _ _ _ => (pe_callG ((ok_with_one T).mono (by decide)) hgd hr (by rfl) T.g_with_one T.F_with_one.kp (b_with_one_T T) (pa_cons (pv 1) pa_nil)))) pa_nil)) pa_nil)) pe_int))), ?_⟩)
  exact body_p (n := 1) (m := 1) (Γr := [.fro]) (Γl := []) (Γ' := []) (N := ["lot", "point"]) (sem_ret (sem_op oe_sub ((sem_cb ca_len (sem_vcons ((sem_call (sem_acons ((sem_lc (semIc_seq ((sem_var (i := 0) rfl)).v) (sem_gname (i := 1) rfl) sem_yes (sem_call (sem_acons (sem_var (i := 1) rfl) sem_anil)) (allFro rfl) (by decide))).e sem_anil))).v sem_vnil))).v (sem_int).v)) rfl rfl h
theorem b_lowest_pair_T (T : Tx K mg) : Binds K T.fd_lowest_pair ["p", "q"] [] := T.F_lowest_pair.binds fun _ _ _ _ _ _ us hl => match us, hl with | [_, _], _ => rfl
set_option maxHeartbeats 4000000 in
theorem ok_lowest_pair (T : Tx K mg) : FnG Pr w K mg base 1 T.a_lowest_pair T.fd_lowest_pair ["p", "q"] (spP 2 F_lowest_pair) := by
  refine fn_g (k := 0) T.F_lowest_pair sc_lowest_pair (fun vs H Q E h => h.1) (fun cdv A outer s H vs Q E hgd hr h => ⟨_, (pss_cons (ps_set (i := 2) sc_lowest_pair.nd rfl (Or.inl rfl) (pe_ifExp (pt_cmpR op_gt (pv 1) pe_int (nomark _)) (pe_callBfun cr_gcd (by rfl) T.m_gcd (pa_cons (pv 0) (pa_cons (pv 1) pa_nil))) (pe_un un_neg (pe_callBfun cr_gcd (by rfl) T.m_gcd (pa_cons (pv 0) (pa_cons (pv 1) pa_nil))))))
  (pss_one (ps_ret (pe_tup (pa_cons (pe_op op_fdivF (pv 0) (pv 2)) (pa_cons (pe_op op_fdivF (pv 1) (pv 2)) pa_nil)))))), ?_⟩)
  exact body_p (n := 2) (m := 1) (Γr := [.fro]) (Γl := []) (Γ' := []) (N := ["p", "q", "by"]) (sem_seq (sem_asg (sem_eIf (sem_test ((sem_op oe_gt ((sem_var (i := 1) rfl)).v (sem_int).v)).v) (sem_cb ca_gcd (sem_vcons ((sem_var (i := 0) rfl)).v (sem_vcons ((sem_var (i := 1) rfl)).v sem_vnil))) (sem_un oe_neg ((sem_cb ca_gcd (sem_vcons ((sem_var (i := 0) rfl)).v (sem_vcons ((sem_var (i := 1) rfl)).v sem_vnil)))).v)) (by decide))
  (sem_ret (sem_tup (sem_acons (sem_op oe_fdiv ((sem_var (i := 0) rfl)).v ((sem_var (i := 2) rfl)).v) (sem_acons (sem_op oe_fdiv ((sem_var (i := 1) rfl)).v ((sem_var (i := 2) rfl)).v) sem_anil))))) rfl rfl h
theorem b_whole_point_T (T : Tx K mg) : Binds K T.fd_whole_point ["p"] [] := T.F_whole_point.binds fun _ _ _ _ _ _ us hl => match us, hl with | [_], _ => rfl
set_option maxHeartbeats 4000000 in
theorem ok_whole_point (T : Tx K mg) : FnG Pr w K mg base 1 T.a_whole_point T.fd_whole_point ["p"] (spP 1 F_whole_point) := by
  refine fn_g (k := 0) T.F_whole_point sc_whole_point (fun vs H Q E h => h.1) (fun cdv A outer s H vs Q E hgd hr h => ⟨_, (pss_cons (ps_set (i := 1) sc_whole_point.nd rfl (Or.inr rfl) pe_int)
  (pss_cons (ps_for PassesOwn.never rfl (piSeq (K := K) (pv 0)) (pgTup (K := K) (n := 2) rfl (pgs_cons (pg_name (i := 2) sc_whole_point.nd rfl (Or.inl rfl)) (pgs_cons (pg_name (i := 3) sc_whole_point.nd rfl (Or.inl rfl)) pgs_nil)))
  (pss_one (ps_set (i := 1) sc_whole_point.nd rfl (Or.inr rfl) (pe_op (kMul (K := K)) (pv 1) (pv 3)))))
  (pss_one (ps_ret (pe_lst (pa_cons (pv 1) (paStar (K := K) (pe_lc (own := [("x", 2), ("y", 3)]) rfl sc_whole_point.nd  (piSeq (K := K) (pv 0)) (blkOk_by (by kernel_rfl)) (fun _ _ _ _ _ => (pgTup (K := K) (n := 2) rfl (pgs_cons (pg_name (i := 2) sc_whole_point.nd rfl (Or.inl rfl)) (pgs_cons (pg_name (i := 3) sc_whole_point.nd rfl (Or.inl rfl)) pgs_nil)))) (fun _ _ _ _ _ => pts_nil) (fun _ _ _ _ _ => (pe_op (kMul (K := K)) (pv 2) (pe_op op_fdivF (pv 1) (pv 3))))) pa_nil))))))), ?_⟩)
  exact body_p (n := 1) (m := 3) (Γr := [.fro, .fro, .fro]) (Γl := []) (Γ' := []) (N := ["p", "below", "x", "y"]) (sem_seq (sem_asg sem_int (by decide))
  (sem_seq (sem_for (semI_seq (sem_var (i := 0) rfl)) (sem_gtup (sem_gscons (sem_gname (i := 2) rfl) (sem_gscons (sem_gname (i := 3) rfl) sem_gsnil)))
  (sem_asg (sem_op oe_mulX ((sem_var (i := 1) rfl)).v ((sem_var (i := 3) rfl)).v) (by decide)))
  (sem_ret ((sem_lst (sem_acons (sem_var (i := 1) rfl) (sem_astar ((sem_lc (semIc_seq ((sem_var (i := 0) rfl)).v) (sem_gtup (sem_gscons (sem_gname (i := 2) rfl) (sem_gscons (sem_gname (i := 3) rfl) sem_gsnil))) sem_yes (sem_op oe_mulX ((sem_var (i := 2) rfl)).v ((sem_op oe_fdiv ((sem_var (i := 1) rfl)).v ((sem_var (i := 3) rfl)).v)).v) (allFro rfl) (by decide))).e.v sem_anil)))).e))) rfl rfl h
theorem b_told_number_T (T : Tx K mg) : Binds K T.fd_told_number ["line", "told", "place"] [] := T.F_told_number.binds fun _ _ _ _ _ _ us hl => match us, hl with | [_, _, _], _ => rfl
set_option maxHeartbeats 4000000 in
theorem ok_told_number (T : Tx K mg) : FnG Pr w K mg base 2 T.a_told_number T.fd_told_number ["line", "told", "place"] (spP 3 F_told_number) := by
  refine fn_g (k := 1) T.F_told_number sc_told_number (fun vs H Q E h => h.1) (fun cdv A outer s H vs Q E hgd hr h => ⟨_, (pss_cons (ps_par (i := 3) (j := 4) rfl sc_told_number.nd rfl rfl (by decide) rfl rfl (pa_cons (pe_ix (kIx (K := K)) (pv 0) (pe_un un_neg pe_int) (fun _ _ => rfl)) (pa_cons pe_int pa_nil)) (by rfl))
  (pss_cons (ps_for PassesOwn.never rfl (pi_range2 (by rfl) T.m_range (pa_cons (pe_op (kAdd (K := K)) (pv 2) pe_int) (pa_cons (pe_callB (kLen (K := K)) (by rfl) T.m_len bt_len (pa_cons (pv 1) pa_nil)) pa_nil))) (pg_name (i := 5) sc_told_number.nd rfl (Or.inl rfl))
  (pss_cons (ps_asg (pe_ix (kIx (K := K)) (pv 1) (pv 5) (fun _ _ => rfl)) (pgTup (K := K) (n := 2) rfl (pgs_cons (pg_name (i := 6) sc_told_number.nd rfl (Or.inl rfl)) (pgs_cons (pg_name (i := 7) sc_told_number.nd rfl (Or.inl rfl)) pgs_nil))))
  (pss_cons (ps_set (i := 3) sc_told_number.nd rfl (Or.inl rfl) (pe_op op_sub (pe_op (kMul (K := K)) (pv 3) (pv 7)) (pe_op (kMul (K := K)) (pe_op (kMul (K := K)) (pe_ix (kIx (K := K)) (pv 0) (pv 5) (fun _ _ => rfl)) (pv 6)) (pv 4))))
  (pss_cons (ps_set (i := 4) sc_told_number.nd rfl (Or.inl rfl) (pe_op (kMul (K := K)) (pv 4) (pv 7)))
  (pss_cons (ps_set (i := 8) sc_told_number.nd rfl (Or.inl rfl) (pe_callBfun cr_gcd (by rfl) T.m_gcd (pa_cons (pv 3) (pa_cons (pv 4) pa_nil))))
  (pss_one (ps_par (i := 3) (j := 4) rfl sc_told_number.nd rfl rfl (by decide) rfl rfl (pa_cons (pe_op op_fdivF (pv 3) (pv 8)) (pa_cons (pe_op op_fdivF (pv 4) (pv 8)) pa_nil)) (by rfl))))))))
  (pss_one (ps_ret (pe_callG ((ok_lowest_pair T).mono (by decide)) hgd hr (by rfl) T.g_lowest_pair T.F_lowest_pair.kp (b_lowest_pair_T T) (pa_cons (pv 3) (pa_cons (pe_op (kMul (K := K)) (pv 4) (pe_ix (kIx (K := K)) (pv 0) (pv 2) (fun _ _ => rfl))) pa_nil))))))), ?_⟩)
  exact body_p (n := 3) (m := 6) (Γr := [.fro, .fro, .fro, .fro, .fro, .fro]) (Γl := []) (Γ' := []) (N := ["line", "told", "place", "above", "below", "k", "x", "y", "common"]) (sem_seq (sem_par (sem_acons (sem_op oe_ix ((sem_var (i := 0) rfl)).v ((sem_un oe_neg (sem_int).v)).v) (sem_acons sem_int sem_anil)) rfl rfl)
  (sem_seq (sem_for (semI_rng2 (sem_vcons ((sem_op oe_add ((sem_var (i := 2) rfl)).v (sem_int).v)).v (sem_vcons ((sem_cb ca_len (sem_vcons ((sem_var (i := 1) rfl)).v sem_vnil))).v sem_vnil))) (sem_gname (i := 5) rfl)
  (sem_seq (sem_tgt (sem_op oe_ix ((sem_var (i := 1) rfl)).v ((sem_var (i := 5) rfl)).v) (sem_gtup (sem_gscons (sem_gname (i := 6) rfl) (sem_gscons (sem_gname (i := 7) rfl) sem_gsnil))))
  (sem_seq (sem_asg (sem_op oe_sub ((sem_op oe_mulX ((sem_var (i := 3) rfl)).v ((sem_var (i := 7) rfl)).v)).v ((sem_op oe_mulX ((sem_op oe_mulX ((sem_op oe_ix ((sem_var (i := 0) rfl)).v ((sem_var (i := 5) rfl)).v)).v ((sem_var (i := 6) rfl)).v)).v ((sem_var (i := 4) rfl)).v)).v) (by decide))
  (sem_seq (sem_asg (sem_op oe_mulX ((sem_var (i := 4) rfl)).v ((sem_var (i := 7) rfl)).v) (by decide))
  (sem_seq (sem_asg (sem_cb ca_gcd (sem_vcons ((sem_var (i := 3) rfl)).v (sem_vcons ((sem_var (i := 4) rfl)).v sem_vnil))) (by decide))
  (sem_par (sem_acons (sem_op oe_fdiv ((sem_var (i := 3) rfl)).v ((sem_var (i := 8) rfl)).v) (sem_acons (sem_op oe_fdiv ((sem_var (i := 4) rfl)).v ((sem_var (i := 8) rfl)).v) sem_anil)) rfl rfl))))))
  (sem_ret (sem_call (sem_acons (sem_var (i := 3) rfl) (sem_acons (sem_op oe_mulX ((sem_var (i := 4) rfl)).v ((sem_op oe_ix ((sem_var (i := 0) rfl)).v ((sem_var (i := 2) rfl)).v)).v) sem_anil)))))) rfl rfl h
theorem b_weights_to_T (T : Tx K mg) : Binds K T.fd_weights_to ["points", "p"] [] := T.F_weights_to.binds fun _ _ _ _ _ _ us hl => match us, hl with | [_, _], _ => rfl
set_option maxHeartbeats 4000000 in
theorem ok_weights_to (T : Tx K mg) : FnG Pr w K mg base 3 T.a_weights_to T.fd_weights_to ["points", "p"] (spP 2 F_weights_to) := by
  refine fn_g (k := 2) T.F_weights_to sc_weights_to (fun vs H Q E h => h.1) (fun cdv A outer s H vs Q E hgd hr h => ⟨_, (pss_cons (ps_set (i := 2) sc_weights_to.nd rfl (Or.inr rfl) (pe_lst (paStar (K := K) (pe_lc (own := [("point", 9)]) rfl sc_weights_to.nd  (piSeq (K := K) (pv 0)) (blkOk_by (by kernel_rfl)) (fun _ _ _ _ _ => (pg_name (i := 9) sc_weights_to.nd rfl (Or.inl rfl))) (fun _ _ _ _ _ => pts_nil) (fun _ _ _ _ _ => (pe_callG ((ok_with_one T).mono (by decide)) hgd hr (by rfl) T.g_with_one T.F_with_one.kp (b_with_one_T T) (pa_cons (pv 9) pa_nil)))) (pa_cons (pe_callG ((ok_whole_point T).mono (by decide)) hgd hr (by rfl) T.g_whole_point T.F_whole_point.kp (b_whole_point_T T) (pa_cons (pv 1) pa_nil)) pa_nil))))
  (pss_cons (ps_setLc (i := 3) (own := [("j", 10)]) rfl sc_weights_to.nd rfl rfl (sw_true rfl rfl rfl (by decide +kernel)) (pi_range1 (by rfl) T.m_range (pa_cons (pe_callB (kLen (K := K)) (by rfl) T.m_len bt_len (pa_cons (pe_ix (kIx (K := K)) (pv 2) pe_int (fun _ _ => rfl)) pa_nil)) pa_nil)) (blkOk_by (by kernel_rfl)) (fun _ _ _ _ _ => (pg_name (i := 10) sc_weights_to.nd rfl (Or.inr rfl))) (fun _ _ _ _ _ => pts_nil) (fun _ _ _ _ _ => (pe_lc (own := [("column", 11)]) rfl sc_weights_to.nd  (piSeq (K := K) (pv 2)) (blkOk_by (by kernel_rfl)) (fun _ _ _ _ _ => (pg_name (i := 11) sc_weights_to.nd rfl (Or.inl rfl))) (fun _ _ _ _ _ => pts_nil) (fun _ _ _ _ _ => (pe_ix (kIx (K := K)) (pv 11) (pv 10) (fun _ _ => rfl))))))
  (pss_cons (ps_set (i := 4) sc_weights_to.nd rfl (Or.inl rfl) (pe_callG ((ok_lines_reduced T).mono (by decide)) hgd hr (by rfl) T.g_lines_reduced T.F_lines_reduced.kp (b_lines_reduced_T T) (pa_cons (pv 3) pa_nil)))
  (pss_cons (ps_if (pt_val (pe_callB (kAny (K := K) rfl) (by rfl) T.m_any bt_any (pa_cons (pe_lc (own := [("place", 7), ("line", 8)]) rfl sc_weights_to.nd  (piSeq (K := K) (pv 4)) (blkOk_by (by kernel_rfl)) (fun _ _ _ _ _ => (pgTup (K := K) (n := 2) rfl (pgs_cons (pg_name (i := 7) sc_weights_to.nd rfl (Or.inl rfl)) (pgs_cons (pg_name (i := 8) sc_weights_to.nd rfl (Or.inl rfl)) pgs_nil)))) (fun _ _ _ _ _ => pts_nil) (fun _ _ _ _ _ => (pe_cmpR (kEq (K := K) hr) (pv 7) (pe_callB (kLen (K := K)) (by rfl) T.m_len bt_len (pa_cons (pv 0) pa_nil)) (nomark _)))) pa_nil))) (pss_one (ps_ret pe_non)) pss_nil)
  (pss_cons (ps_asg (pe_tup (pa_cons (pe_ix (kIx (K := K)) (pe_ix (kIx (K := K)) (pv 2) (pe_un un_neg pe_int) (fun _ _ => rfl)) pe_int (fun _ _ => rfl)) (pa_cons (pe_op (kMul (K := K)) (pe_lst (pa_cons (pe_tup (pa_cons pe_int (pa_cons pe_int pa_nil))) pa_nil)) (pe_callB (kLen (K := K)) (by rfl) T.m_len bt_len (pa_cons (pv 0) pa_nil))) pa_nil))) (pgTup (K := K) (n := 2) rfl (pgs_cons (pg_name (i := 5) sc_weights_to.nd rfl (Or.inr rfl)) (pgs_cons (pg_name (i := 6) sc_weights_to.nd rfl (Or.inl rfl)) pgs_nil))))
  (pss_cons (ps_for PassesOwn.never rfl (piSeq (K := K) (pe_revL (pe_callB (kSrt (K := K) hr) (by rfl) T.m_sorted bt_sorted (pa_cons (pv 4) pa_nil)))) (pgTup (K := K) (n := 2) rfl (pgs_cons (pg_name (i := 7) sc_weights_to.nd rfl (Or.inl rfl)) (pgs_cons (pg_name (i := 8) sc_weights_to.nd rfl (Or.inl rfl)) pgs_nil)))
  (pss_one (ps_asg (pe_callG ((ok_told_number T).mono (by decide)) hgd hr (by rfl) T.g_told_number T.F_told_number.kp (b_told_number_T T) (pa_cons (pv 8) (pa_cons (pv 6) (pa_cons (pv 7) pa_nil)))) (pg_sub (pv 6) (pv 7) set_list))))
  (pss_one (ps_ret (pe_callTy (kTup (K := K)) (by rfl) T.m_tuple bt_tuple (pa_cons (pe_lc (own := [("x", 12), ("y", 13)]) rfl sc_weights_to.nd  (piSeq (K := K) (pv 6)) (blkOk_by (by kernel_rfl)) (fun _ _ _ _ _ => (pgTup (K := K) (n := 2) rfl (pgs_cons (pg_name (i := 12) sc_weights_to.nd rfl (Or.inl rfl)) (pgs_cons (pg_name (i := 13) sc_weights_to.nd rfl (Or.inl rfl)) pgs_nil)))) (fun _ _ _ _ _ => pts_nil) (fun _ _ _ _ _ => (pe_callG ((ok_lowest_pair T).mono (by decide)) hgd hr (by rfl) T.g_lowest_pair T.F_lowest_pair.kp (b_lowest_pair_T T) (pa_cons (pv 12) (pa_cons (pe_op (kMul (K := K)) (pv 13) (pv 5)) pa_nil))))) pa_nil)))))))))), ?_⟩)
  exact body_p (n := 2) (m := 12) (Γr := [.fro, .fro, .fro, .fro, .own, .fro, .fro, .fro, .fro, .fro, .fro, .fro]) (Γl := []) (Γ' := []) (N := ["points", "p", "columns", "rows", "lines", "below", "told", "place", "line", "point", "j", "column", "x", "y"]) (sem_seq (sem_asg ((sem_lst (sem_astar ((sem_lc (semIc_seq ((sem_var (i := 0) rfl)).v) (sem_gname (i := 9) rfl) sem_yes (sem_call (sem_acons (sem_var (i := 9) rfl) sem_anil)) (allFro rfl) (by decide))).e.v (sem_acons (sem_call (sem_acons (sem_var (i := 1) rfl) sem_anil)) sem_anil)))).e (by decide))
  (sem_seq (sem_asg ((sem_lc (semIc_rng1 (sem_vcons ((sem_cb ca_len (sem_vcons ((sem_op oe_ix ((sem_var (i := 2) rfl)).v (sem_int).v)).v sem_vnil))).v sem_vnil)) (sem_gname (i := 10) rfl) sem_yes ((sem_lc (semIc_seq ((sem_var (i := 2) rfl)).v) (sem_gname (i := 11) rfl) sem_yes (sem_op oe_ix ((sem_var (i := 11) rfl)).v ((sem_var (i := 10) rfl)).v) (allFro rfl) (by decide))).e (allFro rfl) (by decide))).e (by decide))
  (sem_seq (sem_asg (sem_call (sem_acons (sem_var (i := 3) rfl) sem_anil)) (by decide))
  (sem_seq (sem_if (sem_tB ((sem_cb ca_any (sem_vcons ((sem_lc (semIc_seq ((sem_var (i := 4) rfl)).v) (sem_gtup (sem_gscons (sem_gname (i := 7) rfl) (sem_gscons (sem_gname (i := 8) rfl) sem_gsnil))) sem_yes (sem_op oe_eq ((sem_var (i := 7) rfl)).v ((sem_cb ca_len (sem_vcons ((sem_var (i := 0) rfl)).v sem_vnil))).v) (allFro rfl) (by decide))).e.v sem_vnil))).v) (sem_ret sem_non) sem_nx)
  (sem_seq (sem_asgPO (K := K) (i := 5) (j := 6) (sem_op oe_ix ((sem_op oe_ix ((sem_var (i := 2) rfl)).v ((sem_un oe_neg (sem_int).v)).v)).v (sem_int).v) (sem_repL ((sem_lst (sem_acons (sem_tup (sem_acons sem_int (sem_acons sem_int sem_anil))) sem_anil))).e.v ((sem_cb ca_len (sem_vcons ((sem_var (i := 0) rfl)).v sem_vnil))).v) rfl (by decide))
  (sem_seq (sem_for (semI_seq ((sem_revL (K := K) ((sem_cbL ca_srt (sem_vcons ((sem_var (i := 4) rfl)).v sem_vnil))).e)).e) (sem_gtup (sem_gscons (sem_gname (i := 7) rfl) (sem_gscons (sem_gname (i := 8) rfl) sem_gsnil)))
  (sem_setI (i := 6) rfl (sem_callV (sem_vcons ((sem_var (i := 8) rfl)).v (sem_vcons (sem_own (i := 6) rfl) (sem_vcons ((sem_var (i := 7) rfl)).v sem_vnil)))) ((sem_var (i := 7) rfl)).v))
  (sem_ret (sem_cb ca_tup (sem_vcons ((sem_lc (semIc_seq (sem_own (i := 6) rfl)) (sem_gtup (sem_gscons (sem_gname (i := 12) rfl) (sem_gscons (sem_gname (i := 13) rfl) sem_gsnil))) sem_yes (sem_call (sem_acons (sem_var (i := 12) rfl) (sem_acons (sem_op oe_mulX ((sem_var (i := 13) rfl)).v ((sem_var (i := 5) rfl)).v) sem_anil))) (allFro rfl) (by decide))).e.v sem_vnil))))))))) rfl rfl h
theorem b_places_of_T (T : Tx K mg) : Binds K T.fd_places_of ["n", "k"] [] := T.F_places_of.binds fun _ _ _ _ _ _ us hl => match us, hl with | [_, _], _ => rfl
set_option maxHeartbeats 4000000 in
theorem ok_places_of (T : Tx K mg) : FnG Pr w K mg base 1 T.a_places_of T.fd_places_of ["n", "k"] (spP 2 F_places_of) := by
  refine fn_g (k := 0) T.F_places_of sc_places_of (fun vs H Q E h => h.1) (fun cdv A outer s H vs Q E hgd hr h => ⟨_, (pss_cons (ps_set (i := 2) sc_places_of.nd rfl (Or.inl rfl) (pe_lst (pa_cons (pe_tup pa_nil) pa_nil)))
  (pss_cons (ps_for PassesOwn.never rfl (pi_range1 (by rfl) T.m_range (pa_cons (pv 0) pa_nil)) (pg_name (i := 3) sc_places_of.nd rfl (Or.inr rfl))
  (pss_one (ps_set (i := 2) sc_places_of.nd rfl (Or.inl rfl) (pe_op (kAdd (K := K)) (pv 2) (pe_lc (own := [("some", 4)]) rfl sc_places_of.nd  (piSeq (K := K) (pv 2)) (blkOk_by (by kernel_rfl)) (fun _ _ _ _ _ => (pg_name (i := 4) sc_places_of.nd rfl (Or.inl rfl))) (fun _ _ _ _ _ => (pts_one (pt_cmpR op_lt (pe_callB (kLen (K := K)) (by rfl) T.m_len bt_len (pa_cons (pv 4) pa_nil)) (pv 1) (nomark _)))) (fun _ _ _ _ _ => (pe_tup (paStar (K := K) (pv 4) (pa_cons (pv 3) pa_nil)))))))))
  (pss_one (ps_ret (pe_callB (kSrt (K := K) hr) (by rfl) T.m_sorted bt_sorted (pa_cons (pe_lc (own := [("some", 4)]) rfl sc_places_of.nd  (piSeq (K := K) (pv 2)) (blkOk_by (by kernel_rfl)) (fun _ _ _ _ _ => (pg_name (i := 4) sc_places_of.nd rfl (Or.inl rfl))) (fun _ _ _ _ _ => (pts_one (pt_cmpR (kEq (K := K) hr) (pe_callB (kLen (K := K)) (by rfl) T.m_len bt_len (pa_cons (pv 4) pa_nil)) (pv 1) (nomark _)))) (fun _ _ _ _ _ => (pv 4))) pa_nil)))))), ?_⟩)
  exact body_p (n := 2) (m := 3) (Γr := [.fro, .fro, .fro]) (Γl := []) (Γ' := []) (N := ["n", "k", "found", "i", "some"]) (sem_seq (sem_asg ((sem_lst (sem_acons (sem_tup sem_anil) sem_anil))).e (by decide))
  (sem_seq (sem_for (semI_rng1 (sem_vcons ((sem_var (i := 0) rfl)).v sem_vnil)) (sem_gname (i := 3) rfl)
  (sem_asg (sem_op oe_add ((sem_var (i := 2) rfl)).v ((sem_lc (semIc_seq ((sem_var (i := 2) rfl)).v) (sem_gname (i := 4) rfl) (sem_test ((sem_op oe_lt ((sem_cb ca_len (sem_vcons ((sem_var (i := 4) rfl)).v sem_vnil))).v ((sem_var (i := 1) rfl)).v)).v) (sem_tup (sem_astar ((sem_var (i := 4) rfl)).v (sem_acons (sem_var (i := 3) rfl) sem_anil))) (allFro rfl) (by decide))).e.v) (by decide)))
  (sem_ret ((sem_cbL ca_srt (sem_vcons ((sem_lc (semIc_seq ((sem_var (i := 2) rfl)).v) (sem_gname (i := 4) rfl) (sem_test ((sem_op oe_eq ((sem_cb ca_len (sem_vcons ((sem_var (i := 4) rfl)).v sem_vnil))).v ((sem_var (i := 1) rfl)).v)).v) (sem_var (i := 4) rfl) (allFro rfl) (by decide))).e.v sem_vnil))).e))) rfl rfl h
theorem b_weights_paper_T (T : Tx K mg) : Binds K T.fd_weights_paper ["lot", "p"] [] := T.F_weights_paper.binds fun _ _ _ _ _ _ us hl => match us, hl with | [_, _], _ => rfl
set_option maxHeartbeats 4000000 in
theorem ok_weights_paper (T : Tx K mg) : FnG Pr w K mg base 4 T.a_weights_paper T.fd_weights_paper ["lot", "p"] (spP 2 F_weights_paper) := by
  refine fn_g (k := 3) T.F_weights_paper sc_weights_paper (fun vs H Q E h => h.1) (fun cdv A outer s H vs Q E hgd hr h => ⟨_, (pss_cons (ps_for PassesOwn.never rfl (pi_range2 (by rfl) T.m_range (pa_cons pe_int (pa_cons (pe_op (kAdd (K := K)) (pe_callB (kLen (K := K)) (by rfl) T.m_len bt_len (pa_cons (pe_ix (kIx (K := K)) (pv 0) pe_int (fun _ _ => rfl)) pa_nil)) pe_int) pa_nil))) (pg_name (i := 2) sc_weights_paper.nd rfl (Or.inl rfl))
  (pss_one (ps_for PassesOwn.never rfl (piSeq (K := K) (pe_callG ((ok_places_of T).mono (by decide)) hgd hr (by rfl) T.g_places_of T.F_places_of.kp (b_places_of_T T) (pa_cons (pe_callB (kLen (K := K)) (by rfl) T.m_len bt_len (pa_cons (pv 0) pa_nil)) (pa_cons (pv 2) pa_nil)))) (pg_name (i := 3) sc_weights_paper.nd rfl (Or.inl rfl))
  (pss_cons (ps_set (i := 4) sc_weights_paper.nd rfl (Or.inl rfl) (pe_callTy (kTup (K := K)) (by rfl) T.m_tuple bt_tuple (pa_cons (pe_lc (own := [("i", 6)]) rfl sc_weights_paper.nd  (piSeq (K := K) (pv 3)) (blkOk_by (by kernel_rfl)) (fun _ _ _ _ _ => (pg_name (i := 6) sc_weights_paper.nd rfl (Or.inl rfl))) (fun _ _ _ _ _ => pts_nil) (fun _ _ _ _ _ => (pe_ix (kIx (K := K)) (pv 0) (pv 6) (fun _ _ => rfl)))) pa_nil)))
  (pss_one (ps_if (pt_cmpR (kEq (K := K) hr) (pe_callG ((ok_flat_size T).mono (by decide)) hgd hr (by rfl) T.g_flat_size T.F_flat_size.kp (b_flat_size_T T) (pa_cons (pv 4) pa_nil)) (pe_op op_sub (pv 2) pe_int) (nomark _)) (pss_cons (ps_set (i := 5) sc_weights_paper.nd rfl (Or.inl rfl) (pe_callG ((ok_weights_to T).mono (by decide)) hgd hr (by rfl) T.g_weights_to T.F_weights_to.kp (b_weights_to_T T) (pa_cons (pv 4) (pa_cons (pv 1) pa_nil))))
  (pss_one (ps_if ((pw_and (pt_cmpR op_notN (pv 5) pe_non (nomark _)) (pw_and1 (pt_val (pe_callB (kAll (K := K) rfl) (by rfl) T.m_all bt_all (pa_cons (pe_lc (own := [("x", 7), ("y", 8)]) rfl sc_weights_paper.nd  (piSeq (K := K) (pv 5)) (blkOk_by (by kernel_rfl)) (fun _ _ _ _ _ => (pgTup (K := K) (n := 2) rfl (pgs_cons (pg_name (i := 7) sc_weights_paper.nd rfl (Or.inl rfl)) (pgs_cons (pg_name (i := 8) sc_weights_paper.nd rfl (Or.inl rfl)) pgs_nil)))) (fun _ _ _ _ _ => pts_nil) (fun _ _ _ _ _ => (pe_cmpR op_ge (pv 7) pe_int (nomark _)))) pa_nil)))))).pt (pss_one (ps_ret (pe_tup (pa_cons (pv 3) (pa_cons (pv 5) pa_nil))))) pss_nil))) pss_nil))))))
  (pss_one (ps_ret pe_non))), ?_⟩)
  exact body_p (n := 2) (m := 7) (Γr := [.fro, .fro, .fro, .fro, .fro, .fro, .fro]) (Γl := []) (Γ' := []) (N := ["lot", "p", "k", "places", "points", "weights", "i", "x", "y"]) (sem_seq (sem_for (semI_rng2 (sem_vcons (sem_int).v (sem_vcons ((sem_op oe_add ((sem_cb ca_len (sem_vcons ((sem_op oe_ix ((sem_var (i := 0) rfl)).v (sem_int).v)).v sem_vnil))).v (sem_int).v)).v sem_vnil))) (sem_gname (i := 2) rfl)
  (sem_for (semI_seq (sem_call (sem_acons (sem_cb ca_len (sem_vcons ((sem_var (i := 0) rfl)).v sem_vnil)) (sem_acons (sem_var (i := 2) rfl) sem_anil)))) (sem_gname (i := 3) rfl)
  (sem_seq (sem_asg (sem_cb ca_tup (sem_vcons ((sem_lc (semIc_seq ((sem_var (i := 3) rfl)).v) (sem_gname (i := 6) rfl) sem_yes (sem_op oe_ix ((sem_var (i := 0) rfl)).v ((sem_var (i := 6) rfl)).v) (allFro rfl) (by decide))).e.v sem_vnil)) (by decide))
  (sem_if (sem_test ((sem_op oe_eq ((sem_call (sem_acons (sem_var (i := 4) rfl) sem_anil))).v ((sem_op oe_sub ((sem_var (i := 2) rfl)).v (sem_int).v)).v)).v) (sem_seq (sem_asg (sem_call (sem_acons (sem_var (i := 4) rfl) (sem_acons (sem_var (i := 1) rfl) sem_anil))) (by decide))
  (sem_if (sem_and (sem_test ((sem_notN ((sem_var (i := 5) rfl)).v)).v) (sem_tB ((sem_cb ca_all (sem_vcons ((sem_lc (semIc_seq ((sem_var (i := 5) rfl)).v) (sem_gtup (sem_gscons (sem_gname (i := 7) rfl) (sem_gscons (sem_gname (i := 8) rfl) sem_gsnil))) sem_yes (sem_op oe_ge ((sem_var (i := 7) rfl)).v (sem_int).v) (allFro rfl) (by decide))).e.v sem_vnil))).v)) (sem_ret (sem_tup (sem_acons (sem_var (i := 3) rfl) (sem_acons (sem_var (i := 5) rfl) sem_anil)))) sem_nx)) sem_nx))))
  (sem_ret sem_non)) rfl rfl h
theorem b_holds_point_T (T : Tx K mg) : Binds K T.fd_holds_point ["lot", "p"] [] := T.F_holds_point.binds fun _ _ _ _ _ _ us hl => match us, hl with | [_, _], _ => rfl
set_option maxHeartbeats 4000000 in
theorem ok_holds_point (T : Tx K mg) : FnG Pr w K mg base 5 T.a_holds_point T.fd_holds_point ["lot", "p"] (spP 2 F_holds_point) := by
  refine fn_g (k := 4) T.F_holds_point sc_holds_point (fun vs H Q E h => h.1) (fun cdv A outer s H vs Q E hgd hr h => ⟨_, (pss_one (ps_ret (pe_cmpR op_notN (pe_callG ((ok_weights_paper T).mono (by decide)) hgd hr (by rfl) T.g_weights_paper T.F_weights_paper.kp (b_weights_paper_T T) (pa_cons (pv 0) (pa_cons (pv 1) pa_nil))) pe_non (nomark _)))), ?_⟩)
  exact body_p (n := 2) (m := 0) (Γr := []) (Γl := []) (Γ' := []) (N := ["lot", "p"]) (sem_ret (sem_notN ((sem_call (sem_acons (sem_var (i := 0) rfl) (sem_acons (sem_var (i := 1) rfl) sem_anil)))).v)) rfl rfl h
theorem b_as_fractions_T (T : Tx K mg) : Binds K T.fd_as_fractions ["point"] [] := T.F_as_fractions.binds fun _ _ _ _ _ _ us hl => match us, hl with | [_], _ => rfl
set_option maxHeartbeats 4000000 in
theorem ok_as_fractions (T : Tx K mg) : FnG Pr w K mg base 1 T.a_as_fractions T.fd_as_fractions ["point"] (spP 1 F_as_fractions) := by
  refine fn_g (k := 0) T.F_as_fractions sc_as_fractions (fun vs H Q E h => h.1) (fun cdv A outer s H vs Q E hgd hr h => ⟨_, (pss_one (ps_ret (pe_callTy (kTup (K := K)) (by rfl) T.m_tuple bt_tuple (pa_cons (pe_lc (own := [("x", 1)]) rfl sc_as_fractions.nd  (piSeq (K := K) (pv 0)) (blkOk_by (by kernel_rfl)) (fun _ _ _ _ _ => (pg_name (i := 1) sc_as_fractions.nd rfl (Or.inl rfl))) (fun _ _ _ _ _ => pts_nil) (fun _ _ _ _ _ => (pe_tup (pa_cons (pv 1) (pa_cons pe_int pa_nil))))) pa_nil)))), ?_⟩)
  exact body_p (n := 1) (m := 1) (Γr := [.fro]) (Γl := []) (Γ' := []) (N := ["point", "x"]) (sem_ret (sem_cb ca_tup (sem_vcons ((sem_lc (semIc_seq ((sem_var (i := 0) rfl)).v) (sem_gname (i := 1) rfl) sem_yes (sem_tup (sem_acons (sem_var (i := 1) rfl) (sem_acons sem_int sem_anil))) (allFro rfl) (by decide))).e.v sem_vnil))) rfl rfl h
theorem b_hull_corners_T (T : Tx K mg) : Binds K T.fd_hull_corners ["lot"] [] := T.F_hull_corners.binds fun _ _ _ _ _ _ us hl => match us, hl with | [_], _ => rfl
set_option maxHeartbeats 4000000 in
theorem ok_hull_corners (T : Tx K mg) : FnG Pr w K mg base 6 T.a_hull_corners T.fd_hull_corners ["lot"] (spP 1 F_hull_corners) := by
  refine fn_g (k := 5) T.F_hull_corners sc_hull_corners (fun vs H Q E h => h.1) (fun cdv A outer s H vs Q E hgd hr h => ⟨_, (pss_cons (ps_set (i := 1) sc_hull_corners.nd rfl (Or.inl rfl) (pe_lst pa_nil))
  (pss_cons (ps_for PassesOwn.never rfl (piEnum (K := K) (by rfl) T.m_enumerate (pa_cons (pv 0) pa_nil)) (pgTup (K := K) (n := 2) rfl (pgs_cons (pg_name (i := 2) sc_hull_corners.nd rfl (Or.inl rfl)) (pgs_cons (pg_name (i := 3) sc_hull_corners.nd rfl (Or.inl rfl)) pgs_nil)))
  (pss_cons (ps_set (i := 4) sc_hull_corners.nd rfl (Or.inl rfl) (pe_op (kAdd (K := K)) (pe_slice (kSl (K := K)) (pv 0) po_none (po_some (pv 2))) (pe_slice (kSl (K := K)) (pv 0) (po_some (pe_op (kAdd (K := K)) (pv 2) pe_int)) po_none)))
  (pss_one (ps_if ((pw_or (pt_cmpR (kEq (K := K) hr) (pv 4) (pe_tup pa_nil) (nomark _)) (pw_or1 (pt_not (pt_val (pe_callG ((ok_holds_point T).mono (by decide)) hgd hr (by rfl) T.g_holds_point T.F_holds_point.kp (b_holds_point_T T) (pa_cons (pv 4) (pa_cons (pe_callG ((ok_as_fractions T).mono (by decide)) hgd hr (by rfl) T.g_as_fractions T.F_as_fractions.kp (b_as_fractions_T T) (pa_cons (pv 3) pa_nil)) pa_nil)))))))).pt (pss_one (ps_expr (pe_bm PySem.F.plainAttrs_list PySem.F.slot_list_append PySem.F.type_list_append mt_append (pv 1) (pa_cons (pv 3) pa_nil)))) pss_nil))))
  (pss_one (ps_ret (pe_callTy (kTup (K := K)) (by rfl) T.m_tuple bt_tuple (pa_cons (pv 1) pa_nil)))))), ?_⟩)
  exact body_p (n := 1) (m := 4) (Γr := [.own, .fro, .fro, .fro]) (Γl := []) (Γ' := []) (N := ["lot", "found", "i", "point", "others"]) (sem_seq (sem_asgOwn (sem_lst sem_anil) (by decide))
  (sem_seq (sem_for (semI_enum (sem_acons (sem_var (i := 0) rfl) sem_anil)) (sem_gtup (sem_gscons (sem_gname (i := 2) rfl) (sem_gscons (sem_gname (i := 3) rfl) sem_gsnil)))
  (sem_seq (sem_asg (sem_op oe_add ((sem_sl ((sem_var (i := 0) rfl)).v sem_oNo (sem_oPart ((sem_var (i := 2) rfl)).v))).v ((sem_sl ((sem_var (i := 0) rfl)).v (sem_oPart ((sem_op oe_add ((sem_var (i := 2) rfl)).v (sem_int).v)).v) sem_oNo)).v) (by decide))
  (sem_if (sem_or (sem_test ((sem_op oe_eq ((sem_var (i := 4) rfl)).v ((sem_tup sem_anil)).v)).v) (sem_not (sem_tB ((sem_call (sem_acons (sem_var (i := 4) rfl) (sem_acons (sem_call (sem_acons (sem_var (i := 3) rfl) sem_anil)) sem_anil)))).v))) (sem_app (i := 1) rfl (sem_var (i := 3) rfl)) sem_nx)))
  (sem_ret (sem_cb ca_tup (sem_vcons (sem_own (i := 1) rfl) sem_vnil))))) rfl rfl h
theorem b_is_spread_T (T : Tx K mg) : Binds K T.fd_is_spread ["four"] [] := T.F_is_spread.binds fun _ _ _ _ _ _ us hl => match us, hl with | [_], _ => rfl
set_option maxHeartbeats 4000000 in
theorem ok_is_spread (T : Tx K mg) : FnG Pr w K mg base 7 T.a_is_spread T.fd_is_spread ["four"] (spP 1 F_is_spread) := by
  refine fn_g (k := 6) T.F_is_spread sc_is_spread (fun vs H Q E h => h.1) (fun cdv A outer s H vs Q E hgd hr h => ⟨_, (pss_one (ps_ret (pe_cmpR (kEq (K := K) hr) (pe_callG ((ok_hull_corners T).mono (by decide)) hgd hr (by rfl) T.g_hull_corners T.F_hull_corners.kp (b_hull_corners_T T) (pa_cons (pv 0) pa_nil)) (pv 0) (nomark _)))), ?_⟩)
  exact body_p (n := 1) (m := 0) (Γr := []) (Γl := []) (Γ' := []) (N := ["four"]) (sem_ret (sem_op oe_eq ((sem_call (sem_acons (sem_var (i := 0) rfl) sem_anil))).v ((sem_var (i := 0) rfl)).v)) rfl rfl h
theorem b_spread_fours_T (T : Tx K mg) : Binds K T.fd_spread_fours ["lot"] [] := T.F_spread_fours.binds fun _ _ _ _ _ _ us hl => match us, hl with | [_], _ => rfl
set_option maxHeartbeats 4000000 in
theorem ok_spread_fours (T : Tx K mg) : FnG Pr w K mg base 8 T.a_spread_fours T.fd_spread_fours ["lot"] (spP 1 F_spread_fours) := by
  refine fn_g (k := 7) T.F_spread_fours sc_spread_fours (fun vs H Q E h => h.1) (fun cdv A outer s H vs Q E hgd hr h => ⟨_, (pss_one (ps_ret (pe_callTy (kTup (K := K)) (by rfl) T.m_tuple bt_tuple (pa_cons (pe_lc (own := [("some", 1)]) rfl sc_spread_fours.nd  (piSeq (K := K) (pe_callG ((ok_places_of T).mono (by decide)) hgd hr (by rfl) T.g_places_of T.F_places_of.kp (b_places_of_T T) (pa_cons (pe_callB (kLen (K := K)) (by rfl) T.m_len bt_len (pa_cons (pv 0) pa_nil)) (pa_cons pe_int pa_nil)))) (blkOk_by (by kernel_rfl)) (fun _ _ _ _ _ => (pg_name (i := 1) sc_spread_fours.nd rfl (Or.inl rfl))) (fun _ _ _ _ _ => (pts_one (pt_val (pe_callG ((ok_is_spread T).mono (by decide)) hgd hr (by rfl) T.g_is_spread T.F_is_spread.kp (b_is_spread_T T) (pa_cons (pe_callTy (kTup (K := K)) (by rfl) T.m_tuple bt_tuple (pa_cons (pe_lc (own := [("i", 2)]) rfl sc_spread_fours.nd  (piSeq (K := K) (pv 1)) (blkOk_by (by kernel_rfl)) (fun _ _ _ _ _ => (pg_name (i := 2) sc_spread_fours.nd rfl (Or.inl rfl))) (fun _ _ _ _ _ => pts_nil) (fun _ _ _ _ _ => (pe_ix (kIx (K := K)) (pv 0) (pv 2) (fun _ _ => rfl)))) pa_nil)) pa_nil))))) (fun _ _ _ _ _ => (pv 1))) pa_nil)))), ?_⟩)
  exact body_p (n := 1) (m := 2) (Γr := [.fro, .fro]) (Γl := []) (Γ' := []) (N := ["lot", "some", "i"]) (sem_ret (sem_cb ca_tup (sem_vcons ((sem_lc (semIc_seq ((sem_call (sem_acons (sem_cb ca_len (sem_vcons ((sem_var (i := 0) rfl)).v sem_vnil)) (sem_acons sem_int sem_anil)))).v) (sem_gname (i := 1) rfl) (sem_tB ((sem_call (sem_acons (sem_cb ca_tup (sem_vcons ((sem_lc (semIc_seq ((sem_var (i := 1) rfl)).v) (sem_gname (i := 2) rfl) sem_yes (sem_op oe_ix ((sem_var (i := 0) rfl)).v ((sem_var (i := 2) rfl)).v) (allFro rfl) (by decide))).e.v sem_vnil)) sem_anil))).v) (sem_var (i := 1) rfl) (allFro rfl) (by decide))).e.v sem_vnil))) rfl rfl h
theorem b_count_by_fives_T (T : Tx K mg) : Binds K T.fd_count_by_fives ["lot"] [] := T.F_count_by_fives.binds fun _ _ _ _ _ _ us hl => match us, hl with | [_], _ => rfl
set_option maxHeartbeats 4000000 in
theorem ok_count_by_fives (T : Tx K mg) : FnG Pr w K mg base 7 T.a_count_by_fives T.fd_count_by_fives ["lot"] (spP 1 F_count_by_fives) := by
  refine fn_g (k := 6) T.F_count_by_fives sc_count_by_fives (fun vs H Q E h => h.1) (fun cdv A outer s H vs Q E hgd hr h => ⟨_, (pss_cons (ps_set (i := 1) sc_count_by_fives.nd rfl (Or.inl rfl) pe_int)
  (pss_cons (ps_for PassesOwn.never rfl (piSeq (K := K) (pe_callG ((ok_places_of T).mono (by decide)) hgd hr (by rfl) T.g_places_of T.F_places_of.kp (b_places_of_T T) (pa_cons (pe_callB (kLen (K := K)) (by rfl) T.m_len bt_len (pa_cons (pv 0) pa_nil)) (pa_cons pe_int pa_nil)))) (pg_name (i := 2) sc_count_by_fives.nd rfl (Or.inl rfl))
  (pss_one (ps_set (i := 1) sc_count_by_fives.nd rfl (Or.inl rfl) (pe_op op_sub (pe_op (kAdd (K := K)) (pv 1) (pe_op (kMul (K := K)) pe_int (pe_callB (kLen (K := K)) (by rfl) T.m_len bt_len (pa_cons (pe_callG ((ok_hull_corners T).mono (by decide)) hgd hr (by rfl) T.g_hull_corners T.F_hull_corners.kp (b_hull_corners_T T) (pa_cons (pe_callTy (kTup (K := K)) (by rfl) T.m_tuple bt_tuple (pa_cons (pe_lc (own := [("i", 3)]) rfl sc_count_by_fives.nd  (piSeq (K := K) (pv 2)) (blkOk_by (by kernel_rfl)) (fun _ _ _ _ _ => (pg_name (i := 3) sc_count_by_fives.nd rfl (Or.inl rfl))) (fun _ _ _ _ _ => pts_nil) (fun _ _ _ _ _ => (pe_ix (kIx (K := K)) (pv 0) (pv 3) (fun _ _ => rfl)))) pa_nil)) pa_nil)) pa_nil)))) pe_int))))
  (pss_one (ps_ret (pe_op op_fdivF (pv 1) (pe_op op_sub (pe_callB (kLen (K := K)) (by rfl) T.m_len bt_len (pa_cons (pv 0) pa_nil)) pe_int)))))), ?_⟩)
  exact body_p (n := 1) (m := 3) (Γr := [.fro, .fro, .fro]) (Γl := []) (Γ' := []) (N := ["lot", "total", "some", "i"]) (sem_seq (sem_asg sem_int (by decide))
  (sem_seq (sem_for (semI_seq (sem_call (sem_acons (sem_cb ca_len (sem_vcons ((sem_var (i := 0) rfl)).v sem_vnil)) (sem_acons sem_int sem_anil)))) (sem_gname (i := 2) rfl)
  (sem_asg (sem_op oe_sub ((sem_op oe_add ((sem_var (i := 1) rfl)).v ((sem_op oe_mulX (sem_int).v ((sem_cb ca_len (sem_vcons ((sem_call (sem_acons (sem_cb ca_tup (sem_vcons ((sem_lc (semIc_seq ((sem_var (i := 2) rfl)).v) (sem_gname (i := 3) rfl) sem_yes (sem_op oe_ix ((sem_var (i := 0) rfl)).v ((sem_var (i := 3) rfl)).v) (allFro rfl) (by decide))).e.v sem_vnil)) sem_anil))).v sem_vnil))).v)).v)).v (sem_int).v) (by decide)))
  (sem_ret (sem_op oe_fdiv ((sem_var (i := 1) rfl)).v ((sem_op oe_sub ((sem_cb ca_len (sem_vcons ((sem_var (i := 0) rfl)).v sem_vnil))).v (sem_int).v)).v)))) rfl rfl h
theorem b__law_open_cells_T (T : Tx K mg) : Binds K T.fd__law_open_cells ["script"] [] := T.F__law_open_cells.binds fun _ _ _ _ _ _ us hl => match us, hl with | [_], _ => rfl
theorem ok__law_open_cells (T : Tx K mg) : FnG Pr w K mg base 1 T.a__law_open_cells T.fd__law_open_cells ["script"] (spOpen K) := by
  refine fn_g (k := 0) T.F__law_open_cells sc__law_open_cells (fun vs H Q E ⟨a, ns, e, _⟩ => by rw [e]; rfl) (fun cdv A outer s H vs Q E hgd hr h => ⟨tOpen K, (pss_cons (ps_set (i := 1) sc__law_open_cells.nd rfl (Or.inl rfl) pe_int)
  (pss_cons (ps_for PassesOwn.never rfl (pi_list (pv 0)) (pg_name (i := 2) sc__law_open_cells.nd rfl (Or.inl rfl)) (pss_one (ps_set (i := 1) sc__law_open_cells.nd rfl (Or.inl rfl) (pe_op op_mod (pe_callTy call_int1 (by rfl) T.m_int bt_int (pa_cons (pe_op op_add (pe_op op_add (pe_op op_mul (pv 1) pe_int) (pe_op op_mul (pv 2) pe_int)) pe_int) pa_nil)) pe_int))))
  (pss_cons (ps_setLc (i := 3) (own := [("cell", 2)]) rfl sc__law_open_cells.nd rfl rfl (sw_true rfl rfl rfl (by decide +kernel)) (pi_list (pv 0)) (blkOk_by (by kernel_rfl)) (fun _ _ _ _ _ => (pg_name (i := 2) sc__law_open_cells.nd rfl (Or.inl rfl))) (fun _ _ _ _ _ => pts_nil) (fun _ _ _ _ _ => (pe_callB call_abs (by rfl) T.m_abs bt_abs (pa_cons (pv 2) pa_nil))))
  (pss_one (ps_ret (pe_disp (pps_cons pe_str (pe_revL (pv 3)) (pps_cons pe_str pe_int (pps_cons pe_str (pv 1) (pps_cons pe_str pe_int pps_nil)))) rfl rfl (by simp) (by decide))))))), ?_⟩)
  exact open_body rfl h
theorem b__law_pick_T (T : Tx K mg) : Binds K T.fd__law_pick ["source", "most"] [] := T.F__law_pick.binds fun _ _ _ _ _ _ us hl => match us, hl with | [_, _], _ => rfl
theorem ok__law_pick (T : Tx K mg) : FnG Pr w K mg base 1 T.a__law_pick T.fd__law_pick ["source", "most"] (spX 1 F__law_pick) := by
  refine fn_g (k := 0) T.F__law_pick sc__law_pick (fun vs H Q E h => spX_len h) (fun cdv A outer s H vs Q E hgd hr h => ⟨tPick K, (pss_cons (ps_if (pt_cmpR op_lt (pv 1) pe_int (nomark _)) (pss_one (ps_ret pe_int)) pss_nil)
  (pss_cons (ps_set (i := 2) sc__law_pick.nd rfl (Or.inl rfl) (pe_dget (hu_of hr) (pv 0) pe_str (fun _ _ => rfl)))
  (pss_cons (ps_while PassesOwn.never (pw_and (pt_cmpR op_lt (pe_dget (hu_of hr) (pv 0) pe_str (fun _ _ => rfl)) pe_int (nomark _)) (pw_and1 (pt_cmpR op_gt (pe_callB (kLen (K := K)) (by rfl) T.m_len bt_len (pa_cons (pv 2) pa_nil)) pe_int (nomark _)))).pt (pss_one (ps_dput (hu_of hr) (pv 0) pe_str (pe_bm0 PySem.F.plainAttrs_list PySem.F.slot_list_pop PySem.F.type_list_pop mt_pop (pv 2)) rfl)))
  (pss_cons (ps_set (i := 3) sc__law_pick.nd rfl (Or.inl rfl) (pe_dget (hu_of hr) (pv 0) pe_str (fun _ _ => rfl)))
  (pss_cons (ps_if (pt_cmpR op_gt (pv 3) pe_int (nomark _)) (pss_cons (ps_dput (hu_of hr) (pv 0) pe_str (pe_op op_fdiv (pv 3) (pv 1)) rfl) (pss_one (ps_ret (pe_op op_mod (pe_callTy call_int1 (by rfl) T.m_int bt_int (pa_cons (pv 3) pa_nil)) (pv 1))))) pss_nil)
  (pss_cons (ps_dput (hu_of hr) (pv 0) pe_str (pe_op op_add (pe_dget (hu_of hr) (pv 0) pe_str (fun _ _ => rfl)) pe_int) rfl)
  (pss_cons (ps_set (i := 4) sc__law_pick.nd rfl (Or.inl rfl) (pe_dget (hu_of hr) (pv 0) pe_str (fun _ _ => rfl)))
  (pss_cons (ps_set (i := 5) sc__law_pick.nd rfl (Or.inl rfl) (pe_op op_mod (pe_callTy call_int1 (by rfl) T.m_int bt_int (pa_cons (pe_op op_add (pe_dget (hu_of hr) (pv 0) pe_str (fun _ _ => rfl)) (pe_op op_mul (pv 4) pe_int)) pa_nil)) pe_int))
  (pss_cons (ps_set (i := 5) sc__law_pick.nd rfl (Or.inl rfl) (pe_op op_mod (pe_callTy call_int1 (by rfl) T.m_int bt_int (pa_cons (pe_op op_add (pe_op op_mul (pv 5) (pv 5)) (pe_op op_mul (pv 4) pe_int)) pa_nil)) pe_int))
  (pss_one (ps_ret (pe_op op_mod (pe_callTy call_int1 (by rfl) T.m_int bt_int (pa_cons (pe_op op_fdiv (pv 5) pe_int) pa_nil)) (pv 1))))))))))))), ?_⟩)
  exact pick_x rfl h
theorem b__law_of_T (T : Tx K mg) : Binds K T.fd__law_of ["source", "some"] [] := T.F__law_of.binds fun _ _ _ _ _ _ us hl => match us, hl with | [_, _], _ => rfl
set_option maxHeartbeats 4000000 in
theorem ok__law_of (T : Tx K mg) : FnG Pr w K mg base 2 T.a__law_of T.fd__law_of ["source", "some"] (spX 1 F__law_of) := by
  refine fn_g (k := 1) T.F__law_of sc__law_of (fun vs H Q E h => spX_len h) (fun cdv A outer s H vs Q E hgd hr h => ⟨_, (pss_one (ps_ret (pe_ix (kIx (K := K)) (pv 1) (pe_callG ((ok__law_pick T).mono (by decide)) hgd hr (by rfl) T.g__law_pick T.F__law_pick.kp (b__law_pick_T T) (pa_cons (pv 0) (pa_cons (pe_callB (kLen (K := K)) (by rfl) T.m_len bt_len (pa_cons (pv 1) pa_nil)) pa_nil))) (fun _ _ => rfl)))), ?_⟩)
  exact body_x (n := 1) (m := 0) (Γr := []) (Γl := []) (Γ' := []) (N := ["source", "some"]) (fun src cl => (sem_ret (sem_op oe_ix ((sem_var (i := 1) rfl)).v ((sem_callX (i := 0) rfl (sem_acons (sem_cb ca_len (sem_vcons ((sem_var (i := 1) rfl)).v sem_vnil)) sem_anil))).v))) rfl rfl h
theorem b__law_some_T (T : Tx K mg) : Binds K T.fd__law_some ["n", "k"] [] := T.F__law_some.binds fun _ _ _ _ _ _ us hl => match us, hl with | [_, _], _ => rfl
set_option maxHeartbeats 4000000 in
theorem ok__law_some (T : Tx K mg) : FnG Pr w K mg base 1 T.a__law_some T.fd__law_some ["n", "k"] (spP 2 F__law_some) := by
  refine fn_g (k := 0) T.F__law_some sc__law_some (fun vs H Q E h => h.1) (fun cdv A outer s H vs Q E hgd hr h => ⟨_, (pss_cons (ps_set (i := 2) sc__law_some.nd rfl (Or.inl rfl) (pe_lst (pa_cons (pe_tup pa_nil) pa_nil)))
  (pss_cons (ps_for PassesOwn.never rfl (pi_range1 (by rfl) T.m_range (pa_cons (pv 0) pa_nil)) (pg_name (i := 3) sc__law_some.nd rfl (Or.inr rfl))
  (pss_one (ps_set (i := 2) sc__law_some.nd rfl (Or.inl rfl) (pe_op (kAdd (K := K)) (pv 2) (pe_lc (own := [("some", 4)]) rfl sc__law_some.nd  (piSeq (K := K) (pv 2)) (blkOk_by (by kernel_rfl)) (fun _ _ _ _ _ => (pg_name (i := 4) sc__law_some.nd rfl (Or.inl rfl))) (fun _ _ _ _ _ => (pts_one (pt_cmpR op_lt (pe_callB (kLen (K := K)) (by rfl) T.m_len bt_len (pa_cons (pv 4) pa_nil)) (pv 1) (nomark _)))) (fun _ _ _ _ _ => (pe_op (kAdd (K := K)) (pv 4) (pe_tup (pa_cons (pv 3) pa_nil)))))))))
  (pss_one (ps_ret (pe_callB (kSrt (K := K) hr) (by rfl) T.m_sorted bt_sorted (pa_cons (pe_lc (own := [("some", 4)]) rfl sc__law_some.nd  (piSeq (K := K) (pv 2)) (blkOk_by (by kernel_rfl)) (fun _ _ _ _ _ => (pg_name (i := 4) sc__law_some.nd rfl (Or.inl rfl))) (fun _ _ _ _ _ => (pts_one (pt_cmpR (kEq (K := K) hr) (pe_callB (kLen (K := K)) (by rfl) T.m_len bt_len (pa_cons (pv 4) pa_nil)) (pv 1) (nomark _)))) (fun _ _ _ _ _ => (pv 4))) pa_nil)))))), ?_⟩)
  exact body_p (n := 2) (m := 3) (Γr := [.fro, .fro, .fro]) (Γl := []) (Γ' := []) (N := ["n", "k", "found", "i", "some"]) (sem_seq (sem_asg ((sem_lst (sem_acons (sem_tup sem_anil) sem_anil))).e (by decide))
  (sem_seq (sem_for (semI_rng1 (sem_vcons ((sem_var (i := 0) rfl)).v sem_vnil)) (sem_gname (i := 3) rfl)
  (sem_asg (sem_op oe_add ((sem_var (i := 2) rfl)).v ((sem_lc (semIc_seq ((sem_var (i := 2) rfl)).v) (sem_gname (i := 4) rfl) (sem_test ((sem_op oe_lt ((sem_cb ca_len (sem_vcons ((sem_var (i := 4) rfl)).v sem_vnil))).v ((sem_var (i := 1) rfl)).v)).v) (sem_op oe_add ((sem_var (i := 4) rfl)).v ((sem_tup (sem_acons (sem_var (i := 3) rfl) sem_anil))).v) (allFro rfl) (by decide))).e.v) (by decide)))
  (sem_ret ((sem_cbL ca_srt (sem_vcons ((sem_lc (semIc_seq ((sem_var (i := 2) rfl)).v) (sem_gname (i := 4) rfl) (sem_test ((sem_op oe_eq ((sem_cb ca_len (sem_vcons ((sem_var (i := 4) rfl)).v sem_vnil))).v ((sem_var (i := 1) rfl)).v)).v) (sem_var (i := 4) rfl) (allFro rfl) (by decide))).e.v sem_vnil))).e))) rfl rfl h
theorem b__law_side_T (T : Tx K mg) : Binds K T.fd__law_side ["a", "b", "c"] [] := T.F__law_side.binds fun _ _ _ _ _ _ us hl => match us, hl with | [_, _, _], _ => rfl
set_option maxHeartbeats 4000000 in
theorem ok__law_side (T : Tx K mg) : FnG Pr w K mg base 1 T.a__law_side T.fd__law_side ["a", "b", "c"] (spP 3 F__law_side) := by
  refine fn_g (k := 0) T.F__law_side sc__law_side (fun vs H Q E h => h.1) (fun cdv A outer s H vs Q E hgd hr h => ⟨_, (pss_cons (ps_set (i := 3) sc__law_side.nd rfl (Or.inl rfl) (pe_op op_sub (pe_op (kMul (K := K)) (pe_op op_sub (pe_ix (kIx (K := K)) (pv 1) pe_int (fun _ _ => rfl)) (pe_ix (kIx (K := K)) (pv 0) pe_int (fun _ _ => rfl))) (pe_op op_sub (pe_ix (kIx (K := K)) (pv 2) pe_int (fun _ _ => rfl)) (pe_ix (kIx (K := K)) (pv 0) pe_int (fun _ _ => rfl)))) (pe_op (kMul (K := K)) (pe_op op_sub (pe_ix (kIx (K := K)) (pv 1) pe_int (fun _ _ => rfl)) (pe_ix (kIx (K := K)) (pv 0) pe_int (fun _ _ => rfl))) (pe_op op_sub (pe_ix (kIx (K := K)) (pv 2) pe_int (fun _ _ => rfl)) (pe_ix (kIx (K := K)) (pv 0) pe_int (fun _ _ => rfl))))))
  (pss_one (ps_ret (pe_op op_sub (pe_callTy call_int1 (by rfl) T.m_int bt_int (pa_cons (pe_cmpR op_gt (pv 3) pe_int (nomark _)) pa_nil)) (pe_callTy call_int1 (by rfl) T.m_int bt_int (pa_cons (pe_cmpR op_lt (pv 3) pe_int (nomark _)) pa_nil)))))), ?_⟩)
  exact body_p (n := 3) (m := 1) (Γr := [.fro]) (Γl := []) (Γ' := []) (N := ["a", "b", "c", "told"]) (sem_seq (sem_asg (sem_op oe_sub ((sem_op oe_mulX ((sem_op oe_sub ((sem_op oe_ix ((sem_var (i := 1) rfl)).v (sem_int).v)).v ((sem_op oe_ix ((sem_var (i := 0) rfl)).v (sem_int).v)).v)).v ((sem_op oe_sub ((sem_op oe_ix ((sem_var (i := 2) rfl)).v (sem_int).v)).v ((sem_op oe_ix ((sem_var (i := 0) rfl)).v (sem_int).v)).v)).v)).v ((sem_op oe_mulX ((sem_op oe_sub ((sem_op oe_ix ((sem_var (i := 1) rfl)).v (sem_int).v)).v ((sem_op oe_ix ((sem_var (i := 0) rfl)).v (sem_int).v)).v)).v ((sem_op oe_sub ((sem_op oe_ix ((sem_var (i := 2) rfl)).v (sem_int).v)).v ((sem_op oe_ix ((sem_var (i := 0) rfl)).v (sem_int).v)).v)).v)).v) (by decide))
  (sem_ret (sem_op oe_sub ((sem_cb ca_int (sem_vcons ((sem_op oe_gt ((sem_var (i := 3) rfl)).v (sem_int).v)).v sem_vnil))).v ((sem_cb ca_int (sem_vcons ((sem_op oe_lt ((sem_var (i := 3) rfl)).v (sem_int).v)).v sem_vnil))).v))) rfl rfl h
theorem b__law_inside_T (T : Tx K mg) : Binds K T.fd__law_inside ["p", "a", "b", "c"] [] := T.F__law_inside.binds fun _ _ _ _ _ _ us hl => match us, hl with | [_, _, _, _], _ => rfl
set_option maxHeartbeats 4000000 in
theorem ok__law_inside (T : Tx K mg) : FnG Pr w K mg base 2 T.a__law_inside T.fd__law_inside ["p", "a", "b", "c"] (spP 4 F__law_inside) := by
  refine fn_g (k := 1) T.F__law_inside sc__law_inside (fun vs H Q E h => h.1) (fun cdv A outer s H vs Q E hgd hr h => ⟨_, (pss_one (ps_ret (pe_chain (kEq (K := K) hr) (kEq (K := K) hr) (pe_callG ((ok__law_side T).mono (by decide)) hgd hr (by rfl) T.g__law_side T.F__law_side.kp (b__law_side_T T) (pa_cons (pv 1) (pa_cons (pv 2) (pa_cons (pv 0) pa_nil)))) (pe_callG ((ok__law_side T).mono (by decide)) hgd hr (by rfl) T.g__law_side T.F__law_side.kp (b__law_side_T T) (pa_cons (pv 2) (pa_cons (pv 3) (pa_cons (pv 0) pa_nil)))) (pe_callG ((ok__law_side T).mono (by decide)) hgd hr (by rfl) T.g__law_side T.F__law_side.kp (b__law_side_T T) (pa_cons (pv 3) (pa_cons (pv 1) (pa_cons (pv 0) pa_nil))))))), ?_⟩)
  exact body_p (n := 4) (m := 0) (Γr := []) (Γl := []) (Γ' := []) (N := ["p", "a", "b", "c"]) (sem_ret (sem_chain oe_eq oe_eq ((sem_call (sem_acons (sem_var (i := 1) rfl) (sem_acons (sem_var (i := 2) rfl) (sem_acons (sem_var (i := 0) rfl) sem_anil))))).v ((sem_call (sem_acons (sem_var (i := 2) rfl) (sem_acons (sem_var (i := 3) rfl) (sem_acons (sem_var (i := 0) rfl) sem_anil))))).v ((sem_call (sem_acons (sem_var (i := 3) rfl) (sem_acons (sem_var (i := 1) rfl) (sem_acons (sem_var (i := 0) rfl) sem_anil))))).v)) rfl rfl h
theorem b__law_is_spread_T (T : Tx K mg) : Binds K T.fd__law_is_spread ["four"] [] := T.F__law_is_spread.binds fun _ _ _ _ _ _ us hl => match us, hl with | [_], _ => rfl
set_option maxHeartbeats 4000000 in
theorem ok__law_is_spread (T : Tx K mg) : FnG Pr w K mg base 3 T.a__law_is_spread T.fd__law_is_spread ["four"] (spP 1 F__law_is_spread) := by
  refine fn_g (k := 2) T.F__law_is_spread sc__law_is_spread (fun vs H Q E h => h.1) (fun cdv A outer s H vs Q E hgd hr h => ⟨_, (pss_cons (ps_for PassesOwn.never rfl (piEnum (K := K) (by rfl) T.m_enumerate (pa_cons (pv 0) pa_nil)) (pgTup (K := K) (n := 2) rfl (pgs_cons (pg_name (i := 1) sc__law_is_spread.nd rfl (Or.inl rfl)) (pgs_cons (pg_name (i := 2) sc__law_is_spread.nd rfl (Or.inr rfl)) pgs_nil)))
  (pss_cons (ps_asg (pe_lc (own := [("point", 6)]) rfl sc__law_is_spread.nd  (piSeq (K := K) (pv 0)) (blkOk_by (by kernel_rfl)) (fun _ _ _ _ _ => (pg_name (i := 6) sc__law_is_spread.nd rfl (Or.inl rfl))) (fun _ _ _ _ _ => (pts_one (pt_cmpR (kNe (K := K) hr) (pv 6) (pv 2) (nomark _)))) (fun _ _ _ _ _ => (pv 6))) (pgLst (K := K) (n := 3) rfl (pgs_cons (pg_name (i := 3) sc__law_is_spread.nd rfl (Or.inl rfl)) (pgs_cons (pg_name (i := 4) sc__law_is_spread.nd rfl (Or.inl rfl)) (pgs_cons (pg_name (i := 5) sc__law_is_spread.nd rfl (Or.inl rfl)) pgs_nil)))))
  (pss_one (ps_if (pt_val (pe_callG ((ok__law_inside T).mono (by decide)) hgd hr (by rfl) T.g__law_inside T.F__law_inside.kp (b__law_inside_T T) (pa_cons (pv 2) (pa_cons (pv 3) (pa_cons (pv 4) (pa_cons (pv 5) pa_nil)))))) (pss_one (ps_ret pe_bl)) pss_nil))))
  (pss_one (ps_ret pe_bl))), ?_⟩)
  exact body_p (n := 1) (m := 6) (Γr := [.fro, .fro, .fro, .fro, .fro, .fro]) (Γl := []) (Γ' := []) (N := ["four", "i", "p", "a", "b", "c", "point"]) (sem_seq (sem_for (semI_enum (sem_acons (sem_var (i := 0) rfl) sem_anil)) (sem_gtup (sem_gscons (sem_gname (i := 1) rfl) (sem_gscons (sem_gname (i := 2) rfl) sem_gsnil)))
  (sem_seq (sem_tgt ((sem_lc (semIc_seq ((sem_var (i := 0) rfl)).v) (sem_gname (i := 6) rfl) (sem_test ((sem_op oe_ne ((sem_var (i := 6) rfl)).v ((sem_var (i := 2) rfl)).v)).v) (sem_var (i := 6) rfl) (allFro rfl) (by decide))).e (sem_glst (sem_gscons (sem_gname (i := 3) rfl) (sem_gscons (sem_gname (i := 4) rfl) (sem_gscons (sem_gname (i := 5) rfl) sem_gsnil)))))
  (sem_if (sem_tB ((sem_call (sem_acons (sem_var (i := 2) rfl) (sem_acons (sem_var (i := 3) rfl) (sem_acons (sem_var (i := 4) rfl) (sem_acons (sem_var (i := 5) rfl) sem_anil)))))).v) (sem_ret sem_bl) sem_nx)))
  (sem_ret sem_bl)) rfl rfl h
theorem b__law_is_free_T (T : Tx K mg) : Binds K T.fd__law_is_free ["lot", "p"] [] := T.F__law_is_free.binds fun _ _ _ _ _ _ us hl => match us, hl with | [_, _], _ => rfl
set_option maxHeartbeats 4000000 in
theorem ok__law_is_free (T : Tx K mg) : FnG Pr w K mg base 2 T.a__law_is_free T.fd__law_is_free ["lot", "p"] (spP 2 F__law_is_free) := by
  refine fn_g (k := 1) T.F__law_is_free sc__law_is_free (fun vs H Q E h => h.1) (fun cdv A outer s H vs Q E hgd hr h => ⟨_, (pss_cons (ps_for PassesOwn.never rfl (piEnum (K := K) (by rfl) T.m_enumerate (pa_cons (pv 0) pa_nil)) (pgTup (K := K) (n := 2) rfl (pgs_cons (pg_name (i := 2) sc__law_is_free.nd rfl (Or.inl rfl)) (pgs_cons (pg_name (i := 3) sc__law_is_free.nd rfl (Or.inr rfl)) pgs_nil)))
  (pss_one (ps_if ((pw_or (pt_cmpR (kEq (K := K) hr) (pv 3) (pv 1) (nomark _)) (pw_or1 (pt_cmpR (kNe (K := K) hr) (pe_lc (own := [("b", 4)]) rfl sc__law_is_free.nd  (piSeq (K := K) (pe_slice (kSl (K := K)) (pv 0) po_none (po_some (pv 2)))) (blkOk_by (by kernel_rfl)) (fun _ _ _ _ _ => (pg_name (i := 4) sc__law_is_free.nd rfl (Or.inl rfl))) (fun _ _ _ _ _ => (pts_one (pt_cmpR (kEq (K := K) hr) (pe_callG ((ok__law_side T).mono (by decide)) hgd hr (by rfl) T.g__law_side T.F__law_side.kp (b__law_side_T T) (pa_cons (pv 3) (pa_cons (pv 4) (pa_cons (pv 1) pa_nil)))) pe_int (nomark _)))) (fun _ _ _ _ _ => (pv 4))) (pe_lst pa_nil) (nomark _))))).pt (pss_one (ps_ret pe_bl)) pss_nil)))
  (pss_one (ps_ret pe_bl))), ?_⟩)
  exact body_p (n := 2) (m := 3) (Γr := [.fro, .fro, .fro]) (Γl := []) (Γ' := []) (N := ["lot", "p", "i", "a", "b"]) (sem_seq (sem_for (semI_enum (sem_acons (sem_var (i := 0) rfl) sem_anil)) (sem_gtup (sem_gscons (sem_gname (i := 2) rfl) (sem_gscons (sem_gname (i := 3) rfl) sem_gsnil)))
  (sem_if (sem_or (sem_test ((sem_op oe_eq ((sem_var (i := 3) rfl)).v ((sem_var (i := 1) rfl)).v)).v) (sem_test ((sem_op oe_ne ((sem_lc (semIc_seq ((sem_sl ((sem_var (i := 0) rfl)).v sem_oNo (sem_oPart ((sem_var (i := 2) rfl)).v))).v) (sem_gname (i := 4) rfl) (sem_test ((sem_op oe_eq ((sem_call (sem_acons (sem_var (i := 3) rfl) (sem_acons (sem_var (i := 4) rfl) (sem_acons (sem_var (i := 1) rfl) sem_anil))))).v (sem_int).v)).v) (sem_var (i := 4) rfl) (allFro rfl) (by decide))).e.v ((sem_lst sem_anil)).e.v)).v)) (sem_ret sem_bl) sem_nx))
  (sem_ret sem_bl)) rfl rfl h
theorem b_law_T (T : Tx K mg) : Binds K T.fd_law ["script"] [] := T.F_law.binds fun _ _ _ _ _ _ us hl => match us, hl with | [_], _ => rfl
set_option maxHeartbeats 4000000 in
theorem ok_law (T : Tx K mg) : FnG Pr w K mg base 9 T.a_law T.fd_law ["script"] (spLaw K) := by
  refine fn_g (k := 8) T.F_law sc_law (fun vs H Q E ⟨a, ns, e, _⟩ => by rw [e]; rfl) (fun cdv A outer s H vs Q E hgd hr h => ⟨_, (pss_cons (ps_set (i := 1) sc_law.nd rfl (Or.inl rfl) (pe_callG ((ok__law_open_cells T).mono (by decide)) hgd hr (by rfl) T.g__law_open_cells T.F__law_open_cells.kp (b__law_open_cells_T T) (pa_cons (pv 0) pa_nil)))
  (pss_cons (ps_for PassesOwn.never rfl (pi_range1 (by rfl) T.m_range (pa_cons pe_int pa_nil)) (pg_name (i := 2) sc_law.nd rfl (Or.inl rfl))
  (pss_cons (ps_asg (pe_tup (pa_cons (pe_lst pa_nil) (pa_cons (pe_op (kAdd (K := K)) pe_int (pe_callG ((ok__law_pick T).mono (by decide)) hgd hr (by rfl) T.g__law_pick T.F__law_pick.kp (b__law_pick_T T) (pa_cons (pv 1) (pa_cons pe_int pa_nil)))) pa_nil))) (pgTup (K := K) (n := 2) rfl (pgs_cons (pg_name (i := 3) sc_law.nd rfl (Or.inr rfl)) (pgs_cons (pg_name (i := 4) sc_law.nd rfl (Or.inl rfl)) pgs_nil))))
  (pss_cons (ps_set (i := 5) sc_law.nd rfl (Or.inl rfl) (pe_callG ((ok__law_of T).mono (by decide)) hgd hr (by rfl) T.g__law_of T.F__law_of.kp (b__law_of_T T) (pa_cons (pv 1) (pa_cons (pe_lst (pa_cons pe_int (pa_cons pe_int (pa_cons pe_int pa_nil)))) pa_nil))))
  (pss_cons (ps_for PassesOwn.never rfl (pi_range1 (by rfl) T.m_range (pa_cons (pv 4) pa_nil)) (pg_name (i := 6) sc_law.nd rfl (Or.inl rfl))
  (pss_cons (ps_par (i := 7) (j := 8) rfl sc_law.nd rfl rfl (by decide) rfl rfl (pa_cons (pe_op op_sub (pe_callG ((ok__law_pick T).mono (by decide)) hgd hr (by rfl) T.g__law_pick T.F__law_pick.kp (b__law_pick_T T) (pa_cons (pv 1) (pa_cons (pe_op (kAdd (K := K)) (pe_op (kMul (K := K)) pe_int (pv 5)) pe_int) pa_nil))) (pv 5)) (pa_cons (pe_op op_sub (pe_callG ((ok__law_pick T).mono (by decide)) hgd hr (by rfl) T.g__law_pick T.F__law_pick.kp (b__law_pick_T T) (pa_cons (pv 1) (pa_cons (pe_op (kAdd (K := K)) (pe_op (kMul (K := K)) pe_int (pv 5)) pe_int) pa_nil))) (pv 5)) pa_nil)) (by rfl))
  (pss_cons (ps_par (i := 9) (j := 10) rfl sc_law.nd rfl rfl (by decide) rfl rfl (pa_cons (pe_tup (pa_cons (pv 7) (pa_cons (pv 8) pa_nil))) (pa_cons pe_int pa_nil)) (by rfl))
  (pss_cons (ps_while PassesOwn.never (pt_not (pt_val (pe_callG ((ok__law_is_free T).mono (by decide)) hgd hr (by rfl) T.g__law_is_free T.F__law_is_free.kp (b__law_is_free_T T) (pa_cons (pv 3) (pa_cons (pv 9) pa_nil)))))
  (pss_cons (ps_set (i := 10) sc_law.nd rfl (Or.inl rfl) (pe_op (kAdd (K := K)) (pv 10) pe_int))
  (pss_one (ps_set (i := 9) sc_law.nd rfl (Or.inl rfl) (pe_tup (pa_cons (pe_op (kAdd (K := K)) (pv 7) (pv 10)) (pa_cons (pe_op (kAdd (K := K)) (pv 8) (pe_op (kMul (K := K)) (pv 10) (pv 10))) pa_nil)))))))
  (pss_one (ps_expr (pe_bm PySem.F.plainAttrs_list PySem.F.slot_list_append PySem.F.type_list_append mt_append (pv 3) (pa_cons (pv 9) pa_nil))))))))
  (pss_cons (ps_set (i := 3) sc_law.nd rfl (Or.inr rfl) (pe_callTy (kTup (K := K)) (by rfl) T.m_tuple bt_tuple (pa_cons (pe_callB (kSrt (K := K) hr) (by rfl) T.m_sorted bt_sorted (pa_cons (pv 3) pa_nil)) pa_nil)))
  (pss_cons (ps_par (i := 11) (j := 12) rfl sc_law.nd rfl rfl (by decide) rfl rfl (pa_cons (pe_callB (kReprX (K := K) hgd hr) (by rfl) T.m_repr bt_repr (pa_cons (pv 3) pa_nil)) (pa_cons (pe_lc (own := [("some", 14)]) rfl sc_law.nd  (piSeq (K := K) (pe_callG ((ok__law_some T).mono (by decide)) hgd hr (by rfl) T.g__law_some T.F__law_some.kp (b__law_some_T T) (pa_cons (pv 4) (pa_cons pe_int pa_nil)))) (blkOk_by (by kernel_rfl)) (fun _ _ _ _ _ => (pg_name (i := 14) sc_law.nd rfl (Or.inl rfl))) (fun _ _ _ _ _ => (pts_one (pt_val (pe_callG ((ok__law_is_spread T).mono (by decide)) hgd hr (by rfl) T.g__law_is_spread T.F__law_is_spread.kp (b__law_is_spread_T T) (pa_cons (pe_lc (own := [("i", 17)]) rfl sc_law.nd  (piSeq (K := K) (pv 14)) (blkOk_by (by kernel_rfl)) (fun _ _ _ _ _ => (pg_name (i := 17) sc_law.nd rfl (Or.inl rfl))) (fun _ _ _ _ _ => pts_nil) (fun _ _ _ _ _ => (pe_ix (kIx (K := K)) (pv 3) (pv 17) (fun _ _ => rfl)))) pa_nil))))) (fun _ _ _ _ _ => (pv 14))) pa_nil)) (by rfl))
  (pss_cons (ps_if (pt_cmpR (kNeX (K := K) hr) (pe_callB (kReprX (K := K) hgd hr) (by rfl) T.m_repr bt_repr (pa_cons (pe_callG ((ok_spread_fours T).mono (by decide)) hgd hr (by rfl) T.g_spread_fours T.F_spread_fours.kp (b_spread_fours_T T) (pa_cons (pv 3) pa_nil)) pa_nil)) (pe_callB (kReprX (K := K) hgd hr) (by rfl) T.m_repr bt_repr (pa_cons (pe_callTy (kTup (K := K)) (by rfl) T.m_tuple bt_tuple (pa_cons (pv 12) pa_nil)) pa_nil)) (nomark _)) (pss_one (ps_ret pe_bl)) pss_nil)
  (pss_cons (ps_set (i := 13) sc_law.nd rfl (Or.inl rfl) (pe_callTy (kTup (K := K)) (by rfl) T.m_tuple bt_tuple (pa_cons (pe_lc (own := [("i", 17)]) rfl sc_law.nd  (piSeq (K := K) (pe_callG ((ok__law_of T).mono (by decide)) hgd hr (by rfl) T.g__law_of T.F__law_of.kp (b__law_of_T T) (pa_cons (pv 1) (pa_cons (pe_callG ((ok__law_some T).mono (by decide)) hgd hr (by rfl) T.g__law_some T.F__law_some.kp (b__law_some_T T) (pa_cons (pv 4) (pa_cons pe_int pa_nil))) pa_nil)))) (blkOk_by (by kernel_rfl)) (fun _ _ _ _ _ => (pg_name (i := 17) sc_law.nd rfl (Or.inl rfl))) (fun _ _ _ _ _ => pts_nil) (fun _ _ _ _ _ => (pe_ix (kIx (K := K)) (pv 3) (pv 17) (fun _ _ => rfl)))) pa_nil)))
  (pss_cons (ps_if (pt_cmpR (kNeX (K := K) hr) (pe_callB (kReprX (K := K) hgd hr) (by rfl) T.m_repr bt_repr (pa_cons (pe_callG ((ok_is_spread T).mono (by decide)) hgd hr (by rfl) T.g_is_spread T.F_is_spread.kp (b_is_spread_T T) (pa_cons (pv 13) pa_nil)) pa_nil)) (pe_callB (kReprX (K := K) hgd hr) (by rfl) T.m_repr bt_repr (pa_cons (pe_callG ((ok__law_is_spread T).mono (by decide)) hgd hr (by rfl) T.g__law_is_spread T.F__law_is_spread.kp (b__law_is_spread_T T) (pa_cons (pv 13) pa_nil)) pa_nil)) (nomark _)) (pss_one (ps_ret pe_bl)) pss_nil)
  (pss_cons (ps_if (pt_cmpR op_gt (pv 4) pe_int (nomark _)) (pss_cons (ps_for PassesOwn.never rfl (piSeq (K := K) (pe_callG ((ok__law_some T).mono (by decide)) hgd hr (by rfl) T.g__law_some T.F__law_some.kp (b__law_some_T T) (pa_cons (pv 4) (pa_cons pe_int pa_nil)))) (pg_name (i := 14) sc_law.nd rfl (Or.inr rfl))
  (pss_cons (ps_set (i := 15) sc_law.nd rfl (Or.inl rfl) (pe_callTy (kTup (K := K)) (by rfl) T.m_tuple bt_tuple (pa_cons (pe_lc (own := [("i", 17)]) rfl sc_law.nd  (piSeq (K := K) (pv 14)) (blkOk_by (by kernel_rfl)) (fun _ _ _ _ _ => (pg_name (i := 17) sc_law.nd rfl (Or.inl rfl))) (fun _ _ _ _ _ => pts_nil) (fun _ _ _ _ _ => (pe_ix (kIx (K := K)) (pv 3) (pv 17) (fun _ _ => rfl)))) pa_nil)))
  (pss_cons (ps_setLc (i := 16) (own := [("four", 13)]) rfl sc_law.nd rfl rfl (sw_true rfl rfl rfl (by decide +kernel)) (piSeq (K := K) (pv 12)) (blkOk_by (by kernel_rfl)) (fun _ _ _ _ _ => (pg_name (i := 13) sc_law.nd rfl (Or.inl rfl))) (fun _ _ _ _ _ => (pts_one (pt_cmpR (kEqX (K := K) hr) (pe_lc (own := [("i", 17)]) rfl sc_law.nd  (piSeq (K := K) (pv 13)) (blkOk_by (by kernel_rfl)) (fun _ _ _ _ _ => (pg_name (i := 17) sc_law.nd rfl (Or.inl rfl))) (fun _ _ _ _ _ => (pts_one (pt_cmpR (kNotIn (K := K) hr) (pv 17) (pv 14) (by rfl)))) (fun _ _ _ _ _ => (pv 17))) (pe_lst pa_nil) (nomark _)))) (fun _ _ _ _ _ => (pv 13)))
  (pss_one (ps_if ((pw_or (pt_cmpR (kNeX (K := K) hr) (pe_callB (kLen (K := K)) (by rfl) T.m_len bt_len (pa_cons (pv 16) pa_nil)) (pe_op op_sub (pe_op (kMul (K := K)) pe_int (pe_callB (kLen (K := K)) (by rfl) T.m_len bt_len (pa_cons (pe_callG ((ok_hull_corners T).mono (by decide)) hgd hr (by rfl) T.g_hull_corners T.F_hull_corners.kp (b_hull_corners_T T) (pa_cons (pv 15) pa_nil)) pa_nil))) pe_int) (nomark _)) (pw_or1 (pt_cmpR (kEqX (K := K) hr) (pv 16) (pe_lst pa_nil) (nomark _))))).pt (pss_one (ps_ret pe_bl)) pss_nil)))))
  (pss_one (ps_if ((pw_or (pt_cmpR (kNeX (K := K) hr) (pe_callB (kReprX (K := K) hgd hr) (by rfl) T.m_repr bt_repr (pa_cons (pe_callG ((ok_count_by_fives T).mono (by decide)) hgd hr (by rfl) T.g_count_by_fives T.F_count_by_fives.kp (b_count_by_fives_T T) (pa_cons (pv 3) pa_nil)) pa_nil)) (pe_callB (kReprX (K := K) hgd hr) (by rfl) T.m_repr bt_repr (pa_cons (pe_callB (kLen (K := K)) (by rfl) T.m_len bt_len (pa_cons (pv 12) pa_nil)) pa_nil)) (nomark _)) (pw_or1 (pt_cmpR op_lt (pe_op (kMul (K := K)) pe_int (pe_callB (kLen (K := K)) (by rfl) T.m_len bt_len (pa_cons (pv 12) pa_nil))) (pe_callB (kLen (K := K)) (by rfl) T.m_len bt_len (pa_cons (pe_callG ((ok__law_some T).mono (by decide)) hgd hr (by rfl) T.g__law_some T.F__law_some.kp (b__law_some_T T) (pa_cons (pv 4) (pa_cons pe_int pa_nil))) pa_nil)) (nomark _))))).pt (pss_one (ps_ret pe_bl)) pss_nil))) pss_nil)
  (pss_one (ps_if (pt_cmpR (kNeX (K := K) hr) (pe_callB (kReprX (K := K) hgd hr) (by rfl) T.m_repr bt_repr (pa_cons (pv 3) pa_nil)) (pv 11) (nomark _)) (pss_one (ps_ret pe_bl)) pss_nil))))))))))))
  (pss_one (ps_ret (pe_cmpR (kEqX (K := K) hr) (pe_callG ((ok_spread_fours T).mono (by decide)) hgd hr (by rfl) T.g_spread_fours T.F_spread_fours.kp (b_spread_fours_T T) (pa_cons (pe_tup (pa_cons (pe_tup (pa_cons pe_int (pa_cons pe_int pa_nil))) (pa_cons (pe_tup (pa_cons pe_int (pa_cons pe_int pa_nil))) (pa_cons (pe_tup (pa_cons pe_int (pa_cons pe_int pa_nil))) (pa_cons (pe_tup (pa_cons pe_int (pa_cons pe_int pa_nil))) (pa_cons (pe_tup (pa_cons pe_int (pa_cons pe_int pa_nil))) pa_nil)))))) pa_nil)) (pe_tup (pa_cons (pe_tup (pa_cons pe_int (pa_cons pe_int (pa_cons pe_int (pa_cons pe_int pa_nil))))) pa_nil)) (nomark _)))))), ?_⟩)
  exact law_rest (K := K) (N := ["script", "source", "lap", "lot", "n", "most", "step", "x", "y", "p", "t", "kept", "due", "four", "some", "five", "inner", "i"]) (Γr := [.fro, .fro, .fro, .fro, .fro, .fro, .fro, .fro, .fro, .fro, .fro, .fro, .fro, .fro, .fro, .fro]) (Γ' := []) (to := tNil) (fun src cl => (sem_seq (sem_for (semI_rng1 (sem_vcons (sem_int).v sem_vnil)) (sem_gname (i := 2) rfl)
  (sem_seq (sem_asgOP (K := K) (i := 3) (j := 4) (sem_lst sem_anil) (sem_op oe_add (sem_int).v ((sem_callX (i := 1) rfl (sem_acons sem_int sem_anil))).v) (by decide) rfl)
  (sem_seq (sem_asg (sem_callX (i := 1) rfl (sem_acons ((sem_lst (sem_acons sem_int (sem_acons sem_int (sem_acons sem_int sem_anil))))).e sem_anil)) (by decide))
  (sem_seq (sem_for (semI_rng1 (sem_vcons ((sem_var (i := 4) rfl)).v sem_vnil)) (sem_gname (i := 6) rfl)
  (sem_seq (sem_par (sem_acons (sem_op oe_sub ((sem_callX (i := 1) rfl (sem_acons (sem_op oe_add ((sem_op oe_mulX (sem_int).v ((sem_var (i := 5) rfl)).v)).v (sem_int).v) sem_anil))).v ((sem_var (i := 5) rfl)).v) (sem_acons (sem_op oe_sub ((sem_callX (i := 1) rfl (sem_acons (sem_op oe_add ((sem_op oe_mulX (sem_int).v ((sem_var (i := 5) rfl)).v)).v (sem_int).v) sem_anil))).v ((sem_var (i := 5) rfl)).v) sem_anil)) rfl rfl)
  (sem_seq (sem_par (sem_acons (sem_tup (sem_acons (sem_var (i := 7) rfl) (sem_acons (sem_var (i := 8) rfl) sem_anil))) (sem_acons sem_int sem_anil)) rfl rfl)
  (sem_seq (sem_while (sem_not (sem_tB ((sem_callV (sem_vcons (sem_own (i := 3) rfl) (sem_vcons ((sem_var (i := 9) rfl)).v sem_vnil)))).v))
  (sem_seq (sem_asg (sem_op oe_add ((sem_var (i := 10) rfl)).v (sem_int).v) (by decide))
  (sem_asg (sem_tup (sem_acons (sem_op oe_add ((sem_var (i := 7) rfl)).v ((sem_var (i := 10) rfl)).v) (sem_acons (sem_op oe_add ((sem_var (i := 8) rfl)).v ((sem_op oe_mulX ((sem_var (i := 10) rfl)).v ((sem_var (i := 10) rfl)).v)).v) sem_anil))) (by decide))))
  (sem_app (i := 3) rfl (sem_var (i := 9) rfl))))))
  (sem_seq (sem_asg (sem_cb ca_tup (sem_vcons ((sem_cbL ca_srt (sem_vcons (sem_own (i := 3) rfl) sem_vnil))).e.v sem_vnil)) (by decide))
  (sem_seq (sem_par (sem_acons (sem_cb ca_reprX (sem_vcons ((sem_var (i := 3) rfl)).v sem_vnil)) (sem_acons ((sem_lc (semIc_seq ((sem_call (sem_acons (sem_var (i := 4) rfl) (sem_acons sem_int sem_anil)))).v) (sem_gname (i := 14) rfl) (sem_tB ((sem_call (sem_acons ((sem_lc (semIc_seq ((sem_var (i := 14) rfl)).v) (sem_gname (i := 17) rfl) sem_yes (sem_op oe_ix ((sem_var (i := 3) rfl)).v ((sem_var (i := 17) rfl)).v) (allFro rfl) (by decide))).e sem_anil))).v) (sem_var (i := 14) rfl) (allFro rfl) (by decide))).e sem_anil)) rfl rfl)
  (sem_seq (sem_if (sem_test ((sem_op oe_neX ((sem_cb ca_reprX (sem_vcons ((sem_call (sem_acons (sem_var (i := 3) rfl) sem_anil))).v sem_vnil))).v ((sem_cb ca_reprX (sem_vcons ((sem_cb ca_tup (sem_vcons ((sem_var (i := 12) rfl)).v sem_vnil))).v sem_vnil))).v)).v) (sem_ret sem_bl) sem_nx)
  (sem_seq (sem_asg (sem_cb ca_tup (sem_vcons ((sem_lc (semIc_seq ((sem_callX (i := 1) rfl (sem_acons (sem_call (sem_acons (sem_var (i := 4) rfl) (sem_acons sem_int sem_anil))) sem_anil))).v) (sem_gname (i := 17) rfl) sem_yes (sem_op oe_ix ((sem_var (i := 3) rfl)).v ((sem_var (i := 17) rfl)).v) (allFro rfl) (by decide))).e.v sem_vnil)) (by decide))
  (sem_seq (sem_if (sem_test ((sem_op oe_neX ((sem_cb ca_reprX (sem_vcons ((sem_call (sem_acons (sem_var (i := 13) rfl) sem_anil))).v sem_vnil))).v ((sem_cb ca_reprX (sem_vcons ((sem_call (sem_acons (sem_var (i := 13) rfl) sem_anil))).v sem_vnil))).v)).v) (sem_ret sem_bl) sem_nx)
  (sem_seq (sem_if (sem_test ((sem_op oe_gt ((sem_var (i := 4) rfl)).v (sem_int).v)).v) (sem_seq (sem_for (semI_seq (sem_call (sem_acons (sem_var (i := 4) rfl) (sem_acons sem_int sem_anil)))) (sem_gname (i := 14) rfl)
  (sem_seq (sem_asg (sem_cb ca_tup (sem_vcons ((sem_lc (semIc_seq ((sem_var (i := 14) rfl)).v) (sem_gname (i := 17) rfl) sem_yes (sem_op oe_ix ((sem_var (i := 3) rfl)).v ((sem_var (i := 17) rfl)).v) (allFro rfl) (by decide))).e.v sem_vnil)) (by decide))
  (sem_seq (sem_asg ((sem_lc (semIc_seq ((sem_var (i := 12) rfl)).v) (sem_gname (i := 13) rfl) (sem_test ((sem_op oe_eqX ((sem_lc (semIc_seq ((sem_var (i := 13) rfl)).v) (sem_gname (i := 17) rfl) (sem_test ((sem_op oe_in ((sem_var (i := 17) rfl)).v ((sem_var (i := 14) rfl)).v)).v) (sem_var (i := 17) rfl) (allFro rfl) (by decide))).e.v ((sem_lst sem_anil)).e.v)).v) (sem_var (i := 13) rfl) (allFro rfl) (by decide))).e (by decide))
  (sem_if (sem_or (sem_test ((sem_op oe_neX ((sem_cb ca_len (sem_vcons ((sem_var (i := 16) rfl)).v sem_vnil))).v ((sem_op oe_sub ((sem_op oe_mulX (sem_int).v ((sem_cb ca_len (sem_vcons ((sem_call (sem_acons (sem_var (i := 15) rfl) sem_anil))).v sem_vnil))).v)).v (sem_int).v)).v)).v) (sem_test ((sem_op oe_eqX ((sem_var (i := 16) rfl)).v ((sem_lst sem_anil)).e.v)).v)) (sem_ret sem_bl) sem_nx))))
  (sem_if (sem_or (sem_test ((sem_op oe_neX ((sem_cb ca_reprX (sem_vcons ((sem_call (sem_acons (sem_var (i := 3) rfl) sem_anil))).v sem_vnil))).v ((sem_cb ca_reprX (sem_vcons ((sem_cb ca_len (sem_vcons ((sem_var (i := 12) rfl)).v sem_vnil))).v sem_vnil))).v)).v) (sem_test ((sem_op oe_lt ((sem_op oe_mulX (sem_int).v ((sem_cb ca_len (sem_vcons ((sem_var (i := 12) rfl)).v sem_vnil))).v)).v ((sem_cb ca_len (sem_vcons ((sem_call (sem_acons (sem_var (i := 4) rfl) (sem_acons sem_int sem_anil)))).v sem_vnil))).v)).v)) (sem_ret sem_bl) sem_nx)) sem_nx)
  (sem_if (sem_test ((sem_op oe_neX ((sem_cb ca_reprX (sem_vcons ((sem_var (i := 3) rfl)).v sem_vnil))).v ((sem_var (i := 11) rfl)).v)).v) (sem_ret sem_bl) sem_nx)))))))))))
  (sem_ret (sem_op oe_eqX ((sem_call (sem_acons (sem_tup (sem_acons (sem_tup (sem_acons sem_int (sem_acons sem_int sem_anil))) (sem_acons (sem_tup (sem_acons sem_int (sem_acons sem_int sem_anil))) (sem_acons (sem_tup (sem_acons sem_int (sem_acons sem_int sem_anil))) (sem_acons (sem_tup (sem_acons sem_int (sem_acons sem_int sem_anil))) (sem_acons (sem_tup (sem_acons sem_int (sem_acons sem_int sem_anil))) sem_anil)))))) sem_anil))).v ((sem_tup (sem_acons (sem_tup (sem_acons sem_int (sem_acons sem_int (sem_acons sem_int (sem_acons sem_int sem_anil))))) sem_anil))).v)))) rfl law_true h
end
end L78
namespace L78
open PySem PySem.Spec PyProof.Rows L2 Py StX
theorem all_mk {l : PySem.W.OpenLaw} {w : World} {K : PySem.W.Frag} {h : Heap} {mg : Str → Option Value} {fa : Addr} (X : K.In h) (G : h.Ns mainGlobals mg) (hfa : mg "law" = some (.ref fa))
    {f0 : Addr} {od0 an0 : Option Addr} {sl0 : Array (Option Value)} {oc0 kV0 dc0 pm0 cd0 ct0 : Value}
    {f1 : Addr} {od1 an1 : Option Addr} {sl1 : Array (Option Value)} {oc1 kV1 dc1 pm1 cd1 ct1 : Value}
    {f2 : Addr} {od2 an2 : Option Addr} {sl2 : Array (Option Value)} {oc2 kV2 dc2 pm2 cd2 ct2 : Value}
    {f3 : Addr} {od3 an3 : Option Addr} {sl3 : Array (Option Value)} {oc3 kV3 dc3 pm3 cd3 ct3 : Value}
    {f4 : Addr} {od4 an4 : Option Addr} {sl4 : Array (Option Value)} {oc4 kV4 dc4 pm4 cd4 ct4 : Value}
    {f5 : Addr} {od5 an5 : Option Addr} {sl5 : Array (Option Value)} {oc5 kV5 dc5 pm5 cd5 ct5 : Value}
    {f6 : Addr} {od6 an6 : Option Addr} {sl6 : Array (Option Value)} {oc6 kV6 dc6 pm6 cd6 ct6 : Value}
    {f7 : Addr} {od7 an7 : Option Addr} {sl7 : Array (Option Value)} {oc7 kV7 dc7 pm7 cd7 ct7 : Value}
    {f8 : Addr} {od8 an8 : Option Addr} {sl8 : Array (Option Value)} {oc8 kV8 dc8 pm8 cd8 ct8 : Value}
    {f9 : Addr} {od9 an9 : Option Addr} {sl9 : Array (Option Value)} {oc9 kV9 dc9 pm9 cd9 ct9 : Value}
    {f10 : Addr} {od10 an10 : Option Addr} {sl10 : Array (Option Value)} {oc10 kV10 dc10 pm10 cd10 ct10 : Value}
    {f11 : Addr} {od11 an11 : Option Addr} {sl11 : Array (Option Value)} {oc11 kV11 dc11 pm11 cd11 ct11 : Value}
    {f12 : Addr} {od12 an12 : Option Addr} {sl12 : Array (Option Value)} {oc12 kV12 dc12 pm12 cd12 ct12 : Value}
    {f13 : Addr} {od13 an13 : Option Addr} {sl13 : Array (Option Value)} {oc13 kV13 dc13 pm13 cd13 ct13 : Value}
    {f14 : Addr} {od14 an14 : Option Addr} {sl14 : Array (Option Value)} {oc14 kV14 dc14 pm14 cd14 ct14 : Value}
    {f15 : Addr} {od15 an15 : Option Addr} {sl15 : Array (Option Value)} {oc15 kV15 dc15 pm15 cd15 ct15 : Value}
    {f16 : Addr} {od16 an16 : Option Addr} {sl16 : Array (Option Value)} {oc16 kV16 dc16 pm16 cd16 ct16 : Value}
    {f17 : Addr} {od17 an17 : Option Addr} {sl17 : Array (Option Value)} {oc17 kV17 dc17 pm17 cd17 ct17 : Value}
    {f18 : Addr} {od18 an18 : Option Addr} {sl18 : Array (Option Value)} {oc18 kV18 dc18 pm18 cd18 ct18 : Value}
    {f19 : Addr} {od19 an19 : Option Addr} {sl19 : Array (Option Value)} {oc19 kV19 dc19 pm19 cd19 ct19 : Value}
    {f20 : Addr} {od20 an20 : Option Addr} {sl20 : Array (Option Value)} {oc20 kV20 dc20 pm20 cd20 ct20 : Value}
    {f21 : Addr} {od21 an21 : Option Addr} {sl21 : Array (Option Value)} {oc21 kV21 dc21 pm21 cd21 ct21 : Value}
    {f22 : Addr} {od22 an22 : Option Addr} {sl22 : Array (Option Value)} {oc22 kV22 dc22 pm22 cd22 ct22 : Value}
    {f23 : Addr} {od23 an23 : Option Addr} {sl23 : Array (Option Value)} {oc23 kV23 dc23 pm23 cd23 ct23 : Value}
    {f24 : Addr} {od24 an24 : Option Addr} {sl24 : Array (Option Value)} {oc24 kV24 dc24 pm24 cd24 ct24 : Value}
    (a0 : PySem.W.nsIn K mainGlobals "divisor_of_all" = some (some (.ref f0))) (l0 : K.lookup f0 = some ⟨oc0, od0, .func (PySem.W.fnOf "divisor_of_all" "divisor_of_all" (defArgs s_divisor_of_all) (defBody s_divisor_of_all) (defScope s_divisor_of_all) .none kV0 dc0 pm0 an0 cd0 ct0), sl0⟩) (c0 : PySem.W.codeIn K cd0 "divisor_of_all" = true) (k0 : PySem.W.keepIn K (.ref f0) = true)
    (a1 : PySem.W.nsIn K mainGlobals "lines_reduced" = some (some (.ref f1))) (l1 : K.lookup f1 = some ⟨oc1, od1, .func (PySem.W.fnOf "lines_reduced" "lines_reduced" (defArgs s_lines_reduced) (defBody s_lines_reduced) (defScope s_lines_reduced) .none kV1 dc1 pm1 an1 cd1 ct1), sl1⟩) (c1 : PySem.W.codeIn K cd1 "lines_reduced" = true) (k1 : PySem.W.keepIn K (.ref f1) = true)
    (a2 : PySem.W.nsIn K mainGlobals "with_one" = some (some (.ref f2))) (l2 : K.lookup f2 = some ⟨oc2, od2, .func (PySem.W.fnOf "with_one" "with_one" (defArgs s_with_one) (defBody s_with_one) (defScope s_with_one) .none kV2 dc2 pm2 an2 cd2 ct2), sl2⟩) (c2 : PySem.W.codeIn K cd2 "with_one" = true) (k2 : PySem.W.keepIn K (.ref f2) = true)
    (a3 : PySem.W.nsIn K mainGlobals "flat_size" = some (some (.ref f3))) (l3 : K.lookup f3 = some ⟨oc3, od3, .func (PySem.W.fnOf "flat_size" "flat_size" (defArgs s_flat_size) (defBody s_flat_size) (defScope s_flat_size) .none kV3 dc3 pm3 an3 cd3 ct3), sl3⟩) (c3 : PySem.W.codeIn K cd3 "flat_size" = true) (k3 : PySem.W.keepIn K (.ref f3) = true)
    (a4 : PySem.W.nsIn K mainGlobals "lowest_pair" = some (some (.ref f4))) (l4 : K.lookup f4 = some ⟨oc4, od4, .func (PySem.W.fnOf "lowest_pair" "lowest_pair" (defArgs s_lowest_pair) (defBody s_lowest_pair) (defScope s_lowest_pair) .none kV4 dc4 pm4 an4 cd4 ct4), sl4⟩) (c4 : PySem.W.codeIn K cd4 "lowest_pair" = true) (k4 : PySem.W.keepIn K (.ref f4) = true)
    (a5 : PySem.W.nsIn K mainGlobals "whole_point" = some (some (.ref f5))) (l5 : K.lookup f5 = some ⟨oc5, od5, .func (PySem.W.fnOf "whole_point" "whole_point" (defArgs s_whole_point) (defBody s_whole_point) (defScope s_whole_point) .none kV5 dc5 pm5 an5 cd5 ct5), sl5⟩) (c5 : PySem.W.codeIn K cd5 "whole_point" = true) (k5 : PySem.W.keepIn K (.ref f5) = true)
    (a6 : PySem.W.nsIn K mainGlobals "told_number" = some (some (.ref f6))) (l6 : K.lookup f6 = some ⟨oc6, od6, .func (PySem.W.fnOf "told_number" "told_number" (defArgs s_told_number) (defBody s_told_number) (defScope s_told_number) .none kV6 dc6 pm6 an6 cd6 ct6), sl6⟩) (c6 : PySem.W.codeIn K cd6 "told_number" = true) (k6 : PySem.W.keepIn K (.ref f6) = true)
    (a7 : PySem.W.nsIn K mainGlobals "weights_to" = some (some (.ref f7))) (l7 : K.lookup f7 = some ⟨oc7, od7, .func (PySem.W.fnOf "weights_to" "weights_to" (defArgs s_weights_to) (defBody s_weights_to) (defScope s_weights_to) .none kV7 dc7 pm7 an7 cd7 ct7), sl7⟩) (c7 : PySem.W.codeIn K cd7 "weights_to" = true) (k7 : PySem.W.keepIn K (.ref f7) = true)
    (a8 : PySem.W.nsIn K mainGlobals "places_of" = some (some (.ref f8))) (l8 : K.lookup f8 = some ⟨oc8, od8, .func (PySem.W.fnOf "places_of" "places_of" (defArgs s_places_of) (defBody s_places_of) (defScope s_places_of) .none kV8 dc8 pm8 an8 cd8 ct8), sl8⟩) (c8 : PySem.W.codeIn K cd8 "places_of" = true) (k8 : PySem.W.keepIn K (.ref f8) = true)
    (a9 : PySem.W.nsIn K mainGlobals "weights_paper" = some (some (.ref f9))) (l9 : K.lookup f9 = some ⟨oc9, od9, .func (PySem.W.fnOf "weights_paper" "weights_paper" (defArgs s_weights_paper) (defBody s_weights_paper) (defScope s_weights_paper) .none kV9 dc9 pm9 an9 cd9 ct9), sl9⟩) (c9 : PySem.W.codeIn K cd9 "weights_paper" = true) (k9 : PySem.W.keepIn K (.ref f9) = true)
    (a10 : PySem.W.nsIn K mainGlobals "holds_point" = some (some (.ref f10))) (l10 : K.lookup f10 = some ⟨oc10, od10, .func (PySem.W.fnOf "holds_point" "holds_point" (defArgs s_holds_point) (defBody s_holds_point) (defScope s_holds_point) .none kV10 dc10 pm10 an10 cd10 ct10), sl10⟩) (c10 : PySem.W.codeIn K cd10 "holds_point" = true) (k10 : PySem.W.keepIn K (.ref f10) = true)
    (a11 : PySem.W.nsIn K mainGlobals "as_fractions" = some (some (.ref f11))) (l11 : K.lookup f11 = some ⟨oc11, od11, .func (PySem.W.fnOf "as_fractions" "as_fractions" (defArgs s_as_fractions) (defBody s_as_fractions) (defScope s_as_fractions) .none kV11 dc11 pm11 an11 cd11 ct11), sl11⟩) (c11 : PySem.W.codeIn K cd11 "as_fractions" = true) (k11 : PySem.W.keepIn K (.ref f11) = true)
    (a12 : PySem.W.nsIn K mainGlobals "hull_corners" = some (some (.ref f12))) (l12 : K.lookup f12 = some ⟨oc12, od12, .func (PySem.W.fnOf "hull_corners" "hull_corners" (defArgs s_hull_corners) (defBody s_hull_corners) (defScope s_hull_corners) .none kV12 dc12 pm12 an12 cd12 ct12), sl12⟩) (c12 : PySem.W.codeIn K cd12 "hull_corners" = true) (k12 : PySem.W.keepIn K (.ref f12) = true)
    (a13 : PySem.W.nsIn K mainGlobals "is_spread" = some (some (.ref f13))) (l13 : K.lookup f13 = some ⟨oc13, od13, .func (PySem.W.fnOf "is_spread" "is_spread" (defArgs s_is_spread) (defBody s_is_spread) (defScope s_is_spread) .none kV13 dc13 pm13 an13 cd13 ct13), sl13⟩) (c13 : PySem.W.codeIn K cd13 "is_spread" = true) (k13 : PySem.W.keepIn K (.ref f13) = true)
    (a14 : PySem.W.nsIn K mainGlobals "spread_fours" = some (some (.ref f14))) (l14 : K.lookup f14 = some ⟨oc14, od14, .func (PySem.W.fnOf "spread_fours" "spread_fours" (defArgs s_spread_fours) (defBody s_spread_fours) (defScope s_spread_fours) .none kV14 dc14 pm14 an14 cd14 ct14), sl14⟩) (c14 : PySem.W.codeIn K cd14 "spread_fours" = true) (k14 : PySem.W.keepIn K (.ref f14) = true)
    (a15 : PySem.W.nsIn K mainGlobals "count_by_fives" = some (some (.ref f15))) (l15 : K.lookup f15 = some ⟨oc15, od15, .func (PySem.W.fnOf "count_by_fives" "count_by_fives" (defArgs s_count_by_fives) (defBody s_count_by_fives) (defScope s_count_by_fives) .none kV15 dc15 pm15 an15 cd15 ct15), sl15⟩) (c15 : PySem.W.codeIn K cd15 "count_by_fives" = true) (k15 : PySem.W.keepIn K (.ref f15) = true)
    (a16 : PySem.W.nsIn K mainGlobals "_law_open_cells" = some (some (.ref f16))) (l16 : K.lookup f16 = some ⟨oc16, od16, .func (PySem.W.fnOf "_law_open_cells" "_law_open_cells" (defArgs s__law_open_cells) (defBody s__law_open_cells) (defScope s__law_open_cells) .none kV16 dc16 pm16 an16 cd16 ct16), sl16⟩) (c16 : PySem.W.codeIn K cd16 "_law_open_cells" = true) (k16 : PySem.W.keepIn K (.ref f16) = true)
    (a17 : PySem.W.nsIn K mainGlobals "_law_pick" = some (some (.ref f17))) (l17 : K.lookup f17 = some ⟨oc17, od17, .func (PySem.W.fnOf "_law_pick" "_law_pick" (defArgs s__law_pick) (defBody s__law_pick) (defScope s__law_pick) .none kV17 dc17 pm17 an17 cd17 ct17), sl17⟩) (c17 : PySem.W.codeIn K cd17 "_law_pick" = true) (k17 : PySem.W.keepIn K (.ref f17) = true)
    (a18 : PySem.W.nsIn K mainGlobals "_law_of" = some (some (.ref f18))) (l18 : K.lookup f18 = some ⟨oc18, od18, .func (PySem.W.fnOf "_law_of" "_law_of" (defArgs s__law_of) (defBody s__law_of) (defScope s__law_of) .none kV18 dc18 pm18 an18 cd18 ct18), sl18⟩) (c18 : PySem.W.codeIn K cd18 "_law_of" = true) (k18 : PySem.W.keepIn K (.ref f18) = true)
    (a19 : PySem.W.nsIn K mainGlobals "_law_some" = some (some (.ref f19))) (l19 : K.lookup f19 = some ⟨oc19, od19, .func (PySem.W.fnOf "_law_some" "_law_some" (defArgs s__law_some) (defBody s__law_some) (defScope s__law_some) .none kV19 dc19 pm19 an19 cd19 ct19), sl19⟩) (c19 : PySem.W.codeIn K cd19 "_law_some" = true) (k19 : PySem.W.keepIn K (.ref f19) = true)
    (a20 : PySem.W.nsIn K mainGlobals "_law_side" = some (some (.ref f20))) (l20 : K.lookup f20 = some ⟨oc20, od20, .func (PySem.W.fnOf "_law_side" "_law_side" (defArgs s__law_side) (defBody s__law_side) (defScope s__law_side) .none kV20 dc20 pm20 an20 cd20 ct20), sl20⟩) (c20 : PySem.W.codeIn K cd20 "_law_side" = true) (k20 : PySem.W.keepIn K (.ref f20) = true)
    (a21 : PySem.W.nsIn K mainGlobals "_law_inside" = some (some (.ref f21))) (l21 : K.lookup f21 = some ⟨oc21, od21, .func (PySem.W.fnOf "_law_inside" "_law_inside" (defArgs s__law_inside) (defBody s__law_inside) (defScope s__law_inside) .none kV21 dc21 pm21 an21 cd21 ct21), sl21⟩) (c21 : PySem.W.codeIn K cd21 "_law_inside" = true) (k21 : PySem.W.keepIn K (.ref f21) = true)
    (a22 : PySem.W.nsIn K mainGlobals "_law_is_spread" = some (some (.ref f22))) (l22 : K.lookup f22 = some ⟨oc22, od22, .func (PySem.W.fnOf "_law_is_spread" "_law_is_spread" (defArgs s__law_is_spread) (defBody s__law_is_spread) (defScope s__law_is_spread) .none kV22 dc22 pm22 an22 cd22 ct22), sl22⟩) (c22 : PySem.W.codeIn K cd22 "_law_is_spread" = true) (k22 : PySem.W.keepIn K (.ref f22) = true)
    (a23 : PySem.W.nsIn K mainGlobals "_law_is_free" = some (some (.ref f23))) (l23 : K.lookup f23 = some ⟨oc23, od23, .func (PySem.W.fnOf "_law_is_free" "_law_is_free" (defArgs s__law_is_free) (defBody s__law_is_free) (defScope s__law_is_free) .none kV23 dc23 pm23 an23 cd23 ct23), sl23⟩) (c23 : PySem.W.codeIn K cd23 "_law_is_free" = true) (k23 : PySem.W.keepIn K (.ref f23) = true)
    (a24 : PySem.W.nsIn K mainGlobals "law" = some (some (.ref f24))) (l24 : K.lookup f24 = some ⟨oc24, od24, .func (PySem.W.fnOf "law" "law" (defArgs s_law) (defBody s_law) (defScope s_law) .none kV24 dc24 pm24 an24 cd24 ct24), sl24⟩) (c24 : PySem.W.codeIn K cd24 "law" = true) (k24 : PySem.W.keepIn K (.ref f24) = true)
    (z_abs : PySem.W.nsIn K mainGlobals "abs" = some none)
    (z_all : PySem.W.nsIn K mainGlobals "all" = some none)
    (z_any : PySem.W.nsIn K mainGlobals "any" = some none)
    (z_enumerate : PySem.W.nsIn K mainGlobals "enumerate" = some none)
    (z_int : PySem.W.nsIn K mainGlobals "int" = some none)
    (z_len : PySem.W.nsIn K mainGlobals "len" = some none)
    (z_list : PySem.W.nsIn K mainGlobals "list" = some none)
    (z_range : PySem.W.nsIn K mainGlobals "range" = some none)
    (z_repr : PySem.W.nsIn K mainGlobals "repr" = some none)
    (z_sorted : PySem.W.nsIn K mainGlobals "sorted" = some none)
    (z_tuple : PySem.W.nsIn K mainGlobals "tuple" = some none)
    (z_zip : PySem.W.nsIn K mainGlobals "zip" = some none)
    (z_gcd : PySem.W.nsIn K mainGlobals "gcd" = some (some (.builtin "math.gcd")))
    : ∃ fd : FuncData, (∀ (z : Shared) (u : Value), BindsTo z fd ⟨[u], []⟩ [("script", u)]) ∧ ∀ base : Heap, K.In base → base.Ns mainGlobals mg → FnG l.prog w K mg base 9 fa fd ["script"] (spLaw K) := by
  have e := hfa.symm.trans (PySem.W.mg_of X G a24)
  cases e
  let T : Tx K mg := {
    m_abs := PySem.W.mg_none_of X G z_abs
    m_all := PySem.W.mg_none_of X G z_all
    m_any := PySem.W.mg_none_of X G z_any
    m_enumerate := PySem.W.mg_none_of X G z_enumerate
    m_int := PySem.W.mg_none_of X G z_int
    m_len := PySem.W.mg_none_of X G z_len
    m_list := PySem.W.mg_none_of X G z_list
    m_range := PySem.W.mg_none_of X G z_range
    m_repr := PySem.W.mg_none_of X G z_repr
    m_sorted := PySem.W.mg_none_of X G z_sorted
    m_tuple := PySem.W.mg_none_of X G z_tuple
    m_zip := PySem.W.mg_none_of X G z_zip
    m_gcd := PySem.W.mg_of X G z_gcd
    a_divisor_of_all := f0, fd_divisor_of_all := _, F_divisor_of_all := fun_mk (st := s_divisor_of_all) l0 c0 k0, g_divisor_of_all := PySem.W.mg_of X G a0
    a_lines_reduced := f1, fd_lines_reduced := _, F_lines_reduced := fun_mk (st := s_lines_reduced) l1 c1 k1, g_lines_reduced := PySem.W.mg_of X G a1
    a_with_one := f2, fd_with_one := _, F_with_one := fun_mk (st := s_with_one) l2 c2 k2, g_with_one := PySem.W.mg_of X G a2
    a_flat_size := f3, fd_flat_size := _, F_flat_size := fun_mk (st := s_flat_size) l3 c3 k3, g_flat_size := PySem.W.mg_of X G a3
    a_lowest_pair := f4, fd_lowest_pair := _, F_lowest_pair := fun_mk (st := s_lowest_pair) l4 c4 k4, g_lowest_pair := PySem.W.mg_of X G a4
    a_whole_point := f5, fd_whole_point := _, F_whole_point := fun_mk (st := s_whole_point) l5 c5 k5, g_whole_point := PySem.W.mg_of X G a5
    a_told_number := f6, fd_told_number := _, F_told_number := fun_mk (st := s_told_number) l6 c6 k6, g_told_number := PySem.W.mg_of X G a6
    a_weights_to := f7, fd_weights_to := _, F_weights_to := fun_mk (st := s_weights_to) l7 c7 k7, g_weights_to := PySem.W.mg_of X G a7
    a_places_of := f8, fd_places_of := _, F_places_of := fun_mk (st := s_places_of) l8 c8 k8, g_places_of := PySem.W.mg_of X G a8
    a_weights_paper := f9, fd_weights_paper := _, F_weights_paper := fun_mk (st := s_weights_paper) l9 c9 k9, g_weights_paper := PySem.W.mg_of X G a9
    a_holds_point := f10, fd_holds_point := _, F_holds_point := fun_mk (st := s_holds_point) l10 c10 k10, g_holds_point := PySem.W.mg_of X G a10
    a_as_fractions := f11, fd_as_fractions := _, F_as_fractions := fun_mk (st := s_as_fractions) l11 c11 k11, g_as_fractions := PySem.W.mg_of X G a11
    a_hull_corners := f12, fd_hull_corners := _, F_hull_corners := fun_mk (st := s_hull_corners) l12 c12 k12, g_hull_corners := PySem.W.mg_of X G a12
    a_is_spread := f13, fd_is_spread := _, F_is_spread := fun_mk (st := s_is_spread) l13 c13 k13, g_is_spread := PySem.W.mg_of X G a13
    a_spread_fours := f14, fd_spread_fours := _, F_spread_fours := fun_mk (st := s_spread_fours) l14 c14 k14, g_spread_fours := PySem.W.mg_of X G a14
    a_count_by_fives := f15, fd_count_by_fives := _, F_count_by_fives := fun_mk (st := s_count_by_fives) l15 c15 k15, g_count_by_fives := PySem.W.mg_of X G a15
    a__law_open_cells := f16, fd__law_open_cells := _, F__law_open_cells := fun_mk (st := s__law_open_cells) l16 c16 k16, g__law_open_cells := PySem.W.mg_of X G a16
    a__law_pick := f17, fd__law_pick := _, F__law_pick := fun_mk (st := s__law_pick) l17 c17 k17, g__law_pick := PySem.W.mg_of X G a17
    a__law_of := f18, fd__law_of := _, F__law_of := fun_mk (st := s__law_of) l18 c18 k18, g__law_of := PySem.W.mg_of X G a18
    a__law_some := f19, fd__law_some := _, F__law_some := fun_mk (st := s__law_some) l19 c19 k19, g__law_some := PySem.W.mg_of X G a19
    a__law_side := f20, fd__law_side := _, F__law_side := fun_mk (st := s__law_side) l20 c20 k20, g__law_side := PySem.W.mg_of X G a20
    a__law_inside := f21, fd__law_inside := _, F__law_inside := fun_mk (st := s__law_inside) l21 c21 k21, g__law_inside := PySem.W.mg_of X G a21
    a__law_is_spread := f22, fd__law_is_spread := _, F__law_is_spread := fun_mk (st := s__law_is_spread) l22 c22 k22, g__law_is_spread := PySem.W.mg_of X G a22
    a__law_is_free := f23, fd__law_is_free := _, F__law_is_free := fun_mk (st := s__law_is_free) l23 c23 k23, g__law_is_free := PySem.W.mg_of X G a23
    a_law := fa, fd_law := _, F_law := fun_mk (st := s_law) l24 c24 k24, g_law := PySem.W.mg_of X G a24
    }
  exact ⟨T.fd_law, fun z u => .of_eq rfl, fun base _ _ => ok_law T⟩
end L78
open PySem PySem.W PyProof.Rows
set_option maxHeartbeats 0 in
theorem PySem.Challenge.cw_cornersmet_k78_whole_spread_fours_holds : PySem.Challenge.rw_cornersmet_k78_whole_spread_fours.Holds := by
  w_on; o_law; k_head; (case hw => w_witness2)
  k_fill
  refine Py.walkG (l := PySem.Challenge.rw_cornersmet_k78_whole_spread_fours) (n := 63) (k := 9) (x := "script") rfl (by decide) rfl ⟨rfl, by decide, by decide⟩ (fun w h Y => PySem.W.kIn_of Y) ?F
  case F =>
    intro w mg fa h KX G hmg
    refine' L78.all_mk KX G hmg ?a0 ?l0 ?c0 ?k0 ?a1 ?l1 ?c1 ?k1 ?a2 ?l2 ?c2 ?k2 ?a3 ?l3 ?c3 ?k3 ?a4 ?l4 ?c4 ?k4 ?a5 ?l5 ?c5 ?k5 ?a6 ?l6 ?c6 ?k6 ?a7 ?l7 ?c7 ?k7 ?a8 ?l8 ?c8 ?k8 ?a9 ?l9 ?c9 ?k9 ?a10 ?l10 ?c10 ?k10 ?a11 ?l11 ?c11 ?k11 ?a12 ?l12 ?c12 ?k12 ?a13 ?l13 ?c13 ?k13 ?a14 ?l14 ?c14 ?k14 ?a15 ?l15 ?c15 ?k15 ?a16 ?l16 ?c16 ?k16 ?a17 ?l17 ?c17 ?k17 ?a18 ?l18 ?c18 ?k18 ?a19 ?l19 ?c19 ?k19 ?a20 ?l20 ?c20 ?k20 ?a21 ?l21 ?c21 ?k21 ?a22 ?l22 ?c22 ?k22 ?a23 ?l23 ?c23 ?k23 ?a24 ?l24 ?c24 ?k24 ?z_abs ?z_all ?z_any ?z_enumerate ?z_int ?z_len ?z_list ?z_range ?z_repr ?z_sorted ?z_tuple ?z_zip ?z_gcd
    (case a0 => k_is); (case l0 => k_is); (case c0 => k_is); (case k0 => k_is)
    (case a1 => k_is); (case l1 => k_is); (case c1 => k_is); (case k1 => k_is)
    (case a2 => k_is); (case l2 => k_is); (case c2 => k_is); (case k2 => k_is)
    (case a3 => k_is); (case l3 => k_is); (case c3 => k_is); (case k3 => k_is)
    (case a4 => k_is); (case l4 => k_is); (case c4 => k_is); (case k4 => k_is)
    (case a5 => k_is); (case l5 => k_is); (case c5 => k_is); (case k5 => k_is)
    (case a6 => k_is); (case l6 => k_is); (case c6 => k_is); (case k6 => k_is)
    (case a7 => k_is); (case l7 => k_is); (case c7 => k_is); (case k7 => k_is)
    (case a8 => k_is); (case l8 => k_is); (case c8 => k_is); (case k8 => k_is)
    (case a9 => k_is); (case l9 => k_is); (case c9 => k_is); (case k9 => k_is)
    (case a10 => k_is); (case l10 => k_is); (case c10 => k_is); (case k10 => k_is)
    (case a11 => k_is); (case l11 => k_is); (case c11 => k_is); (case k11 => k_is)
    (case a12 => k_is); (case l12 => k_is); (case c12 => k_is); (case k12 => k_is)
    (case a13 => k_is); (case l13 => k_is); (case c13 => k_is); (case k13 => k_is)
    (case a14 => k_is); (case l14 => k_is); (case c14 => k_is); (case k14 => k_is)
    (case a15 => k_is); (case l15 => k_is); (case c15 => k_is); (case k15 => k_is)
    (case a16 => k_is); (case l16 => k_is); (case c16 => k_is); (case k16 => k_is)
    (case a17 => k_is); (case l17 => k_is); (case c17 => k_is); (case k17 => k_is)
    (case a18 => k_is); (case l18 => k_is); (case c18 => k_is); (case k18 => k_is)
    (case a19 => k_is); (case l19 => k_is); (case c19 => k_is); (case k19 => k_is)
    (case a20 => k_is); (case l20 => k_is); (case c20 => k_is); (case k20 => k_is)
    (case a21 => k_is); (case l21 => k_is); (case c21 => k_is); (case k21 => k_is)
    (case a22 => k_is); (case l22 => k_is); (case c22 => k_is); (case k22 => k_is)
    (case a23 => k_is); (case l23 => k_is); (case c23 => k_is); (case k23 => k_is)
    (case a24 => k_is); (case l24 => k_is); (case c24 => k_is); (case k24 => k_is)
    (case z_abs => k_is); (case z_all => k_is); (case z_any => k_is); (case z_enumerate => k_is)
    (case z_int => k_is); (case z_len => k_is); (case z_list => k_is); (case z_range => k_is)
    (case z_repr => k_is); (case z_sorted => k_is); (case z_tuple => k_is); (case z_zip => k_is)
    (case z_gcd => k_is)
namespace L78
end L78
