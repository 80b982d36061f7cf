import PyProof.Rows.All
import Wide.All
import OpenK.AllK
import Wide.FinOn
import HandS.ForMost
import HandS.Wide
import HandS.IsInst
import HandS.TupAny
import HandS.TupMul
import HandS.Style
import HandS.Zip
import HandS.Conv
import HandS.SortInts
import HandS.Flow
import HandS.Deep
import HandS.RaiseMore
import KE.GoesNew
import HandS.SetFor
import HandS.Strs
import HandS.More
import PySem.Challenge.RW_slidepanels_k15_whole_wardrobes_compared
set_option Elab.async false
set_option linter.all false
set_option maxRecDepth 100000
/-! The value layer: data by value over the hand layer's abstract heap. -/
namespace SD
open L2 PyProof.Rows PySem PySem.Spec

/-- data, by value -/
inductive D where
  | non | bl (b : Bool) | int (i : Int) | str (x : Str) | tup (l : List D) | lst (l : List D) | bag | fn (a : Addr) | ty (n : String)

/-- the bag at b: a list of draws at l and a counter -/
def IsBag (H : Hp) (b l : Addr) : Prop := ∃ (c : Int) (ns : List Int), H b = some (.lst [.ref l, .int c]) ∧ l ≠ b ∧ H l = some (.lst (ns.map V.int)) ∧ 0 < ns.length ∧ ns.length ≤ 1000 ∧ (∀ n ∈ ns, 0 ≤ n ∧ n < 1000) ∧ 0 ≤ c
/-- the bag and its list of draws, if there is one -/
abbrev BG := Option (Addr × Addr)
def nB (bg : BG) (a : Addr) : Prop := ∀ l, bg ≠ some (a, l)
def BagOk (bg : BG) (H : Hp) : Prop := ∀ b l, bg = some (b, l) → IsBag H b l
/-- all that stood stands, but the bag, that is a bag still -/
structure Grow (bg : BG) (H H' : Hp) : Prop where
  keep : ∀ a o, H a = some o → nB bg a → H' a = some o
  bag : BagOk bg H → BagOk bg H'
theorem Grow.refl (bg : BG) (H : Hp) : Grow bg H H := ⟨fun _ _ h _ => h, fun h => h⟩
theorem Grow.trans {bg : BG} {H H1 H2 : Hp} (a : Grow bg H H1) (b : Grow bg H1 H2) : Grow bg H H2 := ⟨fun x o h n => b.keep x o (a.keep x o h n) n, fun h => b.bag (a.bag h)⟩
theorem IsBag.same {H H' : Hp} {b l : Addr} (h : IsBag H b l) (k : ∀ a o, H a = some o → H' a = some o) : IsBag H' b l := by
  obtain ⟨c, ns, h1, h2, h3, h4⟩ := h
  exact ⟨c, ns, k _ _ h1, h2, k _ _ h3, h4⟩
theorem Grow.same {bg : BG} {H H' : Hp} (k : ∀ a o, H a = some o → H' a = some o) : Grow bg H H' := ⟨fun a o h _ => k a o h, fun h b l e => (h b l e).same k⟩
theorem Grow.new {bg : BG} {H : Hp} {p : Addr} {o : HO} (hp : H p = none) : Grow bg H (upd H p o) := .same fun a u h => by rw [upd_ne (ne_of_none h hp)]; exact h
theorem Grow.none {bg : BG} {H H' : Hp} (g : Grow bg H H') (ok : BagOk bg H) {a : Addr} (h : H' a = Option.none) : H a = Option.none := by
  cases e : H a with
  | none => rfl
  | some o =>
    by_cases q : nB bg a
    · rw [g.keep a o e q] at h; cases h
    · unfold nB at q
      obtain ⟨l, q⟩ := Classical.not_forall.mp q
      obtain ⟨c, ns, h1, _⟩ := g.bag ok a l (Classical.not_not.mp q)
      rw [h] at h1; cases h1

mutual
/-- v stands for d; the lists within stand at addresses of A -/
def Rep (H : Hp) (A : Addr → Prop) (bg : BG) : D → V → Prop
  | .non, v => v = .non
  | .bl b, v => v = .bl b
  | .int i, v => v = .int i
  | .str x, v => v = .str x
  | .tup l, v => ∃ a xs, v = .ref a ∧ H a = some (.tup xs) ∧ l.length ≤ sizeLine ∧ Reps H A bg l xs
  | .lst l, v => ∃ a xs, v = .ref a ∧ A a ∧ H a = some (.lst xs) ∧ l.length ≤ sizeLine ∧ Reps H A bg l xs
  | .bag, v => ∃ a l, v = .ref a ∧ bg = some (a, l)
  | .fn a, v => v = .ref a
  | .ty n, v => v = .ty n
def Reps (H : Hp) (A : Addr → Prop) (bg : BG) : List D → List V → Prop
  | [], vs => vs = []
  | d :: ds, vs => ∃ v r, vs = v :: r ∧ Rep H A bg d v ∧ Reps H A bg ds r
end
section
variable {H H' : Hp} {A A' : Addr → Prop} {bg : BG}
theorem bag_ne_tup (ok : BagOk bg H) {a : Addr} {xs : List V} (h : H a = some (.tup xs)) : nB bg a := fun l e => by
  obtain ⟨c, ns, h1, _⟩ := ok a l e
  rw [h] at h1; cases h1
mutual
/-- the master: the lists within and the tuples stand -/
theorem Rep.mv (kl : ∀ a xs, A a → H a = some (.lst xs) → H' a = some (.lst xs) ∧ A' a) (kt : ∀ a xs, H a = some (.tup xs) → H' a = some (.tup xs)) : ∀ (d : D) (v : V), Rep H A bg d v → Rep H' A' bg d v
  | .non, _, h => h
  | .bl _, _, h => h
  | .int _, _, h => h
  | .str _, _, h => h
  | .fn _, _, h => h
  | .ty _, _, h => h
  | .bag, _, h => h
  | .tup l, v, h => by
    unfold Rep at h ⊢
    obtain ⟨a, xs, e, r, z, q⟩ := h
    exact ⟨a, xs, e, kt a xs r, z, Reps.mv kl kt l xs q⟩
  | .lst l, v, h => by
    unfold Rep at h ⊢
    obtain ⟨a, xs, e, ha, r, z, q⟩ := h
    exact ⟨a, xs, e, (kl a xs ha r).2, (kl a xs ha r).1, z, Reps.mv kl kt l xs q⟩
theorem Reps.mv (kl : ∀ a xs, A a → H a = some (.lst xs) → H' a = some (.lst xs) ∧ A' a) (kt : ∀ a xs, H a = some (.tup xs) → H' a = some (.tup xs)) : ∀ (ds : List D) (vs : List V), Reps H A bg ds vs → Reps H' A' bg ds vs
  | [], _, h => by
    unfold Reps at h ⊢; exact h
  | d :: ds, vs, h => by
    unfold Reps at h ⊢
    obtain ⟨v, r, e, h1, h2⟩ := h
    exact ⟨v, r, e, Rep.mv kl kt d v h1, Reps.mv kl kt ds r h2⟩
end
theorem Rep.grow (ok : BagOk bg H) (g : Grow bg H H') (hA : ∀ a, A a → nB bg a) (m : ∀ a, A a → A' a) (d : D) (v : V) : Rep H A bg d v → Rep H' A' bg d v :=
  Rep.mv (fun a xs ha h => ⟨g.keep _ _ h (hA a ha), m a ha⟩) (fun a xs h => g.keep _ _ h (bag_ne_tup ok h)) d v
theorem Reps.grow (ok : BagOk bg H) (g : Grow bg H H') (hA : ∀ a, A a → nB bg a) (m : ∀ a, A a → A' a) (ds : List D) (vs : List V) : Reps H A bg ds vs → Reps H' A' bg ds vs :=
  Reps.mv (fun a xs ha h => ⟨g.keep _ _ h (hA a ha), m a ha⟩) (fun a xs h => g.keep _ _ h (bag_ne_tup ok h)) ds vs
theorem Reps.nil : Reps H A bg [] [] := by unfold Reps; rfl
theorem Reps.cons {d : D} {v : V} {ds : List D} {vs : List V} (h : Rep H A bg d v) (t : Reps H A bg ds vs) : Reps H A bg (d :: ds) (v :: vs) := by
  unfold Reps; exact ⟨v, vs, rfl, h, t⟩
theorem Reps.nil_inv {vs : List V} (h : Reps H A bg [] vs) : vs = [] := by unfold Reps at h; exact h
theorem Reps.cons_inv {d : D} {ds : List D} {vs : List V} (h : Reps H A bg (d :: ds) vs) : ∃ v r, vs = v :: r ∧ Rep H A bg d v ∧ Reps H A bg ds r := by unfold Reps at h; exact h
theorem Reps.length : ∀ {ds : List D} {vs : List V}, Reps H A bg ds vs → vs.length = ds.length
  | [], _, h => by rw [h.nil_inv]; rfl
  | d :: ds, _, h => by
    obtain ⟨v, r, rfl, _, t⟩ := h.cons_inv
    simp [Reps.length t]
theorem Reps.get : ∀ {ds : List D} {vs : List V} {i : Nat} {d : D}, Reps H A bg ds vs → ds[i]? = some d → ∃ v, vs[i]? = some v ∧ Rep H A bg d v
  | [], _, _, _, _, e => by simp at e
  | x :: ds, _, 0, d, h, e => by
    obtain ⟨v, r, rfl, h1, _⟩ := h.cons_inv
    simp at e; subst e
    exact ⟨v, rfl, h1⟩
  | x :: ds, _, i + 1, d, h, e => by
    obtain ⟨v, r, rfl, _, t⟩ := h.cons_inv
    obtain ⟨u, e1, e2⟩ := Reps.get (i := i) t (by simpa using e)
    exact ⟨u, by simpa using e1, e2⟩
theorem Reps.getV : ∀ {ds : List D} {vs : List V} {i : Nat} {v : V}, Reps H A bg ds vs → vs[i]? = some v → ∃ d, ds[i]? = some d ∧ Rep H A bg d v
  | [], _, _, _, h, e => by rw [h.nil_inv] at e; simp at e
  | x :: ds, _, 0, d, h, e => by
    obtain ⟨v, r, rfl, h1, _⟩ := h.cons_inv
    simp at e; subst e
    exact ⟨x, rfl, h1⟩
  | x :: ds, _, i + 1, d, h, e => by
    obtain ⟨v, r, rfl, _, t⟩ := h.cons_inv
    obtain ⟨u, e1, e2⟩ := Reps.getV (i := i) t (by simpa using e)
    exact ⟨u, by simpa using e1, e2⟩
theorem Reps.append : ∀ {ds es : List D} {vs ws : List V}, Reps H A bg ds vs → Reps H A bg es ws → Reps H A bg (ds ++ es) (vs ++ ws)
  | [], _, _, _, h, t => by rw [h.nil_inv]; exact t
  | d :: ds, _, _, _, h, t => by
    obtain ⟨v, r, rfl, h1, h2⟩ := h.cons_inv
    exact .cons h1 (Reps.append h2 t)
theorem Reps.take : ∀ {ds : List D} {vs : List V} (n : Nat), Reps H A bg ds vs → Reps H A bg (ds.take n) (vs.take n)
  | _, _, 0, _ => .nil
  | [], _, n + 1, h => by rw [h.nil_inv]; exact .nil
  | d :: ds, _, n + 1, h => by
    obtain ⟨v, r, rfl, h1, h2⟩ := h.cons_inv
    exact .cons h1 (Reps.take n h2)
theorem Reps.drop : ∀ {ds : List D} {vs : List V} (n : Nat), Reps H A bg ds vs → Reps H A bg (ds.drop n) (vs.drop n)
  | _, _, 0, h => h
  | [], _, n + 1, h => by rw [h.nil_inv]; exact .nil
  | d :: ds, _, n + 1, h => by
    obtain ⟨v, r, rfl, h1, h2⟩ := h.cons_inv
    exact Reps.drop n h2
theorem Reps.set {d : D} {v : V} (h1 : Rep H A bg d v) : ∀ {ds : List D} {vs : List V} (n : Nat), Reps H A bg ds vs → Reps H A bg (ds.set n d) (vs.set n v)
  | [], _, _, h => by rw [h.nil_inv]; exact .nil
  | x :: ds, _, 0, h => by
    obtain ⟨v, r, rfl, _, h2⟩ := h.cons_inv
    exact .cons h1 h2
  | x :: ds, _, n + 1, h => by
    obtain ⟨v, r, rfl, h0, h2⟩ := h.cons_inv
    exact .cons h0 (Reps.set h1 n h2)
theorem Reps.ints : ∀ {ns : List Int} {vs : List V}, Reps H A bg (ns.map D.int) vs → vs = ns.map V.int
  | [], _, h => h.nil_inv
  | n :: ns, _, h => by
    obtain ⟨v, r, rfl, h1, h2⟩ := h.cons_inv
    unfold Rep at h1
    rw [h1, Reps.ints h2]; rfl
theorem Reps.bls : ∀ {ns : List Bool} {vs : List V}, Reps H A bg (ns.map D.bl) vs → vs = ns.map V.bl
  | [], _, h => h.nil_inv
  | n :: ns, _, h => by
    obtain ⟨v, r, rfl, h1, h2⟩ := h.cons_inv
    unfold Rep at h1
    rw [h1, Reps.bls h2]; rfl
theorem Reps.of_ints : ∀ (ns : List Int), Reps H A bg (ns.map D.int) (ns.map V.int)
  | [] => .nil
  | n :: ns => .cons (by unfold Rep; rfl) (Reps.of_ints ns)
end

/-! ### the frame -/
/-- what an object of the frame's own holds: a list, a dict with int or text keys, a dict with keys that are tuples of such -/
inductive Ow where
  | l (l : List D) | dK (kvs : List (Key × D)) | dT (kvs : List (List Key × D)) | hid (n : Nat)
def OwnRep (H : Hp) (A : Addr → Prop) (bg : BG) (a : Addr) : Ow → Prop
  | .l l => l.length ≤ sizeLine ∧ ∃ xs, H a = some (.lst xs) ∧ Reps H A bg l xs
  | .dK kvs => ∃ ks, H a = some (.dK ks) ∧ ks.map (·.1) = kvs.map (·.1) ∧ Reps H A bg (kvs.map (·.2)) (ks.map (·.2))
  | .dT kvs => ∃ ks, H a = some (.dT ks) ∧ ks.map (·.1) = kvs.map (·.1) ∧ Reps H A bg (kvs.map (·.2)) (ks.map (·.2))
  | .hid _ => ∃ xs, H a = some (.lst xs)
/-- what a name holds: nothing that is known, a value, an object of its own (that may be changed) -/
inductive Slot where
  | un | val (d : D) | own (w : Ow)
abbrev EnvD := List Slot
/-- what stands around a def's body: addresses that its arguments may use, the heap at its entry, the bag -/
structure FC where
  A0 : Addr → Prop
  H0 : Hp
  bg : BG
abbrev OM := Addr → Option Ow
def FC.A1 (c : FC) (a : Addr) : Prop := (c.A0 a ∨ c.H0 a = none) ∧ nB c.bg a
def AO (c : FC) (O : OM) (a : Addr) : Prop := c.A1 a ∧ O a = none
theorem AO.bag {c : FC} {O : OM} : ∀ a, AO c O a → nB c.bg a := fun _ h => h.1.2
theorem A1.bag {c : FC} : ∀ a, c.A1 a → nB c.bg a := fun _ h => h.2
def SlotOk (c : FC) (O : OM) (H : Hp) (σ : L2.St) (i : Nat) : Slot → Prop
  | .un => True
  | .val d => ∃ v, σ[i]? = some (some v) ∧ Rep H (AO c O) c.bg d v
  | .own w => ∃ a, σ[i]? = some (some (V.ref a)) ∧ O a = some w
structure FI (c : FC) (O : OM) (e : EnvD) (σ : L2.St) (H : Hp) : Prop where
  len : e.length = σ.length
  bag0 : BagOk c.bg c.H0
  bag : BagOk c.bg H
  grow : Grow c.bg c.H0 H
  own : ∀ a w, O a = some w → c.H0 a = none ∧ nB c.bg a ∧ OwnRep H (AO c O) c.bg a w
  slot : ∀ i s, e[i]? = some s → SlotOk c O H σ i s
  inj : ∀ (i j : Nat) (w w' : Ow) (a : Addr), e[i]? = some (Slot.own w) → e[j]? = some (Slot.own w') → σ[i]? = some (some (V.ref a)) → σ[j]? = some (some (V.ref a)) → i = j
theorem OwnRep.at_ {H : Hp} {A : Addr → Prop} {bg : BG} {a : Addr} {w : Ow} (h : OwnRep H A bg a w) : ∃ o, H a = some o ∧ (∀ xs, o ≠ .tup xs) ∧ ∀ u z, o ≠ .frz u z := by
  cases w with
  | l l => obtain ⟨_, xs, h, _⟩ := h; exact ⟨_, h, fun _ q => (nomatch q), fun _ _ q => (nomatch q)⟩
  | dK l => obtain ⟨xs, h, _⟩ := h; exact ⟨_, h, fun _ q => (nomatch q), fun _ _ q => (nomatch q)⟩
  | dT l => obtain ⟨xs, h, _⟩ := h; exact ⟨_, h, fun _ q => (nomatch q), fun _ _ q => (nomatch q)⟩
  | hid n => obtain ⟨xs, h⟩ := h; exact ⟨_, h, fun _ q => (nomatch q), fun _ _ q => (nomatch q)⟩
theorem OwnRep.grow {H H' : Hp} {A A' : Addr → Prop} {bg : BG} (ok : BagOk bg H) (g : Grow bg H H') (hA : ∀ a, A a → nB bg a) (m : ∀ a, A a → A' a) {a : Addr} (n : nB bg a) : ∀ {w : Ow}, OwnRep H A bg a w → OwnRep H' A' bg a w
  | .l l, ⟨z, xs, h, r⟩ => ⟨z, xs, g.keep _ _ h n, Reps.grow ok g hA m _ _ r⟩
  | .dK l, ⟨xs, h, e, r⟩ => ⟨xs, g.keep _ _ h n, e, Reps.grow ok g hA m _ _ r⟩
  | .dT l, ⟨xs, h, e, r⟩ => ⟨xs, g.keep _ _ h n, e, Reps.grow ok g hA m _ _ r⟩
  | .hid m, ⟨xs, h⟩ => ⟨xs, g.keep _ _ h n⟩
theorem FI.up {c : FC} {O : OM} {e : EnvD} {σ : L2.St} {H H' : Hp} (F : FI c O e σ H) (g : Grow c.bg H H') : FI c O e σ H' where
  len := F.len
  bag0 := F.bag0
  bag := g.bag F.bag
  grow := F.grow.trans g
  own := fun a l h => by
    obtain ⟨h1, h2, h3⟩ := F.own a l h
    exact ⟨h1, h2, h3.grow F.bag g AO.bag (fun _ h => h) h2⟩
  slot := fun i s h => by
    have q := F.slot i s h
    cases s with
    | un => trivial
    | val d =>
      obtain ⟨v, h1, h2⟩ := q
      exact ⟨v, h1, Rep.grow F.bag g AO.bag (fun _ h => h) _ _ h2⟩
    | own l => exact q
  inj := F.inj
/-- behind a statement: what was not owned stands, and is not owned -/
structure Stp (c : FC) (O : OM) (H : Hp) (O' : OM) (H' : Hp) : Prop where
  keep : ∀ a o, H a = some o → nB c.bg a → O a = none → H' a = some o ∧ O' a = none
  bag : BagOk c.bg H → BagOk c.bg H'
theorem Stp.refl (c : FC) (O : OM) (H : Hp) : Stp c O H O H := ⟨fun _ _ h _ z => ⟨h, z⟩, fun h => h⟩
theorem Stp.trans {c : FC} {O O1 O2 : OM} {H H1 H2 : Hp} (a : Stp c O H O1 H1) (b : Stp c O1 H1 O2 H2) : Stp c O H O2 H2 :=
  ⟨fun x o h n z => let ⟨p, q⟩ := a.keep x o h n z; b.keep x o p n q, fun h => b.bag (a.bag h)⟩
theorem Stp.grow {c : FC} {O : OM} {H H' : Hp} (g : Grow c.bg H H') : Stp c O H O H' := ⟨fun a o h n z => ⟨g.keep a o h n, z⟩, g.bag⟩
/-- values that are not owned live through a statement -/
theorem Rep.stp {c : FC} {O O' : OM} {H H' : Hp} (ok : BagOk c.bg H) (g : Stp c O H O' H') (t : ∀ a xs, H a = some (.tup xs) → O a = none) (d : D) (v : V) : Rep H (AO c O) c.bg d v → Rep H' (AO c O') c.bg d v :=
  Rep.mv (fun a xs ha h => ⟨(g.keep _ _ h ha.1.2 ha.2).1, ha.1, (g.keep _ _ h ha.1.2 ha.2).2⟩) (fun a xs h => (g.keep _ _ h (bag_ne_tup ok h) (t a xs h)).1) d v
theorem Reps.stp {c : FC} {O O' : OM} {H H' : Hp} (ok : BagOk c.bg H) (g : Stp c O H O' H') (t : ∀ a xs, H a = some (.tup xs) → O a = none) (d : List D) (v : List V) : Reps H (AO c O) c.bg d v → Reps H' (AO c O') c.bg d v :=
  Reps.mv (fun a xs ha h => ⟨(g.keep _ _ h ha.1.2 ha.2).1, ha.1, (g.keep _ _ h ha.1.2 ha.2).2⟩) (fun a xs h => (g.keep _ _ h (bag_ne_tup ok h) (t a xs h)).1) d v
theorem FI.tupO {c : FC} {O : OM} {e : EnvD} {σ : L2.St} {H : Hp} (F : FI c O e σ H) : ∀ a xs, H a = some (.tup xs) → O a = none := fun a xs r => by
  cases h : O a with
  | none => rfl
  | some l =>
    obtain ⟨_, _, h3⟩ := F.own a l h
    obtain ⟨o, h4, h5, h6⟩ := h3.at_
    rw [r] at h4; cases h4; exact absurd rfl (h5 _)

/-! ### the judgements -/
/-- an expression's reading by values; a test's; an argument list's -/
abbrev ED := EnvD → (D → Prop) → Prop
abbrev BD := EnvD → (Bool → Prop) → Prop
abbrev AD := EnvD → (List D → Prop) → Prop
structure EndsD where
  nx : EnvD → Prop
  rt : D → Prop
  bk : EnvD → Prop := fun _ => False
  ct : EnvD → Prop := fun _ => False
abbrev SDt := EndsD → EnvD → Prop
def tE (c : FC) (t : ED) : TE := fun σ H Q => ∃ O e R, FI c O e σ H ∧ t e R ∧ ∀ d v H', Grow c.bg H H' → Rep H' (AO c O) c.bg d v → R d → Q v H'
def tT (c : FC) (t : BD) : TT := fun σ H Q => ∃ O e R, FI c O e σ H ∧ t e R ∧ ∀ b H', Grow c.bg H H' → R b → Q b H'
def tA (c : FC) (t : AD) : TA := fun σ H Q => ∃ O e R, FI c O e σ H ∧ t e R ∧ ∀ ds vs H', Grow c.bg H H' → Reps H' (AO c O) c.bg ds vs → R ds → Q vs H'
/-- an expression that makes a new list or dict -/
def tO (c : FC) (t : EnvD → (Ow → Prop) → Prop) : TE := fun σ H Q => ∃ O e R, FI c O e σ H ∧ t e R ∧ ∀ w a H1 H', Grow c.bg H H1 → H1 a = none → (∀ b, b ≠ a → H' b = H1 b) → OwnRep H' (AO c O) c.bg a w → R w → Q (V.ref a) H'
structure SPost (c : FC) (O : OM) (H : Hp) (E : EndsD) (Z : Ends) : Prop where
  nx : ∀ O' e' σ' H', FI c O' e' σ' H' → Stp c O H O' H' → E.nx e' → Z.nx σ' H'
  bk : ∀ O' e' σ' H', FI c O' e' σ' H' → Stp c O H O' H' → E.bk e' → Z.bk σ' H'
  ct : ∀ O' e' σ' H', FI c O' e' σ' H' → Stp c O H O' H' → E.ct e' → Z.ct σ' H'
  rt : ∀ d v H', Grow c.bg c.H0 H' → Rep H' c.A1 c.bg d v → E.rt d → Z.rt v H'
def tS (c : FC) (t : SDt) : TS := fun Z σ H => ∃ O e E, FI c O e σ H ∧ t E e ∧ SPost c O H E Z
abbrev DE (X : Cx) (c : FC) (e : Expr) (t : ED) : Prop := PE X e (tE c t)
abbrev DT (X : Cx) (c : FC) (e : Expr) (t : BD) : Prop := PT X e (tT c t)
abbrev DA (X : Cx) (c : FC) (es : List Expr) (t : AD) : Prop := PA X es (tA c t)
abbrev DO (X : Cx) (c : FC) (e : Expr) (t : EnvD → (Ow → Prop) → Prop) : Prop := PE X e (tO c t)
abbrev DS (X : Cx) (c : FC) (st : Stmt) (t : SDt) : Prop := PS X st (tS c t)
abbrev DSs (X : Cx) (c : FC) (st : List Stmt) (t : SDt) : Prop := PSs X st (tS c t)
section
variable {X : Cx}
/-- a stronger reading serves -/
theorem _root_.L2.PE.of {e : Expr} {t u : TE} (h : PE X e t) (k : ∀ σ H Q, u σ H Q → t σ H Q) : PE X e u := ⟨fun p s σ H Q I w => h.run p s σ H Q I (k σ H Q w)⟩
theorem _root_.L2.PT.of {e : Expr} {t u : TT} (h : PT X e t) (k : ∀ σ H Q, u σ H Q → t σ H Q) : PT X e u := ⟨fun p s σ H Q I w => h.run p s σ H Q I (k σ H Q w)⟩
theorem _root_.L2.PA.of {e : List Expr} {t u : TA} (h : PA X e t) (k : ∀ σ H Q, u σ H Q → t σ H Q) : PA X e u := ⟨fun pos p s σ H Q I w => h.run pos p s σ H Q I (k σ H Q w)⟩
theorem _root_.L2.PS.of {st : Stmt} {t u : TS} (h : PS X st t) (k : ∀ Z σ H, u Z σ H → t Z σ H) : PS X st u := ⟨fun p s σ H Z I w => h.run p s σ H Z I (k Z σ H w)⟩
theorem _root_.L2.PSs.of {st : List Stmt} {t u : TS} (h : PSs X st t) (k : ∀ Z σ H, u Z σ H → t Z σ H) : PSs X st u := ⟨fun p s σ H Z I w => h.run p s σ H Z I (k Z σ H w)⟩
end
end SD

namespace SD
open L2 PyProof.Rows PySem PySem.Spec
/-- facts of the heap that a rule may use -/
structure HF (c : FC) (O : OM) (H : Hp) : Prop where
  bag : BagOk c.bg H
  fresh : ∀ p, H p = none → AO c O p
theorem FI.hf {c : FC} {O : OM} {e : EnvD} {σ : L2.St} {H : Hp} (F : FI c O e σ H) : HF c O H := by
  refine ⟨F.bag, fun p h => ⟨⟨.inr (F.grow.none F.bag0 h), fun l q => ?_⟩, ?_⟩⟩
  · obtain ⟨k, ns, h1, _⟩ := F.bag p l q
    rw [h] at h1; cases h1
  · cases e' : O p with
    | none => rfl
    | some w =>
      obtain ⟨_, _, h3⟩ := F.own p w e'
      obtain ⟨o, h4, _⟩ := h3.at_
      rw [h] at h4; cases h4
theorem Rep.up {c : FC} {O : OM} {H H' : Hp} (ok : BagOk c.bg H) (g : Grow c.bg H H') {d : D} {v : V} (h : Rep H (AO c O) c.bg d v) : Rep H' (AO c O) c.bg d v := Rep.grow ok g AO.bag (fun _ h => h) d v h
theorem Reps.up {c : FC} {O : OM} {H H' : Hp} (ok : BagOk c.bg H) (g : Grow c.bg H H') {d : List D} {v : List V} (h : Reps H (AO c O) c.bg d v) : Reps H' (AO c O) c.bg d v := Reps.grow ok g AO.bag (fun _ h => h) d v h
/-- a new list, a new tuple stands for its items -/
theorem Rep.newL {c : FC} {O : OM} {H : Hp} (F : HF c O H) {ds : List D} {vs : List V} (h : Reps H (AO c O) c.bg ds vs) (z : ds.length ≤ sizeLine) {p : Addr} (hp : H p = none) : Rep (upd H p (.lst vs)) (AO c O) c.bg (.lst ds) (.ref p) := by
  unfold Rep
  exact ⟨p, vs, rfl, F.fresh p hp, upd_same, z, h.up F.bag (.new hp)⟩
theorem Rep.newT {c : FC} {O : OM} {H : Hp} (F : HF c O H) {ds : List D} {vs : List V} (h : Reps H (AO c O) c.bg ds vs) (z : ds.length ≤ sizeLine) {p : Addr} (hp : H p = none) : Rep (upd H p (.tup vs)) (AO c O) c.bg (.tup ds) (.ref p) := by
  unfold Rep
  exact ⟨p, vs, rfl, upd_same, z, h.up F.bag (.new hp)⟩
theorem Rep.int_iff {H : Hp} {A : Addr → Prop} {bg : BG} {i : Int} {v : V} : Rep H A bg (.int i) v ↔ v = .int i := by unfold Rep; exact Iff.rfl
theorem Rep.bl_iff {H : Hp} {A : Addr → Prop} {bg : BG} {i : Bool} {v : V} : Rep H A bg (.bl i) v ↔ v = .bl i := by unfold Rep; exact Iff.rfl
theorem Rep.str_iff {H : Hp} {A : Addr → Prop} {bg : BG} {i : Str} {v : V} : Rep H A bg (.str i) v ↔ v = .str i := by unfold Rep; exact Iff.rfl
theorem Rep.non_iff {H : Hp} {A : Addr → Prop} {bg : BG} {v : V} : Rep H A bg .non v ↔ v = .non := by unfold Rep; exact Iff.rfl
theorem Rep.fn_iff {H : Hp} {A : Addr → Prop} {bg : BG} {a : Addr} {v : V} : Rep H A bg (.fn a) v ↔ v = .ref a := by unfold Rep; exact Iff.rfl
theorem Rep.ty_iff {H : Hp} {A : Addr → Prop} {bg : BG} {a : String} {v : V} : Rep H A bg (.ty a) v ↔ v = .ty a := by unfold Rep; exact Iff.rfl
theorem Rep.bag_iff {H : Hp} {A : Addr → Prop} {bg : BG} {v : V} : Rep H A bg .bag v ↔ ∃ a l, v = .ref a ∧ bg = some (a, l) := by unfold Rep; exact Iff.rfl
theorem Rep.tup_iff {H : Hp} {A : Addr → Prop} {bg : BG} {l : List D} {v : V} : Rep H A bg (.tup l) v ↔ ∃ a xs, v = .ref a ∧ H a = some (.tup xs) ∧ l.length ≤ sizeLine ∧ Reps H A bg l xs := by rw [Rep]
theorem Rep.lst_iff {H : Hp} {A : Addr → Prop} {bg : BG} {l : List D} {v : V} : Rep H A bg (.lst l) v ↔ ∃ a xs, v = .ref a ∧ A a ∧ H a = some (.lst xs) ∧ l.length ≤ sizeLine ∧ Reps H A bg l xs := by rw [Rep]

section
variable {X : Cx} {c : FC} {a b e : Expr} {es : List Expr} {pos : Pos} {ta tb : ED}
/-! ### names, constants -/
def sVar (i : Nat) : ED := fun e R => match e[i]? with
  | some (.val d) => R d
  | _ => False
def sC (d : D) : ED := fun _ R => R d
theorem de_var {i : Nat} (h : PE X e (tVar i)) : DE X c e (sVar i) := h.of fun σ H Q ⟨O, en, R, F, h, k⟩ => by
  unfold sVar at h
  split at h
  · rename_i d hd
    obtain ⟨v, h1, h2⟩ := F.slot _ _ hd
    exact ⟨v, h1, k d v H (.refl _ _) h2 h⟩
  · exact h.elim
theorem de_c {d : D} {v : V} (h : PE X e (tC v)) (r : ∀ H A bg, Rep H A bg d v) : DE X c e (sC d) := h.of fun σ H Q ⟨O, en, R, F, h, k⟩ => k d v H (.refl _ _) (r _ _ _) h
theorem de_int {i j} : DE X c (.Constant (.int i) j pos) (sC (.int i)) := de_c pe_int fun _ _ _ => Rep.int_iff.mpr rfl
theorem de_bl {i j} : DE X c (.Constant (.bool i) j pos) (sC (.bl i)) := de_c pe_bl fun _ _ _ => Rep.bl_iff.mpr rfl
theorem de_str {i j} : DE X c (.Constant (.str i) j pos) (sC (.str i)) := de_c pe_str fun _ _ _ => Rep.str_iff.mpr rfl
theorem de_non {j} : DE X c (.Constant .none j pos) (sC .non) := de_c pe_non fun _ _ _ => Rep.non_iff.mpr rfl

/-! ### two operands -/
abbrev Op2 := D → D → (D → Prop) → Prop
def Lk2 (r : R2) (op : Op2) : Prop := ∀ (c : FC) (O : OM) (H : Hp) (x y : D) (v u : V) (R : D → Prop) (Q : VK), HF c O H → Rep H (AO c O) c.bg x v → Rep H (AO c O) c.bg y u → op x y R →
  (∀ d w H', Grow c.bg H H' → Rep H' (AO c O) c.bg d w → R d → Q w H') → r v u H Q
def sOp (op : Op2) (ta tb : ED) : ED := fun e R => ta e fun x => tb e fun y => op x y R
theorem tOp_of {r : R2} {op : Op2} (l : Lk2 r op) {σ : L2.St} {H : Hp} {Q : VK} (h : tE c (sOp op ta tb) σ H Q) : tOp r (tE c ta) (tE c tb) σ H Q := by
  obtain ⟨O, en, R, F, h, k⟩ := h
  refine ⟨O, en, _, F, h, fun x v H1 g1 r1 h1 => ⟨O, en, _, F.up g1, h1, fun y u H2 g2 r2 h2 => ?_⟩⟩
  exact l c O H2 x y v u R Q ((F.up g1).up g2).hf (r1.up (F.up g1).bag g2) r2 h2 fun d w H' g rw' hd => k d w H' ((g1.trans g2).trans g) rw' hd
theorem de_op {o : Operator} {r : R2} {op : Op2} (ho : OpR X (binaryOp o) r) (l : Lk2 r op) (ha : DE X c a ta) (hb : DE X c b tb) : DE X c (.BinOp a o b pos) (sOp op ta tb) := (pe_op ho ha hb).of fun σ H Q h => tOp_of l h
theorem de_cmp {o : CmpOp} {r : R2} {op : Op2} (ho : OpR X (compareOp o) r) (l : Lk2 r op) (ha : DE X c a ta) (hb : DE X c b tb) (hm : behindInMarks o b = false) : DE X c (.Compare a [o] [b] pos) (sOp op ta tb) := (pe_cmpR ho ha hb hm).of fun σ H Q h => tOp_of l h
/-- as a test: its answer is a bool -/
def sB (t : ED) : BD := fun e R => t e fun d => match d with
  | .bl b => R b
  | _ => False
theorem tB_of {t : ED} {σ : L2.St} {H : Hp} {Q : Bool → Hp → Prop} (h : tT c (sB t) σ H Q) : tE c t σ H (fun x H1 => ∃ k, x = .bl k ∧ Q k H1) := by
  obtain ⟨O, en, R, F, h, k⟩ := h
  refine ⟨O, en, _, F, h, fun d v H' g r hd => ?_⟩
  split at hd
  · rename_i q
    exact ⟨q, Rep.bl_iff.mp r, k q H' g hd⟩
  · exact hd.elim
theorem dt_cmp {o : CmpOp} {r : R2} {op : Op2} (ho : OpR X (compareOp o) r) (l : Lk2 r op) (ha : DE X c a ta) (hb : DE X c b tb) (hm : behindInMarks o b = false) : DT X c (.Compare a [o] [b] pos) (sB (sOp op ta tb)) := (pt_cmpR ho ha hb hm).of fun σ H Q h => tOp_of l (tB_of h)
theorem dt_val {t : ED} (h : DE X c e t) (he : ∀ whole, isTrue e X.env whole = (do let v ← whole; standAt e.pos; holding [v] (truthy v)) := by intro _; rfl) : DT X c e (sB t) := (pt_val h he).of fun σ H Q h => tB_of h

/-! ### the operators -/
def addD : Op2 := fun x y R => match x, y with
  | .int i, .int j => R (.int (i + j))
  | .lst a, .lst b => a.length + b.length ≤ sizeLine ∧ R (.lst (a ++ b))
  | .tup a, .tup b => a.length + b.length ≤ sizeLine ∧ R (.tup (a ++ b))
  | _, _ => False
theorem or_l2 {r r' : R2} {op : Op2} (h : ∀ c O H x y v u R Q, HF c O H → Rep H (AO c O) c.bg x v → Rep H (AO c O) c.bg y u → op x y R → (∀ d w H', Grow c.bg H H' → Rep H' (AO c O) c.bg d w → R d → Q w H') → r v u H Q ∨ r' v u H Q) : Lk2 (fun x y H Q => r x y H Q ∨ r' x y H Q) op := h
theorem op_addD : OpR X (binaryOp .Add) (fun x y H Q => rI0 (fun i j => .int (i + j)) x y H Q ∨ (rCat x y H Q ∨ rCatA X.K x y H Q)) := op_add.or (op_cat.or op_catA)
theorem lk_add {K : PySem.W.Frag} : Lk2 (fun x y H Q => rI0 (fun i j => .int (i + j)) x y H Q ∨ (rCat x y H Q ∨ rCatA K x y H Q)) addD := by
  intro c O H x y v u R Q F rx ry h k
  unfold addD at h
  split at h
  · rename_i i j
    exact .inl ⟨i, j, Rep.int_iff.mp rx, Rep.int_iff.mp ry, k _ _ _ (.refl _ _) (Rep.int_iff.mpr rfl) h⟩
  · rename_i p q
    obtain ⟨a, xs, e1, _, h1, z1, s1⟩ := Rep.lst_iff.mp rx
    obtain ⟨b, ys, e2, _, h2, z2, s2⟩ := Rep.lst_iff.mp ry
    refine .inr (.inl ⟨a, b, xs, ys, e1, e2, h1, h2, by rw [s1.length, s2.length]; exact h.1, fun p hp => k _ _ _ (.new hp) (Rep.newL F (s1.append s2) (by simpa using h.1) hp) h.2⟩)
  · rename_i p q
    obtain ⟨a, xs, e1, h1, z1, s1⟩ := Rep.tup_iff.mp rx
    obtain ⟨b, ys, e2, h2, z2, s2⟩ := Rep.tup_iff.mp ry
    refine .inr (.inr ⟨a, b, xs, ys, e1, e2, SqT.of h1, SqT.of h2, by rw [s1.length, s2.length]; exact h.1, fun e => ?_, fun _ e => ?_, fun _ _ p hp => k _ _ _ (.new hp) (Rep.newT F (s1.append s2) (by simpa using h.1) hp) h.2⟩)
    · refine k _ _ _ (.refl _ _) ?_ h.2
      have l0 := s1.length
      rw [e] at l0
      have : p = [] := List.length_eq_zero_iff.mp l0.symm
      rw [this, List.nil_append, ← e2]; exact ry
    · refine k _ _ _ (.refl _ _) ?_ h.2
      have l0 := s2.length
      rw [e] at l0
      have : q = [] := List.length_eq_zero_iff.mp l0.symm
      rw [this, List.append_nil, ← e1]; exact rx
  · exact h.elim
theorem de_add (ha : DE X c a ta) (hb : DE X c b tb) : DE X c (.BinOp a .Add b pos) (sOp addD ta tb) := de_op op_addD lk_add ha hb
/-- two ints -/
def intD (C : Int → Int → Prop) (g : Int → Int → D) : Op2 := fun x y R => match x, y with
  | .int i, .int j => C i j ∧ R (g i j)
  | _, _ => False
def intD0 (g : Int → Int → D) : Op2 := fun x y R => match x, y with
  | .int i, .int j => R (g i j)
  | _, _ => False
theorem lk_rI {C : Int → Int → Prop} {g : Int → Int → V} {g' : Int → Int → D} (hg : ∀ i j H A bg, Rep H A bg (g' i j) (g i j)) : Lk2 (rI C g) (intD C g') := by
  intro c O H x y v u R Q F rx ry h k
  unfold intD at h
  split at h
  · rename_i i j
    exact ⟨i, j, Rep.int_iff.mp rx, Rep.int_iff.mp ry, h.1, k _ _ _ (.refl _ _) (hg i j _ _ _) h.2⟩
  · exact h.elim
theorem lk_rI0 {g : Int → Int → V} {g' : Int → Int → D} (hg : ∀ i j H A bg, Rep H A bg (g' i j) (g i j)) : Lk2 (rI0 g) (intD0 g') := by
  intro c O H x y v u R Q F rx ry h k
  unfold intD0 at h
  split at h
  · rename_i i j
    exact ⟨i, j, Rep.int_iff.mp rx, Rep.int_iff.mp ry, k _ _ _ (.refl _ _) (hg i j _ _ _) h⟩
  · exact h.elim
abbrev subD : Op2 := intD0 fun i j => .int (i - j)
abbrev fdivD : Op2 := intD (fun _ j => 0 < j ∧ j.natAbs.log2 < 9000) fun i j => .int (i / j)
abbrev modD : Op2 := intD (fun _ j => 0 < j) fun i j => .int (i % j)
abbrev powD : Op2 := intD CPow fun i j => .int (i ^ j.toNat)
abbrev ltD : Op2 := intD0 fun i j => .bl (decide (i < j))
abbrev leD : Op2 := intD0 fun i j => .bl (decide (i ≤ j))
abbrev gtD : Op2 := intD0 fun i j => .bl (decide (j < i))
abbrev geD : Op2 := intD0 fun i j => .bl (decide (j ≤ i))
theorem lk_sub : Lk2 (rI0 fun i j => .int (i - j)) subD := lk_rI0 fun _ _ _ _ _ => Rep.int_iff.mpr rfl
theorem lk_fdiv : Lk2 (rI CDivW fun i j => .int (i / j)) fdivD := lk_rI (C := CDivW) fun _ _ _ _ _ => Rep.int_iff.mpr rfl
theorem lk_mod : Lk2 (rI (fun _ j => 0 < j) fun i j => .int (i % j)) modD := lk_rI fun _ _ _ _ _ => Rep.int_iff.mpr rfl
theorem lk_pow : Lk2 (rI CPow fun i j => .int (i ^ j.toNat)) powD := lk_rI fun _ _ _ _ _ => Rep.int_iff.mpr rfl
theorem lk_lt : Lk2 (rI0 fun i j => .bl (decide (i < j))) ltD := lk_rI0 fun _ _ _ _ _ => Rep.bl_iff.mpr rfl
theorem lk_le : Lk2 (rI0 fun i j => .bl (decide (i ≤ j))) leD := lk_rI0 fun _ _ _ _ _ => Rep.bl_iff.mpr rfl
theorem lk_gt : Lk2 (rI0 fun i j => .bl (decide (j < i))) gtD := lk_rI0 fun _ _ _ _ _ => Rep.bl_iff.mpr rfl
theorem lk_ge : Lk2 (rI0 fun i j => .bl (decide (j ≤ i))) geD := lk_rI0 fun _ _ _ _ _ => Rep.bl_iff.mpr rfl
theorem de_sub (ha : DE X c a ta) (hb : DE X c b tb) : DE X c (.BinOp a .Sub b pos) (sOp subD ta tb) := de_op op_sub lk_sub ha hb
theorem de_fdiv (ha : DE X c a ta) (hb : DE X c b tb) : DE X c (.BinOp a .FloorDiv b pos) (sOp fdivD ta tb) := de_op op_fdivW lk_fdiv ha hb
theorem de_mod (ha : DE X c a ta) (hb : DE X c b tb) : DE X c (.BinOp a .Mod b pos) (sOp modD ta tb) := de_op op_mod lk_mod ha hb
theorem de_pow (ha : DE X c a ta) (hb : DE X c b tb) : DE X c (.BinOp a .Pow b pos) (sOp powD ta tb) := de_op op_pow lk_pow ha hb
theorem de_lt (ha : DE X c a ta) (hb : DE X c b tb) : DE X c (.Compare a [.Lt] [b] pos) (sOp ltD ta tb) := de_cmp op_lt lk_lt ha hb (nomark _)
theorem de_le (ha : DE X c a ta) (hb : DE X c b tb) : DE X c (.Compare a [.LtE] [b] pos) (sOp leD ta tb) := de_cmp op_le lk_le ha hb (nomark _)
theorem de_gt (ha : DE X c a ta) (hb : DE X c b tb) : DE X c (.Compare a [.Gt] [b] pos) (sOp gtD ta tb) := de_cmp op_gt lk_gt ha hb (nomark _)
theorem de_ge (ha : DE X c a ta) (hb : DE X c b tb) : DE X c (.Compare a [.GtE] [b] pos) (sOp geD ta tb) := de_cmp op_ge lk_ge ha hb (nomark _)
theorem dt_lt (ha : DE X c a ta) (hb : DE X c b tb) : DT X c (.Compare a [.Lt] [b] pos) (sB (sOp ltD ta tb)) := dt_cmp op_lt lk_lt ha hb (nomark _)
theorem dt_le (ha : DE X c a ta) (hb : DE X c b tb) : DT X c (.Compare a [.LtE] [b] pos) (sB (sOp leD ta tb)) := dt_cmp op_le lk_le ha hb (nomark _)
theorem dt_gt (ha : DE X c a ta) (hb : DE X c b tb) : DT X c (.Compare a [.Gt] [b] pos) (sB (sOp gtD ta tb)) := dt_cmp op_gt lk_gt ha hb (nomark _)
theorem dt_ge (ha : DE X c a ta) (hb : DE X c b tb) : DT X c (.Compare a [.GtE] [b] pos) (sB (sOp geD ta tb)) := dt_cmp op_ge lk_ge ha hb (nomark _)
end
end SD

namespace SD
open L2 PyProof.Rows PySem PySem.Spec
/-! ### equality -/
mutual
def D.py : D → PyData
  | .non => .none
  | .bl b => .bool b
  | .int i => .int i
  | .str x => .str x
  | .tup l => .tuple (D.pys l)
  | .lst l => .list (D.pys l)
  | .bag => .none
  | .fn _ => .none
  | .ty _ => .none
def D.pys : List D → List PyData
  | [] => []
  | d :: ds => D.py d :: D.pys ds
end
mutual
/-- no bag, no function, plain texts -/
def D.plain : D → Bool
  | .non => true
  | .bl _ => true
  | .int _ => true
  | .str x => (PyData.str x).canLay0
  | .tup l => D.plains l
  | .lst l => D.plains l
  | .bag => false
  | .fn _ => false
  | .ty _ => false
def D.plains : List D → Bool
  | [] => true
  | d :: ds => D.plain d && D.plains ds
end
mutual
def D.dep : D → Nat
  | .tup l => D.deps l + 1
  | .lst l => D.deps l + 1
  | .non | .bl _ | .int _ | .str _ | .bag | .fn _ | .ty _ => 0
def D.deps : List D → Nat
  | [] => 0
  | d :: ds => max (D.dep d) (D.deps ds)
end
mutual
def D.eqv : D → D → Bool
  | .non, .non => true
  | .bl a, .bl b => a == b
  | .bl a, .int j => (if a then 1 else 0) == j
  | .int i, .bl b => i == (if b then 1 else 0)
  | .int i, .int j => i == j
  | .str x, .str y => x == y
  | .tup a, .tup b => D.eqvs a b
  | .lst a, .lst b => D.eqvs a b
  | _, _ => false
def D.eqvs : List D → List D → Bool
  | [], [] => true
  | x :: xs, y :: ys => D.eqv x y && D.eqvs xs ys
  | _, _ => false
end
def D.fit (d : D) : Prop := D.plain d = true ∧ D.dep d ≤ 64
mutual
theorem D.canLay : ∀ d : D, D.plain d = true → (D.py d).canLay0 = true
  | .non, _ => by simp [D.py, PyData.canLay0]
  | .bl _, _ => by simp [D.py, PyData.canLay0]
  | .int _, _ => by simp [D.py, PyData.canLay0]
  | .str x, h => by unfold D.plain at h; unfold D.py; exact h
  | .tup l, h => by
    unfold D.plain at h; unfold D.py
    rw [PyData.canLay0]; exact D.canLays l h
  | .lst l, h => by
    unfold D.plain at h; unfold D.py
    rw [PyData.canLay0]; exact D.canLays l h
  | .bag, h => by unfold D.plain at h; cases h
  | .fn _, h => by unfold D.plain at h; cases h
  | .ty _, h => by unfold D.plain at h; cases h
theorem D.canLays : ∀ l : List D, D.plains l = true → PyData.canLayAll0 (D.pys l) = true
  | [], _ => by simp [D.pys, PyData.canLayAll0]
  | d :: ds, h => by
    unfold D.plains at h; unfold D.pys
    rw [Bool.and_eq_true] at h
    rw [PyData.canLayAll0, D.canLay d h.1, D.canLays ds h.2]; rfl
end
mutual
theorem D.dep_py : ∀ d : D, (D.py d).depth = D.dep d
  | .non => by simp [D.py, D.dep, PyData.depth]
  | .bl _ => by simp [D.py, D.dep, PyData.depth]
  | .int _ => by simp [D.py, D.dep, PyData.depth]
  | .str _ => by simp [D.py, D.dep, PyData.depth]
  | .tup l => by
    unfold D.py D.dep
    rw [PyData.depth, D.deps_py l]
  | .lst l => by
    unfold D.py D.dep
    rw [PyData.depth, D.deps_py l]
  | .bag => by simp [D.py, D.dep, PyData.depth]
  | .fn _ => by simp [D.py, D.dep, PyData.depth]
  | .ty _ => by simp [D.py, D.dep, PyData.depth]
theorem D.deps_py : ∀ l : List D, PyData.depthAll (D.pys l) = D.deps l
  | [] => by simp [D.pys, D.deps, PyData.depthAll]
  | d :: ds => by
    unfold D.pys D.deps
    rw [PyData.depthAll, D.dep_py d, D.deps_py ds]
end
theorem D.shaped {d : D} (h : d.fit) : SeqAt.shaped d.py = true := by
  unfold SeqAt.shaped
  rw [D.canLay d h.1, D.dep_py]
  simpa using h.2
mutual
theorem D.eqv_py : ∀ x y : D, D.plain x = true → D.plain y = true → PyData.eqv x.py y.py = D.eqv x y
  | x, y, hx, hy => by
    cases x <;> cases y <;> first
      | (exfalso; simp [D.plain] at hx; done)
      | (exfalso; simp [D.plain] at hy; done)
      | (simp only [D.py, D.eqv, PyData.eqv]; done)
      | (unfold D.plain at hx hy; simp only [D.py, D.eqv, PyData.eqv]; exact D.eqvs_py _ _ hx hy)
theorem D.eqvs_py : ∀ x y : List D, D.plains x = true → D.plains y = true → PyData.eqvAll (D.pys x) (D.pys y) = D.eqvs x y
  | [], [], _, _ => by simp [D.pys, D.eqvs, PyData.eqvAll]
  | [], _ :: _, _, _ => by simp [D.pys, D.eqvs, PyData.eqvAll]
  | _ :: _, [], _, _ => by simp [D.pys, D.eqvs, PyData.eqvAll]
  | a :: x, b :: y, hx, hy => by
    unfold D.plains at hx hy
    rw [Bool.and_eq_true] at hx hy
    simp only [D.pys, D.eqvs, PyData.eqvAll]
    rw [D.eqv_py a b hx.1 hy.1, D.eqvs_py x y hx.2 hy.2]
end
section
variable {H : Hp} {A : Addr → Prop} {bg : BG} {K : PySem.W.Frag}
mutual
theorem Rep.dp : ∀ (d : D) (v : V), D.plain d = true → Rep H A bg d v → Dp K H v d.py
  | .non, v, _, h => by rw [Rep.non_iff.mp h]; unfold D.py; exact .non
  | .bl _, v, _, h => by rw [Rep.bl_iff.mp h]; unfold D.py; exact .bl _
  | .int _, v, _, h => by rw [Rep.int_iff.mp h]; unfold D.py; exact .int _
  | .str _, v, _, h => by rw [Rep.str_iff.mp h]; unfold D.py; exact .str _
  | .tup l, v, p, h => by
    obtain ⟨a, xs, rfl, e, _, r⟩ := Rep.tup_iff.mp h
    unfold D.plain at p; unfold D.py
    exact .tup (SqT.of e) (Reps.dp l xs p r)
  | .lst l, v, p, h => by
    obtain ⟨a, xs, rfl, _, e, _, r⟩ := Rep.lst_iff.mp h
    unfold D.plain at p; unfold D.py
    exact .lst (SqL.of e) (Reps.dp l xs p r)
  | .bag, _, p, _ => by unfold D.plain at p; cases p
  | .fn _, _, p, _ => by unfold D.plain at p; cases p
  | .ty _, _, p, _ => by unfold D.plain at p; cases p
theorem Reps.dp : ∀ (l : List D) (vs : List V), D.plains l = true → Reps H A bg l vs → DpAll K H vs (D.pys l)
  | [], _, _, h => by rw [h.nil_inv]; unfold D.pys; exact .nil
  | d :: ds, vs, p, h => by
    obtain ⟨v, r, rfl, h1, h2⟩ := h.cons_inv
    unfold D.plains at p
    rw [Bool.and_eq_true] at p
    unfold D.pys
    exact .cons (Rep.dp d v p.1 h1) (Reps.dp ds r p.2 h2)
end
end
def eqD : Op2 := fun x y R => x.fit ∧ y.fit ∧ R (.bl (D.eqv x y))
def neD : Op2 := fun x y R => x.fit ∧ y.fit ∧ R (.bl (!D.eqv x y))
theorem lk_eq {K : PySem.W.Frag} : Lk2 (rEqD K) eqD := fun c O H x y v u R Q F rx ry ⟨fx, fy, h⟩ k =>
  ⟨x.py, y.py, Rep.dp x v fx.1 rx, Rep.dp y u fy.1 ry, D.shaped fx, D.shaped fy, k _ _ _ (.refl _ _) (Rep.bl_iff.mpr (by rw [D.eqv_py x y fx.1 fy.1])) h⟩
theorem lk_ne {K : PySem.W.Frag} : Lk2 (rNeD K) neD := fun c O H x y v u R Q F rx ry ⟨fx, fy, h⟩ k =>
  ⟨x.py, y.py, Rep.dp x v fx.1 rx, Rep.dp y u fy.1 ry, D.shaped fx, D.shaped fy, k _ _ _ (.refl _ _) (Rep.bl_iff.mpr (by rw [D.eqv_py x y fx.1 fy.1])) h⟩
/-- in, not in, of a list -/
def D.inl (x : D) (l : List D) : Bool := l.any fun z => D.eqv z x
def inD (neg : Bool) : Op2 := fun x y R => match y with
  | .lst l => x.fit ∧ (D.lst l).fit ∧ R (.bl (if neg then !D.inl x l else D.inl x l))
  | _ => False
theorem any_py (x : D) (hx : D.plain x = true) : ∀ l : List D, D.plains l = true → ((D.pys l).any fun z => PyData.eqv z x.py) = D.inl x l
  | [], _ => rfl
  | d :: ds, h => by
    unfold D.plains at h
    rw [Bool.and_eq_true] at h
    unfold D.pys D.inl
    rw [List.any_cons, List.any_cons, D.eqv_py d x h.1 hx, any_py x hx ds h.2]; rfl
theorem lk_in {K : PySem.W.Frag} : Lk2 (rInD K) (inD false) := by
  intro c O H x y v u R Q F rx ry h k
  unfold inD at h
  split at h
  · rename_i l
    obtain ⟨fx, fy, h⟩ := h
    have p : D.plains l = true := by have := fy.1; unfold D.plain at this; exact this
    have e : (D.lst l).py = .list (D.pys l) := by rw [D.py]
    exact ⟨x.py, D.pys l, Rep.dp x v fx.1 rx, e ▸ Rep.dp _ u fy.1 ry, D.shaped fx, e ▸ D.shaped fy, k _ _ _ (.refl _ _) (Rep.bl_iff.mpr (by rw [any_py x fx.1 l p]; rfl)) h⟩
  · exact h.elim
theorem lk_nin {K : PySem.W.Frag} : Lk2 (rNotInD K) (inD true) := by
  intro c O H x y v u R Q F rx ry h k
  unfold inD at h
  split at h
  · rename_i l
    obtain ⟨fx, fy, h⟩ := h
    have p : D.plains l = true := by have := fy.1; unfold D.plain at this; exact this
    have e : (D.lst l).py = .list (D.pys l) := by rw [D.py]
    exact ⟨x.py, D.pys l, Rep.dp x v fx.1 rx, e ▸ Rep.dp _ u fy.1 ry, D.shaped fx, e ▸ D.shaped fy, k _ _ _ (.refl _ _) (Rep.bl_iff.mpr (by rw [any_py x fx.1 l p]; rfl)) h⟩
  · exact h.elim
section
variable {X : Cx} {c : FC} {a b e : Expr} {es : List Expr} {pos : Pos} {ta tb t : ED} {k : Nat}
theorem hu64 (hr : Room k X.A) : X.A.units + 64 < cLine := hr.units
theorem de_eq (hr : Room k X.A) (ha : DE X c a ta) (hb : DE X c b tb) : DE X c (.Compare a [.Eq] [b] pos) (sOp eqD ta tb) := de_cmp (op_eqD hr.units) lk_eq ha hb (nomark _)
theorem de_ne (hr : Room k X.A) (ha : DE X c a ta) (hb : DE X c b tb) : DE X c (.Compare a [.NotEq] [b] pos) (sOp neD ta tb) := de_cmp (op_neD hr.units) lk_ne ha hb (nomark _)
theorem dt_eq (hr : Room k X.A) (ha : DE X c a ta) (hb : DE X c b tb) : DT X c (.Compare a [.Eq] [b] pos) (sB (sOp eqD ta tb)) := dt_cmp (op_eqD hr.units) lk_eq ha hb (nomark _)
theorem dt_ne (hr : Room k X.A) (ha : DE X c a ta) (hb : DE X c b tb) : DT X c (.Compare a [.NotEq] [b] pos) (sB (sOp neD ta tb)) := dt_cmp (op_neD hr.units) lk_ne ha hb (nomark _)
theorem room65 (hr : Room (k + 1) X.A) : X.A.units + 65 < cLine := by have := hr.un; omega
theorem de_in (hr : Room (k + 1) X.A) (ha : DE X c a ta) (hb : DE X c b tb) (hm : behindInMarks .In b = false := by rfl) : DE X c (.Compare a [.In] [b] pos) (sOp (inD false) ta tb) := de_cmp (op_inD (room65 hr)) lk_in ha hb hm
theorem de_nin (hr : Room (k + 1) X.A) (ha : DE X c a ta) (hb : DE X c b tb) (hm : behindInMarks .NotIn b = false := by rfl) : DE X c (.Compare a [.NotIn] [b] pos) (sOp (inD true) ta tb) := de_cmp (op_notInD (room65 hr)) lk_nin ha hb hm
theorem dt_in (hr : Room (k + 1) X.A) (ha : DE X c a ta) (hb : DE X c b tb) (hm : behindInMarks .In b = false := by rfl) : DT X c (.Compare a [.In] [b] pos) (sB (sOp (inD false) ta tb)) := dt_cmp (op_inD (room65 hr)) lk_in ha hb hm
theorem dt_nin (hr : Room (k + 1) X.A) (ha : DE X c a ta) (hb : DE X c b tb) (hm : behindInMarks .NotIn b = false := by rfl) : DT X c (.Compare a [.NotIn] [b] pos) (sB (sOp (inD true) ta tb)) := dt_cmp (op_notInD (room65 hr)) lk_nin ha hb hm
/-- is None -/
def D.isN : D → Bool
  | .non => true
  | _ => false
theorem isN_dec {H : Hp} {A : Addr → Prop} {bg : BG} {d : D} {v : V} (h : Rep H A bg d v) : decide (v = .non) = d.isN := by
  cases d with
  | non => rw [Rep.non_iff.mp h]; rfl
  | bl _ => rw [Rep.bl_iff.mp h]; rfl
  | int _ => rw [Rep.int_iff.mp h]; rfl
  | str _ => rw [Rep.str_iff.mp h]; rfl
  | tup _ => obtain ⟨a, xs, rfl, _⟩ := Rep.tup_iff.mp h; rfl
  | lst _ => obtain ⟨a, xs, rfl, _⟩ := Rep.lst_iff.mp h; rfl
  | bag => obtain ⟨a, _, rfl, _⟩ := Rep.bag_iff.mp h; rfl
  | fn _ => rw [Rep.fn_iff.mp h]; rfl
  | ty _ => rw [Rep.ty_iff.mp h]; rfl
def isD : Op2 := fun x y R => match y with
  | .non => R (.bl x.isN)
  | .bl b => (match x with
    | .bl a => R (.bl (a == b))
    | _ => False)
  | _ => False
def isntD : Op2 := fun x y R => match y with
  | .non => R (.bl (!x.isN))
  | .bl b => (match x with
    | .bl a => R (.bl (!(a == b)))
    | _ => False)
  | _ => False
theorem lk_is : Lk2 (fun x y H Q => (y = .non ∧ Q (.bl (decide (x = .non))) H) ∨ rIsB x y H Q) isD := by
  intro c O H x y v u R Q F rx ry h k
  unfold isD at h
  split at h
  · exact .inl ⟨Rep.non_iff.mp ry, k _ _ _ (.refl _ _) (Rep.bl_iff.mpr (by rw [isN_dec rx])) h⟩
  · split at h
    · rename_i b _ p
      exact .inr ⟨p, b, Rep.bl_iff.mp rx, Rep.bl_iff.mp ry, k _ _ _ (.refl _ _) (Rep.bl_iff.mpr (by rw [Bool.beq_eq_decide_eq])) h⟩
    · exact h.elim
  · exact h.elim
theorem lk_isnt : Lk2 (fun x y H Q => (y = .non ∧ Q (.bl (!decide (x = .non))) H) ∨ rNotB x y H Q) isntD := by
  intro c O H x y v u R Q F rx ry h k
  unfold isntD at h
  split at h
  · exact .inl ⟨Rep.non_iff.mp ry, k _ _ _ (.refl _ _) (Rep.bl_iff.mpr (by rw [isN_dec rx])) h⟩
  · split at h
    · rename_i b _ p
      exact .inr ⟨p, b, Rep.bl_iff.mp rx, Rep.bl_iff.mp ry, k _ _ _ (.refl _ _) (Rep.bl_iff.mpr (by rw [Bool.beq_eq_decide_eq])) h⟩
    · exact h.elim
  · exact h.elim
theorem de_is (ha : DE X c a ta) (hb : DE X c b tb) : DE X c (.Compare a [.Is] [b] pos) (sOp isD ta tb) := de_cmp (op_isN.or op_isBl) lk_is ha hb (nomark _)
theorem de_isnt (ha : DE X c a ta) (hb : DE X c b tb) : DE X c (.Compare a [.IsNot] [b] pos) (sOp isntD ta tb) := de_cmp (op_notN.or op_notBl) lk_isnt ha hb (nomark _)
theorem dt_is (ha : DE X c a ta) (hb : DE X c b tb) : DT X c (.Compare a [.Is] [b] pos) (sB (sOp isD ta tb)) := dt_cmp (op_isN.or op_isBl) lk_is ha hb (nomark _)
theorem dt_isnt (ha : DE X c a ta) (hb : DE X c b tb) : DT X c (.Compare a [.IsNot] [b] pos) (sB (sOp isntD ta tb)) := dt_cmp (op_notN.or op_notBl) lk_isnt ha hb (nomark _)
end
end SD

namespace SD
open L2 PyProof.Rows PySem PySem.Spec
section
variable {X : Cx} {c : FC} {a b e : Expr} {es rest : List Expr} {pos : Pos} {ta tb t : ED} {tp tq : BD} {k : Nat}
/-! ### and, or, not, if-else -/
def bAnd (t u : BD) : BD := fun e R => t e fun b => if b = true then u e R else R false
def bOr (t u : BD) : BD := fun e R => t e fun b => if b = true then R true else u e R
def bNot (t : BD) : BD := fun e R => t e fun b => R (!b)
abbrev DW (X : Cx) (c : FC) (e : Expr) (t : BD) : Prop := PW X e (tT c t)
theorem _root_.L2.PW.of {X : Cx} {e : Expr} {t u : TT} (h : PW X e t) (k : ∀ σ H Q, u σ H Q → t σ H Q) : PW X e u := ⟨fun wh p s σ H Q I w => h.run wh p s σ H Q I (k σ H Q w)⟩
theorem dw_and1 (ha : DT X c a tp) : DW X c (.BoolOp .And [a] pos) tp := pw_and1 ha
theorem dw_or1 (ha : DT X c a tp) : DW X c (.BoolOp .Or [a] pos) tp := pw_or1 ha
theorem dw_and (ha : DT X c a tp) (hb : DW X c (.BoolOp .And (b :: rest) pos) tq) : DW X c (.BoolOp .And (a :: b :: rest) pos) (bAnd tp tq) := (pw_and ha hb).of fun σ H Q ⟨O, en, R, F, h, k⟩ => by
  refine ⟨O, en, _, F, h, fun d H1 g hd => ?_⟩
  cases d with
  | true => rw [if_pos rfl] at hd ⊢; exact ⟨O, en, R, F.up g, hd, fun x H2 g2 hx => k x H2 (g.trans g2) hx⟩
  | false => rw [if_neg Bool.false_ne_true] at hd ⊢; exact k false H1 g hd
theorem dw_or (ha : DT X c a tp) (hb : DW X c (.BoolOp .Or (b :: rest) pos) tq) : DW X c (.BoolOp .Or (a :: b :: rest) pos) (bOr tp tq) := (pw_or ha hb).of fun σ H Q ⟨O, en, R, F, h, k⟩ => by
  refine ⟨O, en, _, F, h, fun d H1 g hd => ?_⟩
  cases d with
  | true => rw [if_pos rfl] at hd ⊢; exact k true H1 g hd
  | false => rw [if_neg Bool.false_ne_true] at hd ⊢; exact ⟨O, en, R, F.up g, hd, fun x H2 g2 hx => k x H2 (g.trans g2) hx⟩
theorem dt_w (h : DW X c e tp) : DT X c e tp := h.pt
theorem dt_not (ha : DT X c a tp) : DT X c (.UnaryOp .Not a pos) (bNot tp) := (pt_not ha).of fun σ H Q ⟨O, en, R, F, h, k⟩ => ⟨O, en, _, F, h, fun d H1 g hd => k _ H1 g hd⟩
/-- as values -/
def sAnd (ta tb : ED) : ED := fun e R => ta e fun d => match d with
  | .bl b => if b = true then tb e R else R (.bl false)
  | _ => False
def sOr (ta tb : ED) : ED := fun e R => ta e fun d => match d with
  | .bl b => if b = true then R (.bl true) else tb e R
  | _ => False
def sNot (ta : ED) : ED := fun e R => ta e fun d => match d with
  | .bl b => R (.bl (!b))
  | _ => False
theorem de_one {op} (h : DE X c a t) : DE X c (.BoolOp op [a] pos) t := pe_one h
theorem de_and (ha : DE X c a ta) (hb : DE X c (.BoolOp .And (b :: rest) pos) tb) : DE X c (.BoolOp .And (a :: b :: rest) pos) (sAnd ta tb) := (pe_and ha hb).of fun σ H Q ⟨O, en, R, F, h, k⟩ => by
  refine ⟨O, en, _, F, h, fun d v H1 g r hd => ?_⟩
  split at hd
  · rename_i q
    refine ⟨q, Rep.bl_iff.mp r, ?_⟩
    cases q with
    | true => rw [if_pos rfl] at hd ⊢; exact ⟨O, en, R, F.up g, hd, fun x v H2 g2 r2 hx => k x v H2 (g.trans g2) r2 hx⟩
    | false => rw [if_neg Bool.false_ne_true] at hd ⊢; exact k _ _ H1 g (Rep.bl_iff.mpr rfl) hd
  · exact hd.elim
theorem de_or (ha : DE X c a ta) (hb : DE X c (.BoolOp .Or (b :: rest) pos) tb) : DE X c (.BoolOp .Or (a :: b :: rest) pos) (sOr ta tb) := (pe_or ha hb).of fun σ H Q ⟨O, en, R, F, h, k⟩ => by
  refine ⟨O, en, _, F, h, fun d v H1 g r hd => ?_⟩
  split at hd
  · rename_i q
    refine ⟨q, Rep.bl_iff.mp r, ?_⟩
    cases q with
    | true => rw [if_pos rfl] at hd ⊢; exact k _ _ H1 g (Rep.bl_iff.mpr rfl) hd
    | false => rw [if_neg Bool.false_ne_true] at hd ⊢; exact ⟨O, en, R, F.up g, hd, fun x v H2 g2 r2 hx => k x v H2 (g.trans g2) r2 hx⟩
  · exact hd.elim
theorem de_not (ha : DE X c a ta) : DE X c (.UnaryOp .Not a pos) (sNot ta) := (pe_not ha).of fun σ H Q ⟨O, en, R, F, h, k⟩ => by
  refine ⟨O, en, _, F, h, fun d v H1 g r hd => ?_⟩
  split at hd
  · rename_i q
    exact ⟨q, Rep.bl_iff.mp r, k _ _ H1 g (Rep.bl_iff.mpr rfl) hd⟩
  · exact hd.elim
def sIf (t : BD) (ta tb : ED) : ED := fun e R => t e fun b => if b = true then ta e R else tb e R
theorem de_if {d : Expr} (hd : DT X c d tp) (ha : DE X c a ta) (hb : DE X c b tb) : DE X c (.IfExp d a b pos) (sIf tp ta tb) := (pe_ifExp hd ha hb).of fun σ H Q ⟨O, en, R, F, h, k⟩ => by
  refine ⟨O, en, _, F, h, fun d H1 g hd => ?_⟩
  cases d with
  | true => rw [if_pos rfl] at hd ⊢; exact ⟨O, en, R, F.up g, hd, fun x v H2 g2 r2 hx => k x v H2 (g.trans g2) r2 hx⟩
  | false => rw [if_neg Bool.false_ne_true] at hd ⊢; exact ⟨O, en, R, F.up g, hd, fun x v H2 g2 r2 hx => k x v H2 (g.trans g2) r2 hx⟩
def sNeg (ta : ED) : ED := fun e R => ta e fun d => match d with
  | .int i => R (.int (-i))
  | _ => False
theorem de_neg (ha : DE X c a ta) : DE X c (.UnaryOp .USub a pos) (sNeg ta) := (pe_un un_neg ha).of fun σ H Q ⟨O, en, R, F, h, k⟩ => by
  refine ⟨O, en, _, F, h, fun d v H1 g r hd => ?_⟩
  split at hd
  · rename_i q
    exact ⟨q, Rep.int_iff.mp r, k _ _ H1 g (Rep.int_iff.mpr rfl) hd⟩
  · exact hd.elim
/-- a < b < c -/
def sChain (op op' : Op2) (ta tb tc : ED) : ED := fun e R => ta e fun x => tb e fun y => op x y fun z => match z with
  | .bl q => if q = true then tc e fun w => op' y w R else R (.bl false)
  | _ => False
theorem tChain_def {r r' : R2} {ta tb tc : TE} {σ : L2.St} {H : Hp} {Q : VK} : tChain r r' ta tb tc σ H Q = ta σ H fun x H1 => tb σ H1 fun y H2 => r x y H2 fun z H3 => ∃ k, z = .bl k ∧ if k = true then tc σ H3 fun w H4 => r' y w H4 Q else Q (.bl false) H3 := rfl
theorem tChain_of {r r' : R2} {op op' : Op2} {tc : ED} (l : Lk2 r op) (l' : Lk2 r' op') {σ : L2.St} {H : Hp} {Q : VK} (h : tE c (sChain op op' ta tb tc) σ H Q) : tChain r r' (tE c ta) (tE c tb) (tE c tc) σ H Q := by
  rw [tChain_def]
  obtain ⟨O, en, R, F, h, k⟩ := h
  refine ⟨O, en, _, F, h, fun x v H1 g1 r1 h1 => ⟨O, en, _, F.up g1, h1, fun y u H2 g2 r2 h2 => ?_⟩⟩
  refine l c O H2 x y v u _ _ ((F.up g1).up g2).hf (r1.up (F.up g1).bag g2) r2 h2 fun d w H3 g3 r3 hd => ?_
  have F3 := ((F.up g1).up g2).up g3
  split at hd
  · rename_i q
    refine ⟨q, Rep.bl_iff.mp r3, ?_⟩
    cases q with
    | true =>
      rw [if_pos rfl] at hd ⊢
      refine ⟨O, en, _, F3, hd, fun z w' H4 g4 r4 h4 => ?_⟩
      exact l' c O H4 y z u w' R Q (F3.up g4).hf ((r2.up ((F.up g1).up g2).bag g3).up F3.bag g4) r4 h4 fun d w H' g rw' hd => k d w H' ((((g1.trans g2).trans g3).trans g4).trans g) rw' hd
    | false => rw [if_neg Bool.false_ne_true] at hd ⊢; exact k _ _ H3 ((g1.trans g2).trans g3) (Rep.bl_iff.mpr rfl) hd
  · exact hd.elim
theorem de_chain {o o' : CmpOp} {r r' : R2} {op op' : Op2} {d : Expr} {tc : ED} (ho : OpR X (compareOp o) r) (l : Lk2 r op) (ho' : OpR X (compareOp o') r') (l' : Lk2 r' op') (ha : DE X c a ta) (hb : DE X c b tb) (hd : DE X c d tc)
    (hm : lastMarks [o, o'] [b, d] = false := by with_unfolding_all rfl) : DE X c (.Compare a [o, o'] [b, d] pos) (sChain op op' ta tb tc) := (pe_chain ho ho' ha hb hd hm).of fun σ H Q h => tChain_of l l' h
theorem dt_chain {o o' : CmpOp} {r r' : R2} {op op' : Op2} {d : Expr} {tc : ED} (ho : OpR X (compareOp o) r) (l : Lk2 r op) (ho' : OpR X (compareOp o') r') (l' : Lk2 r' op') (ha : DE X c a ta) (hb : DE X c b tb) (hd : DE X c d tc)
    (hm : lastMarks [o, o'] [b, d] = false := by with_unfolding_all rfl) : DT X c (.Compare a [o, o'] [b, d] pos) (sB (sChain op op' ta tb tc)) := (pt_chain ho ho' ha hb hd hm).of fun σ H Q h => tChain_of l l' (tB_of h)

/-! ### displays and arguments -/
def aNil : AD := fun _ R => R []
def aCons (t : ED) (u : AD) : AD := fun e R => t e fun d => u e fun ds => R (d :: ds)
theorem da_nil : DA X c [] aNil := pa_nil.of fun σ H Q ⟨O, en, R, F, h, k⟩ => k [] [] H (.refl _ _) .nil h
theorem da_cons {u : AD} (ha : DE X c e t) (hr : DA X c es u) (hs : starEach (e :: es) X.env = (false, eval e X.env) :: starEach es X.env := by rfl) : DA X c (e :: es) (aCons t u) := (pa_cons ha hr hs).of fun σ H Q ⟨O, en, R, F, h, k⟩ =>
  ⟨O, en, _, F, h, fun d v H1 g r hd => ⟨O, en, _, F.up g, hd, fun ds vs H2 g2 r2 h2 => k (d :: ds) (v :: vs) H2 (g.trans g2) (.cons (r.up (F.up g).bag g2) r2) h2⟩⟩
def sTup (t : AD) : ED := fun e R => t e fun ds => ds.length ≤ sizeLine ∧ R (.tup ds)
def sLst (t : AD) : ED := fun e R => t e fun ds => ds.length ≤ sizeLine ∧ R (.lst ds)
def oLst (t : AD) : EnvD → (Ow → Prop) → Prop := fun e R => t e fun ds => ds.length ≤ sizeLine ∧ R (.l ds)
theorem de_tup {x1} {u : AD} (h : DA X c es u) : DE X c (.Tuple es x1 pos) (sTup u) := (pe_tup h).of fun σ H Q ⟨O, en, R, F, h, k⟩ =>
  ⟨O, en, _, F, h, fun ds vs H1 g r ⟨z, hd⟩ => ⟨by rw [r.length]; exact z, fun p hp => k _ _ _ (g.trans (.new hp)) (Rep.newT (F.up g).hf r z hp) hd⟩⟩
theorem de_lst {u : AD} (h : DA X c es u) : DE X c (.List es pos) (sLst u) := (pe_lst h).of fun σ H Q ⟨O, en, R, F, h, k⟩ =>
  ⟨O, en, _, F, h, fun ds vs H1 g r ⟨z, hd⟩ => ⟨by rw [r.length]; exact z, fun p hp => k _ _ _ (g.trans (.new hp)) (Rep.newL (F.up g).hf r z hp) hd⟩⟩
theorem do_lst {u : AD} (h : DA X c es u) : DO X c (.List es pos) (oLst u) := (pe_lst h).of fun σ H Q ⟨O, en, R, F, h, k⟩ =>
  ⟨O, en, _, F, h, fun ds vs H1 g r ⟨z, hd⟩ => ⟨by rw [r.length]; exact z, fun p hp => k (.l ds) p H1 _ g hp (fun b hb => upd_ne hb) ⟨z, vs, upd_same, r.up (F.up g).bag (.new hp)⟩ hd⟩⟩

/-! ### calls of defs -/
abbrev SpD := List D → (D → Prop) → Prop
/-- the promise of a def by values -/
def spD (φ : SpD) : Sp := fun vs H Q _ => ∃ (A : Addr → Prop) (bg : BG) (ds : List D) (R : D → Prop), (∀ a, A a → nB bg a) ∧ BagOk bg H ∧ Reps H A bg ds vs ∧ φ ds R ∧
  ∀ d v H', Grow bg H H' → Rep H' (fun a => (A a ∨ H a = none) ∧ nB bg a) bg d v → R d → Q v H'
def sCall (φ : SpD) (t : AD) : ED := fun e R => t e fun ds => φ ds R
theorem tCall_of {φ : SpD} {u : AD} {E : XK} {σ : L2.St} {H : Hp} {Q : VK} (h : tE c (sCall φ u) σ H Q) : tCall (spD φ) [] E (tA c u) σ H Q := by
  obtain ⟨O, en, R, F, h, k⟩ := h
  refine ⟨O, en, _, F, h, fun ds vs H1 g r hd => ?_⟩
  show spD φ (vs ++ []) H1 Q E
  rw [List.append_nil]
  have F1 := F.up g
  refine ⟨AO c O, c.bg, ds, R, AO.bag, F1.bag, r, hd, fun d v H2 g2 r2 h2 => k d v H2 (g.trans g2) ?_ h2⟩
  refine Rep.grow (F1.up g2).bag (.refl _ _) (fun a z => z.2) (fun a z => ?_) d v r2
  rcases z.1 with z | z
  · exact z
  · exact F1.hf.fresh a z
variable {P : Program}
theorem de_call {CX : CXT} {f : Addr} {fd : FuncData} {ps : List Str} {φ : SpD} {E : XK} {x : Str} {p : Pos} {u : AD} (G : FnOk X.prog X.w X.K X.mg X.base CX k f fd ps (spD φ)) (hr : Room k X.A) (hg : Gl X x) (hm : X.mg x = some (.ref f)) (hk : PySem.W.keepIn X.K (.ref f) = true)
    (hb : Binds X.K fd ps []) (hx : Passes CX X E) (ha : DA X c (e :: es) u) (hdb : (x == ("__debug__" : Str)) = false := by decide) (he : starEach (e :: es) X.env = (false, eval e X.env) :: starEach es X.env := by rfl)
    (hpl : (backTo pos (starEach es X.env)).any (·.1) = false := by rfl) : DE X c (.Call (.Name x p) (e :: es) [] pos) (sCall φ u) :=
  (pe_call G hr hg hm hk hb .nil hx ha hdb he hpl).of fun σ H Q h => tCall_of h

/-! ### calls of built-ins -/
abbrev Op1 := List D → (D → Prop) → Prop
def Lk1 (r : List V → Hp → VK → Prop) (op : Op1) : Prop := ∀ (c : FC) (O : OM) (H : Hp) (xs : List D) (vs : List V) (R : D → Prop) (Q : VK), HF c O H → Reps H (AO c O) c.bg xs vs → op xs R →
  (∀ d w H', Grow c.bg H H' → Rep H' (AO c O) c.bg d w → R d → Q w H') → r vs H Q
def sBi (op : Op1) (u : AD) : ED := fun e R => u e fun ds => op ds R
theorem tCB_of {r : List V → Hp → VK → Prop} {op : Op1} {u : AD} (l : Lk1 r op) {σ : L2.St} {H : Hp} {Q : VK} (h : tE c (sBi op u) σ H Q) : tCB r (tA c u) σ H Q := by
  obtain ⟨O, en, R, F, h, k⟩ := h
  exact ⟨O, en, _, F, h, fun ds vs H1 g r hd => l c O H1 ds vs R Q (F.up g).hf r hd fun d w H' g' r' hd' => k d w H' (g.trans g') r' hd'⟩
theorem de_bi {id : String} {r : List V → Hp → VK → Prop} {op : Op1} {x : Str} {p : Pos} {u : AD} (hc : CallR X (.builtin id) r) (l : Lk1 r op) (hg : Gl X x) (hm : X.mg x = none) (hv : bootBuiltins x = some (.builtin id)) (ha : DA X c (e :: es) u) (hn : x ≠ "__name__" := by decide) (hdb : (x == ("__debug__" : Str)) = false := by decide)
    (he : starEach (e :: es) X.env = (false, eval e X.env) :: starEach es X.env := by rfl) (hpl : (backTo pos (starEach es X.env)).any (·.1) = false := by rfl) : DE X c (.Call (.Name x p) (e :: es) [] pos) (sBi op u) :=
  (pe_callB hc hg hm hv ha hn hdb he hpl).of fun σ H Q h => tCB_of l h
theorem de_ty {T : String} {r : List V → Hp → VK → Prop} {op : Op1} {x : Str} {p : Pos} {u : AD} (hc : CallR X (.type T) r) (l : Lk1 r op) (hg : Gl X x) (hm : X.mg x = none) (hv : bootBuiltins x = some (.type T)) (ha : DA X c (e :: es) u) (hn : x ≠ "__name__" := by decide) (hdb : (x == ("__debug__" : Str)) = false := by decide)
    (he : starEach (e :: es) X.env = (false, eval e X.env) :: starEach es X.env := by rfl) (hpl : (backTo pos (starEach es X.env)).any (·.1) = false := by rfl) : DE X c (.Call (.Name x p) (e :: es) [] pos) (sBi op u) :=
  (pe_callTy hc hg hm hv ha hn hdb he hpl).of fun σ H Q h => tCB_of l h
end
end SD

namespace SD
open L2 PyProof.Rows PySem PySem.Spec
/-- the ints of a list of ints -/
def ints? : List D → Option (List Int)
  | [] => some []
  | .int i :: r => (ints? r).map (i :: ·)
  | _ :: _ => none
def bls? : List D → Option (List Bool)
  | [] => some []
  | .bl i :: r => (bls? r).map (i :: ·)
  | _ :: _ => none
theorem ints?_map : ∀ ns : List Int, ints? (ns.map D.int) = some ns
  | [] => rfl
  | n :: ns => by rw [List.map_cons, ints?, ints?_map ns]; rfl
theorem bls?_map : ∀ ns : List Bool, bls? (ns.map D.bl) = some ns
  | [] => rfl
  | n :: ns => by rw [List.map_cons, bls?, bls?_map ns]; rfl
theorem ints?_eq : ∀ {l : List D} {ns : List Int}, ints? l = some ns → l = ns.map D.int
  | [], ns, h => by cases h; rfl
  | d :: r, ns, h => by
    cases d with
    | int i =>
      rw [ints?] at h
      cases e : ints? r with
      | none => (rw [e] at h; cases h)
      | some ms => rw [e] at h; cases h; rw [ints?_eq e]; rfl
    | _ => cases h
theorem bls?_eq : ∀ {l : List D} {ns : List Bool}, bls? l = some ns → l = ns.map D.bl
  | [], ns, h => by cases h; rfl
  | d :: r, ns, h => by
    cases d with
    | bl i =>
      rw [bls?] at h
      cases e : bls? r with
      | none => (rw [e] at h; cases h)
      | some ms => rw [e] at h; cases h; rw [bls?_eq e]; rfl
    | _ => cases h
/-! ### sum over a tuple -/
section
variable {s : Shared} {prog : Program} {w : World} {A : Around} {E : Value → Shared → Prop} {l : Addr} {its : List Value} {ns : List Int} {Q : Value → Shared → Prop}
theorem sum_rawT (hh : A.handled = none) (hl : IsTup s.heap l its.toArray) (hi : IntsAre its ns)
    (h : ∀ h1 tk t1, (∀ b o, s.heap.get? b = some o → h1.get? b = some o) → Q (.int ns.sum t1) { s with heap := h1, toks := tk }) : wpAny (model prog w) A (call (.builtin "sum") [.ref l]) Q E s := by
  (obtain ⟨xs, e⟩ := hi.allInts.items)
  (have hn : numsOf (intItems xs).toList = ns := by rw [← e]; exact hi.numsOf)
  rw [nums_intItems] at hn
  rw [e] at hl
  have hlt : l < s.heap.objs.size := hl.lt
  have hT : s.heap.IsTuple l (intItems xs) := hl
  refine PySem.call_sum_walkG (wpAny_pyIter_tuple hT ?_)
  refine ⟨s.heap.objs.size, [s.heap.objs.size, l], [s.heap.objs.size], _, _, _, numAt xs, rfl, Walks.tuple (A := A.in1) hh _ l (Nat.ne_of_lt hlt) (intItems xs), ⟨⟨_, Heap.get?_push_size _ rfl, rfl, rfl⟩, hT.push _⟩, fun b hb => ?_, fun _ _ => intItems_at, fun h' tk t' hk => ?_⟩
  · have e' : b = s.heap.objs.size ∨ b = l := by simpa using hb
    rw [Heap.size_push]
    rcases e' with z | z
    · rw [z]; exact Nat.lt_succ_self _
    · rw [z]; exact Nat.lt_succ_of_lt hlt
  · have q := h h' tk t' fun b o e2 => hk b o (by simp; exact Nat.ne_of_lt (Heap.lt_size e2)) (Heap.get?_push_of_some _ e2)
    have e3 : (intItems xs).size = xs.size := by simp [intItems]
    rw [e3, preSum_eq, List.take_of_length_le (by simp), hn]; exact q
end
section
variable {X : Cx} {c : FC} {a b e : Expr} {es rest : List Expr} {pos : Pos} {ta tb t : ED} {k : Nat}
def rSumT (K : PySem.W.Frag) : List V → Hp → VK → Prop := fun vs H Q => ∃ (a : Addr) (ns : List Int), vs = [V.ref a] ∧ SqT K H a (ns.map V.int) ∧ Q (.int ns.sum) H
theorem cr_sumT (hc : X.calm = true) : CallR X (.builtin "sum") (rSumT X.K) := by
  (intro pins s σ H vs us Q I r h)
  (obtain ⟨a, ns, rfl, hs, q⟩ := h)
  obtain rfl := r.ref1
  obtain ⟨its, rv, p, hz⟩ := I.tuple hs
  exact sum_rawT (I.ok.hd hc) p rv.ints fun h' tk t' hk => ⟨.int ns.sum, H, I.kept hk, ⟨_, rfl⟩, q⟩
def sumD : Op1 := fun ds R => match ds with
  | [.lst l] => (match ints? l with
    | some ns => R (.int ns.sum)
    | none => False)
  | [.tup l] => (match ints? l with
    | some ns => R (.int ns.sum)
    | none => False)
  | _ => False
theorem lk_sum {K : PySem.W.Frag} : Lk1 (fun xs H Q => rSum K xs H Q ∨ rSumT K xs H Q) sumD := by
  intro c O H xs vs R Q F r h k
  unfold sumD at h
  split at h
  · rename_i l
    split at h
    · rename_i ns e
      rw [ints?_eq e] at r
      obtain ⟨v, vr, rfl, r1, r2⟩ := r.cons_inv
      rw [r2.nil_inv]
      obtain ⟨a, ys, rfl, _, ha, _, rs⟩ := Rep.lst_iff.mp r1
      rw [rs.ints] at ha
      exact .inl ⟨a, ns, rfl, SqL.of ha, k _ _ _ (.refl _ _) (Rep.int_iff.mpr rfl) h⟩
    · exact h.elim
  · rename_i l
    split at h
    · rename_i ns e
      rw [ints?_eq e] at r
      obtain ⟨v, vr, rfl, r1, r2⟩ := r.cons_inv
      rw [r2.nil_inv]
      obtain ⟨a, ys, rfl, ha, _, rs⟩ := Rep.tup_iff.mp r1
      rw [rs.ints] at ha
      exact .inr ⟨a, ns, rfl, SqT.of ha, k _ _ _ (.refl _ _) (Rep.int_iff.mpr rfl) h⟩
    · exact h.elim
  · exact h.elim
/-- len -/
def lenD : Op1 := fun ds R => match ds with
  | [.lst l] => R (.int l.length)
  | [.tup l] => R (.int l.length)
  | _ => False
theorem lk_len {K : PySem.W.Frag} : Lk1 (fun xs H Q => ∃ p ys, xs = [.ref p] ∧ (SqL K H p ys ∨ SqT K H p ys) ∧ Q (.int ys.length) H) lenD := by
  intro c O H xs vs R Q F r h k
  unfold lenD at h
  split at h
  · rename_i l
    obtain ⟨v, vr, rfl, r1, r2⟩ := r.cons_inv
    rw [r2.nil_inv]
    obtain ⟨a, ys, rfl, _, ha, _, rs⟩ := Rep.lst_iff.mp r1
    exact ⟨a, ys, rfl, .inl (SqL.of ha), k _ _ _ (.refl _ _) (Rep.int_iff.mpr (by rw [rs.length])) h⟩
  · rename_i l
    obtain ⟨v, vr, rfl, r1, r2⟩ := r.cons_inv
    rw [r2.nil_inv]
    obtain ⟨a, ys, rfl, ha, _, rs⟩ := Rep.tup_iff.mp r1
    exact ⟨a, ys, rfl, .inr (SqT.of ha), k _ _ _ (.refl _ _) (Rep.int_iff.mpr (by rw [rs.length])) h⟩
  · exact h.elim
/-- abs -/
def absD : Op1 := fun ds R => match ds with
  | [.int i] => R (.int (if i < 0 then -i else i))
  | _ => False
theorem lk_abs : Lk1 (fun xs H Q => ∃ i, xs = [.int i] ∧ Q (.int (if i < 0 then -i else i)) H) absD := by
  intro c O H xs vs R Q F r h k
  unfold absD at h
  split at h
  · obtain ⟨v, vr, rfl, r1, r2⟩ := r.cons_inv
    rw [r2.nil_inv, Rep.int_iff.mp r1]
    exact ⟨_, rfl, k _ _ _ (.refl _ _) (Rep.int_iff.mpr rfl) h⟩
  · exact h.elim
/-- max, min: two ints, or a list of ints -/
def maxD : Op1 := fun ds R => match ds with
  | [.int i, .int j] => R (.int (if j > i then j else i))
  | [.lst l] => (match ints? l with
    | some ns => 0 < ns.length ∧ ∀ m, m ∈ ns → (∀ y, y ∈ ns → y ≤ m) → R (.int m)
    | none => False)
  | _ => False
def minD : Op1 := fun ds R => match ds with
  | [.int i, .int j] => R (.int (if j < i then j else i))
  | [.lst l] => (match ints? l with
    | some ns => 0 < ns.length ∧ ∀ m, m ∈ ns → (∀ y, y ∈ ns → m ≤ y) → R (.int m)
    | none => False)
  | _ => False
theorem lk_max {K : PySem.W.Frag} : Lk1 (fun xs H Q => (∃ i j, xs = [.int i, .int j] ∧ Q (.int (if j > i then j else i)) H) ∨ rMax K xs H Q) maxD := by
  intro c O H xs vs R Q F r h k
  unfold maxD at h
  split at h
  · obtain ⟨v, vr, rfl, r1, r2⟩ := r.cons_inv
    obtain ⟨v2, vr2, rfl, r3, r4⟩ := r2.cons_inv
    rw [r4.nil_inv, Rep.int_iff.mp r1, Rep.int_iff.mp r3]
    exact .inl ⟨_, _, rfl, k _ _ _ (.refl _ _) (Rep.int_iff.mpr rfl) h⟩
  · split at h
    · rename_i ns e
      rw [ints?_eq e] at r
      obtain ⟨v, vr, rfl, r1, r2⟩ := r.cons_inv
      rw [r2.nil_inv]
      obtain ⟨a, ys, rfl, _, ha, _, rs⟩ := Rep.lst_iff.mp r1
      rw [rs.ints] at ha
      exact .inr ⟨a, ns, rfl, SqL.of ha, h.1, fun m h1 h2 => k _ _ _ (.refl _ _) (Rep.int_iff.mpr rfl) (h.2 m h1 h2)⟩
    · exact h.elim
  · exact h.elim
theorem lk_min {K : PySem.W.Frag} : Lk1 (fun xs H Q => (∃ i j, xs = [.int i, .int j] ∧ Q (.int (if j < i then j else i)) H) ∨ rMin K xs H Q) minD := by
  intro c O H xs vs R Q F r h k
  unfold minD at h
  split at h
  · obtain ⟨v, vr, rfl, r1, r2⟩ := r.cons_inv
    obtain ⟨v2, vr2, rfl, r3, r4⟩ := r2.cons_inv
    rw [r4.nil_inv, Rep.int_iff.mp r1, Rep.int_iff.mp r3]
    exact .inl ⟨_, _, rfl, k _ _ _ (.refl _ _) (Rep.int_iff.mpr rfl) h⟩
  · split at h
    · rename_i ns e
      rw [ints?_eq e] at r
      obtain ⟨v, vr, rfl, r1, r2⟩ := r.cons_inv
      rw [r2.nil_inv]
      obtain ⟨a, ys, rfl, _, ha, _, rs⟩ := Rep.lst_iff.mp r1
      rw [rs.ints] at ha
      exact .inr ⟨a, ns, rfl, SqL.of ha, h.1, fun m h1 h2 => k _ _ _ (.refl _ _) (Rep.int_iff.mpr rfl) (h.2 m h1 h2)⟩
    · exact h.elim
  · exact h.elim
/-- all, any -/
def allD : Op1 := fun ds R => match ds with
  | [.lst l] => (match bls? l with
    | some bs => R (.bl (bs.all id))
    | none => False)
  | _ => False
def anyD : Op1 := fun ds R => match ds with
  | [.lst l] => (match bls? l with
    | some bs => R (.bl (bs.any id))
    | none => False)
  | _ => False
theorem lk_all {K : PySem.W.Frag} : Lk1 (rAll K) allD := by
  intro c O H xs vs R Q F r h k
  unfold allD at h
  split at h
  · split at h
    · rename_i ns e
      rw [bls?_eq e] at r
      obtain ⟨v, vr, rfl, r1, r2⟩ := r.cons_inv
      rw [r2.nil_inv]
      obtain ⟨a, ys, rfl, _, ha, _, rs⟩ := Rep.lst_iff.mp r1
      rw [rs.bls] at ha
      exact ⟨a, ns, rfl, SqL.of ha, k _ _ _ (.refl _ _) (Rep.bl_iff.mpr rfl) h⟩
    · exact h.elim
  · exact h.elim
theorem lk_any {K : PySem.W.Frag} : Lk1 (rAny K) anyD := by
  intro c O H xs vs R Q F r h k
  unfold anyD at h
  split at h
  · split at h
    · rename_i ns e
      rw [bls?_eq e] at r
      obtain ⟨v, vr, rfl, r1, r2⟩ := r.cons_inv
      rw [r2.nil_inv]
      obtain ⟨a, ys, rfl, _, ha, _, rs⟩ := Rep.lst_iff.mp r1
      rw [rs.bls] at ha
      exact ⟨a, ns, rfl, SqL.of ha, k _ _ _ (.refl _ _) (Rep.bl_iff.mpr rfl) h⟩
    · exact h.elim
  · exact h.elim
/-- int(x) -/
def intCD : Op1 := fun ds R => match ds with
  | [.int i] => R (.int i)
  | [.bl k] => R (.int (if k then 1 else 0))
  | _ => False
theorem lk_int : Lk1 (fun xs H Q => (∃ i, xs = [.int i] ∧ Q (.int i) H) ∨ ∃ k, xs = [.bl k] ∧ Q (.int (if k then 1 else 0)) H) intCD := by
  intro c O H xs vs R Q F r h k
  unfold intCD at h
  split at h
  · obtain ⟨v, vr, rfl, r1, r2⟩ := r.cons_inv
    rw [r2.nil_inv, Rep.int_iff.mp r1]
    exact .inl ⟨_, rfl, k _ _ _ (.refl _ _) (Rep.int_iff.mpr rfl) h⟩
  · obtain ⟨v, vr, rfl, r1, r2⟩ := r.cons_inv
    rw [r2.nil_inv, Rep.bl_iff.mp r1]
    exact .inr ⟨_, rfl, k _ _ _ (.refl _ _) (Rep.int_iff.mpr rfl) h⟩
  · exact h.elim
/-- tuple(x), list(x) of lists and tuples -/
def tupCD : Op1 := fun ds R => match ds with
  | [.lst l] => R (.tup l)
  | [.tup l] => R (.tup l)
  | _ => False
def lstCD : Op1 := fun ds R => match ds with
  | [.lst l] => R (.lst l)
  | [.tup l] => R (.lst l)
  | _ => False
theorem Rep.lst_len {H : Hp} {A : Addr → Prop} {bg : BG} {l : List D} {v : V} (h : Rep H A bg (.lst l) v) : l.length ≤ sizeLine := by
  obtain ⟨_, _, _, _, _, z, _⟩ := Rep.lst_iff.mp h
  exact z
theorem lk_tupC {K : PySem.W.Frag} : Lk1 (fun xs H Q => ∃ p ys, xs = [.ref p] ∧ ((SqL K H p ys ∧ ∀ l, H l = none → Q (.ref l) (upd H l (.tup ys))) ∨ (SqT K H p ys ∧ Q (.ref p) H))) tupCD := by
  intro c O H xs vs R Q F r h k
  unfold tupCD at h
  split at h
  · rename_i l
    obtain ⟨v, vr, rfl, r1, r2⟩ := r.cons_inv
    rw [r2.nil_inv]
    obtain ⟨a, ys, rfl, _, ha, z, rs⟩ := Rep.lst_iff.mp r1
    exact ⟨a, ys, rfl, .inl ⟨SqL.of ha, fun q hq => k _ _ _ (.new hq) (Rep.newT F rs z hq) h⟩⟩
  · rename_i l
    obtain ⟨v, vr, rfl, r1, r2⟩ := r.cons_inv
    rw [r2.nil_inv]
    obtain ⟨a, ys, rfl, ha, z, rs⟩ := Rep.tup_iff.mp r1
    exact ⟨a, ys, rfl, .inr ⟨SqT.of ha, k _ _ _ (.refl _ _) r1 h⟩⟩
  · exact h.elim
theorem lk_lstC {K : PySem.W.Frag} : Lk1 (fun xs H Q => ∃ p ys, xs = [.ref p] ∧ (SqL K H p ys ∨ SqT K H p ys) ∧ ∀ l, H l = none → Q (.ref l) (upd H l (.lst ys))) lstCD := by
  intro c O H xs vs R Q F r h k
  unfold lstCD at h
  split at h
  · rename_i l
    obtain ⟨v, vr, rfl, r1, r2⟩ := r.cons_inv
    rw [r2.nil_inv]
    obtain ⟨a, ys, rfl, _, ha, z, rs⟩ := Rep.lst_iff.mp r1
    exact ⟨a, ys, rfl, .inl (SqL.of ha), fun q hq => k _ _ _ (.new hq) (Rep.newL F rs z hq) h⟩
  · rename_i l
    obtain ⟨v, vr, rfl, r1, r2⟩ := r.cons_inv
    rw [r2.nil_inv]
    obtain ⟨a, ys, rfl, ha, z, rs⟩ := Rep.tup_iff.mp r1
    exact ⟨a, ys, rfl, .inr (SqT.of ha), fun q hq => k _ _ _ (.new hq) (Rep.newL F rs z hq) h⟩
  · exact h.elim
/-- isinstance(x, T), T int, bool, tuple, list -/
def isTy (T : String) : D → Option Bool
  | .non => some false
  | .bl _ => some (T == "bool" || T == "int")
  | .int _ => some (T == "int")
  | .str _ => some false
  | .tup _ => some (T == "tuple")
  | .lst _ => some (T == "list")
  | _ => none
def isiD : Op1 := fun ds R => match ds with
  | [x, .ty T] => (T = "int" ∨ T = "bool" ∨ T = "tuple") ∧ (match isTy T x with
    | some b => R (.bl b)
    | none => False)
  | _ => False
/-- what the name of the type is -/
def tyName : D → String
  | .non => "NoneType"
  | .bl _ => "bool"
  | .int _ => "int"
  | .str _ => "str"
  | .tup _ => "tuple"
  | .lst _ => "list"
  | _ => ""
theorem kit_all : ∀ n ∈ ["NoneType", "bool", "int", "str", "tuple", "list"], ∀ T ∈ ["int", "bool", "tuple"], kitB n T = some (n == T || (n == "bool" && T == "int")) := by decide +kernel
theorem isTy_kit {T : String} {d : D} {b : Bool} (hT : T = "int" ∨ T = "bool" ∨ T = "tuple") (h : isTy T d = some b) : kitB (tyName d) T = some b := by
  have hm : tyName d ∈ ["NoneType", "bool", "int", "str", "tuple", "list"] := by
    cases d <;> first | (cases h; done) | simp [tyName]
  have hn : T ∈ ["int", "bool", "tuple"] := by
    rcases hT with rfl | rfl | rfl <;> decide
  rw [kit_all _ hm _ hn, ← h]
  rcases hT with rfl | rfl | rfl <;> cases d <;> first | rfl | (cases h; done)
theorem tyx {K : PySem.W.Frag} {H : Hp} {A : Addr → Prop} {bg : BG} {T : String} {d : D} {v : V} {b : Bool} (h : isTy T d = some b) (r : Rep H A bg d v) : TyX K H v (.type (tyName d)) := by
  cases d with
  | non => rw [Rep.non_iff.mp r]; exact .base .non
  | bl x => rw [Rep.bl_iff.mp r]; exact .base (.bl x)
  | int x => rw [Rep.int_iff.mp r]; exact .base (.int x)
  | str x => rw [Rep.str_iff.mp r]; exact .base (.str x)
  | tup l => obtain ⟨a, xs, rfl, e, _⟩ := Rep.tup_iff.mp r; exact .base (.tup e)
  | lst l => obtain ⟨a, xs, rfl, _, e, _⟩ := Rep.lst_iff.mp r; exact .base (.lst e)
  | bag => cases h
  | fn _ => cases h
  | ty _ => cases h
theorem lk_isi {K : PySem.W.Frag} : Lk1 (rIsi K) isiD := by
  intro c O H xs vs R Q F r h k
  unfold isiD at h
  split at h
  · rename_i x T
    obtain ⟨hT, h⟩ := h
    split at h
    · rename_i b e
      obtain ⟨v, vr, rfl, r1, r2⟩ := r.cons_inv
      obtain ⟨v2, vr2, rfl, r3, r4⟩ := r2.cons_inv
      rw [r4.nil_inv, Rep.ty_iff.mp r3]
      exact ⟨v, .ty T, .type (tyName x), .type T, b, rfl, .ty T, tyx e r1, kit_ty (isTy_kit hT e), k _ _ _ (.refl _ _) (Rep.bl_iff.mpr rfl) h⟩
    · exact h.elim
  · exact h.elim
theorem de_tyName {T : String} {x : Str} {p : Pos} (hg : Gl X x) (hm : X.mg x = none) (hv : bootBuiltins x = some (.type T)) (hn : x ≠ "__name__" := by decide) (hd : (x == ("__debug__" : Str)) = false := by decide) : DE X c (.Name x p) (sC (.ty T)) :=
  de_c (pe_bltn (v := .ty T) hg hm hv rfl hn hd) fun _ _ _ => Rep.ty_iff.mpr rfl

/-! ### products -/
def mulD : Op2 := fun x y R => match x, y with
  | .int i, .int j => (CMul i j ∨ CMulW i j) ∧ R (.int (i * j))
  | .lst a, .int j => -(2 ^ 63) ≤ j ∧ j < 2 ^ 63 ∧ a.length * j.toNat ≤ sizeLine ∧ R (.lst (List.replicate j.toNat a).flatten)
  | _, _ => False
theorem Reps.rep {H : Hp} {A : Addr → Prop} {bg : BG} {ds : List D} {vs : List V} (h : Reps H A bg ds vs) : ∀ n : Nat, Reps H A bg (List.replicate n ds).flatten (List.replicate n vs).flatten
  | 0 => .nil
  | n + 1 => by
    (rw [List.replicate_succ, List.replicate_succ, List.flatten_cons, List.flatten_cons])
    exact h.append (Reps.rep h n)
theorem lk_mul : Lk2 (fun x y H Q => (rI CMul (fun i j => .int (i * j)) x y H Q ∨ rI CMulW (fun i j => .int (i * j)) x y H Q) ∨ rRep x y H Q) mulD := by
  intro c O H x y v u R Q F rx ry h k
  unfold mulD at h
  split at h
  · rename_i i j
    rcases h.1 with q | q
    · exact .inl (.inl ⟨i, j, Rep.int_iff.mp rx, Rep.int_iff.mp ry, q, k _ _ _ (.refl _ _) (Rep.int_iff.mpr rfl) h.2⟩)
    · exact .inl (.inr ⟨i, j, Rep.int_iff.mp rx, Rep.int_iff.mp ry, q, k _ _ _ (.refl _ _) (Rep.int_iff.mpr rfl) h.2⟩)
  · rename_i l j
    obtain ⟨a, xs, e1, _, h1, z1, s1⟩ := Rep.lst_iff.mp rx
    obtain ⟨h2, h3, h4, h5⟩ := h
    refine .inr ⟨a, j, xs, e1, Rep.int_iff.mp ry, h1, h2, h3, by rw [s1.length]; exact h4, fun p hp => k _ _ _ (.new hp) (Rep.newL F (s1.rep _) ?_ hp) h5⟩
    rw [List.length_flatten, List.map_replicate, List.sum_replicate_nat, Nat.mul_comm]; exact h4
  · exact h.elim
theorem de_mul (ha : DE X c a ta) (hb : DE X c b tb) : DE X c (.BinOp a .Mult b pos) (sOp mulD ta tb) := de_op ((op_mul.or op_mulW).or op_rep) lk_mul ha hb

/-! ### items and slices -/
def ixD : Op2 := fun x y R => match x, y with
  | .lst l, .int i => (match atI l i with
    | some d => R d
    | none => False)
  | .tup l, .int i => (match atI l i with
    | some d => R d
    | none => False)
  | _, _ => False
theorem Reps.atI {H : Hp} {A : Addr → Prop} {bg : BG} {ds : List D} {vs : List V} (h : Reps H A bg ds vs) {i : Int} {d : D} (e : atI ds i = some d) : ∃ v, L2.atI vs i = some v ∧ Rep H A bg d v := by
  unfold L2.atI at e ⊢
  rw [h.length]
  cases q : ixN ds.length i with
  | none => (rw [q] at e; cases e)
  | some j =>
    rw [q] at e
    exact h.get e
theorem lk_ix {K : PySem.W.Frag} : Lk2 (fun x y H Q => rIxL K x y H Q ∨ rIxT K x y H Q) ixD := by
  intro c O H x y v u R Q F rx ry h k
  unfold ixD at h
  split at h
  · split at h
    · rename_i l i _ d e
      obtain ⟨a, xs, e1, _, h1, z1, s1⟩ := Rep.lst_iff.mp rx
      obtain ⟨w, e2, r2⟩ := s1.atI e
      exact .inl ⟨a, xs, i, w, e1, Rep.int_iff.mp ry, SqL.of h1, e2, k _ _ _ (.refl _ _) r2 h⟩
    · exact h.elim
  · split at h
    · rename_i l i _ d e
      obtain ⟨a, xs, e1, h1, z1, s1⟩ := Rep.tup_iff.mp rx
      obtain ⟨w, e2, r2⟩ := s1.atI e
      exact .inr ⟨a, xs, i, w, e1, Rep.int_iff.mp ry, SqT.of h1, e2, k _ _ _ (.refl _ _) r2 h⟩
    · exact h.elim
  · exact h.elim
theorem de_ix (ha : DE X c a ta) (hb : DE X c b tb) (hs : PlainIx b := by intro _ _; rfl) : DE X c (.Subscript a b pos) (sOp ixD ta tb) := (pe_ix (ix_list.or ix_tup) ha hb hs).of fun σ H Q h => tOp_of lk_ix h
/-- the last item of a list of one's own -/
def sLast (i : Nat) : ED := fun e R => match e[i]? with
  | some (.own (.l l)) => (match l.getLast? with
    | some d => R d
    | none => False)
  | _ => False
theorem de_last {i : Nat} {q : Nat} {p1 p2 : Pos} (h : PE X a (tVar i)) : DE X c (.Subscript a (.UnaryOp .USub (.Constant (.int 1) q p1) p2) pos) (sLast i) := (pe_ix ix_list h (pe_un un_neg pe_int) (fun _ _ => rfl)).of fun σ H Q ⟨O, en, R, F, h, k⟩ => by
  unfold sLast at h
  split at h
  · rename_i l hd
    split at h
    · rename_i d e
      obtain ⟨x, h1, h2⟩ := F.slot _ _ hd
      obtain ⟨_, _, z, xs, h3, rs⟩ := F.own _ _ h2
      have e' : L2.atI l (-1) = some d := by
        have ne : l ≠ [] := fun q => by rw [q] at e; cases e
        have e2 : l = l.dropLast ++ [d] := by
          rw [List.getLast?_eq_some_getLast ne] at e
          cases e
          exact (List.dropLast_concat_getLast ne).symm
        rw [e2]; exact atI_last _ _
      obtain ⟨w, e2, r2⟩ := rs.atI e'
      exact ⟨.ref x, h1, 1, rfl, x, xs, -1, w, rfl, rfl, SqL.of h3, e2, k _ _ _ (.refl _ _) r2 h⟩
    · exact h.elim
  · exact h.elim
/-- slices -/
def cutD (xs : List D) (lo hi : Option Int) : List D := (xs.drop (HT.sIx xs.length 0 lo)).take (HT.sIx xs.length xs.length hi - HT.sIx xs.length 0 lo)
theorem Reps.cut {H : Hp} {A : Addr → Prop} {bg : BG} {ds : List D} {vs : List V} (h : Reps H A bg ds vs) (lo hi : Option Int) : Reps H A bg (cutD ds lo hi) (cutV vs lo hi) := by
  unfold cutD cutV
  rw [h.length]
  exact (h.drop _).take _
theorem cutD_length (xs : List D) (lo hi : Option Int) : (cutD xs lo hi).length ≤ xs.length := by
  unfold cutD
  rw [List.length_take, List.length_drop]; omega
abbrev OD := EnvD → (Option Int → Prop) → Prop
def oNone : OD := fun _ R => R none
def oSome (t : ED) : OD := fun e R => t e fun d => match d with
  | .int i => R (some i)
  | _ => False
def tOD (c : FC) (t : OD) : L2.TO := fun σ H Q => ∃ O e R, FI c O e σ H ∧ t e R ∧ ∀ o H', Grow c.bg H H' → R o → Q o H'
theorem _root_.L2.PO.of {X : Cx} {e : Option Expr} {t u : L2.TO} (h : PO X e t) (k : ∀ σ H Q, u σ H Q → t σ H Q) : PO X e u := ⟨fun p s σ H Q I w => h.run p s σ H Q I (k σ H Q w)⟩
abbrev DOp (X : Cx) (c : FC) (e : Option Expr) (t : OD) : Prop := PO X e (tOD c t)
theorem dop_none : DOp X c none oNone := po_none.of fun σ H Q ⟨O, en, R, F, h, k⟩ => k none H (.refl _ _) h
theorem dop_some (h : DE X c e t) : DOp X c (some e) (oSome t) := (po_some h).of fun σ H Q ⟨O, en, R, F, h, k⟩ => by
  refine ⟨O, en, _, F, h, fun d v H1 g r hd => ?_⟩
  split at hd
  · rename_i i
    exact ⟨i, Rep.int_iff.mp r, k _ H1 g hd⟩
  · exact hd.elim
def sSl (ta : ED) (tl th : OD) : ED := fun e R => ta e fun x => tl e fun lo => th e fun hi => match x with
  | .lst l => R (.lst (cutD l lo hi))
  | .tup l => R (.tup (cutD l lo hi))
  | _ => False
theorem de_slice {lo hi : Option Expr} {p2 : Pos} {tl th : OD} (ha : DE X c a ta) (hl : DOp X c lo tl) (hu : DOp X c hi th) : DE X c (.Subscript a (.Slice lo hi none p2) pos) (sSl ta tl th) := (pe_slice (sl_list.or sl_tupA) ha hl hu).of fun σ H Q ⟨O, en, R, F, h, k⟩ => by
  refine ⟨O, en, _, F, h, fun x v H1 g1 r1 h1 => ⟨O, en, _, F.up g1, h1, fun o1 H2 g2 h2 => ⟨O, en, _, (F.up g1).up g2, h2, fun o2 H3 g3 h3 => ?_⟩⟩⟩
  have F3 := ((F.up g1).up g2).up g3
  have r3 := (r1.up (F.up g1).bag g2).up ((F.up g1).up g2).bag g3
  have gg := (g1.trans g2).trans g3
  split at h3
  · rename_i l
    obtain ⟨a, xs, e1, _, h4, z1, s1⟩ := Rep.lst_iff.mp r3
    exact .inl ⟨a, xs, e1, SqL.of h4, fun p hp => k _ _ _ (gg.trans (.new hp)) (Rep.newL F3.hf (s1.cut o1 o2) (Nat.le_trans (cutD_length _ _ _) z1) hp) h3⟩
  · rename_i l
    obtain ⟨a, xs, e1, h4, z1, s1⟩ := Rep.tup_iff.mp r3
    refine .inr ⟨a, xs, e1, SqT.of h4, fun w => k _ _ _ gg ?_ h3, fun _ p hp => k _ _ _ (gg.trans (.new hp)) (Rep.newT F3.hf (s1.cut o1 o2) (Nat.le_trans (cutD_length _ _ _) z1) hp) h3⟩
    have e2 : cutD l o1 o2 = l := by
      unfold cutD
      rw [s1.length] at w
      rw [w.1, w.2]
      simp
    rw [e2, ← e1]; exact r3
  · exact h3.elim
end
end SD

namespace SD
open L2 PyProof.Rows PySem PySem.Spec
/-! ### names that are set -/
theorem get_set_ne {α : Type} {l : List α} {i j : Nat} {x : α} (h : i ≠ j) : (l.set i x)[j]? = l[j]? := List.getElem?_set_ne h
theorem FI.setV {c : FC} {O : OM} {e : EnvD} {σ : L2.St} {H : Hp} (F : FI c O e σ H) {d : D} {v : V} (r : Rep H (AO c O) c.bg d v) (i : Nat) : FI c O (e.set i (.val d)) (σ.set i (some v)) H where
  len := by rw [List.length_set, List.length_set]; exact F.len
  bag0 := F.bag0
  bag := F.bag
  grow := F.grow
  own := F.own
  slot := fun j s h => by
    by_cases q : i = j
    · subst q
      by_cases hi : i < e.length
      · rw [List.getElem?_set_self hi] at h
        cases h
        exact ⟨v, by rw [List.getElem?_set_self (by rw [← F.len]; exact hi)], r⟩
      · rw [List.getElem?_eq_none (by rw [List.length_set]; omega)] at h; cases h
    · rw [get_set_ne q] at h
      have z := F.slot j s h
      cases s with
      | un => trivial
      | val d => obtain ⟨u, h1, h2⟩ := z; exact ⟨u, by rw [get_set_ne q]; exact h1, h2⟩
      | own w => obtain ⟨u, h1, h2⟩ := z; exact ⟨u, by rw [get_set_ne q]; exact h1, h2⟩
  inj := fun j k w w' a h1 h2 h3 h4 => by
    have n1 : i ≠ j := fun q => by
      subst q
      by_cases hi : i < e.length
      · rw [List.getElem?_set_self hi] at h1; cases h1
      · rw [List.getElem?_eq_none (by rw [List.length_set]; omega)] at h1; cases h1
    have n2 : i ≠ k := fun q => by
      subst q
      by_cases hi : i < e.length
      · rw [List.getElem?_set_self hi] at h2; cases h2
      · rw [List.getElem?_eq_none (by rw [List.length_set]; omega)] at h2; cases h2
    rw [get_set_ne n1] at h1 h3
    rw [get_set_ne n2] at h2 h4
    exact F.inj j k w w' a h1 h2 h3 h4
def put (O : OM) (p : Addr) (w : Ow) : OM := fun a => if a = p then some w else O a
theorem put_same {O : OM} {p : Addr} {w : Ow} : put O p w p = some w := by unfold put; rw [if_pos rfl]
theorem put_ne {O : OM} {p a : Addr} {w : Ow} (h : a ≠ p) : put O p w a = O a := by unfold put; rw [if_neg h]
theorem AO.put {c : FC} {O : OM} {p a : Addr} {w : Ow} (h : AO c (put O p w) a) : AO c O a ∧ a ≠ p := by
  have n : a ≠ p := fun e => by
    have := h.2
    rw [e, put_same] at this; cases this
  exact ⟨⟨h.1, by have := h.2; rw [put_ne n] at this; exact this⟩, n⟩
theorem AO.to_put {c : FC} {O : OM} {p a : Addr} {w : Ow} (h : AO c O a) (n : a ≠ p) : AO c (SD.put O p w) a := ⟨h.1, by rw [put_ne n]; exact h.2⟩
theorem OwnRep.mv {H H' : Hp} {A A' : Addr → Prop} {bg : BG} {a : Addr} (k : H' a = H a) (kl : ∀ a xs, A a → H a = some (.lst xs) → H' a = some (.lst xs) ∧ A' a) (kt : ∀ a xs, H a = some (.tup xs) → H' a = some (.tup xs)) : ∀ {w : Ow}, OwnRep H A bg a w → OwnRep H' A' bg a w
  | .l l, ⟨z, xs, h, r⟩ => ⟨z, xs, k.trans h, Reps.mv kl kt _ _ r⟩
  | .dK l, ⟨xs, h, e, r⟩ => ⟨xs, k.trans h, e, Reps.mv kl kt _ _ r⟩
  | .dT l, ⟨xs, h, e, r⟩ => ⟨xs, k.trans h, e, Reps.mv kl kt _ _ r⟩
  | .hid m, ⟨xs, h⟩ => ⟨xs, k.trans h⟩
/-- a new object of one's own, that no name holds yet; all that stood stands -/
theorem FI.tmp {c : FC} {O : OM} {e : EnvD} {σ : L2.St} {H H' : Hp} {p : Addr} {w : Ow} (F : FI c O e σ H) (hp : H p = none) (g : Grow c.bg H H') (r : OwnRep H' (AO c (put O p w)) c.bg p w) : FI c (put O p w) e σ H' := by
  have fr := F.hf.fresh p hp
  have kl : ∀ a xs, AO c O a → H a = some (.lst xs) → H' a = some (.lst xs) ∧ AO c (put O p w) a := fun a xs ha h => ⟨g.keep _ _ h ha.1.2, ha.to_put (ne_of_none h hp)⟩
  have kt : ∀ a xs, H a = some (.tup xs) → H' a = some (.tup xs) := fun a xs h => g.keep _ _ h (bag_ne_tup F.bag h)
  refine ⟨F.len, F.bag0, g.bag F.bag, F.grow.trans g, fun a u h => ?_, fun i s h => ?_, F.inj⟩
  · by_cases q : a = p
    · subst q
      rw [put_same] at h; cases h
      exact ⟨F.grow.none F.bag0 hp, fr.1.2, r⟩
    · rw [put_ne q] at h
      obtain ⟨h1, h2, h3⟩ := F.own a u h
      obtain ⟨o, h4, _⟩ := h3.at_
      exact ⟨h1, h2, h3.mv ((g.keep _ _ h4 h2).trans h4.symm) kl kt⟩
  · have z := F.slot i s h
    cases s with
    | un => trivial
    | val d => obtain ⟨u, h1, h2⟩ := z; exact ⟨u, h1, Rep.mv kl kt _ _ h2⟩
    | own w' =>
      obtain ⟨u, h1, h2⟩ := z
      refine ⟨u, h1, ?_⟩
      obtain ⟨_, _, h3⟩ := F.own u w' h2
      obtain ⟨o, h4, _⟩ := h3.at_
      rw [put_ne (ne_of_none h4 hp)]; exact h2
/-- .. and a name holds it -/
theorem FI.setO {c : FC} {O : OM} {e : EnvD} {σ : L2.St} {H H' : Hp} {p : Addr} {w : Ow} (F : FI c O e σ H) (hp : H p = none) (g : Grow c.bg H H') (r : OwnRep H' (AO c (put O p w)) c.bg p w) (i : Nat) :
    FI c (put O p w) (e.set i (.own w)) (σ.set i (some (V.ref p))) H' := by
  have G := F.tmp hp g r
  have noP : ∀ j u, e[j]? = some (Slot.own u) → σ[j]? = some (some (V.ref p)) → False := fun j u h1 h2 => by
    obtain ⟨a, h3, h4⟩ := F.slot j _ h1
    rw [h2] at h3
    cases h3
    obtain ⟨_, _, h5⟩ := F.own p u h4
    obtain ⟨o, h6, _⟩ := h5.at_
    rw [hp] at h6; cases h6
  refine ⟨by rw [List.length_set, List.length_set]; exact G.len, G.bag0, G.bag, G.grow, G.own, fun j s h => ?_, fun j k u u' a h1 h2 h3 h4 => ?_⟩
  · by_cases q : i = j
    · subst q
      by_cases hi : i < e.length
      · rw [List.getElem?_set_self hi] at h
        cases h
        exact ⟨p, by rw [List.getElem?_set_self (by rw [← F.len]; exact hi)], put_same⟩
      · rw [List.getElem?_eq_none (by rw [List.length_set]; omega)] at h; cases h
    · rw [get_set_ne q] at h
      have z := G.slot j s h
      cases s with
      | un => trivial
      | val d => obtain ⟨u, h1, h2⟩ := z; exact ⟨u, by rw [get_set_ne q]; exact h1, h2⟩
      | own w => obtain ⟨u, h1, h2⟩ := z; exact ⟨u, by rw [get_set_ne q]; exact h1, h2⟩
  · by_cases n1 : i = j
    · by_cases n2 : i = k
      · exact n1.symm.trans n2
      · subst n1
        have hi : i < e.length := by
          rcases Nat.lt_or_ge i e.length with z | z
          · exact z
          · rw [List.getElem?_eq_none (by rw [List.length_set]; omega)] at h1; cases h1
        rw [List.getElem?_set_self (by rw [← F.len]; exact hi)] at h3
        cases h3
        rw [get_set_ne n2] at h2 h4
        exact (noP k u' h2 h4).elim
    · rw [get_set_ne n1] at h1 h3
      by_cases n2 : i = k
      · subst n2
        have hi : i < e.length := by
          rcases Nat.lt_or_ge i e.length with z | z
          · exact z
          · rw [List.getElem?_eq_none (by rw [List.length_set]; omega)] at h2; cases h2
        rw [List.getElem?_set_self (by rw [← F.len]; exact hi)] at h4
        cases h4
        exact (noP j u h1 h3).elim
      · rw [get_set_ne n2] at h2 h4
        exact F.inj j k u u' a h1 h2 h3 h4
/-- an object of one's own is changed -/
theorem FI.chg {c : FC} {O : OM} {e : EnvD} {σ : L2.St} {H H' : Hp} {i : Nat} {p : Addr} {w w' : Ow} (F : FI c O e σ H) (hi : e[i]? = some (.own w)) (hs : σ[i]? = some (some (V.ref p))) (k : ∀ b, b ≠ p → H' b = H b)
    (r : OwnRep H' (AO c (put O p w')) c.bg p w') : FI c (put O p w') (e.set i (.own w')) σ H' ∧ Stp c O H (put O p w') H' := by
  obtain ⟨p', h1, h2⟩ := F.slot i _ hi
  rw [hs] at h1
  cases h1
  obtain ⟨q1, q2, q3⟩ := F.own p w h2
  obtain ⟨o, q4, q5, q6⟩ := q3.at_
  have kk : ∀ a u, H a = some u → a ≠ p → H' a = some u := fun a u h n => (k a n).trans h
  have kl : ∀ a xs, AO c O a → H a = some (.lst xs) → H' a = some (.lst xs) ∧ AO c (put O p w') a := fun a xs ha h => by
    have n : a ≠ p := fun z => by
      have := ha.2
      rw [z, h2] at this; cases this
    exact ⟨kk _ _ h n, ha.to_put n⟩
  have kt : ∀ a xs, H a = some (.tup xs) → H' a = some (.tup xs) := fun a xs h => kk _ _ h fun z => by
    rw [z, q4] at h; cases h; exact q5 _ rfl
  have bagk : BagOk c.bg H → BagOk c.bg H' := fun ok b l hb => by
    obtain ⟨n, ns, h3, h4, h5, h6⟩ := ok b l hb
    obtain ⟨_, _, _, _, h50, _⟩ := F.bag0 b l hb
    have nb : b ≠ p := fun z => q2 l (by rw [hb, z])
    have nl : l ≠ p := fun z => by rw [z, q1] at h50; cases h50
    exact ⟨n, ns, kk _ _ h3 nb, h4, kk _ _ h5 nl, h6⟩
  refine ⟨⟨by rw [List.length_set]; exact F.len, F.bag0, bagk F.bag, ⟨fun a o h n => ?_, fun ok => bagk F.bag⟩, fun a u h => ?_, fun j s h => ?_, fun j k' u u' a h1 h2 h3 h4 => ?_⟩, ⟨fun a o h n z => ?_, bagk⟩⟩
  · exact kk a o (F.grow.keep a o h n) fun z => by rw [z, q1] at h; cases h
  · by_cases q : a = p
    · subst q
      rw [put_same] at h; cases h
      exact ⟨q1, q2, r⟩
    · rw [put_ne q] at h
      obtain ⟨h3, h4, h5⟩ := F.own a u h
      exact ⟨h3, h4, h5.mv (k a q) kl kt⟩
  · by_cases q : i = j
    · subst q
      have hi' : i < e.length := by
        rcases Nat.lt_or_ge i e.length with z | z
        · exact z
        · rw [List.getElem?_eq_none z] at hi; cases hi
      rw [List.getElem?_set_self hi'] at h
      cases h
      exact ⟨p, hs, put_same⟩
    · rw [get_set_ne q] at h
      have z := F.slot j s h
      cases s with
      | un => trivial
      | val d => obtain ⟨u, h3, h4⟩ := z; exact ⟨u, h3, Rep.mv kl kt _ _ h4⟩
      | own u =>
        obtain ⟨a, h3, h4⟩ := z
        have n : a ≠ p := fun z => by
          subst z
          exact q (F.inj i j w u a hi h hs h3)
        exact ⟨a, h3, by rw [put_ne n]; exact h4⟩
  · have find : ∀ m (u : Ow), (e.set i (Slot.own w'))[m]? = some (Slot.own u) → ∃ u', e[m]? = some (Slot.own u') := fun m u hm => by
      by_cases q : i = m
      · subst q; exact ⟨w, hi⟩
      · rw [get_set_ne q] at hm; exact ⟨u, hm⟩
    obtain ⟨v1, z1⟩ := find j u h1
    obtain ⟨v2, z2⟩ := find k' u' h2
    exact F.inj j k' v1 v2 a z1 z2 h3 h4
  · have np : a ≠ p := fun q => by rw [q, h2] at z; cases z
    exact ⟨kk a o h np, by rw [put_ne np]; exact z⟩
end SD

namespace SD
open L2 PyProof.Rows PySem PySem.Spec
/-! ### targets -/
inductive Pat where
  | nm (i : Nat) | tp (l : List Pat)
mutual
def bindP : Pat → D → EnvD → Option EnvD
  | .nm i, d, e => some (e.set i (.val d))
  | .tp ps, .tup l, e => bindPs ps l e
  | .tp _, _, _ => none
def bindPs : List Pat → List D → EnvD → Option EnvD
  | [], [], e => some e
  | p :: ps, d :: ds, e => (match bindP p d e with
    | some e' => bindPs ps ds e'
    | none => none)
  | _, _, _ => none
end
mutual
def Pat.slots : Pat → List Nat
  | .nm i => [i]
  | .tp l => Pat.slotss l
def Pat.slotss : List Pat → List Nat
  | [] => []
  | p :: ps => p.slots ++ Pat.slotss ps
end
def tG (c : FC) (p : Pat) : TG := fun v σ H Q => ∃ O e d e', FI c O e σ H ∧ Rep H (AO c O) c.bg d v ∧ bindP p d e = some e' ∧ ∀ σ', FI c O e' σ' H → (∀ vs : List Nat, (∀ i ∈ p.slots, i ∈ vs) → wipe σ' vs = wipe σ vs) → Q σ' H
def tGs (c : FC) (ps : List Pat) : TGs := fun vs σ H Q => ∃ O e ds e', FI c O e σ H ∧ Reps H (AO c O) c.bg ds vs ∧ bindPs ps ds e = some e' ∧ ∀ σ', FI c O e' σ' H → (∀ ws : List Nat, (∀ i ∈ Pat.slotss ps, i ∈ ws) → wipe σ' ws = wipe σ ws) → Q σ' H
abbrev DG (X : Cx) (c : FC) (tg : Expr) (p : Pat) : Prop := PG X tg (tG c p)
abbrev DGs (X : Cx) (c : FC) (ts : List Expr) (ps : List Pat) : Prop := PGs X ts (tGs c ps)
theorem _root_.L2.PG.of {X : Cx} {e : Expr} {t u : TG} (h : PG X e t) (k : ∀ v σ H Q, u v σ H Q → t v σ H Q) : PG X e u := ⟨fun p s σ H v u Q I r w => h.run p s σ H v u Q I r (k v σ H Q w)⟩
theorem _root_.L2.PGs.of {X : Cx} {e : List Expr} {t u : TGs} (h : PGs X e t) (k : ∀ v σ H Q, u v σ H Q → t v σ H Q) : PGs X e u := ⟨fun p s σ H v u Q I r w => h.run p s σ H v u Q I r (k v σ H Q w)⟩
theorem wipe_get (σ : L2.St) : ∀ (vs : List Nat) (j : Nat), (wipe σ vs)[j]? = if j ∈ vs ∧ j < σ.length then some none else σ[j]?
  | [], j => by simp [wipe]
  | v :: vs, j => by
    unfold wipe
    have l := wipe_length σ vs
    by_cases h : v = j
    · subst h
      by_cases hl : v < σ.length
      · rw [List.getElem?_set_self (by rw [l]; exact hl), if_pos ⟨by simp, hl⟩]
      · rw [List.getElem?_eq_none (by rw [List.length_set, l]; omega), if_neg (fun q => hl q.2), List.getElem?_eq_none (by omega)]
    · rw [List.getElem?_set_ne h, wipe_get σ vs j]
      have : (j ∈ v :: vs) ↔ j ∈ vs := by simp [Ne.symm h]
      simp only [this]
theorem wipe_set (σ : L2.St) {vs : List Nat} {i : Nat} (h : i ∈ vs) (x : Option V) : wipe (σ.set i x) vs = wipe σ vs := by
  apply List.ext_getElem?
  intro j
  rw [wipe_get, wipe_get, List.length_set]
  by_cases q : j ∈ vs ∧ j < σ.length
  · rw [if_pos q, if_pos q]
  · rw [if_neg q, if_neg q]
    by_cases z : i = j
    · subst z
      have : ¬ i < σ.length := fun y => q ⟨h, y⟩
      rw [List.getElem?_eq_none (by rw [List.length_set]; omega), List.getElem?_eq_none (by omega)]
    · rw [List.getElem?_set_ne z]
theorem wipe_wipe (σ : L2.St) (vs : List Nat) : wipe (wipe σ vs) vs = wipe σ vs := by
  apply List.ext_getElem?
  intro j
  rw [wipe_get, wipe_length]
  by_cases q : j ∈ vs ∧ j < σ.length
  · rw [if_pos q, wipe_get, if_pos q]
  · rw [if_neg q]
section
variable {X : Cx} {c : FC} {pos : Pos}
theorem dg_name {i : Nat} {x : Str} (hN : X.N.Nodup) (hi : X.N[i]? = some x) (hx : Loc X.env.scope x) (hf : X.fn x = true ∨ X.env.scope.names.lookup x = some .local := by first | exact .inl rfl | exact .inr rfl | assumption) : DG X c (.Name x pos) (.nm i) :=
  (pg_name hN hi hx hf).of fun v σ H Q ⟨O, e, d, e', F, r, hb, k⟩ => by
    simp only [bindP, Option.some.injEq] at hb
    subst hb
    exact k _ (F.setV r i) fun vs h => wipe_set σ (h i (by simp [Pat.slots])) _
theorem dgs_nil : DGs X c [] [] := pgs_nil.of fun v σ H Q ⟨O, e, ds, e', F, r, hb, k⟩ => by
  cases ds with
  | nil =>
    simp only [bindPs, Option.some.injEq] at hb
    subst hb
    exact ⟨r.nil_inv, k _ F fun _ _ => rfl⟩
  | cons d ds => simp [bindPs] at hb
theorem dgs_cons {a : Expr} {es : List Expr} {p : Pat} {ps : List Pat} (h1 : DG X c a p) (h2 : DGs X c es ps) (hs : (assignEach (a :: es) X.env).map (·.2) = assign a X.env :: (assignEach es X.env).map (·.2) := by rfl) : DGs X c (a :: es) (p :: ps) :=
  (pgs_cons h1 h2 hs).of fun v σ H Q ⟨O, e, ds, e', F, r, hb, k⟩ => by
    cases ds with
    | nil => simp [bindPs] at hb
    | cons d ds =>
      obtain ⟨u, us, rfl, r1, r2⟩ := r.cons_inv
      simp only [bindPs] at hb
      split at hb
      · rename_i e1 h1
        refine ⟨u, us, rfl, O, e, d, e1, F, r1, h1, fun σ1 F1 w1 => ⟨O, e1, ds, e', F1, r2, hb, fun σ2 F2 w2 => k σ2 F2 fun vs hv => ?_⟩⟩
        rw [w2 vs fun i hi => hv i (by simp [Pat.slotss, hi]), w1 vs fun i hi => hv i (by simp [Pat.slotss, hi])]
      · cases hb
theorem dg_tup {es : List Expr} {k : Nat} {ps : List Pat} {n : Nat} (hc : X.calm = true) (h : DGs X c es ps) (hn : (assignEach es X.env).length = n := by rfl) (hst : (assignEach es X.env).findIdx? (·.1) = none := by rfl) (hl : ps.length = n := by rfl) : DG X c (.Tuple es k pos) (.tp ps) :=
  (pg_tup hc h hn hst).of fun v σ H Q ⟨O, e, d, e', F, r, hb, k⟩ => by
    cases d with
    | tup l =>
      simp only [bindP] at hb
      obtain ⟨a, xs, rfl, h1, z, rs⟩ := Rep.tup_iff.mp r
      have len : ∀ (ps : List Pat) (l : List D) (e e' : EnvD), bindPs ps l e = some e' → l.length = ps.length := by
        intro ps
        induction ps with
        | nil =>
          intro l e e' h
          cases l with
          | nil => rfl
          | cons _ _ => simp [bindPs] at h
        | cons p ps ih =>
          intro l e e' h
          cases l with
          | nil => simp [bindPs] at h
          | cons d l =>
            simp only [bindPs] at h
            split at h
            · rw [List.length_cons, List.length_cons, ih l _ _ h]
            · cases h
      refine ⟨a, xs, rfl, SqT.of h1, by rw [rs.length, len _ _ _ _ hb, hl], O, e, l, e', F, rs, hb, fun σ' F' w => k σ' F' fun vs hv => w vs fun i hi => hv i (by simpa [Pat.slots] using hi)⟩
    | _ => simp [bindP] at hb
end

/-! ### what is walked -/
structure WalkD (c : FC) (O : OM) (H0 : Hp) (J : It) (ds : List D) : Prop where
  len : ds.length ≤ sizeLine
  go : ∀ (i : Nat) (O' : OM) (H : Hp), i < ds.length → Stp c O H0 O' H → J.go i H
  stop : ∀ (O' : OM) (H : Hp), Stp c O H0 O' H → J.stop ds.length H
  yld : ∀ (i : Nat) (O' : OM) (H H' : Hp) (x : V) (d : D), ds[i]? = some d → Stp c O H0 O' H → BagOk c.bg H → J.yld i H x H' → Grow c.bg H H' ∧ Rep H' (AO c O') c.bg d x
abbrev ID := EnvD → (List D → Prop) → Prop
def tI (c : FC) (t : ID) : TI := fun σ H R => ∃ O e R', FI c O e σ H ∧ t e R' ∧ ∀ ds J H', Grow c.bg H H' → WalkD c O H' J ds → R' ds → R J H'
abbrev DI (X : Cx) (c : FC) (tg iter : Expr) (t : ID) : Prop := PI X tg iter (tI c t)
theorem _root_.L2.PI.of {X : Cx} {tg e : Expr} {t u : TI} (h : PI X tg e t) (k : ∀ σ H Q, u σ H Q → t σ H Q) : PI X tg e u := ⟨fun p s σ H Q I w => h.run p s σ H Q I (k σ H Q w)⟩
section
variable {X : Cx} {c : FC} {pos p : Pos} {tg e : Expr} {es : List Expr} {t : ED} {u : AD}
theorem stp_tup {c : FC} {O O' : OM} {en : EnvD} {σ : L2.St} {H H' : Hp} (F : FI c O en σ H) (g : Stp c O H O' H') {a : Addr} {xs : List V} (h : H a = some (.tup xs)) : H' a = some (.tup xs) := (g.keep _ _ h (bag_ne_tup F.bag h) (F.tupO _ _ h)).1
/-- a list -/
def iLst (t : ED) : ID := fun e R => t e fun d => match d with
  | .lst l => R l
  | _ => False
def iTupD (t : ED) : ID := fun e R => t e fun d => match d with
  | .tup l => R l
  | _ => False
theorem di_list (h : DE X c e t) : DI X c tg e (iLst t) := (pi_list h).of fun σ H Q ⟨O, en, R, F, h, k⟩ => by
  refine ⟨O, en, _, F, h, fun d v H1 g r hd => ?_⟩
  split at hd
  · rename_i l
    obtain ⟨a, xs, rfl, ha, h1, z, rs⟩ := Rep.lst_iff.mp r
    have F1 := F.up g
    have at_ : ∀ O' H2, Stp c O H1 O' H2 → H2 a = some (.lst xs) := fun O' H2 s => (s.keep _ _ h1 ha.1.2 ha.2).1
    refine ⟨a, rfl, ⟨xs, SqL.of h1⟩, k l _ H1 g ⟨z, fun i O' H2 hi s => ?_, fun O' H2 s => ⟨xs, SqL.of (at_ _ _ s), by rw [rs.length]; exact Nat.le_refl _⟩, fun i O' H2 H3 x d hd s ok y => ?_⟩ hd⟩
    · obtain ⟨v, hv, _⟩ := rs.get (List.getElem?_eq_getElem hi)
      exact ⟨xs, v, SqL.of (at_ _ _ s), hv⟩
    · obtain ⟨rfl, y⟩ := y
      obtain ⟨v, hv, rv⟩ := rs.get hd
      have e1 := y xs (SqL.of (at_ _ _ s))
      rw [hv] at e1
      cases e1
      exact ⟨.refl _ _, Rep.stp F1.bag s F1.tupO _ _ rv⟩
  · exact hd.elim
theorem di_tup (h : DE X c e t) : DI X c tg e (iTupD t) := (pi_tup h).of fun σ H Q ⟨O, en, R, F, h, k⟩ => by
  refine ⟨O, en, _, F, h, fun d v H1 g r hd => ?_⟩
  split at hd
  · rename_i l
    obtain ⟨a, xs, rfl, h1, z, rs⟩ := Rep.tup_iff.mp r
    have F1 := F.up g
    have at_ : ∀ O' H2, Stp c O H1 O' H2 → H2 a = some (.tup xs) := fun O' H2 s => stp_tup F1 s h1
    refine ⟨a, rfl, ⟨xs, SqT.of h1⟩, k l _ H1 g ⟨z, fun i O' H2 hi s => ?_, fun O' H2 s => ⟨xs, SqT.of (at_ _ _ s), by rw [rs.length]; exact Nat.le_refl _⟩, fun i O' H2 H3 x d hd s ok y => ?_⟩ hd⟩
    · obtain ⟨v, hv, _⟩ := rs.get (List.getElem?_eq_getElem hi)
      exact ⟨xs, v, SqT.of (at_ _ _ s), hv⟩
    · obtain ⟨rfl, y⟩ := y
      obtain ⟨v, hv, rv⟩ := rs.get hd
      have e1 := y xs (SqT.of (at_ _ _ s))
      rw [hv] at e1
      cases e1
      exact ⟨.refl _ _, Rep.stp F1.bag s F1.tupO _ _ rv⟩
  · exact hd.elim
/-- range -/
def rgD (a b : Int) : List D := (List.range (b - a).toNat).map fun i => D.int (a + (i : Nat))
def iRg1 (u : AD) : ID := fun e R => u e fun ds => match ds with
  | [.int j] => j ≤ 16777216 ∧ -16777216 ≤ j ∧ R (rgD 0 j)
  | _ => False
def iRg2 (u : AD) : ID := fun e R => u e fun ds => match ds with
  | [.int i, .int j] => (-16777216 ≤ i ∧ i ≤ 16777216 ∧ -16777216 ≤ j ∧ j ≤ 16777216 ∧ j - i ≤ 16777216) ∧ R (rgD i j)
  | _ => False
theorem rgD_length (a b : Int) : (rgD a b).length = (b - a).toNat := by unfold rgD; simp
theorem walk_rg {c : FC} {O : OM} {H : Hp} {a b : Int} (h : (b - a).toNat ≤ sizeLine) : WalkD c O H (Itr a (b - a).toNat) (rgD a b) where
  len := by rw [rgD_length]; exact h
  go := fun i O' H' hi _ => by rw [rgD_length] at hi; exact hi
  stop := fun O' H' _ => by rw [rgD_length]; exact Nat.le_refl _
  yld := fun i O' H1 H2 x d hd _ _ y => by
    obtain ⟨rfl, rfl⟩ := y
    refine ⟨.refl _ _, ?_⟩
    unfold rgD at hd
    rw [List.getElem?_map] at hd
    have hi : i < (b - a).toNat := by
      rcases Nat.lt_or_ge i (b - a).toNat with z | z
      · exact z
      · rw [List.getElem?_eq_none (by simpa using z)] at hd; cases hd
    rw [List.getElem?_range hi] at hd
    cases hd
    exact Rep.int_iff.mpr rfl
theorem di_range1 {a : Expr} (hg : Gl X "range") (hm : X.mg "range" = none) (ha : DA X c [a] u) (hs : starEach [a] X.env = [(false, eval a X.env)] := by rfl) : DI X c tg (.Call (.Name "range" p) [a] [] pos) (iRg1 u) := (pi_range1 hg hm ha hs).of fun σ H Q ⟨O, en, R, F, h, k⟩ => by
  refine ⟨O, en, _, F, h, fun ds vs H1 g r hd => ?_⟩
  split at hd
  · rename_i j
    obtain ⟨v, vr, rfl, r1, r2⟩ := r.cons_inv
    rw [r2.nil_inv, Rep.int_iff.mp r1]
    obtain ⟨h1, h2, h3⟩ := hd
    refine ⟨j, rfl, by omega, by omega, ?_⟩
    have e : j.toNat = (j - 0).toNat := by omega
    rw [e]
    exact k _ _ H1 g (walk_rg (by rw [sizeLine_eq]; omega)) h3
  · exact hd.elim
theorem di_range2 {a b : Expr} (hg : Gl X "range") (hm : X.mg "range" = none) (ha : DA X c [a, b] u) (hs : starEach [a, b] X.env = [(false, eval a X.env), (false, eval b X.env)] := by rfl) (hs2 : starEach [b] X.env = [(false, eval b X.env)] := by rfl) :
    DI X c tg (.Call (.Name "range" p) [a, b] [] pos) (iRg2 u) := (pi_range2 hg hm ha hs hs2).of fun σ H Q ⟨O, en, R, F, h, k⟩ => by
  refine ⟨O, en, _, F, h, fun ds vs H1 g r hd => ?_⟩
  split at hd
  · rename_i i j
    obtain ⟨v, vr, rfl, r1, r2⟩ := r.cons_inv
    obtain ⟨v2, vr2, rfl, r3, r4⟩ := r2.cons_inv
    rw [r4.nil_inv, Rep.int_iff.mp r1, Rep.int_iff.mp r3]
    obtain ⟨⟨h1, h2, h3, h4, h5⟩, h6⟩ := hd
    exact ⟨i, j, rfl, ⟨by omega, by omega, by omega, by omega⟩, k _ _ H1 g (walk_rg (by rw [sizeLine_eq]; omega)) h6⟩
  · exact hd.elim
end

/-! ### comprehensions -/
def wipeD (e : EnvD) : List Nat → EnvD
  | [] => e
  | v :: vs => (wipeD e vs).set v .un
theorem FI.unset {c : FC} {O : OM} {e : EnvD} {σ : L2.St} {H : Hp} (F : FI c O e σ H) (i : Nat) (x : Option V) : FI c O (e.set i .un) (σ.set i x) H where
  len := by rw [List.length_set, List.length_set]; exact F.len
  bag0 := F.bag0
  bag := F.bag
  grow := F.grow
  own := F.own
  slot := fun j s h => by
    by_cases q : i = j
    · subst q
      by_cases hi : i < e.length
      · rw [List.getElem?_set_self hi] at h
        cases h
        trivial
      · rw [List.getElem?_eq_none (by rw [List.length_set]; omega)] at h; cases h
    · rw [get_set_ne q] at h
      have z := F.slot j s h
      cases s with
      | un => trivial
      | val d => obtain ⟨u, h1, h2⟩ := z; exact ⟨u, by rw [get_set_ne q]; exact h1, h2⟩
      | own w => obtain ⟨u, h1, h2⟩ := z; exact ⟨u, by rw [get_set_ne q]; exact h1, h2⟩
  inj := fun j k w w' a h1 h2 h3 h4 => by
    have n1 : i ≠ j := fun q => by
      subst q
      by_cases hi : i < e.length
      · rw [List.getElem?_set_self hi] at h1; cases h1
      · rw [List.getElem?_eq_none (by rw [List.length_set]; omega)] at h1; cases h1
    have n2 : i ≠ k := fun q => by
      subst q
      by_cases hi : i < e.length
      · rw [List.getElem?_set_self hi] at h2; cases h2
      · rw [List.getElem?_eq_none (by rw [List.length_set]; omega)] at h2; cases h2
    rw [get_set_ne n1] at h1 h3
    rw [get_set_ne n2] at h2 h4
    exact F.inj j k w w' a h1 h2 h3 h4
theorem FI.wiped {c : FC} {O : OM} {e : EnvD} {σ : L2.St} {H : Hp} (F : FI c O e σ H) : ∀ vs : List Nat, FI c O (wipeD e vs) (wipe σ vs) H
  | [] => F
  | v :: vs => (FI.wiped F vs).unset v none
def lcGo (p : Pat) (tt : BD) (te : ED) (e : EnvD) : List D → List D → (List D → Prop) → Prop
  | [], acc, R => R acc
  | d :: ds, acc, R => match bindP p d e with
    | none => False
    | some e2 => tt e2 fun b => if b = true then te e2 fun y => lcGo p tt te e ds (acc ++ [y]) R else lcGo p tt te e ds acc R
def bYes : BD := fun _ R => R true
def sLC (ti : ID) (p : Pat) (tt : BD) (te : ED) (vs : List Nat) : ED := fun e R => ti e fun ds => lcGo p tt te (wipeD e vs) ds [] fun acc => R (.lst acc)
abbrev DTs (X : Cx) (c : FC) (es : List Expr) (t : BD) : Prop := PTs X es (tT c t)
theorem _root_.L2.PTs.of {X : Cx} {e : List Expr} {t u : TT} (h : PTs X e t) (k : ∀ σ H Q, u σ H Q → t σ H Q) : PTs X e u := ⟨fun p s σ H Q I w => h.run p s σ H Q I (k σ H Q w)⟩
theorem dts_nil {X : Cx} {c : FC} : DTs X c [] bYes := pts_nil.of fun σ H Q ⟨O, en, R, F, h, k⟩ => k true H (.refl _ _) h
theorem dts_one {X : Cx} {c : FC} {e : Expr} {t : BD} (h : DT X c e t) : DTs X c [e] t := pts_one h
theorem stp_put {c : FC} {O : OM} {H H' : Hp} {D : Addr} {w : Ow} (hD : H D = none) (g : Grow c.bg H H') : Stp c O H (put O D w) H' :=
  ⟨fun a o h n z => ⟨g.keep a o h n, by rw [put_ne (ne_of_none h hD)]; exact z⟩, g.bag⟩
section
variable {X : Cx} {c : FC}
theorem tLc_of {ti : ID} {p : Pat} {tt : BD} {te : ED} {vs : List Nat} (hp : ∀ i ∈ p.slots, i ∈ vs) {σ : L2.St} {H : Hp} {Q : VK} (h : tE c (sLC ti p tt te vs) σ H Q) :
    tLc (tI c ti) (tG c p) (tT c tt) (tE c te) vs σ H Q := by
  obtain ⟨O, e, R, F, h, k⟩ := h
  refine ⟨O, e, _, F, h, fun ds J H1 g1 wd hds D hD => ?_⟩
  have F1 := F.up g1
  have frD := F1.hf.fresh D hD
  refine ⟨fun i m H2 => ∃ acc, m = ds.length - i ∧ i ≤ ds.length ∧ acc.length ≤ i ∧ Grow c.bg H1 H2 ∧ OwnRep H2 (AO c (put O D (.l acc))) c.bg D (.l acc) ∧ lcGo p tt te (wipeD e vs) (ds.drop i) acc (fun acc => R (.lst acc)),
    ⟨ds.length, [], by simp, Nat.zero_le _, Nat.le_refl _, .new hD, ⟨Nat.zero_le _, [], upd_same, .nil⟩, hds⟩, ?_⟩
  rintro i m H2 ⟨acc, rfl, hi, ha, g2, ow, hg⟩
  have F2 := F1.tmp hD g2 ow
  have S2 : Stp c O H1 (put O D (.l acc)) H2 := stp_put hD g2
  by_cases hlt : i < ds.length
  · refine .inr ⟨wd.go i _ H2 hlt S2, fun H3 => ∃ m', m' < ds.length - i ∧ ∃ acc, m' = ds.length - (i + 1) ∧ i + 1 ≤ ds.length ∧ acc.length ≤ i + 1 ∧ Grow c.bg H1 H3 ∧ OwnRep H3 (AO c (put O D (.l acc))) c.bg D (.l acc) ∧ lcGo p tt te (wipeD e vs) (ds.drop (i + 1)) acc (fun acc => R (.lst acc)), fun H3 h3 => h3, fun x H3 y => ?_⟩
    have hdi : ds[i]? = some ds[i] := List.getElem?_eq_getElem hlt
    obtain ⟨g3, r3⟩ := wd.yld i _ H2 H3 x _ hdi S2 F2.bag y
    have F3 := (F2.up g3).wiped vs
    rw [List.drop_eq_getElem_cons hlt] at hg
    unfold lcGo at hg
    split at hg
    · exact hg.elim
    · rename_i e2 hb
      refine ⟨_, wipeD e vs, _, e2, F3, r3, hb, fun σ2 F4 hw => ⟨by rw [hw vs hp, wipe_wipe], _, e2, _, F4, hg, fun b H4 g4 hb4 => ?_⟩⟩
      have G4 : Grow c.bg H1 H4 := (g2.trans g3).trans g4
      cases b with
      | false =>
        rw [if_neg Bool.false_ne_true] at hb4
        refine iteF ?_
        exact ⟨_, by omega, acc, rfl, hlt, by omega, G4, ow.grow F2.bag (g3.trans g4) AO.bag (fun _ h => h) frD.1.2, hb4⟩
      | true =>
        rw [if_pos rfl] at hb4
        refine iteT ?_
        refine ⟨_, e2, _, F4.up g4, hb4, fun y v H5 g5 r5 hy => ?_⟩
        have ow5 := ow.grow F2.bag ((g3.trans g4).trans g5) AO.bag (fun _ h => h) frD.1.2
        obtain ⟨z5, xs, h5, rs⟩ := ow5
        refine ⟨xs, h5, by rw [rs.length]; exact Nat.lt_of_le_of_lt ha (Nat.lt_of_lt_of_le hlt wd.len), _, by omega, acc ++ [y], rfl, hlt, by rw [List.length_append, List.length_singleton]; omega, ?_, ?_, hy⟩
        · have G5 := G4.trans g5
          refine ⟨fun a o h n => ?_, fun ok b l hb => ?_⟩
          · rw [upd_ne (ne_of_none h hD)]; exact G5.keep a o h n
          · obtain ⟨q1, q2, q3, q4, q5, q6⟩ := G5.bag ok b l hb
            obtain ⟨_, _, q30, _, q50, _⟩ := F1.bag b l hb
            exact ⟨q1, q2, by rw [upd_ne (ne_of_none q30 hD)]; exact q3, q4, by rw [upd_ne (ne_of_none q50 hD)]; exact q5, q6⟩
        · have kl : ∀ a xs', AO c (put O D (.l acc)) a → H5 a = some (.lst xs') → upd H5 D (.lst (xs ++ [v])) a = some (.lst xs') ∧ AO c (put O D (.l (acc ++ [y]))) a := fun a xs' ha h => by
            obtain ⟨q1, q2⟩ := ha.put
            exact ⟨by rw [upd_ne q2]; exact h, q1.to_put q2⟩
          have kt : ∀ a xs', H5 a = some (.tup xs') → upd H5 D (.lst (xs ++ [v])) a = some (.tup xs') := fun a xs' h => by
            rw [upd_ne (fun z => by rw [z, h5] at h; cases h)]; exact h
          exact ⟨by rw [List.length_append, List.length_singleton]; exact Nat.le_trans (by omega) (Nat.le_trans hlt wd.len), xs ++ [v], upd_same, (Reps.mv kl kt _ _ rs).append (.cons (Rep.mv kl kt _ _ r5) .nil)⟩
  · have ei : i = ds.length := by omega
    subst ei
    rw [List.drop_length] at hg
    unfold lcGo at hg
    refine .inl ⟨wd.stop _ H2 S2, k (.lst acc) (.ref D) H2 (g1.trans g2) ?_ hg⟩
    obtain ⟨z, xs, h2, rs⟩ := ow
    exact Rep.lst_iff.mpr ⟨D, xs, rfl, frD, h2, z, Reps.mv (fun a xs ha h => ⟨h, ha.put.1⟩) (fun _ _ h => h) _ _ rs⟩
variable {elt tg iter : Expr} {ifs : List Expr} {scope : Scope} {own : List (Str × Nat)} {pos : Pos} {ti : ID} {p : Pat} {tt : BD} {te : ED}
theorem de_lc (hc : X.calm = true) (hN : X.N.Nodup) (hi : DI X c tg iter ti) (ok : BlkOk X.N X.env.scope scope own)
    (hg : ∀ (s : Shared) (H : Hp) (C : Addr) (cl : List (Str × Addr)) (fp : List Addr), DG (X.blk s H scope (compEnvC scope cl C X.env) fp) c tg p) (ht : ∀ (s : Shared) (H : Hp) (C : Addr) (cl : List (Str × Addr)) (fp : List Addr), DTs (X.blk s H scope (compEnvC scope cl C X.env) fp) c ifs tt)
    (he : ∀ (s : Shared) (H : Hp) (C : Addr) (cl : List (Str × Addr)) (fp : List Addr), DE (X.blk s H scope (compEnvC scope cl C X.env) fp) c elt te) (hp : ∀ i ∈ p.slots, i ∈ own.map (·.2) := by decide) (hs : ∀ x, foldedSetIterable iter X.env x = pure x := by intro _; rfl) :
    DE X c (.ListComp elt [⟨tg, iter, ifs, 0⟩] scope pos) (sLC ti p tt te (own.map (·.2))) := (pe_lc hc hN hi ok hg ht he hs).of fun σ H Q h => tLc_of hp h
end
end SD

namespace SD
open L2 PyProof.Rows PySem PySem.Spec
section
variable {X : Cx} {c : FC} {st : Stmt} {sts : List Stmt} {pos : Pos} {e a b : Expr} {t : ED} {s u : SDt} {tp : BD}
theorem SPost.step {O : OM} {H : Hp} {O1 : OM} {H1 : Hp} {E : EndsD} {Z : Ends} (k : SPost c O H E Z) (g : Stp c O H O1 H1) : SPost c O1 H1 E Z :=
  ⟨fun O' e' σ' H' F s h => k.nx O' e' σ' H' F (g.trans s) h, fun O' e' σ' H' F s h => k.bk O' e' σ' H' F (g.trans s) h, fun O' e' σ' H' F s h => k.ct O' e' σ' H' F (g.trans s) h, k.rt⟩
def zNext : SDt := fun E e => E.nx e
def zSeq (s u : SDt) : SDt := fun E e => s { E with nx := u E } e
theorem dss_nil : DSs X c [] zNext := pss_nil.of fun Z σ H ⟨O, e, E, F, h, k⟩ => k.nx O e σ H F (.refl _ _ _) h
theorem dss_cons (h1 : DS X c st s) (h2 : DSs X c sts u) : DSs X c (st :: sts) (zSeq s u) := (pss_cons h1 h2).of fun Z σ H ⟨O, e, E, F, h, k⟩ =>
  ⟨O, e, { E with nx := u E }, F, h, fun O' e' σ' H' F' g q => ⟨O', e', E, F', q, k.step g⟩, k.bk, k.ct, k.rt⟩
theorem dss_one (h1 : DS X c st s) : DSs X c [st] s := pss_one h1
def zPass : SDt := fun E e => E.nx e
def zBreak : SDt := fun E e => E.bk e
def zCont : SDt := fun E e => E.ct e
theorem ds_pass : DS X c (.Pass pos) zPass := ps_pass.of fun Z σ H ⟨O, e, E, F, h, k⟩ => k.nx O e σ H F (.refl _ _ _) h
theorem ds_break : DS X c (.Break pos) zBreak := ps_break.of fun Z σ H ⟨O, e, E, F, h, k⟩ => k.bk O e σ H F (.refl _ _ _) h
theorem ds_continue : DS X c (.Continue pos) zCont := ps_continue.of fun Z σ H ⟨O, e, E, F, h, k⟩ => k.ct O e σ H F (.refl _ _ _) h
def zNever : SDt := fun _ _ => False
theorem ds_never : DS X c st zNever := ps_never.of fun Z σ H ⟨O, e, E, F, h, k⟩ => h
theorem dss_never : DSs X c sts zNever := pss_never.of fun Z σ H ⟨O, e, E, F, h, k⟩ => h
/-- an expression alone -/
def zExpr (t : ED) : SDt := fun E e => t e fun _ => E.nx e
theorem ds_expr (h : DE X c e t) (hs : swapsWith e none pos.line X.env = pure false := by rfl) : DS X c (.Expr e pos) (zExpr t) := (ps_expr h hs).of fun Z σ H ⟨O, en, E, F, h, k⟩ =>
  ⟨O, en, _, F, h, fun d v H1 g r q => k.nx O en σ H1 (F.up g) (.grow g) q⟩
theorem Rep.out {O : OM} {H : Hp} {d : D} {v : V} (h : Rep H (AO c O) c.bg d v) : Rep H c.A1 c.bg d v := Rep.mv (fun _ _ ha h => ⟨h, ha.1⟩) (fun _ _ h => h) d v h
/-- return e -/
def zRet (t : ED) : SDt := fun E e => t e E.rt
theorem ds_ret (h : DE X c e t) : DS X c (.Return (some e) pos) (zRet t) := (ps_ret h).of fun Z σ H ⟨O, en, E, F, h, k⟩ =>
  ⟨O, en, _, F, h, fun d v H1 g r q => k.rt d v H1 (F.up g).grow (Rep.out r) q⟩
def zRetN : SDt := fun E _ => E.rt .non
theorem ds_retN : DS X c (.Return none pos) zRetN := ps_retN.of fun Z σ H ⟨O, en, E, F, h, k⟩ => k.rt .non .non H F.grow (Rep.non_iff.mpr rfl) h
/-- if -/
def zIf (tp : BD) (s u : SDt) : SDt := fun E e => tp e fun b => if b = true then s E e else u E e
theorem ds_if {p q : List Stmt} (hc : DT X c e tp) (ha : DSs X c p s) (hb : DSs X c q u) : DS X c (.If e p q pos) (zIf tp s u) := (ps_if hc ha hb).of fun Z σ H ⟨O, en, E, F, h, k⟩ => by
  refine ⟨O, en, _, F, h, fun b H1 g hb => ?_⟩
  cases b with
  | true => rw [if_pos rfl] at hb ⊢; exact ⟨O, en, E, F.up g, hb, k.step (.grow g)⟩
  | false => rw [if_neg Bool.false_ne_true] at hb ⊢; exact ⟨O, en, E, F.up g, hb, k.step (.grow g)⟩
/-- target = e -/
def zAsg (t : ED) (p : Pat) : SDt := fun E e => t e fun d => match bindP p d e with
  | some e' => E.nx e'
  | none => False
theorem tAsg_of {p : Pat} {g : TG} (hg : ∀ v σ H Q, tG c p v σ H Q → g v σ H Q) {Z : Ends} {σ : L2.St} {H : Hp} (h : tS c (zAsg t p) Z σ H) : tAsg (tE c t) g Z σ H := by
  obtain ⟨O, en, E, F, h, k⟩ := h
  refine ⟨O, en, _, F, h, fun d v H1 gr r q => hg _ _ _ _ ?_⟩
  split at q
  · rename_i e' hb
    exact ⟨O, en, d, e', F.up gr, r, hb, fun σ' F' _ => k.nx O e' σ' H1 F' (.grow gr) q⟩
  · exact q.elim
theorem ds_asg {tg : Expr} {p : Pat} (he : DE X c e t) (hg : DG X c tg p) (hs : swapsWithSole [tg] e pos.line X.env = pure false := by rfl) (hw : swappedStores [tg] e X.env = pure none := by rfl)
    (h1 : (assignEach [tg] X.env).map (·.2) = [assign tg X.env] := by rfl) : DS X c (.Assign [tg] e pos) (zAsg t p) := (ps_asg he hg hs hw h1).of fun Z σ H h => tAsg_of (fun _ _ _ _ q => q) h
theorem tG_name {i : Nat} {v : V} {σ : L2.St} {H : Hp} {Q : L2.St → Hp → Prop} (h : tG c (.nm i) v σ H Q) : gName i v σ H Q := by
  obtain ⟨O, en, d, e', F, r, hb, k⟩ := h
  simp only [bindP, Option.some.injEq] at hb
  subst hb
  exact k _ (F.setV r i) fun vs h => wipe_set σ (h i (by simp [Pat.slots])) _
theorem ds_set {i : Nat} {x : Str} {pos' : Pos} (hN : X.N.Nodup) (hi : X.N[i]? = some x) (hx : Loc X.env.scope x) (he : DE X c e t) (hs : swapsWith e (some (.Name x pos')) pos.line X.env = pure false := by rfl) (hf : X.fn x = true ∨ X.env.scope.names.lookup x = some .local := by first | exact .inl rfl | exact .inr rfl | assumption) :
    DS X c (.Assign [.Name x pos'] e pos) (zAsg t (.nm i)) := (ps_set hN hi hx he hs hf).of fun Z σ H h => tAsg_of (fun _ _ _ _ q => tG_name q) h
/-- name = [..] (a comprehension) -/
theorem ds_setLc {i : Nat} {y : Str} {py : Pos} {elt tg iter : Expr} {ifs : List Expr} {scope : Scope} {own : List (Str × Nat)} {pos spos : Pos} {ti : ID} {p : Pat} {tt : BD} {te : ED} (hc : X.calm = true) (hN : X.N.Nodup) (hy : X.N[i]? = some y) (hyl : X.env.scope.names.lookup y = some .local)
    (hsw : swapsWith (.ListComp elt [⟨tg, iter, ifs, 0⟩] scope pos) (some (.Name y py)) spos.line X.env = pure true) (hi : DI X c tg iter ti) (ok : BlkOk X.N X.env.scope scope own)
    (hg : ∀ (s : Shared) (H : Hp) (C : Addr) (cl : List (Str × Addr)) (fp : List Addr), DG (X.blk s H scope (compEnvC scope cl C X.env) fp) c tg p) (ht : ∀ (s : Shared) (H : Hp) (C : Addr) (cl : List (Str × Addr)) (fp : List Addr), DTs (X.blk s H scope (compEnvC scope cl C X.env) fp) c ifs tt)
    (he : ∀ (s : Shared) (H : Hp) (C : Addr) (cl : List (Str × Addr)) (fp : List Addr), DE (X.blk s H scope (compEnvC scope cl C X.env) fp) c elt te) (hp : ∀ i ∈ p.slots, i ∈ own.map (·.2) := by decide) (hs : ∀ x, foldedSetIterable iter X.env x = pure x := by intro _; rfl) :
    DS X c (.Assign [.Name y py] (.ListComp elt [⟨tg, iter, ifs, 0⟩] scope pos) spos) (zAsg (sLC ti p tt te (own.map (·.2))) (.nm i)) := (ps_setLc hc hN hy hyl hsw hi ok hg ht he hs).of fun Z σ H ⟨O, en, E, F, h, k⟩ =>
  tLc_of hp ⟨O, en, _, F, h, fun d v H1 g r q => k.nx O _ _ H1 ((F.up g).setV r i) (.grow g) q⟩
/-- name = a new list or dict, that it owns -/
def zSetO (t : EnvD → (Ow → Prop) → Prop) (i : Nat) : SDt := fun E e => t e fun w => E.nx (e.set i (.own w))
theorem grow_ne {bg : BG} {H H1 H' : Hp} {a : Addr} (ok : BagOk bg H) (g : Grow bg H H1) (hn : H1 a = none) (k : ∀ b, b ≠ a → H' b = H1 b) : Grow bg H H' := by
  have h0 := g.none ok hn
  refine ⟨fun b o h n => (k b (ne_of_none h h0)).trans (g.keep b o h n), fun ok' b l hb => ?_⟩
  obtain ⟨q1, q2, q3, q4, q5, q6⟩ := g.bag ok' b l hb
  exact ⟨q1, q2, (k b (ne_of_none q3 hn)).trans q3, q4, (k l (ne_of_none q5 hn)).trans q5, q6⟩
theorem OwnRep.toP {O : OM} {H : Hp} {p : Addr} {w : Ow} {H1 : Hp} (hn : H1 p = none) (hne : OwnRep H (AO c O) c.bg p w) (nl : ∀ d v, Rep H (AO c O) c.bg d v → Rep H (AO c (put O p w)) c.bg d v) : True := trivial
/-- what a new object holds leans on older things alone -/
def tO' (c : FC) (t : EnvD → (Ow → Prop) → Prop) : TE := fun σ H Q => ∃ O e R, FI c O e σ H ∧ t e R ∧ ∀ w a H1 H', Grow c.bg H H1 → H1 a = none → (∀ b, b ≠ a → H' b = H1 b) → OwnRep H' (AO c (put O a w)) c.bg a w → R w → Q (V.ref a) H'
abbrev DO' (X : Cx) (c : FC) (e : Expr) (t : EnvD → (Ow → Prop) → Prop) : Prop := PE X e (tO' c t)
theorem do_list {es : List Expr} {u : AD} (h : DA X c es u) : DO' X c (.List es pos) (oLst u) := (pe_lst h).of fun σ H Q ⟨O, en, R, F, h, k⟩ =>
  ⟨O, en, _, F, h, fun ds vs H1 g r ⟨z, hd⟩ => ⟨by rw [r.length]; exact z, fun p hp => k (.l ds) p H1 _ g hp (fun b hb => upd_ne hb) ⟨z, vs, upd_same, Reps.mv (fun a xs ha h => ⟨by rw [upd_ne (ne_of_none h hp)]; exact h, ha.to_put (ne_of_none h hp)⟩) (fun a xs h => by rw [upd_ne (ne_of_none h hp)]; exact h) _ _ r⟩ hd⟩⟩
theorem ds_setO {i : Nat} {x : Str} {pos' : Pos} {t : EnvD → (Ow → Prop) → Prop} (hN : X.N.Nodup) (hi : X.N[i]? = some x) (hx : Loc X.env.scope x) (he : DO' X c e t) (hs : swapsWith e (some (.Name x pos')) pos.line X.env = pure false := by rfl) (hf : X.fn x = true ∨ X.env.scope.names.lookup x = some .local := by first | exact .inl rfl | exact .inr rfl | assumption) :
    DS X c (.Assign [.Name x pos'] e pos) (zSetO t i) := (ps_set hN hi hx he hs hf).of fun Z σ H ⟨O, en, E, F, h, k⟩ =>
  ⟨O, en, _, F, h, fun w p H1 H' g hn kk ow q => by
    have F1 := F.up g
    have g2 := grow_ne F1.bag (.refl _ _) hn kk
    exact k.nx _ _ _ H' (F1.setO hn g2 ow i) ((Stp.grow g).trans (stp_put hn g2)) q⟩
/-- behind this the name's own object is a value like others (it is not changed any more) -/
def frz (e : EnvD) (i : Nat) : EnvD := match e[i]? with
  | some (.own (.l l)) => e.set i (.val (.lst l))
  | _ => e
def zFrz (i : Nat) (s : SDt) : SDt := fun E e => s E (frz e i)
def drop1 (O : OM) (p : Addr) : OM := fun a => if a = p then none else O a
theorem FI.frz {O : OM} {en : EnvD} {σ : L2.St} {H : Hp} (F : FI c O en σ H) (i : Nat) : ∃ O', FI c O' (frz en i) σ H ∧ Stp c O H O' H := by
  unfold SD.frz
  split
  · rename_i l hi
    obtain ⟨p, h1, h2⟩ := F.slot i _ hi
    obtain ⟨q1, q2, q3, xs, q4, q5⟩ := F.own p _ h2
    have kl : ∀ a xs, AO c O a → H a = some (.lst xs) → H a = some (.lst xs) ∧ AO c (drop1 O p) a := fun a xs ha h => ⟨h, ha.1, by unfold drop1; split; rfl; exact ha.2⟩
    have ap : AO c (drop1 O p) p := ⟨⟨.inr q1, q2⟩, by unfold drop1; rw [if_pos rfl]⟩
    refine ⟨drop1 O p, ⟨by rw [List.length_set]; exact F.len, F.bag0, F.bag, F.grow, fun a w h => ?_, fun j s h => ?_, fun j k w w' a h3 h4 h5 h6 => ?_⟩, ⟨fun a o h n z => ⟨h, by unfold drop1; split; rfl; exact z⟩, fun h => h⟩⟩
    · unfold drop1 at h
      split at h
      · cases h
      · obtain ⟨z1, z2, z3⟩ := F.own a w h
        exact ⟨z1, z2, z3.mv rfl kl fun _ _ h => h⟩
    · by_cases q : i = j
      · subst q
        have hi' : i < en.length := by
          rcases Nat.lt_or_ge i en.length with z | z
          · exact z
          · rw [List.getElem?_eq_none z] at hi; cases hi
        rw [List.getElem?_set_self hi'] at h
        cases h
        exact ⟨_, h1, Rep.lst_iff.mpr ⟨p, xs, rfl, ap, q4, q3, Reps.mv kl (fun _ _ h => h) _ _ q5⟩⟩
      · rw [get_set_ne q] at h
        have z := F.slot j s h
        cases s with
        | un => trivial
        | val d => obtain ⟨u, h1, h2⟩ := z; exact ⟨u, h1, Rep.mv kl (fun _ _ h => h) _ _ h2⟩
        | own w =>
          obtain ⟨a, h3, h4⟩ := z
          refine ⟨a, h3, ?_⟩
          have n : a ≠ p := fun z => by subst z; exact q (F.inj i j _ _ a hi h h1 h3)
          unfold drop1
          rw [if_neg n]; exact h4
    · have n1 : i ≠ j := fun q => by
        subst q
        by_cases hi : i < en.length
        · rw [List.getElem?_set_self hi] at h3; cases h3
        · rw [List.getElem?_eq_none (by rw [List.length_set]; omega)] at h3; cases h3
      have n2 : i ≠ k := fun q => by
        subst q
        by_cases hi : i < en.length
        · rw [List.getElem?_set_self hi] at h4; cases h4
        · rw [List.getElem?_eq_none (by rw [List.length_set]; omega)] at h4; cases h4
      rw [get_set_ne n1] at h3
      rw [get_set_ne n2] at h4
      exact F.inj j k w w' a h3 h4 h5 h6
  · exact ⟨O, F, .refl _ _ _⟩
theorem dss_frz {i : Nat} (h : DSs X c sts s) : DSs X c sts (zFrz i s) := h.of fun Z σ H ⟨O, e, E, F, h, k⟩ => by
  obtain ⟨O', F', g⟩ := F.frz i
  exact ⟨O', _, E, F', h, k.step g⟩
/-- x.append(e), x one's own list -/
def zApp (i : Nat) (t : ED) : SDt := fun E e => match e[i]? with
  | some (.own (.l l)) => t e fun d => l.length < sizeLine ∧ E.nx (e.set i (.own (.l (l ++ [d]))))
  | _ => False
theorem own_app {O : OM} {en : EnvD} {σ : L2.St} {H : Hp} {p : Addr} {l : List D} {d : D} {v : V} {xs : List V} (F : FI c O en σ H) (h2 : O p = some (.l l)) (h4 : H p = some (.lst xs)) (rs : Reps H (AO c O) c.bg l xs) (r : Rep H (AO c O) c.bg d v) (z : l.length < sizeLine) :
    OwnRep (upd H p (.lst (xs ++ [v]))) (AO c (put O p (.l (l ++ [d])))) c.bg p (.l (l ++ [d])) := by
  have kl : ∀ a xs', AO c O a → H a = some (.lst xs') → upd H p (.lst (xs ++ [v])) a = some (.lst xs') ∧ AO c (put O p (.l (l ++ [d]))) a := fun a xs' ha h => by
    have n : a ≠ p := fun z => by have := ha.2; rw [z, h2] at this; cases this
    exact ⟨by rw [upd_ne n]; exact h, ha.to_put n⟩
  have kt : ∀ a xs', H a = some (.tup xs') → upd H p (.lst (xs ++ [v])) a = some (.tup xs') := fun a xs' h => by
    rw [upd_ne (fun z => by rw [z, h4] at h; cases h)]; exact h
  exact ⟨by rw [List.length_append, List.length_singleton]; omega, xs ++ [v], upd_same, (Reps.mv kl kt _ _ rs).append (.cons (Rep.mv kl kt _ _ r) .nil)⟩
theorem ds_append {i : Nat} (h : PE X e (tBM X.K "list" rAppend (tVar i) (tA c (aCons t aNil)))) (hs : swapsWith e none pos.line X.env = pure false := by rfl) : DS X c (.Expr e pos) (zApp i t) := (ps_expr h hs).of fun Z σ H ⟨O, en, E, F, h, k⟩ => by
  unfold zApp at h
  show tBM X.K "list" rAppend (tVar i) (tA c (aCons t aNil)) σ H fun _ H1 => Z.nx σ H1
  split at h
  · rename_i l hi
    obtain ⟨p, h1, h2⟩ := F.slot i _ hi
    obtain ⟨_, q2, z, xs0, h3, _⟩ := F.own p _ h2
    refine ⟨.ref p, h1, .inl ⟨rfl, xs0, SqL.of h3⟩, O, en, fun ds => (match ds with
      | [d] => l.length < sizeLine ∧ E.nx (en.set i (.own (.l (l ++ [d]))))
      | _ => False), F, h, fun ds vs H1 g r q => ?_⟩
    simp only at q
    split at q
    · rename_i d
      obtain ⟨zl, q⟩ := q
      obtain ⟨v, vr, rfl, r1, r2⟩ := r.cons_inv
      rw [r2.nil_inv]
      have F1 := F.up g
      obtain ⟨_, _, z1, xs, h4, rs⟩ := F1.own p _ h2
      obtain ⟨F2, S2⟩ := F1.chg hi h1 (H' := upd H1 p (.lst (xs ++ [v]))) (w' := .l (l ++ [d])) (fun b hb => upd_ne hb) (own_app F1 h2 h4 rs r1 zl)
      exact ⟨p, xs, v, rfl, rfl, h4, by rw [rs.length]; exact zl, k.nx _ _ _ _ F2 ((Stp.grow g).trans S2) q⟩
    · exact q.elim
  · exact h.elim
end
end SD

namespace SD
open L2 PyProof.Rows PySem PySem.Spec
section
variable {X : Cx} {c : FC} {st : Stmt} {sts : List Stmt} {pos : Pos} {e a b : Expr} {t ta tb : ED} {s u : SDt} {tp : BD}
/-! ### loops -/
def forGo (p : Pat) (tb : SDt) (E : EndsD) : List D → EnvD → Prop
  | [], e => E.nx e
  | d :: ds, e => match bindP p d e with
    | none => False
    | some e' => tb { nx := forGo p tb E ds, rt := E.rt, bk := E.nx, ct := forGo p tb E ds } e'
def zFor (ti : ID) (p : Pat) (tb : SDt) : SDt := fun E e => ti e fun ds => forGo p tb E ds e
theorem ds_for {tg iter : Expr} {body : List Stmt} {ti : ID} {p : Pat} (hp : PassesOwn (model X.prog X.w) X.A X.env X.xe) (hc : X.calm = true) (hi : DI X c tg iter ti) (hg : DG X c tg p) (hb : DSs X c body s)
    (hs : ∀ x, foldedSetIterable iter X.env x = pure x := by intro _; rfl) : DS X c (.For tg iter body [] pos) (zFor ti p s) := (ps_for hp hc hi hg hb hs).of fun Z σ H ⟨O, en, E, F, h, k⟩ => by
  refine ⟨O, en, _, F, h, fun ds J H1 g1 wd hds => ?_⟩
  have F1 := F.up g1
  have k1 : SPost c O H1 E Z := k.step (.grow g1)
  refine ⟨fun i m σ2 H2 => m = ds.length - i ∧ i ≤ ds.length ∧ ∃ O2 e2, FI c O2 e2 σ2 H2 ∧ Stp c O H1 O2 H2 ∧ forGo p s E (ds.drop i) e2, ⟨ds.length, by simp, Nat.zero_le _, O, en, F1, .refl _ _ _, hds⟩, ?_⟩
  rintro i m σ2 H2 ⟨rfl, hi, O2, e2, F2, S2, hg2⟩
  by_cases hlt : i < ds.length
  · refine .inr ⟨wd.go i O2 H2 hlt S2, fun σ3 H3 => ∃ O3 e3, FI c O3 e3 σ3 H3 ∧ Stp c O H1 O3 H3 ∧ forGo p s E (ds.drop (i + 1)) e3, fun σ3 H3 ⟨O3, e3, h3⟩ => ⟨_, by omega, rfl, hlt, O3, e3, h3⟩, fun x H3 y => ?_⟩
    obtain ⟨g3, r3⟩ := wd.yld i O2 H2 H3 x _ (List.getElem?_eq_getElem hlt) S2 F2.bag y
    rw [List.drop_eq_getElem_cons hlt] at hg2
    unfold forGo at hg2
    split at hg2
    · exact hg2.elim
    · rename_i e3 hb
      refine ⟨O2, e2, _, e3, F2.up g3, r3, hb, fun σ3 F3 _ => ⟨O2, e3, _, F3, hg2, ?_⟩⟩
      have S3 : Stp c O H1 O2 H3 := S2.trans (.grow g3)
      exact ⟨fun O4 e4 σ4 H4 F4 S4 h4 => ⟨O4, e4, F4, S3.trans S4, h4⟩, fun O4 e4 σ4 H4 F4 S4 h4 => k1.nx O4 e4 σ4 H4 F4 (S3.trans S4) h4, fun O4 e4 σ4 H4 F4 S4 h4 => ⟨O4, e4, F4, S3.trans S4, h4⟩, k1.rt⟩
  · have ei : i = ds.length := by omega
    subst ei
    rw [List.drop_length] at hg2
    unfold forGo at hg2
    exact .inl ⟨wd.stop O2 H2 S2, k1.nx O2 e2 σ2 H2 F2 S2 hg2⟩
def zWhile (tc : BD) (tb : SDt) : SDt := fun E e => ∃ W : Nat → EnvD → Prop, (∃ m, W m e) ∧ ∀ m e, W m e → tc e fun b => if b = true then tb { nx := fun e' => ∃ m', m' < m ∧ W m' e', rt := E.rt, bk := E.nx, ct := fun e' => ∃ m', m' < m ∧ W m' e' } e else E.nx e
theorem ds_while {body : List Stmt} (hp : PassesOwn (model X.prog X.w) X.A X.env X.xe) (hc : DT X c e tp) (hb : DSs X c body s) : DS X c (.While e body [] pos) (zWhile tp s) := (ps_while hp hc hb).of fun Z σ H ⟨O, en, E, F, ⟨W, ⟨m0, w0⟩, turn⟩, k⟩ => by
  refine ⟨fun m σ2 H2 => ∃ O2 e2, FI c O2 e2 σ2 H2 ∧ Stp c O H O2 H2 ∧ W m e2, ⟨m0, O, en, F, .refl _ _ _, w0⟩, ?_⟩
  rintro m σ2 H2 ⟨O2, e2, F2, S2, w2⟩
  refine ⟨O2, e2, _, F2, turn m e2 w2, fun b H3 g3 hb => ?_⟩
  cases b with
  | true =>
    rw [if_pos rfl] at hb
    refine iteT ⟨fun σ4 H4 => ∃ m', m' < m ∧ ∃ O4 e4, FI c O4 e4 σ4 H4 ∧ Stp c O H O4 H4 ∧ W m' e4, fun σ4 H4 h => h, O2, e2, _, F2.up g3, hb, ?_⟩
    have S3 : Stp c O H O2 H3 := S2.trans (.grow g3)
    exact ⟨fun O4 e4 σ4 H4 F4 S4 ⟨m', hm, w4⟩ => ⟨m', hm, O4, e4, F4, S3.trans S4, w4⟩, fun O4 e4 σ4 H4 F4 S4 h4 => k.nx O4 e4 σ4 H4 F4 (S3.trans S4) h4, fun O4 e4 σ4 H4 F4 S4 ⟨m', hm, w4⟩ => ⟨m', hm, O4, e4, F4, S3.trans S4, w4⟩, k.rt⟩
  | false =>
    (rw [if_neg Bool.false_ne_true] at hb)
    exact iteF (k.nx O2 e2 σ2 H3 (F2.up g3) (S2.trans (.grow g3)) hb)

/-! ### a, b = x, y -/
def zPar (i j : Nat) (ta tb : ED) : SDt := fun E e => ta e fun x => tb e fun y => E.nx ((e.set i (.val x)).set j (.val y))
theorem ds_par {i j : Nat} {x y : Str} {px py pt : Pos} {kq k2 pt2} (hc : X.calm = true) (hN : X.N.Nodup) (hi : X.N[i]? = some x) (hj : X.N[j]? = some y) (hij : i ≠ j)
    (hx : X.env.scope.names.lookup x = some .local) (hy : X.env.scope.names.lookup y = some .local) (ha : DE X c a ta) (hb : DE X c b tb)
    (hw : swappedStores [.Tuple [.Name x px, .Name y py] kq pt] (.Tuple [a, b] k2 pt2) X.env = pure (some [x, y]))
    (hs : swapsWithSole [.Tuple [.Name x px, .Name y py] kq pt] (.Tuple [a, b] k2 pt2) pos.line X.env = pure false := by rfl)
    (h1 : starEach [a, b] X.env = (false, eval a X.env) :: starEach [b] X.env := by rfl) (h2 : starEach [b] X.env = (false, eval b X.env) :: starEach [] X.env := by rfl) :
    DS X c (.Assign [.Tuple [.Name x px, .Name y py] kq pt] (.Tuple [a, b] k2 pt2) pos) (zPar i j ta tb) := (ps_par hc hN hi hj hij hx hy (da_cons ha (da_cons hb da_nil h2) h1) hw hs).of fun Z σ H ⟨O, en, E, F, h, k⟩ => by
  refine ⟨O, en, fun ds => (match ds with
    | [x, y] => E.nx ((en.set i (.val x)).set j (.val y))
    | _ => False), F, h, fun ds vs H1 g r q => ?_⟩
  simp only at q
  split at q
  · rename_i d d'
    obtain ⟨v, vr, rfl, r1, r2⟩ := r.cons_inv
    obtain ⟨v2, vr2, rfl, r3, r4⟩ := r2.cons_inv
    rw [r4.nil_inv]
    exact ⟨v, v2, rfl, k.nx O _ _ H1 (((F.up g).setV r1 i).setV r3 j) (.grow g) q⟩
  · exact q.elim
/-- the first is a new list or dict -/
def zParO1 (i j : Nat) (ta : EnvD → (Ow → Prop) → Prop) (tb : ED) : SDt := fun E e => ta e fun w => tb e fun y => E.nx ((e.set i (.own w)).set j (.val y))
def zParO2 (i j : Nat) (ta : ED) (tb : EnvD → (Ow → Prop) → Prop) : SDt := fun E e => ta e fun x => tb e fun w => E.nx ((e.set i (.val x)).set j (.own w))
def tA2 (t u : TE) : TA := tCons t (tCons u tNil)
/-- a hidden object of one's own gets a name -/
theorem FI.show {O : OM} {en : EnvD} {σ : L2.St} {H H1 : Hp} {p : Addr} {w : Ow} (F0 : FI c O en σ H) (hp : H p = none) (F : FI c (put O p w) en σ H1) (i : Nat) : FI c (put O p w) (en.set i (.own w)) (σ.set i (some (V.ref p))) H1 := by
  have noP : ∀ j u, en[j]? = some (Slot.own u) → σ[j]? = some (some (V.ref p)) → False := fun j u h1 h2 => by
    obtain ⟨a, h3, h4⟩ := F0.slot j _ h1
    rw [h2] at h3
    cases h3
    obtain ⟨_, _, h5⟩ := F0.own p u h4
    obtain ⟨o, h6, _⟩ := h5.at_
    rw [hp] at h6; cases h6
  refine ⟨by rw [List.length_set, List.length_set]; exact F.len, F.bag0, F.bag, F.grow, F.own, fun j s h => ?_, fun j k u u' a h1 h2 h3 h4 => ?_⟩
  · by_cases q : i = j
    · subst q
      by_cases hi : i < en.length
      · rw [List.getElem?_set_self hi] at h
        cases h
        exact ⟨p, by rw [List.getElem?_set_self (by rw [← F.len]; exact hi)], put_same⟩
      · rw [List.getElem?_eq_none (by rw [List.length_set]; omega)] at h; cases h
    · rw [get_set_ne q] at h
      have z := F.slot j s h
      cases s with
      | un => trivial
      | val d => obtain ⟨u, h1, h2⟩ := z; exact ⟨u, by rw [get_set_ne q]; exact h1, h2⟩
      | own w => obtain ⟨u, h1, h2⟩ := z; exact ⟨u, by rw [get_set_ne q]; exact h1, h2⟩
  · by_cases n1 : i = j
    · by_cases n2 : i = k
      · exact n1.symm.trans n2
      · subst n1
        have hi : i < en.length := by
          rcases Nat.lt_or_ge i en.length with z | z
          · exact z
          · rw [List.getElem?_eq_none (by rw [List.length_set]; omega)] at h1; cases h1
        rw [List.getElem?_set_self (by rw [← F.len]; exact hi)] at h3
        cases h3
        rw [get_set_ne n2] at h2 h4
        exact (noP k u' h2 h4).elim
    · rw [get_set_ne n1] at h1 h3
      by_cases n2 : i = k
      · subst n2
        have hi : i < en.length := by
          rcases Nat.lt_or_ge i en.length with z | z
          · exact z
          · rw [List.getElem?_eq_none (by rw [List.length_set]; omega)] at h2; cases h2
        rw [List.getElem?_set_self (by rw [← F.len]; exact hi)] at h4
        cases h4
        exact (noP j u h1 h3).elim
      · rw [get_set_ne n2] at h2 h4
        exact F.inj j k u u' a h1 h2 h3 h4
theorem Rep.unput {O : OM} {H : Hp} {p : Addr} {w : Ow} {d : D} {v : V} (h : Rep H (AO c (put O p w)) c.bg d v) : Rep H (AO c O) c.bg d v := Rep.mv (fun _ _ ha h => ⟨h, ha.put.1⟩) (fun _ _ h => h) d v h
theorem ds_parO1 {i j : Nat} {x y : Str} {px py pt : Pos} {kq k2 pt2} {to : EnvD → (Ow → Prop) → Prop} (hc : X.calm = true) (hN : X.N.Nodup) (hi : X.N[i]? = some x) (hj : X.N[j]? = some y) (hij : i ≠ j)
    (hx : X.env.scope.names.lookup x = some .local) (hy : X.env.scope.names.lookup y = some .local) (ha : DO' X c a to) (hb : DE X c b tb)
    (hw : swappedStores [.Tuple [.Name x px, .Name y py] kq pt] (.Tuple [a, b] k2 pt2) X.env = pure (some [x, y]))
    (hs : swapsWithSole [.Tuple [.Name x px, .Name y py] kq pt] (.Tuple [a, b] k2 pt2) pos.line X.env = pure false := by rfl)
    (h1 : starEach [a, b] X.env = (false, eval a X.env) :: starEach [b] X.env := by rfl) (h2 : starEach [b] X.env = (false, eval b X.env) :: starEach [] X.env := by rfl) :
    DS X c (.Assign [.Tuple [.Name x px, .Name y py] kq pt] (.Tuple [a, b] k2 pt2) pos) (zParO1 i j to tb) := (ps_par hc hN hi hj hij hx hy (pa_cons ha (pa_cons hb pa_nil h2) h1) hw hs).of fun Z σ H ⟨O, en, E, F, h, k⟩ => by
  refine ⟨O, en, _, F, h, fun w p H1 H' g hn kk ow q => ?_⟩
  have F1 := F.up g
  have g2 := grow_ne F1.bag (.refl _ _) hn kk
  have F2 := F1.tmp hn g2 ow
  refine ⟨put O p w, en, _, F2, q, fun y v H3 g3 r3 q3 => ?_⟩
  refine ⟨.ref p, v, rfl, k.nx (put O p w) _ _ H3 ((FI.show F1 hn (F2.up g3) i).setV r3 j) ?_ q3⟩
  exact ((Stp.grow g).trans (stp_put hn g2)).trans (.grow g3)
theorem ds_parO2 {i j : Nat} {x y : Str} {px py pt : Pos} {kq k2 pt2} {to : EnvD → (Ow → Prop) → Prop} (hc : X.calm = true) (hN : X.N.Nodup) (hi : X.N[i]? = some x) (hj : X.N[j]? = some y) (hij : i ≠ j)
    (hx : X.env.scope.names.lookup x = some .local) (hy : X.env.scope.names.lookup y = some .local) (ha : DE X c a ta) (hb : DO' X c b to)
    (hw : swappedStores [.Tuple [.Name x px, .Name y py] kq pt] (.Tuple [a, b] k2 pt2) X.env = pure (some [x, y]))
    (hs : swapsWithSole [.Tuple [.Name x px, .Name y py] kq pt] (.Tuple [a, b] k2 pt2) pos.line X.env = pure false := by rfl)
    (h1 : starEach [a, b] X.env = (false, eval a X.env) :: starEach [b] X.env := by rfl) (h2 : starEach [b] X.env = (false, eval b X.env) :: starEach [] X.env := by rfl) :
    DS X c (.Assign [.Tuple [.Name x px, .Name y py] kq pt] (.Tuple [a, b] k2 pt2) pos) (zParO2 i j ta to) := (ps_par hc hN hi hj hij hx hy (pa_cons ha (pa_cons hb pa_nil h2) h1) hw hs).of fun Z σ H ⟨O, en, E, F, h, k⟩ => by
  refine ⟨O, en, _, F, h, fun x v H1 g r1 h1 => ⟨O, en, _, F.up g, h1, fun w p H2 H' g2 hn kk ow q => ?_⟩⟩
  have F2 := (F.up g).up g2
  have g3 := grow_ne F2.bag (.refl _ _) hn kk
  have r2 := (r1.up (F.up g).bag g2).up F2.bag g3
  have hx' : Rep H' (AO c (put O p w)) c.bg x v := Rep.mv (fun a xs ha h => ⟨g3.keep _ _ h ha.1.2, ha.to_put (ne_of_none h hn)⟩) (fun a xs h => g3.keep _ _ h (bag_ne_tup F2.bag h)) _ _ (r1.up (F.up g).bag g2)
  refine ⟨v, .ref p, rfl, k.nx (put O p w) _ _ H' ?_ (((Stp.grow g).trans (.grow g2)).trans (stp_put hn g3)) q⟩
  have FF := (F2.tmp hn g3 ow).setV hx' i
  -- the list gets its name
  have F3 : FI c O (en.set i (.val x)) (σ.set i (some v)) H2 := F2.setV (r1.up (F.up g).bag g2) i
  exact FI.show F3 hn FF j
end

/-! ### a def -/
theorem BagOk.none {H : Hp} : BagOk none H := fun _ _ h => nomatch h
def startD (N : List Str) (ds : List D) : EnvD := ds.map .val ++ List.replicate (N.length - ds.length) .un
theorem FI.start {A : Addr → Prop} {bg : BG} {H : Hp} {N : List Str} {ds : List D} {vs : List V} (hA : ∀ a, A a → nB bg a) (ok : BagOk bg H) (r : Reps H A bg ds vs) : FI ⟨A, H, bg⟩ (fun _ => none) (startD N ds) (start N vs) H where
  len := by unfold startD L2.start; simp [r.length]
  bag0 := ok
  bag := ok
  grow := .refl _ _
  own := fun _ _ h => nomatch h
  slot := fun i s h => by
    unfold startD at h
    by_cases hi : i < ds.length
    · rw [List.getElem?_append_left (by simpa using hi), List.getElem?_map, List.getElem?_eq_getElem hi] at h
      cases h
      obtain ⟨v, h1, h2⟩ := r.get (List.getElem?_eq_getElem hi)
      refine ⟨v, ?_, Rep.mv (fun a xs ha h => ⟨h, ⟨.inl ha, hA a ha⟩, rfl⟩) (fun _ _ h => h) _ _ h2⟩
      unfold L2.start
      have hv : i < vs.length := by rw [r.length]; exact hi
      rw [List.getElem?_append_left (by simpa using hv), List.getElem?_map, h1]; rfl
    · rw [List.getElem?_append_right (by simpa using Nat.le_of_not_lt hi)] at h
      rw [List.getElem?_replicate] at h
      split at h
      · cases h; trivial
      · cases h
  inj := fun i j w w' a h _ _ _ => by
    exfalso
    unfold startD at h
    by_cases hi : i < ds.length
    · rw [List.getElem?_append_left (by simpa using hi), List.getElem?_map, List.getElem?_eq_getElem hi] at h
      cases h
    · rw [List.getElem?_append_right (by simpa using Nat.le_of_not_lt hi), List.getElem?_replicate] at h
      split at h <;> cases h
section
variable {w : World} {P : Program} {K : PySem.W.Frag} {mg : Str → Option Value} {base : Heap}
/-- THE RULE for a def, by values -/
theorem fn_ok {x qual : Str} {st : Stmt} {f : Addr} {fd : FuncData} {N ps : List Str} {k : Nat} {φ : SpD} (F : Fun K x qual st f fd) (S : FnScope N ps (defScope st)) (len : ∀ ds R, φ ds R → ds.length = ps.length)
    (hbody : ∀ (cdv : Value) (A : Around) (outer : List Env) (s : Shared) (H : Hp) (E : XK) (c : FC), Room k (A.deeper (envOfC qual (defScope st) s.heap.objs.size f cdv)) →
      ∃ t, DSs (cxOf CX0 P w K mg base N qual (defScope st) f cdv A outer s H E).nox c (defBody st) t ∧ ∀ ds R, φ ds R → t { nx := fun _ => R .non, rt := R } (startD N ds)) : FnOk P w K mg base CX0 (k + 1) f fd ps (spD φ) := by
  refine F.ok S (fun vs H Q E ⟨A, bg, ds, R, h1, h2, h3, h4, h5⟩ => ?_) (fun cdv A outer s H vs Q E hr ⟨A', bg, ds, R, h1, h2, h3, h4, h5⟩ => ?_)
  · rw [h3.length]; exact len ds R h4
  · obtain ⟨t, ht, hq⟩ := hbody cdv A outer s H E ⟨A', H, bg⟩ hr
    refine ⟨_, ht, fun _ => Option.none, startD N ds, _, FI.start h1 h2 h3, hq ds R h4, ?_⟩
    exact ⟨fun O' e' σ' H' F _ q => h5 .non .non H' F.grow (Rep.non_iff.mpr rfl) q, fun _ _ _ _ _ _ q => q.elim, fun _ _ _ _ _ _ q => q.elim, fun d v H' g r q => h5 d v H' g r q⟩
end
end SD

namespace SD
open L2 PyProof.Rows PySem PySem.Spec
/-! ### lists and tuples alike -/
/-- a list (true) or a tuple (false) -/
def SqB (K : PySem.W.Frag) (H : Hp) (k : Bool) (a : Addr) (xs : List V) : Prop := if k = true then SqL K H a xs else SqT K H a xs
def ItB (h : Heap) (k : Bool) (ip a : Addr) (i : Nat) : Prop := if k = true then h.IsListIter ip a i else h.IsTupleIter ip a i
def HasB (h : Heap) (k : Bool) (a : Addr) (items : Array Value) : Prop := if k = true then h.IsList a items else h.IsTuple a items
def obB (k : Bool) (a : Addr) : Obj := if k = true then { cls := .type "list_iterator", data := .fields #[.ref a, .int 0 0] } else { cls := .type "tuple_iterator", data := .fields #[.ref a, .int 0 0] }
theorem beginsB (k : Bool) (a : Addr) (items : Array Value) : Begins (.ref a) (obB k a) fun h => HasB h k a items := by
  cases k with
  | true => exact begins_list a items
  | false => exact begins_tuple a items
theorem ItB.first {h : Heap} {k : Bool} {ip a : Addr} (e : h.get? ip = some (obB k a)) : ItB h k ip a 0 := by
  cases k with
  | true => exact ⟨_, e, rfl, rfl⟩
  | false => exact ⟨_, e, rfl, rfl⟩
theorem ItB.obj_ {h : Heap} {k : Bool} {ip a : Addr} {i : Nat} (x : ItB h k ip a i) : ∃ o, h.get? ip = some o ∧ ∀ v, o.data ≠ .cell v := by
  cases k with
  | true => obtain ⟨o, e, _, d⟩ := (show h.IsListIter ip a i from x); exact ⟨o, e, fun v z => by rw [d] at z; cases z⟩
  | false => obtain ⟨o, e, _, d⟩ := (show h.IsTupleIter ip a i from x); exact ⟨o, e, fun v z => by rw [d] at z; cases z⟩
theorem ItB.at_ {h h' : Heap} {k : Bool} {ip a : Addr} {i : Nat} (x : ItB h k ip a i) (kk : ∀ o, h.get? ip = .some o → h'.get? ip = .some o) : ItB h' k ip a i := by
  cases k with
  | true => exact (show h.IsListIter ip a i from x).at kk
  | false => exact (show h.IsTupleIter ip a i from x).at kk
theorem ItB.ne {h : Heap} {k k' : Bool} {ip a b : Addr} {i : Nat} {items : Array Value} (x : ItB h k ip a i) (y : HasB h k' b items) : b ≠ ip := fun q => by
  subst q
  have f : ∃ o, h.get? b = some o ∧ (o.cls = .type "list_iterator" ∨ o.cls = .type "tuple_iterator") := by
    cases k with
    | true => obtain ⟨o, e, c, _⟩ := (show h.IsListIter b a i from x); exact ⟨o, e, .inl c⟩
    | false => obtain ⟨o, e, c, _⟩ := (show h.IsTupleIter b a i from x); exact ⟨o, e, .inr c⟩
  have g : ∃ o, h.get? b = some o ∧ (o.cls = .type "list" ∨ o.cls = .type "tuple") := by
    cases k' with
    | true => obtain ⟨o, e, c, _⟩ := (show h.IsList b items from y); exact ⟨o, e, .inl c⟩
    | false => obtain ⟨o, e, c, _⟩ := (show h.IsTuple b items from y); exact ⟨o, e, .inr c⟩
  obtain ⟨o, e1, c1⟩ := f
  obtain ⟨o', e2, c2⟩ := g
  rw [e1] at e2
  cases e2
  rcases c1 with c | c <;> rcases c2 with d | d <;> (rw [c] at d; exact absurd (Value.type.inj d) (by decide))
theorem drawsB {prog : Program} {w : World} {A : Around} (hh : A.handled = none) (k : Bool) (ip a : Addr) (ne0 : a ≠ ip) (items : Array Value) :
    Draws prog w A ip [ip, a] items.size (fun i v => items[i]? = some v) (fun i h => ItB h k ip a i ∧ HasB h k a items) := by
  cases k with
  | true => exact Draws.list hh ip a ne0 items
  | false => exact Draws.tuple hh ip a ne0 items
theorem Inv.seqB {X : Cx} {pn0 : List (Addr × Obj)} {σ : L2.St} {H : Hp} {s : Shared} {k : Bool} {a : Addr} {xs : List V} (I : Inv X pn0 σ H s) (h : SqB X.K H k a xs) : ∃ its : List Value, Vals xs its ∧ HasB s.heap k a its.toArray ∧ a < s.heap.objs.size ∧ xs.length ≤ sizeLine := by
  cases k with
  | true =>
    obtain ⟨its, r, p, z⟩ := I.list (show SqL X.K H a xs from h)
    exact ⟨its, r, p.isList, p.lt, z⟩
  | false =>
    obtain ⟨its, r, p, z⟩ := I.tuple (show SqT X.K H a xs from h)
    exact ⟨its, r, p, p.lt, z⟩
theorem Inv.seqB_inj {X : Cx} {pn0 : List (Addr × Obj)} {σ : L2.St} {H : Hp} {s : Shared} {k : Bool} {a : Addr} {xs ys : List V} (I : Inv X pn0 σ H s) (h : SqB X.K H k a xs) (h' : SqB X.K H k a ys) : xs = ys := by
  cases k with
  | true => exact I.list_inj h h'
  | false => exact I.tuple_inj h h'
def ItzB (K : PySem.W.Frag) (k1 k2 : Bool) (a b : Addr) : It :=
  ⟨fun i H => ∃ (xs ys : List V) (x y : V), SqB K H k1 a xs ∧ SqB K H k2 b ys ∧ xs[i]? = some x ∧ ys[i]? = some y,
    fun i H v H' => ∃ T x y, v = .ref T ∧ H T = none ∧ H' = upd H T (.tup [x, y]) ∧ (∀ xs, SqB K H k1 a xs → xs[i]? = some x) ∧ ∀ ys, SqB K H k2 b ys → ys[i]? = some y,
    fun i H => ∃ xs ys : List V, SqB K H k1 a xs ∧ SqB K H k2 b ys ∧ i ≤ xs.length ∧ i ≤ ys.length ∧ (i = xs.length ∨ i = ys.length)⟩
theorem turn_zipB {P : Program} {w : World} {K : PySem.W.Frag} {elts : List Expr} {kk : Nat} {tpos : Pos} {k1 k2 : Bool} {a b z TI TO i1 i2 : Addr} (D : ZipSep2 z TI TO i1 i2 [i1, a] [i2, b]) :
    Turn P w K (.Tuple elts kk tpos) (ItzB K k1 k2 a b) [z, TI, TO, i1, i2] z (fun i h => IsZip h z TI TO .none ∧ IsTupOf2 h TI (.ref i1) (.ref i2) ∧ (∃ x y, IsTupOf2 h TO x y) ∧ ItB h k1 i1 a i ∧ ItB h k2 i2 b i) where
  mem := by simp
  obj := fun i h st c hc => by
    obtain ⟨gz, gI, ⟨x, y, gO⟩, h1, h2⟩ := st
    have ee : c = z ∨ c = TI ∨ c = TO ∨ c = i1 ∨ c = i2 := by simpa using hc
    rcases ee with q | q | q | q | q
    · rw [q]; exact ⟨_, gz, fun v q => nomatch q⟩
    · rw [q]; exact ⟨_, gI, fun v q => nomatch q⟩
    · rw [q]; exact ⟨_, gO, fun v q => nomatch q⟩
    · rw [q]; exact h1.obj_
    · rw [q]; exact h2.obj_
  keep := fun i h h' st k => by
    obtain ⟨gz, gI, ⟨x, y, gO⟩, h1, h2⟩ := st
    exact ⟨k z (by simp) _ gz, k TI (by simp) _ gI, ⟨x, y, k TO (by simp) _ gO⟩, h1.at_ fun o q => k i1 (by simp) o q, h2.at_ fun o q => k i2 (by simp) o q⟩
  item := by
    intro X eP hw eK hc i pn0 s σ H E I hf st hg
    subst eP hw eK
    obtain ⟨gz, gI, ⟨xo, yo, gO⟩, h1, h2⟩ := st
    obtain ⟨xs, ys, x, y, sx, sy, ex, ey⟩ := hg
    obtain ⟨its, w8, p, pl, _⟩ := Inv.seqB I sx
    obtain ⟨its2, w9, p2, pl2, _⟩ := Inv.seqB I sy
    obtain ⟨u, eu, r8⟩ := w8.get ex
    obtain ⟨u2, eu2, r9⟩ := w9.get ey
    have ltz : z < s.heap.objs.size := Heap.lt_size gz
    have hh : X.A.in1.handled = none := I.ok.hd hc
    have lt1 : i < its.toArray.size := by
      rw [List.size_toArray]
      exact (List.getElem?_eq_some_iff.mp eu).1
    have lt2 : i < its2.toArray.size := by
      rw [List.size_toArray]
      exact (List.getElem?_eq_some_iff.mp eu2).1
    have na : a ≠ i1 := h1.ne p
    have nb : b ≠ i2 := h2.ne p2
    refine wpAny_pyNext_zipD2_item D (drawsB hh k1 i1 a na its.toArray) (drawsB hh k2 i2 b nb its2.toArray) gz gI gO ⟨h1, p⟩ ⟨h2, p2⟩ lt1 lt2 fun y1 y2 h' tk0 e1 e2 z' TO' h1' h2' tyS hsz hk => ?_
    have e1 : y1 = u := by
      have e1 : its[i]? = some y1 := by simpa using e1
      rw [eu] at e1; exact (Option.some.inj e1).symm
    have e2 : y2 = u2 := by
      have e2 : its2[i]? = some y2 := by simpa using e2
      rw [eu2] at e2; exact (Option.some.inj e2).symm
    subst e1 e2
    refine ⟨_, rfl, wpAny_letOwnedTupleGo_zip (s := { s with heap := h', toks := tk0 }) z' fun hh2 z'' sb => ?_⟩
    have hT2 : hh2.get? s.heap.objs.size = some { cls := .type "tuple", data := .seq #[y1, y2] } := (sb.2 _ (Nat.ne_of_gt ltz)).trans tyS
    have new : ObjOk X.prog X.w (upd H s.heap.objs.size (.tup [x, y])) hh2 s.heap.objs.size (.tup [x, y]) :=
      ⟨by show 2 ≤ sizeLine; decide, [y1, y2], .cons r8 (.cons r9 .nil), ⟨_, hT2, rfl, _, rfl⟩⟩
    have I1 : Inv X pn0 σ (upd H s.heap.objs.size (.tup [x, y])) { s with heap := hh2, toks := tk0 } :=
      I.turnedNew (t' := tk0) (ch := [z, TI, TO, i1, i2]) (fun c o hb q => (sb.2 c (fun q' => hb (by simp [q']))).trans (hk c o (fun q' => hb (by simp [q'])) (fun q' => hb (by simp [q'])) (fun q' => hb (by simp [q'])) (fun q' => hb (by simp [q'])) q)) hf (Nat.le_refl _) new
    refine ⟨.ref s.heap.objs.size, _, I1, rfl, ⟨_, x, y, rfl, I.hok.fresh (Nat.le_refl _), rfl, fun l hl => by rw [Inv.seqB_inj I hl sx]; exact ex, fun l hl => by rw [Inv.seqB_inj I hl sy]; exact ey⟩, ⟨z'', ?_, ⟨y1, y2, ?_⟩, ?_, ?_⟩, fun c hcm => ?_⟩
    · exact (sb.2 _ D.TIz).trans (hk _ _ D.TIz D.TITO D.TIi1 D.TIi2 gI)
    · (exact (sb.2 _ D.TOz).trans TO')
    · exact h1'.1.at_ fun o q => (sb.2 _ (Ne.symm D.zi1)).trans q
    · exact h2'.1.at_ fun o q => (sb.2 _ (Ne.symm D.zi2)).trans q
    · have hl0 : c < s.heap.objs.size := by
        have ee : c = z ∨ c = TI ∨ c = TO ∨ c = i1 ∨ c = i2 := by simpa using hcm
        rcases ee with q | q | q | q | q
        · rw [q]; exact ltz
        · rw [q]; exact Heap.lt_size gI
        · rw [q]; exact Heap.lt_size gO
        · rw [q]; obtain ⟨_, e1, _⟩ := h1.obj_; exact Heap.lt_size e1
        · rw [q]; obtain ⟨_, e2, _⟩ := h2.obj_; exact Heap.lt_size e2
      rw [upd_ne (Nat.ne_of_lt hl0)]
      exact (hf c hcm).1
  done := by
    intro X eP hw eK hc i pn0 s σ H E I hf st hg
    subst eP hw eK
    obtain ⟨gz, gI, ⟨xo, yo, gO⟩, h1, h2⟩ := st
    obtain ⟨xs, ys, sx, sy, q1, q2, q3⟩ := hg
    obtain ⟨its, w8, p, pl, _⟩ := Inv.seqB I sx
    obtain ⟨its2, w9, p2, pl2, _⟩ := Inv.seqB I sy
    have l1 := w8.length
    have l2 := w9.length
    have hh : X.A.in1.handled = none := I.ok.hd hc
    refine wpAny_pyNext_zipD2_end D (drawsB hh k1 i1 a (h1.ne p) its.toArray) (drawsB hh k2 i2 b (h2.ne p2) its2.toArray) gz gI gO ⟨h1, p⟩ ⟨h2, p2⟩ (by rw [List.size_toArray]; omega) (by rw [List.size_toArray]; omega) (by rw [List.size_toArray, List.size_toArray]; omega) fun h' tk0 hk => ⟨rfl, ?_⟩
    exact I.turnedL (t' := tk0) (ch := [z, TI, TO, i1, i2]) (fun c o hb q => hk c o (fun q' => hb (by simp [q'])) (fun q' => hb (by simp [q'])) (fun q' => hb (by simp [q'])) (fun q' => hb (by simp [q'])) q) hf
  self := fun A i s Q E st hq => wpAny_pyIter_zip st.1 hq
def iZipB (K : PySem.W.Frag) (ta : TA) : TI := fun σ H R => ta σ H fun vs H1 => ∃ a b k1 k2 xs ys, vs = [.ref a, .ref b] ∧ SqB K H1 k1 a xs ∧ SqB K H1 k2 b ys ∧ R (ItzB K k1 k2 a b) H1
theorem pi_zipB {X : Cx} {e e2 : Expr} {ta : TA} {p pos tpos : Pos} {elts : List Expr} {kk : Nat} (hg : Gl X "zip") (mv0 : X.mg "zip" = none) (ha : PA X [e, e2] ta)
    (hpl : (backTo pos (starEach [e2] X.env)).any (·.1) = false := by rfl) (hs : starEach [e, e2] X.env = (false, eval e X.env) :: starEach [e2] X.env := by rfl) :
    PI X (.Tuple elts kk tpos) (.Call (.Name "zip" p) [e, e2] [] pos) (iZipB X.K ta) := by
  refine ⟨fun pn0 s σ H R I h => ?_⟩
  refine Call_ (ld_blt I hg mv0 PyProof.Rows.boot_zip (PyProof.Rows.callWith_type1 (thn (ha.run pos pn0 s σ H _ I h) fun us s1 ⟨vs, H1, I1, r1, q1⟩ => ?_) hs hpl))
  obtain ⟨a, b, k1, k2, xs, ys, ex, sx, sy, q⟩ := q1
  subst ex
  cases r1 with
  | cons r rr =>
    cases rr with
    | cons r' rr =>
      cases rr
      cases r
      cases r'
      obtain ⟨its, w8, p1, la, _⟩ := Inv.seqB I1 sx
      obtain ⟨its2, w9, p2, lb, _⟩ := Inv.seqB I1 sy
      refine zip_begins2 (beginsB k1 a its.toArray) (beginsB k2 b its2.toArray) p1 p2 fun h' gz gI gO h1 h2 hsz hk => wpAny_pyIter_zip gz ?_
      have I2 : Inv X pn0 σ H1 { s1 with heap := h' } := I1.kept (t' := s1.toks) hk
      refine ⟨s1.heap.objs.size + 4, [s1.heap.objs.size + 4, s1.heap.objs.size + 2, s1.heap.objs.size + 3, s1.heap.objs.size, s1.heap.objs.size + 1], _, _, H1, rfl, I2,
        turn_zipB (zip_sep2 (fp1 := [a]) (fp2 := [b]) (fun c hc => by have : c = a := by simpa using hc
                                                                      rw [this]; exact la) (fun c hc => by have : c = b := by simpa using hc
                                                                                                           rw [this]; exact lb)), ⟨gz, gI, ⟨_, _, gO⟩, ItB.first h1, ItB.first h2⟩, fun c hcm => ?_, q⟩
      have ee : c = s1.heap.objs.size + 4 ∨ c = s1.heap.objs.size + 2 ∨ c = s1.heap.objs.size + 3 ∨ c = s1.heap.objs.size ∨ c = s1.heap.objs.size + 1 := by simpa using hcm
      have hge : s1.heap.objs.size ≤ c := by
        rcases ee with z | z | z | z | z
        · (rw [z]; exact Nat.le_add_right _ _)
        · (rw [z]; exact Nat.le_add_right _ _)
        · (rw [z]; exact Nat.le_add_right _ _)
        · rw [z]; exact Nat.le_refl _
        · (rw [z]; exact Nat.le_add_right _ _)
      exact I1.fpOk hge (I1.hok.fresh hge)
/-! ### by values -/
def seqD? : D → Option (List D)
  | .lst l => some l
  | .tup l => some l
  | _ => none
theorem Rep.seq {K : PySem.W.Frag} {c : FC} {O : OM} {H : Hp} {d : D} {l : List D} {v : V} (e : seqD? d = some l) (r : Rep H (AO c O) c.bg d v) : ∃ k a xs, v = .ref a ∧ l.length ≤ sizeLine ∧ Reps H (AO c O) c.bg l xs ∧ SqB K H k a xs ∧
    (∀ O' H', BagOk c.bg H → (∀ a xs, H a = some (.tup xs) → O a = none) → Stp c O H O' H' → SqB K H' k a xs) := by
  cases d with
  | lst l' =>
    cases e
    obtain ⟨a, xs, rfl, ha, h, z, rs⟩ := Rep.lst_iff.mp r
    exact ⟨true, a, xs, rfl, z, rs, SqL.of h, fun O' H' _ _ s => SqL.of (s.keep _ _ h ha.1.2 ha.2).1⟩
  | tup l' =>
    cases e
    obtain ⟨a, xs, rfl, h, z, rs⟩ := Rep.tup_iff.mp r
    exact ⟨false, a, xs, rfl, z, rs, SqT.of h, fun O' H' ok t s => SqT.of (s.keep _ _ h (bag_ne_tup ok h) (t _ _ h)).1⟩
  | _ => cases e
theorem SqB.inj {K : PySem.W.Frag} {H : Hp} {k : Bool} {a : Addr} {xs : List V} (h : SqB K H k a xs) : ∃ o, (k = true → SqL K H a xs) ∧ (k = false → SqT K H a xs) ∧ o = () := ⟨(), fun e => by subst e; exact h, fun e => by subst e; exact h, rfl⟩
def zipT (xs ys : List D) : List D := List.zipWith (fun x y => D.tup [x, y]) xs ys
def iZipD (u : AD) : ID := fun e R => u e fun ds => match ds with
  | [x, y] => (match seqD? x, seqD? y with
    | some l, some m => R (zipT l m)
    | _, _ => False)
  | _ => False
section
variable {X : Cx} {c : FC} {pos p tpos : Pos} {tg e a b : Expr} {es : List Expr} {t : ED} {u : AD}
theorem di_zip {elts : List Expr} {kk : Nat} (hg : Gl X "zip") (mv0 : X.mg "zip" = none) (ha : DA X c [a, b] u) (hs : starEach [a, b] X.env = (false, eval a X.env) :: starEach [b] X.env := by rfl) (hpl : (backTo pos (starEach [b] X.env)).any (·.1) = false := by rfl) :
    DI X c (.Tuple elts kk tpos) (.Call (.Name "zip" p) [a, b] [] pos) (iZipD u) := (pi_zipB hg mv0 ha hpl hs).of fun σ H Q ⟨O, en, R, F, h, k⟩ => by
  refine ⟨O, en, _, F, h, fun ds vs H1 g r hd => ?_⟩
  split at hd
  · rename_i x y
    split at hd
    · rename_i l m e1 e2
      obtain ⟨v, vr, rfl, r1, r2⟩ := r.cons_inv
      obtain ⟨v2, vr2, rfl, r3, r4⟩ := r2.cons_inv
      rw [r4.nil_inv]
      have F1 := F.up g
      obtain ⟨k1, a1, xs, rfl, z1, s1, q1, w1⟩ := Rep.seq (K := X.K) e1 r1
      obtain ⟨k2, a2, ys, rfl, z2, s2, q2, w2⟩ := Rep.seq (K := X.K) e2 r3
      refine ⟨a1, a2, k1, k2, xs, ys, rfl, q1, q2, k _ _ H1 g ⟨?_, fun i O' H2 hi st => ?_, fun O' H2 st => ?_, fun i O' H2 H3 x' d hdi st ok y' => ?_⟩ hd⟩
      · unfold zipT; rw [List.length_zipWith]; omega
      · unfold zipT at hi; rw [List.length_zipWith] at hi
        have h1 : i < xs.length := by rw [s1.length]; omega
        have h2 : i < ys.length := by rw [s2.length]; omega
        exact ⟨xs, ys, _, _, w1 _ _ F1.bag F1.tupO st, w2 _ _ F1.bag F1.tupO st, List.getElem?_eq_getElem h1, List.getElem?_eq_getElem h2⟩
      · refine ⟨xs, ys, w1 _ _ F1.bag F1.tupO st, w2 _ _ F1.bag F1.tupO st, ?_⟩
        unfold zipT
        rw [List.length_zipWith, s1.length, s2.length]
        omega
      · obtain ⟨T, x1, x2, rfl, tyS, rfl, f1, f2⟩ := y'
        have g1 := f1 xs (w1 _ _ F1.bag F1.tupO st)
        have g2 := f2 ys (w2 _ _ F1.bag F1.tupO st)
        refine ⟨.new tyS, ?_⟩
        unfold zipT at hdi
        rw [List.getElem?_zipWith] at hdi
        obtain ⟨d1, p1, p2⟩ := s1.getV g1
        obtain ⟨d2, p3, p4⟩ := s2.getV g2
        rw [p1, p3] at hdi
        cases hdi
        have st1 := Rep.stp F1.bag st F1.tupO _ _ p2
        have st2 := Rep.stp F1.bag st F1.tupO _ _ p4
        refine Rep.tup_iff.mpr ⟨T, [x1, x2], rfl, upd_same, by show 2 ≤ sizeLine; decide, ?_⟩
        exact .cons (st1.up ok (.new tyS)) (.cons (st2.up ok (.new tyS)) .nil)
    · exact hd.elim
  · exact hd.elim
end
end SD

namespace SD
open L2 PyProof.Rows PySem PySem.Spec
set_option maxHeartbeats 1234000 in
theorem meets_enumerate_newB1 {v : Value} {o : Obj} {H : Heap → Prop} (B : Begins v o H) :
    Meets (Builtin.«enumerate.__new__» ⟨[.type "enumerate", v], []⟩) (fun _ R s => H s.heap ∧
      R (.ok (.ret (.ref (s.heap.push o).objs.size))) { s with heap := (s.heap.push o).push { cls := .type "enumerate", data := .fields #[.none, .bool false, .ref s.heap.objs.size, rawInt 0, .none, .none] } }) :=
  .of_wp fun prog w A R s h0 => by
    obtain ⟨hp0, g, d, tk0, os⟩ := s
    obtain ⟨h1, h⟩ := h0
    have hsub := sub_enumerate
    have q1 : ∀ {A' : Around} {E : Value → Shared → Prop} {Q : Value → Shared → Prop}, Q (.ref hp0.objs.size) ⟨hp0.push o, g, d, tk0, os⟩ → wpAny (model prog w) A' (pyIter v) Q E ⟨hp0, g, d, tk0, os⟩ :=
      fun q => B.iter prog w _ _ ⟨hp0, g, d, tk0, os⟩ _ h1 q
    wp_walk using q1
    (refine wpAny_stack_any fun st => wpAny_pure ?_)
    split
    · rename_i c _ _ _ _ _
      (cases (c == Value.type "enumerate"))
      · wp_walk using q1
        exact ⟨_, rfl, h⟩
      · wp_walk using q1
        exact ⟨_, rfl, h⟩
    · wp_walk using q1
      exact ⟨_, rfl, h⟩
section
variable {s : Shared} {prog : Program} {w : World} {A : Around} {E : Value → Shared → Prop}
theorem enum_begins1 {v : Value} {o : Obj} {H : Heap → Prop} {Q : Value → Shared → Prop} (B : Begins v o H) (h1 : H s.heap)
    (h : ∀ h', IsEnum h' (s.heap.objs.size + 1) s.heap.objs.size 0 .none → h'.get? s.heap.objs.size = some o → h'.objs.size = s.heap.objs.size + 2 →
      (∀ b u, s.heap.get? b = some u → h'.get? b = some u) → Q (.ref (s.heap.objs.size + 1)) { s with heap := h' }) :
    wpAny (model prog w) A (call (.type "enumerate") [v]) Q E s := by
  refine callType_new F.called_enumerate (by decide) (F.typeCall_enumerate_1 _) (F.newCall_enumerate_1 _)
    (fun obj => F.args_object_init_2 obj _) F.entry_enumerate_new (meets_enumerate_newB1 B) ⟨h1, ?_⟩
  have gz : (s.heap.push o).objs.size = s.heap.objs.size + 1 := Heap.size_push ..
  show _ ∧ _
  rw [gz]
  have g8 : IsEnum ((s.heap.push o).push { cls := .type "enumerate", data := .fields #[.none, .bool false, .ref s.heap.objs.size, rawInt 0, .none, .none] }) (s.heap.objs.size + 1) s.heap.objs.size 0 .none := by
    have := Heap.get?_push_size (s.heap.push o) (o := { cls := .type "enumerate", data := .fields #[.none, .bool false, .ref s.heap.objs.size, rawInt 0, .none, .none] }) rfl
    rw [gz] at this; exact this
  refine ⟨⟨_, g8, rfl⟩, h _ g8 (Heap.get?_push_of_some _ (Heap.get?_push_size _ B.free)) (by rw [Heap.size_push, gz]) fun b o x => Heap.get?_push_of_some _ (Heap.get?_push_of_some _ x)⟩
end
def IteB (K : PySem.W.Frag) (k : Bool) (a : Addr) : It :=
  ⟨fun i H => ∃ (xs : List V) (x : V), SqB K H k a xs ∧ xs[i]? = some x,
    fun i H v H' => ∃ T x, v = .ref T ∧ H T = none ∧ H' = upd H T (.tup [.int (i : Nat), x]) ∧ ∀ xs, SqB K H k a xs → xs[i]? = some x,
    fun i H => ∃ xs : List V, SqB K H k a xs ∧ xs.length = i⟩
theorem turn_enumB {P : Program} {w : World} {K : PySem.W.Frag} {elts : List Expr} {kk : Nat} {tpos : Pos} (k : Bool) (a e ip : Addr) :
    Turn P w K (.Tuple elts kk tpos) (IteB K k a) [e, ip] e (fun i h => (∃ old, IsEnum h e ip ((i : Nat) : Int) old) ∧ ItB h k ip a i ∧ e ≠ ip) where
  mem := by simp
  obj := fun i h st b hb => by
    obtain ⟨⟨old, g8⟩, hi, _⟩ := st
    have ee : b = e ∨ b = ip := by simpa using hb
    rcases ee with z | z
    · rw [z]; exact ⟨_, g8, fun v q => nomatch q⟩
    · rw [z]; exact hi.obj_
  keep := fun i h h' st k => let ⟨⟨old, g8⟩, hi, ne0⟩ := st; ⟨⟨old, k e (by simp) _ g8⟩, hi.at_ fun o q => k ip (by simp) o q, ne0⟩
  item := by
    intro X eP hw eK hc i pn0 s σ H E I hf st hg
    subst eP hw eK
    obtain ⟨⟨old, g8⟩, it8, ne0⟩ := st
    obtain ⟨xs, x, hq, ex⟩ := hg
    obtain ⟨its, w8, p, pl, _⟩ := Inv.seqB I hq
    obtain ⟨u, eu, r8⟩ := w8.get ex
    have lte : e < s.heap.objs.size := Heap.lt_size g8
    have hil : ip < s.heap.objs.size := by obtain ⟨_, q, _⟩ := it8.obj_; exact Heap.lt_size q
    have hh : X.A.in1.handled = none := I.ok.hd hc
    have lt1 : i < its.toArray.size := by
      rw [List.size_toArray]
      exact (List.getElem?_eq_some_iff.mp eu).1
    have hae : e ∉ [ip, a] := fun mv0 => by
      have ee : e = ip ∨ e = a := by simpa using mv0
      rcases ee with z | z
      · exact ne0 z
      · have c1 : ∃ o, s.heap.get? a = some o ∧ (o.cls = .type "list" ∨ o.cls = .type "tuple") := by
          cases k with
          | true => obtain ⟨o, e, c, _⟩ := (show s.heap.IsList a its.toArray from p); exact ⟨o, e, .inl c⟩
          | false => obtain ⟨o, e, c, _⟩ := (show s.heap.IsTuple a its.toArray from p); exact ⟨o, e, .inr c⟩
        obtain ⟨o, eq1, c1⟩ := c1
        have he' : s.heap.get? e = some _ := g8
        rw [z, eq1] at he'
        cases he'
        rcases c1 with c | c <;> exact absurd (Value.type.inj c) (by decide)
    refine wpAny_pyNext_enum_itemC (drawsB hh k ip a (it8.ne p) its.toArray) g8 ⟨it8, p⟩ lt1 ne0 hae fun y h' tk0 eq1 ho hit' tyS hsz hk => ?_
    have eq1 : y = u := by
      have eq1 : its[i]? = some y := by simpa using eq1
      rw [eu] at eq1; exact (Option.some.inj eq1).symm
    subst eq1
    refine ⟨_, rfl, wpAny_letOwnedTupleGo_enum (s := { s with heap := h', toks := tk0 + 1 }) ho fun hh2 he' sb => ?_⟩
    have hT2 : hh2.get? s.heap.objs.size = some { cls := .type "tuple", data := .seq #[.int i tk0, y] } := (sb.2 _ (Nat.ne_of_gt lte)).trans tyS
    have new : ObjOk X.prog X.w (upd H s.heap.objs.size (.tup [.int (i : Nat), x])) hh2 s.heap.objs.size (.tup [.int (i : Nat), x]) :=
      ⟨by show 2 ≤ sizeLine; decide, [.int i tk0, y], .cons ⟨_, rfl⟩ (.cons r8 .nil), ⟨_, hT2, rfl, _, rfl⟩⟩
    have I1 : Inv X pn0 σ (upd H s.heap.objs.size (.tup [.int (i : Nat), x])) { s with heap := hh2, toks := tk0 + 1 } :=
      I.turnedNew (t' := tk0 + 1) (ch := [e, ip]) (fun b ob hb q => (sb.2 b (fun z => hb (by simp [z]))).trans (hk b ob (fun z => hb (by simp [z])) (fun z => hb (by simp [z])) q)) hf (Nat.le_refl _) new
    refine ⟨.ref s.heap.objs.size, _, I1, rfl, ⟨_, x, rfl, I.hok.fresh (Nat.le_refl _), rfl, fun ys ey => by rw [Inv.seqB_inj I ey hq]; exact ex⟩, ⟨⟨y, ?_⟩, hit'.1.at_ fun o q => (sb.2 ip (Ne.symm ne0)).trans q, ne0⟩, fun b hb => ?_⟩
    · have eq1 : ((i + 1 : Nat) : Int) = (i : Int) + 1 := by omega
      rw [eq1]; exact he'
    · have hb9 : b < s.heap.objs.size := by
        have ee : b = e ∨ b = ip := by simpa using hb
        rcases ee with z | z
        · rw [z]; exact lte
        · rw [z]; exact hil
      rw [upd_ne (Nat.ne_of_lt hb9)]
      exact (hf b hb).1
  done := by
    intro X eP hw eK hc i pn0 s σ H E I hf st hg
    subst eP hw eK
    obtain ⟨⟨old, g8⟩, it8, ne0⟩ := st
    obtain ⟨xs, hq, ex⟩ := hg
    obtain ⟨its, w8, p, pl, _⟩ := Inv.seqB I hq
    obtain ⟨f0, f1, f2, f3, f4, f5⟩ := hf ip (by simp)
    have hl := w8.length
    have hh : X.A.in1.handled = none := I.ok.hd hc
    have ei : its.toArray.size = i := by rw [List.size_toArray]; omega
    refine wpAny_pyNext_enum_endD (drawsB hh k ip a (it8.ne p) its.toArray) g8 (by rw [ei]; exact ⟨it8, p⟩) fun h' eb => ⟨rfl, I.turned (t' := s.toks) (fun b o hb q => eb b o hb q) f0 f1 f3 f4 f5⟩
  self := fun A i s Q E st h => let ⟨⟨_, g8⟩, _⟩ := st; wpAny_pyIter_enum g8 h
def iEnumB (K : PySem.W.Frag) (ta : TA) : TI := fun σ H R => ta σ H fun vs H1 => ∃ a k xs, vs = [.ref a] ∧ SqB K H1 k a xs ∧ R (IteB K k a) H1
theorem pi_enumB {X : Cx} {e : Expr} {ta : TA} {p pos tpos : Pos} {elts : List Expr} {kk : Nat} (hg : Gl X "enumerate") (mv0 : X.mg "enumerate" = none) (ha : PA X [e] ta) (hs : starEach [e] X.env = [(false, eval e X.env)] := by rfl) :
    PI X (.Tuple elts kk tpos) (.Call (.Name "enumerate" p) [e] [] pos) (iEnumB X.K ta) := by
  refine ⟨fun pn0 s σ H R I h => ?_⟩
  refine Call_ (ld_blt I hg mv0 boot_enumerate (PyProof.Rows.callWith_type1 (thn (ha.run pos pn0 s σ H _ I h) fun us s1 ⟨vs, H1, I1, r1, q1⟩ => ?_) hs rfl))
  obtain ⟨a, k, xs, ex, hq, q⟩ := q1
  subst ex
  cases r1 with
  | cons r rr =>
    cases rr
    cases r
    obtain ⟨its, w8, p', la, _⟩ := Inv.seqB I1 hq
    refine enum_begins1 (beginsB k a its.toArray) p' fun h' g8 it8 hsz hk => wpAny_pyIter_enum g8 ?_
    have I2 : Inv X pn0 σ H1 { s1 with heap := h' } := I1.kept (t' := s1.toks) hk
    refine ⟨s1.heap.objs.size + 1, [s1.heap.objs.size + 1, s1.heap.objs.size], _, _, H1, rfl, I2, turn_enumB k a (s1.heap.objs.size + 1) s1.heap.objs.size, ⟨⟨.none, g8⟩, ItB.first it8, Nat.succ_ne_self _⟩, fun b hb => ?_, q⟩
    have ee : b = s1.heap.objs.size + 1 ∨ b = s1.heap.objs.size := by simpa using hb
    have hge : s1.heap.objs.size ≤ b := by
      rcases ee with z | z
      · (rw [z]; exact Nat.le_add_right _ _)
      · rw [z]; exact Nat.le_refl _
    exact I1.fpOk hge (I1.hok.fresh hge)
def enumFrom (k : Nat) : List D → List D
  | [] => []
  | d :: ds => D.tup [.int (k : Nat), d] :: enumFrom (k + 1) ds
theorem enumFrom_length : ∀ (l : List D) (k : Nat), (enumFrom k l).length = l.length
  | [], _ => rfl
  | d :: ds, k => by rw [enumFrom, List.length_cons, List.length_cons, enumFrom_length ds]
theorem enumFrom_get : ∀ (l : List D) (k i : Nat), (enumFrom k l)[i]? = (l[i]?).map fun d => D.tup [.int ((k + i : Nat) : Int), d]
  | [], _, _ => by simp [enumFrom]
  | d :: ds, k, 0 => by simp [enumFrom]
  | d :: ds, k, i + 1 => by
    rw [enumFrom, List.getElem?_cons_succ, List.getElem?_cons_succ, enumFrom_get ds (k + 1) i]
    have : k + 1 + i = k + (i + 1) := by omega
    rw [this]
def iEnumD (u : AD) : ID := fun e R => u e fun ds => match ds with
  | [x] => (match seqD? x with
    | some l => R (enumFrom 0 l)
    | _ => False)
  | _ => False
def iSeqD (t : ED) : ID := fun e R => t e fun d => match seqD? d with
  | some l => R l
  | none => False
section
variable {X : Cx} {c : FC} {pos p tpos : Pos} {tg e a b : Expr} {es : List Expr} {t : ED} {u : AD}
theorem di_enum {elts : List Expr} {kk : Nat} (hg : Gl X "enumerate") (mv0 : X.mg "enumerate" = none) (ha : DA X c [a] u) (hs : starEach [a] X.env = [(false, eval a X.env)] := by rfl) :
    DI X c (.Tuple elts kk tpos) (.Call (.Name "enumerate" p) [a] [] pos) (iEnumD u) := (pi_enumB hg mv0 ha hs).of fun σ H Q ⟨O, en, R, F, h, k⟩ => by
  refine ⟨O, en, _, F, h, fun ds vs H1 g r hd => ?_⟩
  split at hd
  · rename_i x
    split at hd
    · rename_i l eq1
      obtain ⟨v, vr, rfl, r1, r2⟩ := r.cons_inv
      rw [r2.nil_inv]
      have F1 := F.up g
      obtain ⟨k1, a1, xs, rfl, z1, s1, q1, w1⟩ := Rep.seq (K := X.K) eq1 r1
      refine ⟨a1, k1, xs, rfl, q1, k _ _ H1 g ⟨?_, fun i O' H2 hi st => ?_, fun O' H2 st => ?_, fun i O' H2 H3 x' d hdi st ok y' => ?_⟩ hd⟩
      · rw [enumFrom_length]; exact z1
      · rw [enumFrom_length] at hi
        have h1 : i < xs.length := by rw [s1.length]; omega
        exact ⟨xs, _, w1 _ _ F1.bag F1.tupO st, List.getElem?_eq_getElem h1⟩
      · exact ⟨xs, w1 _ _ F1.bag F1.tupO st, by rw [enumFrom_length, s1.length]⟩
      · obtain ⟨T, x1, rfl, tyS, rfl, f1⟩ := y'
        have g1 := f1 xs (w1 _ _ F1.bag F1.tupO st)
        refine ⟨.new tyS, ?_⟩
        obtain ⟨d1, p1, p2⟩ := s1.getV g1
        rw [enumFrom_get, p1] at hdi
        simp only [Option.map_some, Option.some.injEq] at hdi
        subst hdi
        have st1 := Rep.stp F1.bag st F1.tupO _ _ p2
        refine Rep.tup_iff.mpr ⟨T, [.int (i : Nat), x1], rfl, upd_same, by show 2 ≤ sizeLine; decide, ?_⟩
        exact .cons (Rep.int_iff.mpr (by simp)) (.cons (st1.up ok (.new tyS)) .nil)
    · exact hd.elim
  · exact hd.elim
/-- a list or a tuple -/
def iSeqV (K : PySem.W.Frag) (tl : TE) : TI := fun σ H R => tl σ H fun x H1 => ∃ a, x = .ref a ∧ (((∃ xs, SqL K H1 a xs) ∧ R (Itl K a) H1) ∨ ((∃ xs, SqT K H1 a xs) ∧ R (Itt K a) H1))
theorem pi_seq {l : Expr} {tl : TE} (hl : PE X l tl) : PI X tg l (iSeqV X.K tl) := by
  refine ⟨fun pn0 s σ H R I h => ?_⟩
  refine thn (hl.run pn0 s σ H _ I h) fun v s1 ⟨x, H1, I1, r1, q1⟩ => ?_
  obtain ⟨a, e, q⟩ := q1
  subst e
  cases r1
  rcases q with ⟨⟨xs, hq⟩, q⟩ | ⟨⟨xs, hq⟩, q⟩
  · obtain ⟨its, w8, p, gz⟩ := I1.list hq
    (refine wpAny_pyIter_list p.isList ?_)
    (refine ⟨s1.heap.objs.size, [s1.heap.objs.size], _, _, H1, rfl, I1.kept (t' := s1.toks) fun b o e => Heap.get?_push_of_some _ e, turn_list a _, ⟨_, Heap.get?_push_size _ rfl, rfl, rfl⟩, fun b hb => ?_, q⟩)
    (have e : b = s1.heap.objs.size := by simpa using hb)
    subst e
    (exact I1.fpOk (Nat.le_refl _) (I1.hok.fresh (Nat.le_refl _)))
  · obtain ⟨its, w8, p, gz⟩ := I1.tuple hq
    (refine wpAny_pyIter_tuple (show s1.heap.IsTuple a its.toArray from p) ?_)
    (refine ⟨s1.heap.objs.size, [s1.heap.objs.size], _, _, H1, rfl, I1.kept (t' := s1.toks) fun b o e => Heap.get?_push_of_some _ e, turn_tuple a _, ⟨_, Heap.get?_push_size _ rfl, rfl, rfl⟩, fun b hb => ?_, q⟩)
    (have e : b = s1.heap.objs.size := by simpa using hb)
    subst e
    (exact I1.fpOk (Nat.le_refl _) (I1.hok.fresh (Nat.le_refl _)))
theorem di_seq (h : DE X c e t) : DI X c tg e (iSeqD t) := (pi_seq h).of fun σ H Q ⟨O, en, R, F, h, k⟩ => by
  refine ⟨O, en, _, F, h, fun d v H1 g r hd => ?_⟩
  split at hd
  · rename_i l eq1
    have F1 := F.up g
    cases d with
    | lst l' =>
      cases eq1
      obtain ⟨a, xs, rfl, ha, h1, z, rs⟩ := Rep.lst_iff.mp r
      have at_ : ∀ O' H2, Stp c O H1 O' H2 → H2 a = some (.lst xs) := fun O' H2 s => (s.keep _ _ h1 ha.1.2 ha.2).1
      refine ⟨a, rfl, .inl ⟨⟨xs, SqL.of h1⟩, k _ _ H1 g ⟨z, fun i O' H2 hi s => ?_, fun O' H2 s => ⟨xs, SqL.of (at_ _ _ s), by rw [rs.length]; exact Nat.le_refl _⟩, fun i O' H2 H3 x d hd s ok y => ?_⟩ hd⟩⟩
      · obtain ⟨v, hv, _⟩ := rs.get (List.getElem?_eq_getElem hi)
        exact ⟨xs, v, SqL.of (at_ _ _ s), hv⟩
      · obtain ⟨rfl, y⟩ := y
        obtain ⟨v, hv, w8⟩ := rs.get hd
        have eq1 := y xs (SqL.of (at_ _ _ s))
        rw [hv] at eq1
        cases eq1
        exact ⟨.refl _ _, Rep.stp F1.bag s F1.tupO _ _ w8⟩
    | tup l' =>
      cases eq1
      obtain ⟨a, xs, rfl, h1, z, rs⟩ := Rep.tup_iff.mp r
      have at_ : ∀ O' H2, Stp c O H1 O' H2 → H2 a = some (.tup xs) := fun O' H2 s => stp_tup F1 s h1
      refine ⟨a, rfl, .inr ⟨⟨xs, SqT.of h1⟩, k _ _ H1 g ⟨z, fun i O' H2 hi s => ?_, fun O' H2 s => ⟨xs, SqT.of (at_ _ _ s), by rw [rs.length]; exact Nat.le_refl _⟩, fun i O' H2 H3 x d hd s ok y => ?_⟩ hd⟩⟩
      · obtain ⟨v, hv, _⟩ := rs.get (List.getElem?_eq_getElem hi)
        exact ⟨xs, v, SqT.of (at_ _ _ s), hv⟩
      · obtain ⟨rfl, y⟩ := y
        obtain ⟨v, hv, w8⟩ := rs.get hd
        have eq1 := y xs (SqT.of (at_ _ _ s))
        rw [hv] at eq1
        cases eq1
        exact ⟨.refl _ _, Rep.stp F1.bag s F1.tupO _ _ w8⟩
    | _ => cases eq1
  · exact hd.elim
end
end SD

namespace SD
open L2 PyProof.Rows PySem PySem.Spec
section
variable {s : Shared} {P : Program} {w : World} {A : Around} {E : Value → Shared → Prop}
set_option maxRecDepth 90000 in
set_option maxHeartbeats 3400000 in
theorem call_set_lstI {l : Addr} {items : Array Value} (ns : List Int) {Q : Value → Shared → Prop} (hh : A.handled = none) (hl : s.heap.IsList l items) (it8 : IntsAre items.toList ns) (hb : ns.length + 1 < scanBound)
    (h : ∀ (h' : Heap) (tk0 c : Nat), SetR w h' s.heap.objs.size (fun j => decide (j ∈ ns)) c → c ≤ ns.length → (∀ b o, s.heap.get? b = some o → h'.get? b = some o) → Q (.ref s.heap.objs.size) { s with heap := h', toks := tk0 }) : wpAny (model P w) A (call (.type "set") [.ref l]) Q E s := by
  have szE : items.size = ns.length := by
    have q := IntsAre.length it8
    rw [Array.length_toList] at q
    exact q
  (obtain ⟨c, tl, hmro⟩ := F.called_set.mro)
  have mk0 := F.called_set.made
  have hsub := F.called_set.sub
  (refine wpAny_call (codeAny_of_tree ?_))
  (show wpAny _ _ (callAny (.type "set") _) _ _ _)
  (refine wpAny_pure ⟨Code.quiet_builtin _ (by decide +kernel), codeAny_builtin F.entry_type_call ?_⟩)
  (rw [Around.under_plain (weight_type_call_type "set" [.ref l] []) rfl])
  (have h1 := F.called_set.notType)
  (have h2 := F.called_set.canCreate)
  have ct0 := F.typeCall_set_1 (.ref l)
  (repeat (any_goals (first | assumption | wp_step)))

  (refine codeAny_mono (code_set_led1 (.ref l) (E := E) (Q₁ := fun obj s₁ => obj = .ref s.heap.objs.size ∧ s₁ = { s with heap := s.heap.push { cls := .type "set", dict := none, data := .set #[] 0 (.fresh 0 0 (!w.params.followText "set-order")) } }) ⟨rfl, rfl⟩) fun r s₁ hr => ?_)
  cases r with
  | error e => exact hr
  | ok fl =>
    cases fl with
    | ret obj =>
      obtain ⟨rfl, rfl⟩ := hr
      have gS : (s.heap.push { cls := .type "set", dict := none, data := .set #[] 0 (.fresh 0 0 (!w.params.followText "set-order")) }).get? s.heap.objs.size = some { cls := .type "set", dict := none, data := .set #[] 0 (.fresh 0 0 (!w.params.followText "set-order")) } := Heap.get?_push_size _ rfl
      have tyS : Shared.TypeIs { s with heap := s.heap.push { cls := .type "set", dict := none, data := .set #[] 0 (.fresh 0 0 (!w.params.followText "set-order")) } } (.ref s.heap.objs.size) "set" := ⟨_, gS, rfl⟩
      have li0 := F.called_set.init.lookup
      have bi0 := F.called_set.init.bind (.ref s.heap.objs.size)
      (repeat (any_goals (first | assumption | wp_step)))

      refine codeAny_mono (codeAny_call_builtin (R := wants (fun r s₂ => r = .none ∧ ∃ h' tk0 c, s₂ = { s with heap := h', toks := tk0 } ∧ SetR w h' s.heap.objs.size (fun j => decide (j ∈ ns)) c ∧ c ≤ ns.length ∧
          (∀ b o, s.heap.get? b = some o → h'.get? b = some o)) E) F.called_set.init.plain F.entry_set_init (check_set_init_1 tyS ?_)) fun r₂ s₂ hr₂ => ?_
      · obtain ⟨ol, gl, hcl, nl, hdl⟩ := hl
        (obtain ⟨ocls, odict, odata, oslots⟩ := ol)
        simp only at hcl hdl
        subst hcl; subst hdl
        have gl1 : (s.heap.push { cls := .type "set", dict := none, data := .set #[] 0 (.fresh 0 0 (!w.params.followText "set-order")) }).get? l = some { cls := .type "list", dict := odict, data := .seq items nl, slots := oslots } := Heap.get?_push_of_some _ gl
        have sb1 := F.sub_list_set
        have sb2 := F.sub_list_frozenset
        have ne0 : (Value.type "list" == Value.type "dict") = false := by decide
        have isL : (s.heap.push { cls := .type "set", dict := none, data := .set #[] 0 (.fresh 0 0 (!w.params.followText "set-order")) }).IsList l items := ⟨_, gl1, rfl, nl, rfl⟩
        (unfold Builtin.«set.__init__» noKeywords Builtin.Frozenset.updateFrom)
        generalize hPI : pyIter = PI
        wp_walk
        subst hPI

        refine wpAny_pyIter_list isL ?_
        (refine wpAny_bind (wpAny_runValue ?_))
        have ltS : l < s.heap.objs.size := Heap.lt_size gl
        have hh9 : A.in1.in1.in1.handled = none := by simp [hh]
        (have hz1 : (s.heap.push { cls := .type "set", dict := none, data := .set #[] 0 (.fresh 0 0 (!w.params.followText "set-order")) }).objs.size = s.heap.objs.size + 1 := Heap.size_push ..)
        have neI : l ≠ (s.heap.push { cls := .type "set", dict := none, data := .set #[] 0 (.fresh 0 0 (!w.params.followText "set-order")) }).objs.size := by
          rw [Heap.size_push]; exact Nat.ne_of_lt (Nat.lt_succ_of_lt ltS)
        have nin : s.heap.objs.size ∉ [(s.heap.push { cls := .type "set", dict := none, data := .set #[] 0 (.fresh 0 0 (!w.params.followText "set-order")) }).objs.size, l] := by
          (rw [Heap.size_push]; simp only [List.mem_cons, List.mem_singleton, List.not_mem_nil, or_false, not_or])
          exact ⟨Nat.ne_of_lt (Nat.lt_succ_self _), Nat.ne_of_gt ltS⟩
        have at0 : ∀ (i : Nat) (v : Value), items[i]? = some v → ∃ k t, ns[i]? = some k ∧ v = .int k t := fun i v hv => by
          have hi : i < ns.length := by rw [← szE]; exact (Array.getElem?_eq_some_iff.mp hv).1
          obtain ⟨t, e⟩ := PyProof.Rows.IntsAre.int_at it8 i v (by rw [Array.getElem?_toList]; exact hv)
          (refine ⟨ns[i], t, List.getElem?_eq_getElem hi, ?_⟩)
          (rw [e, List.getD_eq_getElem?_getD, List.getElem?_eq_getElem hi] <;> rfl)
        refine set_update_ints ((Walks.list hh9 _ l neI items).toS) s.heap.objs.size
          nin ns szE hb at0 (items.size - 0) 0 _ (by omega) (Nat.zero_le _)
          ⟨⟨_, Heap.get?_push_size _ rfl, rfl, rfl⟩, (isL.push _)⟩ ?hS0 ?hR
        case hS0 =>
          have gt0 : ((s.heap.push { cls := .type "set", dict := none, data := .set #[] 0 (.fresh 0 0 (!w.params.followText "set-order")) }).push { cls := .type "list_iterator", data := .fields #[.ref l, .int 0 0] }).get? s.heap.objs.size
              = some { cls := .type "set", dict := none, data := .set #[] 0 (.fresh 0 0 (!w.params.followText "set-order")) } := Heap.get?_push_of_some _ gS
          exact ⟨0, Nat.le_refl 0, setR_new_at gt0⟩
        case hR =>
          intro s' c' mv0 hc' hS'
          obtain ⟨h', g2, d', tk1, os'⟩ := s'
          have eg : g2 = s.gens := mv0.gens
          have ed : d' = s.drawn := mv0.drawn
          have eo : os' = s.os := mv0.os
          subst eg; subst ed; subst eo
          show wpAny _ _ _ _ _ _
          refine wpAny_pure ?_
          (show wpAny _ _ (ret Value.none) _ _ _)
          rw [szE] at hc'
          refine wpAny_pure ⟨rfl, h', tk1, c', rfl, hS', hc', fun b o e => ?_⟩
          have b0 : b < s.heap.objs.size := Heap.lt_size e
          have b1 : b ≠ s.heap.objs.size := Nat.ne_of_lt b0
          have b2 : b ≠ (s.heap.push { cls := .type "set", dict := none, data := .set #[] 0 (.fresh 0 0 (!w.params.followText "set-order")) }).objs.size := by
            rw [Heap.size_push]; exact Nat.ne_of_lt (Nat.lt_succ_of_lt b0)
          exact mv0.heap b o (by simp only [List.mem_cons, List.mem_singleton, List.not_mem_nil, or_false, not_or]; exact ⟨b1, b2⟩) (Heap.get?_push_of_some _ (Heap.get?_push_of_some _ e))

      · cases r₂ with
        | error e => exact hr₂
        | ok fl₂ =>
          cases fl₂ with
          | ret r =>
            obtain ⟨rfl, h', tk0, c', rfl, hS', hc', hk'⟩ := hr₂
            (repeat (any_goals (first | assumption | wp_step)))
            exact h _ _ _ hS' hc' hk'
          | _ => exact hr₂.elim
    | _ => exact hr.elim

end
end SD

namespace SD
open L2 PyProof.Rows PySem PySem.Spec
section
variable {X : Cx} {c : FC} {pos p : Pos} {tg e a b : Expr} {es : List Expr} {t ta tb : ED} {u : AD} {k : Nat}
/-! ### range downwards by ones -/
def rgN (a b : Int) : List D := (List.range (a - b).toNat).map fun i => D.int (a - (i : Nat))
def iRg3 (u : AD) : ID := fun e R => u e fun ds => match ds with
  | [.int i, .int j, .int s] => s = -1 ∧ (-16777216 ≤ i ∧ i ≤ 16777216 ∧ -16777216 ≤ j ∧ j ≤ 16777216 ∧ i - j ≤ 16777216) ∧ R (rgN i j)
  | _ => False
theorem rgN_length (a b : Int) : (rgN a b).length = (a - b).toNat := by unfold rgN; simp
theorem walk_rgN {c : FC} {O : OM} {H : Hp} {a b : Int} (h : (a - b).toNat ≤ sizeLine) : WalkD c O H (Itc a (-1) (a - b).toNat) (rgN a b) where
  len := by rw [rgN_length]; exact h
  go := fun i O' H' hi _ => by rw [rgN_length] at hi; exact hi
  stop := fun O' H' _ => by rw [rgN_length]; exact Nat.le_refl _
  yld := fun i O' H1 H2 x d hd _ _ y => by
    obtain ⟨rfl, rfl⟩ := y
    refine ⟨.refl _ _, ?_⟩
    unfold rgN at hd
    rw [List.getElem?_map] at hd
    have hi : i < (a - b).toNat := by
      rcases Nat.lt_or_ge i (a - b).toNat with z | z
      · exact z
      · rw [List.getElem?_eq_none (by simpa using z)] at hd; cases hd
    rw [List.getElem?_range hi] at hd
    cases hd
    exact Rep.int_iff.mpr (by congr 1; omega)
theorem di_range3 {a b d : Expr} (hg : Gl X "range") (hm : X.mg "range" = none) (ha : DA X c [a, b, d] u) (hs : starEach [a, b, d] X.env = (false, eval a X.env) :: starEach [b, d] X.env := by rfl) (hpl : (backTo pos (starEach [b, d] X.env)).any (·.1) = false := by rfl) :
    DI X c tg (.Call (.Name "range" p) [a, b, d] [] pos) (iRg3 u) := (pi_range3 hg hm ha hs hpl).of fun σ H Q ⟨O, en, R, F, h, k⟩ => by
  refine ⟨O, en, _, F, h, fun ds vs H1 g r hd => ?_⟩
  split at hd
  · rename_i i j s
    obtain ⟨v, vr, rfl, r1, r2⟩ := r.cons_inv
    obtain ⟨v2, vr2, rfl, r3, r4⟩ := r2.cons_inv
    obtain ⟨v3, vr3, rfl, r5, r6⟩ := r4.cons_inv
    obtain ⟨rfl, ⟨h1, h2, h3, h4, h5⟩, h6⟩ := hd
    rw [r6.nil_inv, Rep.int_iff.mp r1, Rep.int_iff.mp r3, Rep.int_iff.mp r5]
    exact ⟨i, j, -1, _, rfl, RgC.neg (by omega) (by omega) (by omega) (by omega), k _ _ H1 g (walk_rgN (by rw [sizeLine_eq]; omega)) h6⟩
  · exact hd.elim
/-! ### repr of a bool -/
def boolS (b : Bool) : Str := if b = true then Str.ofString "True" else Str.ofString "False"
def rReprB : List V → Hp → VK → Prop := fun xs H Q => ∃ b, xs = [.bl b] ∧ Q (.str (boolS b)) H
theorem cr_reprB : CallR X (.builtin "repr") rReprB := by
  (intro pins s σ H xs us Q I r h)
  obtain ⟨b, rfl, q⟩ := h
  obtain ⟨u, rfl, rfl⟩ := vals1 r
  refine PySem.P.repr_of_bool ⟨.str (boolS b), H, I.tok _, ⟨s.toks, ?_⟩, q⟩
  unfold boolS
  cases b <;> rfl
def reprD : Op1 := fun ds R => match ds with
  | [.bl b] => R (.str (boolS b))
  | _ => False
theorem lk_reprB : Lk1 rReprB reprD := by
  intro c O H xs vs R Q F r h k
  unfold reprD at h
  split at h
  · rename_i b
    obtain ⟨v, vr, rfl, r1, r2⟩ := r.cons_inv
    rw [r2.nil_inv, Rep.bl_iff.mp r1]
    exact ⟨b, rfl, k _ _ _ (.refl _ _) (Rep.str_iff.mpr rfl) h⟩
  · exact h.elim
/-! ### sorted(set(ints)) -/
def rSetI (K : PySem.W.Frag) (w : World) : List V → Hp → VK → Prop := fun xs H Q => ∃ (l : Addr) (ns : List Int), xs = [V.ref l] ∧ SqL K H l (ns.map V.int) ∧ ns.length < 64 ∧
  ∀ p n, H p = none → n ≤ ns.length → Q (.ref p) (upd H p (SetO w p (fun j => decide (j ∈ ns)) n))
theorem cr_setI (hc : X.calm = true) : CallR X (.type "set") (rSetI X.K X.w) := by
  (intro pins s σ H xs us Q I r h)
  obtain ⟨l, ns, rfl, hl, h64, q⟩ := h
  obtain rfl := Vals.ref1 r
  (obtain ⟨its, rv, pl, hz⟩ := I.list hl)
  refine call_set_lstI ns (I.ok.hd hc) pl.isList (by simpa using rv.ints) (by unfold scanBound; omega) fun h' tk n R hn k => ?_
  exact ⟨.ref s.heap.objs.size, upd H s.heap.objs.size (SetO X.w s.heap.objs.size (fun j => decide (j ∈ ns)) n), I.laid (t' := tk) k (Nat.le_refl _) (setO_new R), rfl, q _ n (I.hok.fresh (Nat.le_refl _)) hn⟩
def sSortSetI (u : ED) : ED := fun e R => u e fun d => match d with
  | .lst l => ∃ ns, ints? l = some ns ∧ ns.length < 64 ∧ ∀ ms : List Int, ms.Pairwise (· < ·) → (∀ k, k ∈ ms ↔ k ∈ ns) → R (.lst (ms.map D.int))
  | _ => False
theorem de_sortSetI {p2 q : Pos} {u : ED} (hc : X.calm = true) (hg : Gl X "sorted") (hm : X.mg "sorted" = none) (hg2 : Gl X "set") (hm2 : X.mg "set" = none) (ha : DE X c e u)
    (hs : starEach [Expr.Call (.Name "set" p2) [e] [] q] X.env = (false, eval (Expr.Call (.Name "set" p2) [e] [] q) X.env) :: starEach [] X.env := by rfl)
    (hpl : (backTo pos (starEach ([] : List Expr) X.env)).any (·.1) = false := by rfl)
    (hs2 : starEach [e] X.env = (false, eval e X.env) :: starEach [] X.env := by rfl)
    (hpl2 : (backTo q (starEach ([] : List Expr) X.env)).any (·.1) = false := by rfl) :
    DE X c (.Call (.Name "sorted" p) [.Call (.Name "set" p2) [e] [] q] [] pos) (sSortSetI u) :=
  (pe_callB (cr_sortedSet hc) hg hm (by decide +kernel) (pa_cons (pe_callTy (cr_setI hc) hg2 hm2 (by decide +kernel) (pa_cons ha pa_nil hs2) (by decide) (by decide) hs2 hpl2) pa_nil hs) (by decide) (by decide) hs hpl).of fun σ H Q ⟨O, en, R, F, h, k⟩ => by
    refine ⟨O, en, _, F, h, fun d v H1 g r hd => ?_⟩
    split at hd
    · rename_i l
      obtain ⟨ns, e1, h64, h2⟩ := hd
      obtain rfl := ints?_eq e1
      obtain ⟨a, ys, rfl, _, ha, hz, rs⟩ := Rep.lst_iff.mp r
      obtain rfl := rs.ints
      refine ⟨a, ns, rfl, SqL.of ha, h64, fun p1 n hp1 hn => ?_⟩
      refine ⟨p1, _, n, rfl, upd_same, by omega, fun ms p3 hpw hmem hlen hp3 => ?_⟩
      have g1 : Grow c.bg H1 (upd H1 p1 (SetO X.w p1 (fun j => decide (j ∈ ns)) n)) := .new hp1
      have F2 := (F.up (g.trans g1)).hf
      refine k _ _ _ (g.trans (g1.trans (.new hp3))) (Rep.newL F2 (Reps.of_ints ms) ?_ hp3) (h2 ms hpw fun k => by rw [hmem k]; exact decide_eq_true_iff)
      rw [List.length_map, hlen, sizeLine_eq]; omega
    · exact hd.elim
end
end SD

namespace SD
open L2 PyProof.Rows PySem PySem.Spec
/-! ### a comprehension with two clauses -/
def noHid (n : Nat) (e : EnvD) : Prop := ∀ i : Nat, e[i]? ≠ some (Slot.own (.hid n))
theorem noHid_set {n i : Nat} {e : EnvD} {s : Slot} (h : noHid n e) (hs : s ≠ Slot.own (.hid n)) : noHid n (e.set i s) := fun j q => by
  by_cases z : i = j
  · subst z
    have hl : i < e.length := by
      rcases Nat.lt_or_ge i e.length with z | z
      · exact z
      · rw [List.getElem?_eq_none (by simpa using z)] at q; cases q
    rw [List.getElem?_set_self hl] at q
    cases q; exact hs rfl
  · rw [List.getElem?_set_ne z] at q; exact h j q
mutual
theorem bindP_hid {n : Nat} : ∀ {p : Pat} {d : D} {e e2 : EnvD}, bindP p d e = some e2 → noHid n e → noHid n e2
  | .nm i, d, e, e2, h, k => by unfold bindP at h; cases h; exact noHid_set k (by intro z; cases z)
  | .tp ps, d, e, e2, h, k => by
    cases d with
    | tup l => unfold bindP at h; exact bindPs_hid h k
    | _ => unfold bindP at h; cases h
theorem bindPs_hid {n : Nat} : ∀ {ps : List Pat} {ds : List D} {e e2 : EnvD}, bindPs ps ds e = some e2 → noHid n e → noHid n e2
  | [], [], e, e2, h, k => by unfold bindPs at h; cases h; exact k
  | [], _ :: _, e, e2, h, k => by unfold bindPs at h; cases h
  | _ :: _, [], e, e2, h, k => by unfold bindPs at h; cases h
  | p :: ps, d :: ds, e, e2, h, k => by
    unfold bindPs at h
    split at h
    · rename_i e' q
      exact bindPs_hid h (bindP_hid q k)
    · cases h
end
theorem wipeD_hid {n : Nat} {e : EnvD} (h : noHid n e) (vs : List Nat) : noHid n (wipeD e vs) := by
  induction vs with
  | nil => exact h
  | cons v vs ih => exact noHid_set (e := wipeD e vs) ih (by intro z; cases z)
theorem hid_fresh : ∀ e : EnvD, ∃ n, ∀ m, n ≤ m → noHid m e
  | [] => ⟨0, fun m _ i => by simp⟩
  | s :: e => by
    obtain ⟨n, h⟩ := hid_fresh e
    refine ⟨match s with | .own (.hid k) => max n (k + 1) | _ => n, fun m hm i => ?_⟩
    cases i with
    | zero =>
      intro q
      simp only [List.getElem?_cons_zero, Option.some.injEq] at q
      subst q
      simp only at hm
      omega
    | succ i =>
      rw [List.getElem?_cons_succ]
      refine h m ?_ i
      split at hm <;> omega
theorem FI.re {c : FC} {O : OM} {e : EnvD} {σ : L2.St} {H H' : Hp} {p : Addr} {n : Nat} {xs : List V} (F : FI c O e σ H) (hO : O p = some (.hid n)) (hn : noHid n e) (k : ∀ b, b ≠ p → H' b = H b) (hp : H' p = some (.lst xs)) :
    FI c O e σ H' ∧ Stp c O H O H' := by
  obtain ⟨q1, q2, o, q4⟩ := F.own p _ hO
  have kk : ∀ a u, H a = some u → a ≠ p → H' a = some u := fun a u h n => (k a n).trans h
  have kl : ∀ a xs, AO c O a → H a = some (.lst xs) → H' a = some (.lst xs) ∧ AO c O a := fun a xs ha h => by
    have n : a ≠ p := fun z => by
      have := ha.2
      rw [z, hO] at this; cases this
    exact ⟨kk _ _ h n, ha⟩
  have kt : ∀ a xs, H a = some (.tup xs) → H' a = some (.tup xs) := fun a xs h => kk _ _ h fun z => by
    rw [z, q4] at h; cases h
  have bagk : BagOk c.bg H → BagOk c.bg H' := fun ok b l hb => by
    obtain ⟨n, ns, h3, h4, h5, h6⟩ := ok b l hb
    obtain ⟨_, _, _, _, h50, _⟩ := F.bag0 b l hb
    have nb : b ≠ p := fun z => q2 l (by rw [hb, z])
    have nl : l ≠ p := fun z => by rw [z, q1] at h50; cases h50
    exact ⟨n, ns, kk _ _ h3 nb, h4, kk _ _ h5 nl, h6⟩
  refine ⟨⟨F.len, F.bag0, bagk F.bag, ⟨fun a o h n => ?_, fun ok => bagk F.bag⟩, fun a u h => ?_, fun j s h => ?_, F.inj⟩, ⟨fun a o h n z => ⟨kk a o h fun y => (by rw [y, hO] at z; cases z), z⟩, bagk⟩⟩
  · exact kk a o (F.grow.keep a o h n) fun z => by rw [z, q1] at h; cases h
  · obtain ⟨h3, h4, h5⟩ := F.own a u h
    by_cases q : a = p
    · subst q
      rw [hO] at h; cases h
      exact ⟨h3, h4, xs, hp⟩
    · exact ⟨h3, h4, h5.mv (k a q) kl kt⟩
  · have z := F.slot j s h
    cases s with
    | un => trivial
    | val d => obtain ⟨u, h3, h4⟩ := z; exact ⟨u, h3, Rep.mv kl kt _ _ h4⟩
    | own w => exact z
/-- the second clause's turns, with the room for what is added -/
def lcIn (p : Pat) (tt : BD) (te : ED) (e : EnvD) : List D → List D → (List D → Prop) → Prop
  | [], acc, R => R acc
  | d :: ds, acc, R => match bindP p d e with
    | none => False
    | some e2 => tt e2 fun b => if b = true then te e2 fun y => acc.length < sizeLine ∧ lcIn p tt te e ds (acc ++ [y]) R else lcIn p tt te e ds acc R
def lcGo2 (p : Pat) (tt : BD) (ti1 : ID) (p1 : Pat) (tt1 : BD) (te : ED) (vs1 : List Nat) (e : EnvD) : List D → List D → (List D → Prop) → Prop
  | [], acc, R => R acc
  | d :: ds, acc, R => match bindP p d e with
    | none => False
    | some e2 => tt e2 fun b => if b = true then ti1 e2 fun ds1 => lcIn p1 tt1 te (wipeD e2 vs1) ds1 acc fun acc' => lcGo2 p tt ti1 p1 tt1 te vs1 e ds acc' R else lcGo2 p tt ti1 p1 tt1 te vs1 e ds acc R
def sLC2 (ti : ID) (p : Pat) (tt : BD) (ti1 : ID) (p1 : Pat) (tt1 : BD) (te : ED) (vs vs1 : List Nat) : ED := fun e R => ti e fun ds => lcGo2 p tt ti1 p1 tt1 te vs1 (wipeD e vs) ds [] fun acc => R (.lst acc)
section
variable {X : Cx} {c : FC}
/-- D, hidden, holds acc -/
structure Hd (c : FC) (O : OM) (H1 : Hp) (p : Addr) (acc : List D) (H : Hp) : Prop where
  g : Grow c.bg H1 H
  own : OwnRep H (AO c O) c.bg p (.l acc)
theorem Hd.up {c : FC} {O : OM} {H1 H H' : Hp} {p : Addr} {acc : List D} (h : Hd c O H1 p acc H) (ok : BagOk c.bg H) (np : nB c.bg p) (g : Grow c.bg H H') : Hd c O H1 p acc H' := ⟨h.g.trans g, h.own.grow ok g AO.bag (fun _ h => h) np⟩
theorem tLc2_of {ti ti1 : ID} {p p1 : Pat} {tt tt1 : BD} {te : ED} {vs vs1 : List Nat} (hp : ∀ i ∈ p.slots, i ∈ vs) (hp1 : ∀ i ∈ p1.slots, i ∈ vs1) {σ : L2.St} {H : Hp} {Q : VK} (h : tE c (sLC2 ti p tt ti1 p1 tt1 te vs vs1) σ H Q) :
    tLc2 (tI c ti) (tG c p) (tT c tt) (tI c ti1) (tG c p1) (tT c tt1) (tE c te) vs vs1 σ H Q := by
  obtain ⟨O, e, R, F, h, k⟩ := h
  refine ⟨O, e, _, F, h, fun ds J H1 g1 wd hds D hD => ?_⟩
  have F1 := F.up g1
  have frD := F1.hf.fresh D hD
  have nD := frD.1.2
  obtain ⟨n, hn⟩ := hid_fresh (wipeD e vs)
  have hnE := hn n (Nat.le_refl _)
  have OD : put O D (.hid n) D = some (.hid n) := put_same
  have fi : ∀ {acc H2}, Hd c (put O D (.hid n)) H1 D acc H2 → FI c (put O D (.hid n)) e σ H2 := fun {acc H2} h => F1.tmp hD h.g ⟨_, h.own.2.choose_spec.1⟩
  -- one element more
  have push : ∀ {acc H5} {y : SD.D} {v : V}, Hd c (put O D (.hid n)) H1 D acc H5 → acc.length < sizeLine → Rep H5 (AO c (put O D (.hid n))) c.bg y v → ∃ xs, H5 D = some (.lst xs) ∧ xs.length < sizeLine ∧ Hd c (put O D (.hid n)) H1 D (acc ++ [y]) (upd H5 D (.lst (xs ++ [v]))) := by
    intro acc H5 y v hd hz r5
    obtain ⟨z5, xs, h5, rs⟩ := hd.own
    refine ⟨xs, h5, by rw [rs.length]; exact hz, ⟨fun a o h n => ?_, fun ok b l hb => ?_⟩, ?_⟩
    · rw [upd_ne (ne_of_none h hD)]; exact hd.g.keep a o h n
    · obtain ⟨q1, q2, q3, q4, q5, q6⟩ := hd.g.bag ok b l hb
      obtain ⟨_, _, q30, _, q50, _⟩ := F1.bag b l hb
      exact ⟨q1, q2, by rw [upd_ne (ne_of_none q30 hD)]; exact q3, q4, by rw [upd_ne (ne_of_none q50 hD)]; exact q5, q6⟩
    · have kl : ∀ a xs', AO c (put O D (.hid n)) a → H5 a = some (.lst xs') → upd H5 D (.lst (xs ++ [v])) a = some (.lst xs') ∧ AO c (put O D (.hid n)) a := fun a xs' ha h => by
        obtain ⟨q1, q2⟩ := ha.put
        exact ⟨by rw [upd_ne q2]; exact h, ha⟩
      have kt : ∀ a xs', H5 a = some (.tup xs') → upd H5 D (.lst (xs ++ [v])) a = some (.tup xs') := fun a xs' h => by
        rw [upd_ne (fun z => by rw [z, h5] at h; cases h)]; exact h
      exact ⟨by rw [List.length_append, List.length_singleton]; omega, xs ++ [v], upd_same, (Reps.mv kl kt _ _ rs).append (.cons (Rep.mv kl kt _ _ r5) .nil)⟩
  refine ⟨fun i m H2 => ∃ acc, m = ds.length - i ∧ i ≤ ds.length ∧ Hd c (put O D (.hid n)) H1 D acc H2 ∧ lcGo2 p tt ti1 p1 tt1 te vs1 (wipeD e vs) (ds.drop i) acc (fun acc => R (.lst acc)),
    ⟨ds.length, [], by simp, Nat.zero_le _, ⟨.new hD, Nat.zero_le _, [], upd_same, .nil⟩, hds⟩, ?_⟩
  rintro i m H2 ⟨acc, rfl, hi, hd, hg⟩
  have F2 := fi hd
  have S2 : Stp c O H1 (put O D (.hid n)) H2 := stp_put hD hd.g
  by_cases hlt : i < ds.length
  · refine .inr ⟨wd.go i _ H2 hlt S2, fun H3 => ∃ acc, Hd c (put O D (.hid n)) H1 D acc H3 ∧ lcGo2 p tt ti1 p1 tt1 te vs1 (wipeD e vs) (ds.drop (i + 1)) acc (fun acc => R (.lst acc)), fun H3 ⟨acc, h3, h4⟩ => ⟨ds.length - (i + 1), by omega, acc, rfl, hlt, h3, h4⟩, fun x H3 y => ?_⟩
    have hdi : ds[i]? = some ds[i] := List.getElem?_eq_getElem hlt
    obtain ⟨g3, r3⟩ := wd.yld i _ H2 H3 x _ hdi S2 F2.bag y
    have F3 := (F2.up g3).wiped vs
    rw [List.drop_eq_getElem_cons hlt] at hg
    unfold lcGo2 at hg
    split at hg
    · exact hg.elim
    · rename_i e2 hb
      have hn2 := bindP_hid hb hnE
      refine ⟨_, wipeD e vs, _, e2, F3, r3, hb, fun σ2 F4 hw => ⟨by rw [hw vs hp, wipe_wipe], _, e2, _, F4, hg, fun b H4 g4 hb4 => ?_⟩⟩
      have hd4 := hd.up F2.bag nD (g3.trans g4)
      cases b with
      | false =>
        rw [if_neg Bool.false_ne_true] at hb4
        exact iteF ⟨acc, hd4, hb4⟩
      | true =>
        rw [if_pos rfl] at hb4
        refine iteT ?_
        refine ⟨_, e2, _, F4.up g4, hb4, fun ds1 J1 H5 g5 wd1 hds1 => ?_⟩
        have F5 := (F4.up g4).up g5
        have hd5 := hd4.up (F4.up g4).bag nD g5
        refine ⟨fun j m H6 => ∃ acc, m = ds1.length - j ∧ j ≤ ds1.length ∧ Hd c (put O D (.hid n)) H1 D acc H6 ∧ (FI c (put O D (.hid n)) e2 σ2 H6 ∧ Stp c (put O D (.hid n)) H5 (put O D (.hid n)) H6) ∧ lcIn p1 tt1 te (wipeD e2 vs1) (ds1.drop j) acc fun acc' => lcGo2 p tt ti1 p1 tt1 te vs1 (wipeD e vs) (ds.drop (i + 1)) acc' (fun acc => R (.lst acc)),
          ⟨ds1.length, acc, by simp, Nat.zero_le _, hd5, ⟨F5, .refl _ _ _⟩, hds1⟩, ?_⟩
        rintro j m H6 ⟨acc, rfl, hj, hd6, ⟨F6, S6⟩, hg6⟩
        by_cases hjt : j < ds1.length
        · refine .inr ⟨wd1.go j _ H6 hjt S6, fun H7 => ∃ acc, Hd c (put O D (.hid n)) H1 D acc H7 ∧ (FI c (put O D (.hid n)) e2 σ2 H7 ∧ Stp c (put O D (.hid n)) H5 (put O D (.hid n)) H7) ∧ lcIn p1 tt1 te (wipeD e2 vs1) (ds1.drop (j + 1)) acc fun acc' => lcGo2 p tt ti1 p1 tt1 te vs1 (wipeD e vs) (ds.drop (i + 1)) acc' (fun acc => R (.lst acc)), fun H7 ⟨acc, h3, h4, h5⟩ => ⟨ds1.length - (j + 1), by omega, acc, rfl, hjt, h3, h4, h5⟩, fun x H7 y => ?_⟩
          have hdj : ds1[j]? = some ds1[j] := List.getElem?_eq_getElem hjt
          obtain ⟨g7, r7⟩ := wd1.yld j _ H6 H7 x _ hdj S6 F6.bag y
          have F7 := (F6.up g7).wiped vs1
          rw [List.drop_eq_getElem_cons hjt] at hg6
          unfold lcIn at hg6
          split at hg6
          · exact hg6.elim
          · rename_i e3 hb3
            refine ⟨_, wipeD e2 vs1, _, e3, F7, r7, hb3, fun σ3 F8 hw3 => ⟨by rw [hw3 vs1 hp1, wipe_wipe], _, e3, _, F8, hg6, fun b H8 g8 hb8 => ?_⟩⟩
            have hd8 := hd6.up F6.bag nD (g7.trans g8)
            have F68 := F6.up (g7.trans g8)
            have S68 : Stp c (put O D (.hid n)) H5 (put O D (.hid n)) H8 := S6.trans (.grow (g7.trans g8))
            cases b with
            | false =>
              rw [if_neg Bool.false_ne_true] at hb8
              exact iteF ⟨acc, hd8, ⟨F68, S68⟩, hb8⟩
            | true =>
              rw [if_pos rfl] at hb8
              refine iteT ?_
              refine ⟨_, e3, _, F8.up g8, hb8, fun y v H9 g9 r9 ⟨hz, hy⟩ => ?_⟩
              have hd9 := hd8.up F68.bag nD g9
              obtain ⟨xs, x1, x2, x3⟩ := push hd9 hz r9
              have F69 := F68.up g9
              obtain ⟨f1, f2⟩ := F69.re OD hn2 (H' := upd H9 D (.lst (xs ++ [v]))) (fun b hb => upd_ne hb) upd_same
              exact ⟨xs, x1, x2, acc ++ [y], x3, ⟨f1, (S68.trans (.grow g9)).trans f2⟩, hy⟩
        · have ej : j = ds1.length := by omega
          subst ej
          rw [List.drop_length] at hg6
          unfold lcIn at hg6
          exact .inl ⟨wd1.stop _ H6 S6, acc, hd6, hg6⟩
  · have ei : i = ds.length := by omega
    subst ei
    rw [List.drop_length] at hg
    unfold lcGo2 at hg
    refine .inl ⟨wd.stop _ H2 S2, k (.lst acc) (.ref D) H2 (g1.trans hd.g) ?_ hg⟩
    obtain ⟨z, xs, h2, rs⟩ := hd.own
    exact Rep.lst_iff.mpr ⟨D, xs, rfl, frD, h2, z, Reps.mv (fun a xs ha h => ⟨h, ha.put.1⟩) (fun _ _ h => h) _ _ rs⟩
variable {elt tg iter tg1 iter1 : Expr} {ifs ifs1 : List Expr} {scope : Scope} {own : List (Str × Nat)} {vs1 : List Nat} {pos : Pos} {ti ti1 : ID} {p p1 : Pat} {tt tt1 : BD} {te : ED}
theorem de_lc2 (hc : X.calm = true) (hN : X.N.Nodup) (hi : DI X c tg iter ti) (ok : BlkOk X.N X.env.scope scope own)
    (hg : ∀ (s : Shared) (H : Hp) (C : Addr) (cl : List (Str × Addr)) (fp : List Addr), DG (X.blk s H scope (compEnvC scope cl C X.env) fp) c tg p) (ht : ∀ (s : Shared) (H : Hp) (C : Addr) (cl : List (Str × Addr)) (fp : List Addr), DTs (X.blk s H scope (compEnvC scope cl C X.env) fp) c ifs tt)
    (hi1 : ∀ (s : Shared) (H : Hp) (C : Addr) (cl : List (Str × Addr)) (fp : List Addr), DI (X.blk s H scope (compEnvC scope cl C X.env) fp) c tg1 iter1 ti1)
    (hg1 : ∀ (s : Shared) (H : Hp) (C : Addr) (cl : List (Str × Addr)) (fp : List Addr), DG (X.blk s H scope (compEnvC scope cl C X.env) fp) c tg1 p1) (ht1 : ∀ (s : Shared) (H : Hp) (C : Addr) (cl : List (Str × Addr)) (fp : List Addr), DTs (X.blk s H scope (compEnvC scope cl C X.env) fp) c ifs1 tt1)
    (he : ∀ (s : Shared) (H : Hp) (C : Addr) (cl : List (Str × Addr)) (fp : List Addr), DE (X.blk s H scope (compEnvC scope cl C X.env) fp) c elt te)
    (hp : ∀ i ∈ p.slots, i ∈ own.map (·.2) := by decide) (hp1 : ∀ i ∈ p1.slots, i ∈ vs1 := by decide) (hv : ∀ i ∈ vs1, i ∈ own.map (·.2) := by decide)
    (hs : ∀ x, foldedSetIterable iter X.env x = pure x := by intro _; rfl) (hs1 : ∀ env x, foldedSetIterable iter1 env x = pure x := by intro _ _; rfl) :
    DE X c (.ListComp elt [⟨tg, iter, ifs, 0⟩, ⟨tg1, iter1, ifs1, 0⟩] scope pos) (sLC2 ti p tt ti1 p1 tt1 te (own.map (·.2)) vs1) := (pe_lc2 hc hN hi ok hv hg ht hi1 hg1 ht1 he hs hs1).of fun σ H Q h => tLc2_of hp hp1 h
end
end SD

namespace SD
open L2 PyProof.Rows PySem PySem.Spec
/-! ### bags of drawn numbers, and the loop over them -/
def rLn (K : PySem.W.Frag) : List V → Hp → VK → Prop := fun xs H Q => ∃ p ys, xs = [.ref p] ∧ (SqL K H p ys ∨ SqT K H p ys) ∧ Q (.int ys.length) H
def rAdd2 : R2 := rI0 fun i j => .int (i + j)
def rMod2 : R2 := rI (fun _ j => 0 < j) fun i j => .int (i % j)
def rMax2 : List V → Hp → VK → Prop := fun xs H Q => ∃ i j : Int, xs = [.int i, .int j] ∧ Q (.int (if j > i then j else i)) H
def rMin2 : List V → Hp → VK → Prop := fun xs H Q => ∃ i j : Int, xs = [.int i, .int j] ∧ Q (.int (if j < i then j else i)) H
/-- any number below the bound -/
def phi_law_take : SpD := fun ds R => ∃ many : Int, ds = [.bag, .int many] ∧ 0 < many ∧ ∀ r : Int, 0 ≤ r → r < many → R (.int r)
def tTake (K : PySem.W.Frag) : TS :=
  tSeq (tAsg (tOp rAdd2 (tOp (rIx K) (tVar 0) (tC (.int 1))) (tC (.int 1))) (gSub (tVar 0) (tC (.int 1)) rSetL))
    (tRet (tOp rMod2 (tOp (rIx K) (tOp (rIx K) (tVar 0) (tC (.int 0))) (tOp rMod2 (tOp (rIx K) (tVar 0) (tC (.int 1))) (tCB (rLn K) (tCons (tOp (rIx K) (tVar 0) (tC (.int 0))) tNil)))) (tVar 1)))
theorem at0 {a b : V} : L2.atI [a, b] 0 = some a := rfl
theorem at1 {a b : V} : L2.atI [a, b] 1 = some b := rfl
theorem atMod {ns : List Int} {j : Int} (h : 0 < ns.length) : ∃ n, n ∈ ns ∧ L2.atI (ns.map V.int) (j % ((ns.map V.int).length : Int)) = some (V.int n) := by
  rw [List.length_map]
  have h1 : 0 ≤ j % (ns.length : Int) := Int.emod_nonneg j (by omega)
  have h2 : j % (ns.length : Int) < (ns.length : Int) := Int.emod_lt_of_pos j (by omega)
  obtain ⟨m, hm⟩ : ∃ m : Nat, j % (ns.length : Int) = (m : Int) := ⟨_, (Int.toNat_of_nonneg h1).symm⟩
  rw [hm]
  rw [hm] at h2
  have h3 : m < ns.length := by omega
  have e1 : ixN (ns.map V.int).length ((m : Nat) : Int) = some m := by
    unfold ixN
    (rw [if_pos (by omega), List.length_map, if_pos (by omega)])
    rfl
  refine ⟨ns[m], List.getElem_mem h3, ?_⟩
  unfold L2.atI
  rw [e1]
  show (ns.map V.int)[m]? = _
  rw [List.getElem?_map, List.getElem?_eq_getElem h3]
  rfl
theorem take_run {K : PySem.W.Frag} {H : Hp} {vs : List V} {Q : VK} {E : XK} {N : List Str} (h : spD phi_law_take vs H Q E) : tTake K { nx := fun _ H' => Q .non H', rt := Q } (start N vs) H := by
  obtain ⟨A, bg, ds, R, h1, h2, h3, ⟨many, rfl, hm, hR⟩, h5⟩ := h
  obtain ⟨v, vr, rfl, r1, r2⟩ := h3.cons_inv
  obtain ⟨v2, vr2, rfl, r3, r4⟩ := r2.cons_inv
  obtain rfl := r4.nil_inv
  obtain rfl := Rep.int_iff.mp r3
  obtain ⟨a, l, rfl, hbg⟩ := Rep.bag_iff.mp r1
  obtain ⟨c, ns, k1, k2, k3, k4, k5, k6, k7⟩ := h2 a l hbg
  have s0 : (start N [V.ref a, V.int many])[0]? = some (some (V.ref a)) := rfl
  have s1 : (start N [V.ref a, V.int many])[1]? = some (some (V.int many)) := rfl
  have hl' : upd H a (.lst [V.ref l, V.int (c + 1)]) l = some (.lst (ns.map V.int)) := by rw [upd_ne k2]; exact k3
  have qa : SqL K (upd H a (.lst [V.ref l, V.int (c + 1)])) a [V.ref l, V.int (c + 1)] := SqL.of upd_same
  have ql : SqL K (upd H a (.lst [V.ref l, V.int (c + 1)])) l (ns.map V.int) := SqL.of hl'
  obtain ⟨n, hn, en⟩ := atMod (j := c + 1) k4
  refine ⟨_, s0, .inl ⟨a, _, _, _, rfl, rfl, SqL.of k1, at1, c, 1, rfl, rfl, _, s0, a, _, 1, 1, rfl, rfl, k1, rfl, ?_⟩⟩
  refine ⟨_, s0, .inl ⟨a, _, _, _, rfl, rfl, qa, at0, _, s0, .inl ⟨a, _, _, _, rfl, rfl, qa, at1, _, s0, .inl ⟨a, _, _, _, rfl, rfl, qa, at0, l, _, rfl, .inl ql, c + 1, _, rfl, rfl, by rw [List.length_map]; omega, ?_⟩⟩⟩⟩
  refine .inl ⟨l, _, _, _, rfl, rfl, ql, en, _, s1, n, many, rfl, rfl, hm, ?_⟩
  refine h5 (.int (n % many)) _ _ ⟨fun x o hx nx => ?_, fun ok b l' hb => ?_⟩ (Rep.int_iff.mpr rfl) (hR _ (Int.emod_nonneg n (by omega)) (Int.emod_lt_of_pos n hm))
  · rw [upd_ne (fun e => nx l (by rw [hbg, e]))]; exact hx
  · rw [hbg] at hb; cases hb
    exact ⟨c + 1, ns, upd_same, k2, hl', k4, k5, k6, by omega⟩
/-- what is drawn: 400 numbers below 1000 -/
def phi_law_draws : SpD := fun ds R => ∃ cell : Int, ds = [.int cell, .int 400, .int 1000] ∧ ∀ ns : List Int, ns.length = 400 → (∀ n ∈ ns, 0 ≤ n ∧ n < 1000) → R (.lst (ns.map D.int))
/-- a new bag -/
def spBag (K : PySem.W.Frag) : Sp := fun vs H Q _ => ∃ (a : Addr) (ns : List Int) (j : Nat), vs = [.ref a, .int (j : Int)] ∧ SqL K H a (ns.map V.int) ∧
  ∀ b l H', Same H H' → H b = none → H l = none → IsBag H' b l → Q (.ref b) H'
def tBag (K : PySem.W.Frag) : TS :=
  tRet (tLst (tCons (tCall (spD phi_law_draws) [] E0 (tCons (tCall (spCell K) [] E0 (tCons (tVar 0) (tCons (tVar 1) tNil))) (tCons (tC (.int 400)) (tCons (tC (.int 1000)) tNil)))) (tCons (tC (.int 0)) tNil)))
theorem same_new {H : Hp} {p : Addr} {o : HO} (hp : H p = none) : Same H (upd H p o) := fun b u e => by rw [upd_ne (ne_of_none e hp)]; exact e
theorem bag_run {K : PySem.W.Frag} {H : Hp} {vs : List V} {Q : VK} {E : XK} {N : List Str} (h : spBag K vs H Q E) : tBag K { nx := fun _ H' => Q .non H', rt := Q } (start N vs) H := by
  obtain ⟨a, ns, j, rfl, hs, q⟩ := h
  have s0 : (start N [V.ref a, V.int (j : Nat)])[0]? = some (some (V.ref a)) := rfl
  have s1 : (start N [V.ref a, V.int (j : Nat)])[1]? = some (some (V.int (j : Nat))) := rfl
  refine ⟨_, s0, _, s1, a, ns, j, rfl, hs, ?_⟩
  refine ⟨fun _ => False, none, [.int (cellOf ns j), .int 400, .int 1000], fun d => ∃ ms : List Int, d = .lst (ms.map D.int) ∧ ms.length = 400 ∧ ∀ n ∈ ms, 0 ≤ n ∧ n < 1000, fun _ z => z.elim, fun _ _ z => (nomatch z), .cons (Rep.int_iff.mpr rfl) (.cons (Rep.int_iff.mpr rfl) (.cons (Rep.int_iff.mpr rfl) .nil)), ⟨cellOf ns j, rfl, fun ms h1 h2 => ⟨ms, rfl, h1, h2⟩⟩, ?_⟩
  rintro d v H1 g r ⟨ms, rfl, h1, h2⟩
  obtain ⟨l, xs, rfl, hl, hx, hz, rs⟩ := Rep.lst_iff.mp r
  obtain rfl := rs.ints
  have sm : Same H H1 := fun b o e => g.keep b o e fun _ z => nomatch z
  have hl0 : H l = none := by
    rcases hl.1 with z | z
    · exact z.elim
    · exact z
  refine ⟨by show 2 ≤ sizeLine; rw [sizeLine_eq]; decide, fun p hp => ?_⟩
  have lp : l ≠ p := ne_of_none hx hp
  refine q p l _ (sm.trans (same_new hp)) (sm.free hp) hl0 ⟨0, ms, upd_same, lp, by rw [upd_ne lp]; exact hx, by omega, by omega, h2, Int.le_refl _⟩
/-- bags, each by itself -/
def BagsOk (H : Hp) (bs : List (Addr × Addr)) : Prop := bs.Pairwise (fun x y => x.1 ≠ y.1 ∧ x.1 ≠ y.2 ∧ y.1 ≠ x.2) ∧ ∀ x ∈ bs, IsBag H x.1 x.2
def spBags (K : PySem.W.Frag) : Sp := fun vs H Q _ => ∃ (a : Addr) (ns : List Int) (lim : Int), vs = [.ref a, .int lim] ∧ SqL K H a (ns.map V.int) ∧ ns.length ≤ 63 ∧
  ∀ p (bs : List (Addr × Addr)) H', Same H H' → H' p = some (.lst (bs.map fun x => V.ref x.1)) → BagsOk H' bs → (∀ x ∈ bs, x.1 ≠ p) → Q (.ref p) H'
def tBags (K : PySem.W.Frag) : TS :=
  tRet (tLc (iRng1 (tCons (tCB rMax2 (tCons (tC (.int 1)) (tCons (tCB rMin2 (tCons (tVar 1) (tCons (tCB (rLn K) (tCons (tVar 0) tNil)) tNil))) tNil))) tNil)) (gName 2) tYes (tCall (spBag K) [] E0 (tCons (tVar 0) (tCons (tVar 2) tNil))) [2])
theorem bags_run {K : PySem.W.Frag} {H : Hp} {vs : List V} {Q : VK} {E : XK} (h : spBags K vs H Q E) : tBags K { nx := fun _ H' => Q .non H', rt := Q } (start ["script", "limit", "k"] vs) H := by
  obtain ⟨a, ns, lim, rfl, hs, h63, q⟩ := h
  refine ⟨_, rfl, _, rfl, a, _, rfl, .inl hs, _, _, rfl, 1, _, rfl, ?_⟩
  generalize hM : (if (if ((ns.map V.int).length : Int) < lim then ((ns.map V.int).length : Int) else lim) > 1 then (if ((ns.map V.int).length : Int) < lim then ((ns.map V.int).length : Int) else lim) else 1) = M
  have hM1 : M ≤ 64 := by
    rw [← hM]
    have : (ns.map V.int).length ≤ 63 := by rw [List.length_map]; exact h63
    split
    · split <;> omega
    · omega
  have hM0 : 0 ≤ M := by
    rw [← hM]
    split <;> omega
  refine ⟨M, rfl, by omega, by omega, fun D hD => ?_⟩
  refine ⟨fun i m H2 => ∃ bs : List (Addr × Addr), m = M.toNat - i ∧ i ≤ M.toNat ∧ bs.length = i ∧ Same H H2 ∧ H2 D = some (.lst (bs.map fun x => V.ref x.1)) ∧ BagsOk H2 bs ∧ (∀ x ∈ bs, x.1 ≠ D ∧ x.2 ≠ D), ⟨M.toNat, [], by simp, Nat.zero_le _, rfl, same_new hD, upd_same, ⟨.nil, fun _ z => (nomatch z)⟩, fun _ z => (nomatch z)⟩, ?_⟩
  rintro i m H2 ⟨bs, rfl, hi, hl, sm, h2, hb, hd⟩
  by_cases hlt : i < M.toNat
  · refine .inr ⟨hlt, fun H3 => ∃ bs : List (Addr × Addr), bs.length = i + 1 ∧ Same H H3 ∧ H3 D = some (.lst (bs.map fun x => V.ref x.1)) ∧ BagsOk H3 bs ∧ (∀ x ∈ bs, x.1 ≠ D ∧ x.2 ≠ D), fun H3 ⟨bs, z1, z2, z3, z4, z5⟩ => ⟨M.toNat - (i + 1), by omega, bs, rfl, hlt, z1, z2, z3, z4, z5⟩, ?_⟩
    rintro x H3 ⟨rfl, rfl⟩
    refine ⟨rfl, ?_⟩
    refine ⟨_, rfl, _, rfl, a, ns, i, ?_, sm.seq hs, fun b l H4 sm4 nb nl ib => ?_⟩
    · show [V.ref a, V.int (0 + (i : Int))] = _
      rw [Int.zero_add]
    · have h4 := sm4 _ _ h2
      refine ⟨_, h4, by rw [List.length_map, hl, sizeLine_eq]; omega, bs ++ [(b, l)], by rw [List.length_append, hl]; rfl, ?_, ?_, ⟨?_, ?_⟩, ?_⟩
      · exact fun x o e => by rw [upd_ne (ne_of_none e hD)]; exact (sm.trans sm4) x o e
      · rw [upd_same, List.map_append]; rfl
      · rw [List.pairwise_append]
        refine ⟨hb.1, List.pairwise_singleton .., fun x hx y hy => ?_⟩
        obtain rfl := List.mem_singleton.mp hy
        obtain ⟨c, ms, x1, x2, x3, _⟩ := hb.2 x hx
        exact ⟨ne_of_none x1 nb, ne_of_none x1 nl, (ne_of_none x3 nb).symm⟩
      · intro x hx
        (rcases List.mem_append.mp hx with hx | hx)
        · obtain ⟨c, ms, x1, x2, x3, x4⟩ := hb.2 x hx
          obtain ⟨d1, d2⟩ := hd x hx
          exact ⟨c, ms, by rw [upd_ne d1]; exact sm4 _ _ x1, x2, by rw [upd_ne d2]; exact sm4 _ _ x3, x4⟩
        · obtain rfl := List.mem_singleton.mp hx
          obtain ⟨c, ms, x1, x2, x3, x4⟩ := ib
          exact ⟨c, ms, by rw [upd_ne (ne_of_none h2 nb).symm]; exact x1, x2, by rw [upd_ne (ne_of_none h2 nl).symm]; exact x3, x4⟩
      · intro x hx
        (rcases List.mem_append.mp hx with hx | hx)
        · exact hd x hx
        · obtain rfl := List.mem_singleton.mp hx
          exact ⟨(ne_of_none h2 nb).symm, (ne_of_none h2 nl).symm⟩
  · have ei : i = M.toNat := by omega
    exact .inl ⟨by show M.toNat ≤ i; omega, q D bs H2 sm h2 hb fun x hx => (hd x hx).1⟩
/-! ### the law -/
/-- whatever stands around -/
def tAny (n : Nat) (t : SDt) : TS := fun Z σ H => σ.length = n → ∃ c, tS c t { Z with nx := fun σ' H' => σ'.length = n → Z.nx σ' H', ct := fun σ' H' => σ'.length = n → Z.ct σ' H' } σ H
theorem pss_any {X : Cx} {sts : List Stmt} {t : SDt} {n : Nat} (hn : X.N.length = n) (h : ∀ c, DSs X c sts t) : PSs X sts (tAny n t) := by
  refine ⟨fun pins s σ H Z I w => ?_⟩
  obtain ⟨c, w⟩ := w (I.len.trans hn)
  refine thn ((h c).run pins s σ H _ I w) fun f s' q => ?_
  cases f with
  | next => obtain ⟨σ', H', I', q⟩ := q; exact ⟨σ', H', I', q (I'.len.trans hn)⟩
  | brk => exact q
  | cont => obtain ⟨σ', H', I', q⟩ := q; exact ⟨σ', H', I', q (I'.len.trans hn)⟩
  | ret v => exact q
def spLaw (K : PySem.W.Frag) : Sp := fun vs H Q _ => ∃ (sc : Addr) (ns : List Int), vs = [.ref sc] ∧ SqL K H sc (ns.map V.int) ∧ ns.length ≤ 63 ∧ ∀ H', Q (.bl true) H'
/-- a bag at the name of place 1 -/
def envB (n : Nat) : EnvD := .un :: .val .bag :: List.replicate (n - 2) .un
theorem envB_get {n i : Nat} {s : Slot} (h : (envB n)[i]? = some s) : s = .un ∨ (i = 1 ∧ s = .val .bag) := by
  unfold envB at h
  cases i with
  | zero => cases h; exact .inl rfl
  | succ i =>
    cases i with
    | zero => cases h; exact .inr ⟨rfl, rfl⟩
    | succ i =>
      rw [List.getElem?_cons_succ, List.getElem?_cons_succ, List.getElem?_replicate] at h
      split at h
      · cases h; exact .inl rfl
      · cases h
def tLaw (K : PySem.W.Frag) (n : Nat) (lim : Int) (zb zt : SDt) : TS :=
  tSeq (tFor (iList K (tCall (spBags K) [] E0 (tCons (tVar 0) (tCons (tC (.int lim)) tNil)))) (gName 1) (tAny n zb)) (tAny n zt)
theorem fi_bag {n : Nat} {σ : L2.St} {H : Hp} {b l : Addr} (hn : 2 ≤ n) (hl : σ.length = n) (h1 : σ[1]? = some (some (V.ref b))) (ib : IsBag H b l) : FI ⟨fun _ => False, H, some (b, l)⟩ (fun _ => none) (envB n) σ H where
  len := by unfold envB; simp; omega
  bag0 := fun b' l' e => by cases e; exact ib
  bag := fun b' l' e => by cases e; exact ib
  grow := .refl _ _
  own := fun _ _ h => nomatch h
  slot := fun i s h => by
    rcases envB_get h with rfl | ⟨rfl, rfl⟩
    · trivial
    · exact ⟨_, h1, Rep.bag_iff.mpr ⟨b, l, rfl, rfl⟩⟩
  inj := fun i j w w' a h _ _ _ => by
    rcases envB_get h with h | ⟨_, h⟩ <;> cases h
theorem fi_un {n : Nat} {σ : L2.St} {H : Hp} (hl : σ.length = n) : FI ⟨fun _ => False, H, none⟩ (fun _ => none) (List.replicate n .un) σ H where
  len := by rw [List.length_replicate, hl]
  bag0 := fun _ _ e => nomatch e
  bag := fun _ _ e => nomatch e
  grow := .refl _ _
  own := fun _ _ h => nomatch h
  slot := fun i s h => by
    rw [List.getElem?_replicate] at h
    split at h
    · cases h; trivial
    · cases h
  inj := fun i j w w' a h _ _ _ => by
    rw [List.getElem?_replicate] at h
    split at h <;> cases h
theorem law_run {K : PySem.W.Frag} {n : Nat} {lim : Int} {zb zt : SDt} {H : Hp} {vs : List V} {Q : VK} {E : XK} {N : List Str} (hn : 2 ≤ n)
    (hb : zb { nx := fun _ => True, rt := fun _ => False, ct := fun _ => True } (envB n)) (ht : zt { nx := fun _ => False, rt := fun d => d = .bl true } (List.replicate n .un))
    (h : spLaw K vs H Q E) : tLaw K n lim zb zt { nx := fun _ H' => Q .non H', rt := Q } (start N vs) H := by
  obtain ⟨a, ns, rfl, hs, h63, q⟩ := h
  refine ⟨_, rfl, a, ns, lim, rfl, hs, h63, fun p bs H1 sm h1 hB hp => ⟨p, rfl, ⟨_, SqL.of h1⟩, ?_⟩⟩
  refine for_list (K := K) (a := p) (xs := bs.map fun x => V.ref x.1) (fun i σ H' => H' p = some (.lst (bs.map fun x => V.ref x.1)) ∧ ∀ x ∈ bs.drop i, IsBag H' x.1 x.2) ⟨h1, fun x hx => hB.2 x (List.mem_of_mem_drop hx)⟩ (fun i σ H' _ h => SqL.of h.1) ?_ ?_
  · rintro i y σ H' hi ⟨h2, h3⟩
    rw [List.getElem?_map] at hi
    cases e : bs[i]? with
    | none => rw [e] at hi; cases hi
    | some x =>
      rw [e] at hi
      cases hi
      obtain ⟨hi', ex⟩ := List.getElem?_eq_some_iff.mp e
      have hd : bs.drop i = x :: bs.drop (i + 1) := by rw [List.drop_eq_getElem_cons hi', ex]
      rw [hd] at h3
      have ib := h3 x List.mem_cons_self
      have pw := hB.1.sublist (List.drop_sublist i bs)
      rw [hd, List.pairwise_cons] at pw
      have nx : ∀ H3, Grow (some (x.1, x.2)) H' H3 → H3 p = some (.lst (bs.map fun x => V.ref x.1)) ∧ ∀ y ∈ bs.drop (i + 1), IsBag H3 y.1 y.2 := fun H3 g => by
        refine ⟨g.keep _ _ h2 fun l z => ?_, fun y hy => ?_⟩
        · cases z
          exact hp x (List.mem_of_getElem? e) rfl
        · obtain ⟨c, ms, y1, y2, y3, y4⟩ := h3 y (List.mem_cons_of_mem _ hy)
          obtain ⟨n1, n2, n3⟩ := pw.1 y hy
          exact ⟨c, ms, g.keep _ _ y1 fun l z => n1 (congrArg (fun o => (o.getD (0, 0)).1) z), y2, g.keep _ _ y3 fun l z => n2 (congrArg (fun o => (o.getD (0, 0)).1) z), y4⟩
      intro hl
      rw [List.length_set] at hl
      have F := fi_bag (H := H') hn (σ := σ.set 1 (some (V.ref x.1))) (b := x.1) (l := x.2) (by rw [List.length_set]; exact hl) (List.getElem?_set_self (by omega)) ib
      refine ⟨⟨fun _ => False, H', some (x.1, x.2)⟩, _, _, _, F, hb, ⟨fun O' e' σ' H3 F' _ _ _ => nx H3 F'.grow, fun _ _ _ _ _ _ z => z.elim, fun O' e' σ' H3 F' _ _ _ => nx H3 F'.grow, fun _ _ _ _ _ z => z.elim⟩⟩
  · rintro σ H' _ hl
    refine ⟨⟨fun _ => False, H', none⟩, _, _, _, fi_un hl, ht, ⟨fun _ _ _ _ _ _ z => z.elim, fun _ _ _ _ _ _ z => z.elim, fun _ _ _ _ _ _ z => z.elim, fun d v H3 g r z => ?_⟩⟩
    subst z
    rw [Rep.bl_iff.mp r]
    exact q H3
end SD

namespace SD
open L2 PyProof.Rows PySem PySem.Spec
/-! ### tools for the readings -/
/-- a loop by an invariant over what is left -/
theorem forGo_ind {α : Type} {p : Pat} {tb : SDt} {E : EndsD} (f : α → D) (I : List α → EnvD → Prop) (h0 : ∀ e, I [] e → E.nx e)
    (step : ∀ x xs e, I (x :: xs) e → ∀ K : EnvD → Prop, (∀ e', I xs e' → K e') → ∃ e2, bindP p (f x) e = some e2 ∧ tb { nx := K, rt := E.rt, bk := E.nx, ct := K } e2) :
    ∀ (xs : List α) (e : EnvD), I xs e → forGo p tb E (xs.map f) e
  | [], e, h => h0 e h
  | x :: xs, e, h => by
    obtain ⟨e2, h1, h2⟩ := step x xs e h (forGo p tb E (xs.map f)) fun e' h' => forGo_ind f I h0 step xs e' h'
    rw [List.map_cons]
    unfold forGo
    rw [h1]
    exact h2
/-- a comprehension that picks and maps -/
theorem lcGo_map {α : Type} {p : Pat} {tt : BD} {te : ED} {e : EnvD} (f g : α → D) (b : α → Bool) : ∀ (xs : List α) (acc : List D) (R : List D → Prop),
    (∀ x ∈ xs, ∃ e2, bindP p (f x) e = some e2 ∧ (∀ R, R (b x) → tt e2 R) ∧ (b x = true → ∀ R, R (g x) → te e2 R)) → R (acc ++ (xs.filter b).map g) → lcGo p tt te e (xs.map f) acc R
  | [], acc, R, h, q => by
    rw [List.filter_nil, List.map_nil, List.append_nil] at q
    exact q
  | x :: xs, acc, R, h, q => by
    obtain ⟨e2, h1, h2, h3⟩ := h x List.mem_cons_self
    rw [List.map_cons]
    unfold lcGo
    rw [h1]
    refine h2 _ ?_
    cases hb : b x with
    | true =>
      rw [if_pos rfl]
      refine h3 hb _ (lcGo_map f g b xs _ R (fun y hy => h y (List.mem_cons_of_mem _ hy)) ?_)
      rw [List.filter_cons_of_pos hb, List.map_cons] at q
      rw [List.append_assoc]
      exact q
    | false =>
      (rw [if_neg Bool.false_ne_true])
      refine lcGo_map f g b xs _ R (fun y hy => h y (List.mem_cons_of_mem _ hy)) ?_
      rw [List.filter_cons_of_neg (by rw [hb]; exact Bool.false_ne_true)] at q
      exact q
/-- one that maps all -/
theorem lcGo_all {α : Type} {p : Pat} {te : ED} {e : EnvD} (f g : α → D) (xs : List α) (R : List D → Prop)
    (h : ∀ x ∈ xs, ∃ e2, bindP p (f x) e = some e2 ∧ ∀ R, R (g x) → te e2 R) (q : R (xs.map g)) : lcGo p bYes te e (xs.map f) [] R := by
  refine lcGo_map f g (fun _ => true) xs [] R (fun x hx => ?_) ?_
  · obtain ⟨e2, h1, h2⟩ := h x hx
    exact ⟨e2, h1, fun R r => r, fun _ => h2⟩
  · rw [List.nil_append, List.filter_eq_self.mpr (fun _ _ => rfl)]
    exact q
/-- the same for any list of values -/
theorem forGo_ind1 {p : Pat} {tb : SDt} {E : EndsD} (I : List D → EnvD → Prop) (h0 : ∀ e, I [] e → E.nx e)
    (step : ∀ x xs e, I (x :: xs) e → ∀ K : EnvD → Prop, (∀ e', I xs e' → K e') → ∃ e2, bindP p x e = some e2 ∧ tb { nx := K, rt := E.rt, bk := E.nx, ct := K } e2) (xs : List D) (e : EnvD) (h : I xs e) : forGo p tb E xs e := by
  have := forGo_ind (p := p) (tb := tb) (E := E) id I h0 step xs e h
  rwa [List.map_id] at this
theorem rgD_zero (n : Nat) : rgD 0 (n : Int) = (List.range n).map fun i => D.int ((i : Nat) : Int) := by
  unfold rgD
  rw [Int.sub_zero, Int.toNat_natCast]
  exact List.map_congr_left fun i _ => by rw [Int.zero_add]
theorem atI_nat {α : Type} {l : List α} {i : Nat} {d : α} (h : l[i]? = some d) : L2.atI l ((i : Nat) : Int) = some d := by
  (obtain ⟨hi, _⟩ := List.getElem?_eq_some_iff.mp h)
  unfold L2.atI L2.ixN
  rw [if_pos (by omega), if_pos (by omega), Int.toNat_natCast]
  exact h
theorem bls?_mapf {α : Type} (b : α → Bool) (xs : List α) : bls? (xs.map fun x => D.bl (b x)) = some (xs.map b) := by
  rw [← bls?_map (xs.map b), List.map_map]
  rfl
theorem ints?_mapf {α : Type} (b : α → Int) (xs : List α) : ints? (xs.map fun x => D.int (b x)) = some (xs.map b) := by
  rw [← ints?_map (xs.map b), List.map_map]
  rfl
theorem ite_bl {b : Bool} {R : D → Prop} (h : R (.bl b)) : if b = true then R (.bl true) else R (.bl false) := by cases b <;> exact h
theorem fit_int {i : Int} : (D.int i).fit ↔ True := iff_true_intro ⟨rfl, Nat.zero_le _⟩
theorem fit_bl {i : Bool} : (D.bl i).fit ↔ True := iff_true_intro ⟨rfl, Nat.zero_le _⟩
theorem fit_non : D.non.fit ↔ True := iff_true_intro ⟨rfl, Nat.zero_le _⟩
theorem eqv_int {i j : Int} : D.eqv (.int i) (.int j) = (i == j) := by unfold D.eqv; rfl
theorem eqv_bl {i j : Bool} : D.eqv (.bl i) (.bl j) = (i == j) := by unfold D.eqv; rfl
theorem isN_non : D.non.isN = true := rfl
theorem isN_int {i : Int} : (D.int i).isN = false := rfl
theorem isN_bl {i : Bool} : (D.bl i).isN = false := rfl
theorem isN_tup {i : List D} : (D.tup i).isN = false := rfl
theorem isN_lst {i : List D} : (D.lst i).isN = false := rfl
theorem cast2 : ((2 : Nat) : Int) = 2 := rfl
theorem cast3 : ((3 : Nat) : Int) = 3 := rfl
theorem cast1 : ((1 : Nat) : Int) = 1 := rfl
theorem cast0 : ((0 : Nat) : Int) = 0 := rfl
theorem sl_le {l : List D} (h : l.length ≤ 1000) : l.length ≤ sizeLine := Nat.le_trans h (by rw [sizeLine_eq]; decide)
theorem le_sl {n : Nat} (h : n ≤ 1000) : n ≤ sizeLine := Nat.le_trans h (by rw [sizeLine_eq]; decide)
theorem lt_sl {n : Nat} (h : n < 1000) : n < sizeLine := Nat.lt_of_lt_of_le h (by rw [sizeLine_eq]; decide)
end SD

namespace SD
open L2 PyProof.Rows PySem PySem.Spec
/-! ### the package's functions by values -/
/-- a list of ints as values -/
def iT (ws : List Int) : D := .tup (ws.map D.int)
def iL (ws : List Int) : D := .lst (ws.map D.int)
abbrev Wd := Int × List (List Int)
def encW (w : Wd) : D := .tup [.int w.1, .tup (w.2.map iT)]
def encS (a b : Int) : D := .tup [.int a, .int b]
structure OkRail (W : Int) (ws : List Int) : Prop where
  len : ws.length ≤ 6
  each : ∀ x ∈ ws, 1 ≤ x ∧ x ≤ W
  sum : ws.sum ≤ W
structure OkW (w : Wd) : Prop where
  width : 1 ≤ w.1 ∧ w.1 ≤ 1000000
  rails : 1 ≤ w.2.length ∧ w.2.length ≤ 4
  each : ∀ ws ∈ w.2, OkRail w.1 ws
/-- the sums ahead of each, and of all -/
def hds : Int → List Int → List Int
  | s, [] => [s]
  | s, w :: ws => s :: hds (s + w) ws
def z_heads : SDt := (zSeq (zSetO (oLst (aCons (sC (.int 0)) aNil)) 1)
    (zSeq (zFor (iSeqD (sVar 0)) (.nm 2)
      (zApp 1 (sOp addD (sLast 1) (sVar 2))))
    (zFrz 1 (zRet (sVar 1)))))
abbrev N_heads : List Str := ["widths", "found", "width"]
def z_slack_of : SDt := (zRet (sOp subD (sVar 0) (sBi sumD (aCons (sVar 1) aNil))))
abbrev N_slack_of : List Str := ["width", "widths"]
def z_is_integer : SDt := (zRet (sAnd (sBi isiD (aCons (sVar 0) (aCons (sC (.ty "int")) aNil))) (sAnd (sNot (sBi isiD (aCons (sVar 0) (aCons (sC (.ty "bool")) aNil)))) (sChain leD leD (sVar 1) (sVar 0) (sVar 2)))))
abbrev N_is_integer : List Str := ["value", "low", "high"]
def phi_heads : SpD := fun ds R => ∃ ws : List Int, ds = [iT ws] ∧ ws.length ≤ 500 ∧ R (iL (hds 0 ws))
theorem len_heads : ∀ ds R, phi_heads ds R → ds.length = 1 := by rintro ds R ⟨ws, rfl, _⟩; rfl
theorem hds_length : ∀ (ws : List Int) (s : Int), (hds s ws).length = ws.length + 1
  | [], s => rfl
  | w :: ws, s => by rw [hds, List.length_cons, hds_length ws, List.length_cons]
theorem rd_heads : ∀ ds R, phi_heads ds R → z_heads { nx := fun _ => R .non, rt := R } (startD N_heads ds) := by
  rintro ds R ⟨ws, rfl, hl, hR⟩
  show z_heads _ [.val (iT ws), .un, .un]
  simp only [z_heads, iT, zNext, zSeq, zPass, zBreak, zCont, zNever, zExpr, zRet, zRetN, zIf, zAsg, zSetO, zFrz, zApp, zPar, zParO1, zParO2, zFor, sVar, sC, sOp, sB, sBi, sCall, aNil, aCons, sTup, sLst, oLst, bAnd, bOr, bNot, sAnd, sOr, sNot, sIf, sNeg, sChain, oNone, oSome, sSl, sLast, iSeqD, iEnumD, iZipD, iRg1, iRg2, iRg3, sLC, sLC2, bYes, addD, subD, mulD, fdivD, modD, powD, ltD, leD, gtD, geD, eqD, neD, isD, isntD, ixD, sumD, lenD, absD, maxD, minD, allD, anyD, intCD, tupCD, lstCD, isiD, reprD, isTy, seqD?, bindP, bindPs, wipeD, frz, isN_non, isN_int, isN_bl, isN_tup, isN_lst, ints?_map, bls?_map, ints?_mapf, bls?_mapf, fit_int, fit_bl, fit_non, eqv_int, eqv_bl, cast2, cast3, cast1, cast0, intD, intD0, List.set_cons_zero, List.set_cons_succ, List.getElem?_cons_zero, List.getElem?_cons_succ, List.map_cons, List.map_nil, List.length_cons, List.length_nil, List.length_map, Nat.reduceAdd, Option.some.injEq, if_true, if_false, reduceCtorEq, decide_eq_true_eq, Bool.not_eq_true, true_or, or_true, true_and, and_true, false_or, or_false, String.reduceEq, String.reduceBEq, Bool.or_true, Bool.true_or, Bool.or_false, Bool.false_or, beq_self_eq_true, Bool.not_true, Bool.not_false, Bool.false_eq_true]
  refine ⟨le_sl (by decide), ?_⟩
  refine forGo_ind (p := .nm 2) D.int (fun xs e => ∃ (acc : List Int) (s : Int) (u : Slot), e = [.val (iT ws), .own (.l ((acc ++ [s]).map D.int)), u] ∧ acc ++ hds s xs = hds 0 ws ∧ acc.length + xs.length ≤ 500) ?_ ?_ ws _ ⟨[], 0, .un, rfl, rfl, by simpa using hl⟩
  · rintro e ⟨acc, s, u, rfl, h1, h2⟩
    simp only [zNext, zSeq, zPass, zBreak, zCont, zNever, zExpr, zRet, zRetN, zIf, zAsg, zSetO, zFrz, zApp, zPar, zParO1, zParO2, zFor, sVar, sC, sOp, sB, sBi, sCall, aNil, aCons, sTup, sLst, oLst, bAnd, bOr, bNot, sAnd, sOr, sNot, sIf, sNeg, sChain, oNone, oSome, sSl, sLast, iSeqD, iEnumD, iZipD, iRg1, iRg2, iRg3, sLC, sLC2, bYes, addD, subD, mulD, fdivD, modD, powD, ltD, leD, gtD, geD, eqD, neD, isD, isntD, ixD, sumD, lenD, absD, maxD, minD, allD, anyD, intCD, tupCD, lstCD, isiD, reprD, isTy, seqD?, bindP, bindPs, wipeD, frz, isN_non, isN_int, isN_bl, isN_tup, isN_lst, ints?_map, bls?_map, ints?_mapf, bls?_mapf, fit_int, fit_bl, fit_non, eqv_int, eqv_bl, cast2, cast3, cast1, cast0, intD, intD0, List.set_cons_zero, List.set_cons_succ, List.getElem?_cons_zero, List.getElem?_cons_succ, List.map_cons, List.map_nil, List.length_cons, List.length_nil, List.length_map, Nat.reduceAdd, Option.some.injEq, if_true, if_false, reduceCtorEq, decide_eq_true_eq, Bool.not_eq_true, true_or, or_true, true_and, and_true, false_or, or_false, String.reduceEq, String.reduceBEq, Bool.or_true, Bool.true_or, Bool.or_false, Bool.false_or, beq_self_eq_true, Bool.not_true, Bool.not_false, Bool.false_eq_true]
    rw [← h1] at hR
    exact hR
  · rintro w xs e ⟨acc, s, u, rfl, h1, h2⟩ K hK
    refine ⟨_, rfl, ?_⟩
    rw [List.length_cons] at h2
    simp only [List.map_append, List.getLast?_append, List.getLast?_singleton, Option.some_or, zNext, zSeq, zPass, zBreak, zCont, zNever, zExpr, zRet, zRetN, zIf, zAsg, zSetO, zFrz, zApp, zPar, zParO1, zParO2, zFor, sVar, sC, sOp, sB, sBi, sCall, aNil, aCons, sTup, sLst, oLst, bAnd, bOr, bNot, sAnd, sOr, sNot, sIf, sNeg, sChain, oNone, oSome, sSl, sLast, iSeqD, iEnumD, iZipD, iRg1, iRg2, iRg3, sLC, sLC2, bYes, addD, subD, mulD, fdivD, modD, powD, ltD, leD, gtD, geD, eqD, neD, isD, isntD, ixD, sumD, lenD, absD, maxD, minD, allD, anyD, intCD, tupCD, lstCD, isiD, reprD, isTy, seqD?, bindP, bindPs, wipeD, frz, isN_non, isN_int, isN_bl, isN_tup, isN_lst, ints?_map, bls?_map, ints?_mapf, bls?_mapf, fit_int, fit_bl, fit_non, eqv_int, eqv_bl, cast2, cast3, cast1, cast0, intD, intD0, List.set_cons_zero, List.set_cons_succ, List.getElem?_cons_zero, List.getElem?_cons_succ, List.map_cons, List.map_nil, List.length_cons, List.length_nil, List.length_map, Nat.reduceAdd, Option.some.injEq, if_true, if_false, reduceCtorEq, decide_eq_true_eq, Bool.not_eq_true, true_or, or_true, true_and, and_true, false_or, or_false, String.reduceEq, String.reduceBEq, Bool.or_true, Bool.true_or, Bool.or_false, Bool.false_or, beq_self_eq_true, Bool.not_true, Bool.not_false, Bool.false_eq_true]
    refine ⟨lt_sl (by simp; omega), hK _ ⟨acc ++ [s], s + w, .val (.int w), ?_, ?_, ?_⟩⟩
    · simp
    · rw [List.append_assoc]; exact h1
    · simp; omega
def phi_slack_of : SpD := fun ds R => ∃ (W : Int) (ws : List Int), ds = [.int W, iT ws] ∧ R (.int (W - ws.sum))
theorem len_slack_of : ∀ ds R, phi_slack_of ds R → ds.length = 2 := by rintro ds R ⟨W, ws, rfl, _⟩; rfl
theorem rd_slack_of : ∀ ds R, phi_slack_of ds R → z_slack_of { nx := fun _ => R .non, rt := R } (startD N_slack_of ds) := by
  rintro ds R ⟨W, ws, rfl, hR⟩
  show z_slack_of _ [.val (.int W), .val (iT ws)]
  simp only [z_slack_of, iT, zNext, zSeq, zPass, zBreak, zCont, zNever, zExpr, zRet, zRetN, zIf, zAsg, zSetO, zFrz, zApp, zPar, zParO1, zParO2, zFor, sVar, sC, sOp, sB, sBi, sCall, aNil, aCons, sTup, sLst, oLst, bAnd, bOr, bNot, sAnd, sOr, sNot, sIf, sNeg, sChain, oNone, oSome, sSl, sLast, iSeqD, iEnumD, iZipD, iRg1, iRg2, iRg3, sLC, sLC2, bYes, addD, subD, mulD, fdivD, modD, powD, ltD, leD, gtD, geD, eqD, neD, isD, isntD, ixD, sumD, lenD, absD, maxD, minD, allD, anyD, intCD, tupCD, lstCD, isiD, reprD, isTy, seqD?, bindP, bindPs, wipeD, frz, isN_non, isN_int, isN_bl, isN_tup, isN_lst, ints?_map, bls?_map, ints?_mapf, bls?_mapf, fit_int, fit_bl, fit_non, eqv_int, eqv_bl, cast2, cast3, cast1, cast0, intD, intD0, List.set_cons_zero, List.set_cons_succ, List.getElem?_cons_zero, List.getElem?_cons_succ, List.map_cons, List.map_nil, List.length_cons, List.length_nil, List.length_map, Nat.reduceAdd, Option.some.injEq, if_true, if_false, reduceCtorEq, decide_eq_true_eq, Bool.not_eq_true, true_or, or_true, true_and, and_true, false_or, or_false, String.reduceEq, String.reduceBEq, Bool.or_true, Bool.true_or, Bool.or_false, Bool.false_or, beq_self_eq_true, Bool.not_true, Bool.not_false, Bool.false_eq_true]
  exact hR
/-- an int between bounds; whatever else it is -/
def isInt (d : D) (lo hi : Int) : Bool := match d with
  | .int v => decide (lo ≤ v ∧ v ≤ hi)
  | _ => false
def phi_is_integer : SpD := fun ds R => ∃ (d : D) (lo hi : Int), ds = [d, .int lo, .int hi] ∧ (isTy "int" d).isSome = true ∧ R (.bl (isInt d lo hi))
theorem len_is_integer : ∀ ds R, phi_is_integer ds R → ds.length = 3 := by rintro ds R ⟨d, lo, hi, rfl, _⟩; rfl
theorem rd_is_integer : ∀ ds R, phi_is_integer ds R → z_is_integer { nx := fun _ => R .non, rt := R } (startD N_is_integer ds) := by
  rintro ds R ⟨d, lo, hi, rfl, h1, hR⟩
  show z_is_integer _ [.val d, .val (.int lo), .val (.int hi)]
  cases d with
  | int v =>
    simp only [z_is_integer, zNext, zSeq, zPass, zBreak, zCont, zNever, zExpr, zRet, zRetN, zIf, zAsg, zSetO, zFrz, zApp, zPar, zParO1, zParO2, zFor, sVar, sC, sOp, sB, sBi, sCall, aNil, aCons, sTup, sLst, oLst, bAnd, bOr, bNot, sAnd, sOr, sNot, sIf, sNeg, sChain, oNone, oSome, sSl, sLast, iSeqD, iEnumD, iZipD, iRg1, iRg2, iRg3, sLC, sLC2, bYes, addD, subD, mulD, fdivD, modD, powD, ltD, leD, gtD, geD, eqD, neD, isD, isntD, ixD, sumD, lenD, absD, maxD, minD, allD, anyD, intCD, tupCD, lstCD, isiD, reprD, isTy, seqD?, bindP, bindPs, wipeD, frz, isN_non, isN_int, isN_bl, isN_tup, isN_lst, ints?_map, bls?_map, ints?_mapf, bls?_mapf, fit_int, fit_bl, fit_non, eqv_int, eqv_bl, cast2, cast3, cast1, cast0, intD, intD0, List.set_cons_zero, List.set_cons_succ, List.getElem?_cons_zero, List.getElem?_cons_succ, List.map_cons, List.map_nil, List.length_cons, List.length_nil, List.length_map, Nat.reduceAdd, Option.some.injEq, if_true, if_false, reduceCtorEq, decide_eq_true_eq, Bool.not_eq_true, true_or, or_true, true_and, and_true, false_or, or_false, String.reduceEq, String.reduceBEq, Bool.or_true, Bool.true_or, Bool.or_false, Bool.false_or, beq_self_eq_true, Bool.not_true, Bool.not_false, Bool.false_eq_true]
    by_cases h : lo ≤ v
    · rw [if_pos h]
      have : decide (v ≤ hi) = isInt (.int v) lo hi := by show _ = decide (lo ≤ v ∧ v ≤ hi); simp [h]
      rw [this]; exact hR
    · rw [if_neg h]
      have : false = isInt (.int v) lo hi := by show _ = decide (lo ≤ v ∧ v ≤ hi); simp [h]
      rw [this]; exact hR
  | bl b => simp only [z_is_integer, zNext, zSeq, zPass, zBreak, zCont, zNever, zExpr, zRet, zRetN, zIf, zAsg, zSetO, zFrz, zApp, zPar, zParO1, zParO2, zFor, sVar, sC, sOp, sB, sBi, sCall, aNil, aCons, sTup, sLst, oLst, bAnd, bOr, bNot, sAnd, sOr, sNot, sIf, sNeg, sChain, oNone, oSome, sSl, sLast, iSeqD, iEnumD, iZipD, iRg1, iRg2, iRg3, sLC, sLC2, bYes, addD, subD, mulD, fdivD, modD, powD, ltD, leD, gtD, geD, eqD, neD, isD, isntD, ixD, sumD, lenD, absD, maxD, minD, allD, anyD, intCD, tupCD, lstCD, isiD, reprD, isTy, seqD?, bindP, bindPs, wipeD, frz, isN_non, isN_int, isN_bl, isN_tup, isN_lst, ints?_map, bls?_map, ints?_mapf, bls?_mapf, fit_int, fit_bl, fit_non, eqv_int, eqv_bl, cast2, cast3, cast1, cast0, intD, intD0, List.set_cons_zero, List.set_cons_succ, List.getElem?_cons_zero, List.getElem?_cons_succ, List.map_cons, List.map_nil, List.length_cons, List.length_nil, List.length_map, Nat.reduceAdd, Option.some.injEq, if_true, if_false, reduceCtorEq, decide_eq_true_eq, Bool.not_eq_true, true_or, or_true, true_and, and_true, false_or, or_false, String.reduceEq, String.reduceBEq, Bool.or_true, Bool.true_or, Bool.or_false, Bool.false_or, beq_self_eq_true, Bool.not_true, Bool.not_false, Bool.false_eq_true]; exact hR
  | non => simp only [z_is_integer, zNext, zSeq, zPass, zBreak, zCont, zNever, zExpr, zRet, zRetN, zIf, zAsg, zSetO, zFrz, zApp, zPar, zParO1, zParO2, zFor, sVar, sC, sOp, sB, sBi, sCall, aNil, aCons, sTup, sLst, oLst, bAnd, bOr, bNot, sAnd, sOr, sNot, sIf, sNeg, sChain, oNone, oSome, sSl, sLast, iSeqD, iEnumD, iZipD, iRg1, iRg2, iRg3, sLC, sLC2, bYes, addD, subD, mulD, fdivD, modD, powD, ltD, leD, gtD, geD, eqD, neD, isD, isntD, ixD, sumD, lenD, absD, maxD, minD, allD, anyD, intCD, tupCD, lstCD, isiD, reprD, isTy, seqD?, bindP, bindPs, wipeD, frz, isN_non, isN_int, isN_bl, isN_tup, isN_lst, ints?_map, bls?_map, ints?_mapf, bls?_mapf, fit_int, fit_bl, fit_non, eqv_int, eqv_bl, cast2, cast3, cast1, cast0, intD, intD0, List.set_cons_zero, List.set_cons_succ, List.getElem?_cons_zero, List.getElem?_cons_succ, List.map_cons, List.map_nil, List.length_cons, List.length_nil, List.length_map, Nat.reduceAdd, Option.some.injEq, if_true, if_false, reduceCtorEq, decide_eq_true_eq, Bool.not_eq_true, true_or, or_true, true_and, and_true, false_or, or_false, String.reduceEq, String.reduceBEq, Bool.or_true, Bool.true_or, Bool.or_false, Bool.false_or, beq_self_eq_true, Bool.not_true, Bool.not_false, Bool.false_eq_true]; exact hR
  | str x => simp only [z_is_integer, zNext, zSeq, zPass, zBreak, zCont, zNever, zExpr, zRet, zRetN, zIf, zAsg, zSetO, zFrz, zApp, zPar, zParO1, zParO2, zFor, sVar, sC, sOp, sB, sBi, sCall, aNil, aCons, sTup, sLst, oLst, bAnd, bOr, bNot, sAnd, sOr, sNot, sIf, sNeg, sChain, oNone, oSome, sSl, sLast, iSeqD, iEnumD, iZipD, iRg1, iRg2, iRg3, sLC, sLC2, bYes, addD, subD, mulD, fdivD, modD, powD, ltD, leD, gtD, geD, eqD, neD, isD, isntD, ixD, sumD, lenD, absD, maxD, minD, allD, anyD, intCD, tupCD, lstCD, isiD, reprD, isTy, seqD?, bindP, bindPs, wipeD, frz, isN_non, isN_int, isN_bl, isN_tup, isN_lst, ints?_map, bls?_map, ints?_mapf, bls?_mapf, fit_int, fit_bl, fit_non, eqv_int, eqv_bl, cast2, cast3, cast1, cast0, intD, intD0, List.set_cons_zero, List.set_cons_succ, List.getElem?_cons_zero, List.getElem?_cons_succ, List.map_cons, List.map_nil, List.length_cons, List.length_nil, List.length_map, Nat.reduceAdd, Option.some.injEq, if_true, if_false, reduceCtorEq, decide_eq_true_eq, Bool.not_eq_true, true_or, or_true, true_and, and_true, false_or, or_false, String.reduceEq, String.reduceBEq, Bool.or_true, Bool.true_or, Bool.or_false, Bool.false_or, beq_self_eq_true, Bool.not_true, Bool.not_false, Bool.false_eq_true]; exact hR
  | tup x => simp only [z_is_integer, zNext, zSeq, zPass, zBreak, zCont, zNever, zExpr, zRet, zRetN, zIf, zAsg, zSetO, zFrz, zApp, zPar, zParO1, zParO2, zFor, sVar, sC, sOp, sB, sBi, sCall, aNil, aCons, sTup, sLst, oLst, bAnd, bOr, bNot, sAnd, sOr, sNot, sIf, sNeg, sChain, oNone, oSome, sSl, sLast, iSeqD, iEnumD, iZipD, iRg1, iRg2, iRg3, sLC, sLC2, bYes, addD, subD, mulD, fdivD, modD, powD, ltD, leD, gtD, geD, eqD, neD, isD, isntD, ixD, sumD, lenD, absD, maxD, minD, allD, anyD, intCD, tupCD, lstCD, isiD, reprD, isTy, seqD?, bindP, bindPs, wipeD, frz, isN_non, isN_int, isN_bl, isN_tup, isN_lst, ints?_map, bls?_map, ints?_mapf, bls?_mapf, fit_int, fit_bl, fit_non, eqv_int, eqv_bl, cast2, cast3, cast1, cast0, intD, intD0, List.set_cons_zero, List.set_cons_succ, List.getElem?_cons_zero, List.getElem?_cons_succ, List.map_cons, List.map_nil, List.length_cons, List.length_nil, List.length_map, Nat.reduceAdd, Option.some.injEq, if_true, if_false, reduceCtorEq, decide_eq_true_eq, Bool.not_eq_true, true_or, or_true, true_and, and_true, false_or, or_false, String.reduceEq, String.reduceBEq, Bool.or_true, Bool.true_or, Bool.or_false, Bool.false_or, beq_self_eq_true, Bool.not_true, Bool.not_false, Bool.false_eq_true]; exact hR
  | lst x => simp only [z_is_integer, zNext, zSeq, zPass, zBreak, zCont, zNever, zExpr, zRet, zRetN, zIf, zAsg, zSetO, zFrz, zApp, zPar, zParO1, zParO2, zFor, sVar, sC, sOp, sB, sBi, sCall, aNil, aCons, sTup, sLst, oLst, bAnd, bOr, bNot, sAnd, sOr, sNot, sIf, sNeg, sChain, oNone, oSome, sSl, sLast, iSeqD, iEnumD, iZipD, iRg1, iRg2, iRg3, sLC, sLC2, bYes, addD, subD, mulD, fdivD, modD, powD, ltD, leD, gtD, geD, eqD, neD, isD, isntD, ixD, sumD, lenD, absD, maxD, minD, allD, anyD, intCD, tupCD, lstCD, isiD, reprD, isTy, seqD?, bindP, bindPs, wipeD, frz, isN_non, isN_int, isN_bl, isN_tup, isN_lst, ints?_map, bls?_map, ints?_mapf, bls?_mapf, fit_int, fit_bl, fit_non, eqv_int, eqv_bl, cast2, cast3, cast1, cast0, intD, intD0, List.set_cons_zero, List.set_cons_succ, List.getElem?_cons_zero, List.getElem?_cons_succ, List.map_cons, List.map_nil, List.length_cons, List.length_nil, List.length_map, Nat.reduceAdd, Option.some.injEq, if_true, if_false, reduceCtorEq, decide_eq_true_eq, Bool.not_eq_true, true_or, or_true, true_and, and_true, false_or, or_false, String.reduceEq, String.reduceBEq, Bool.or_true, Bool.true_or, Bool.or_false, Bool.false_or, beq_self_eq_true, Bool.not_true, Bool.not_false, Bool.false_eq_true]; exact hR
  | bag => cases h1
  | fn x => cases h1
  | ty x => cases h1
end SD

namespace SD
open L2 PyProof.Rows PySem PySem.Spec
def z_is_rail : SDt := (zSeq (zIf (bOr (bNot (sB (sBi isiD (aCons (sVar 1) (aCons (sC (.ty "tuple")) aNil))))) (sB (sOp gtD (sBi lenD (aCons (sVar 1) aNil)) (sC (.int 6))))) (zRet (sC (.bl false)))
      zNext)
    (zRet (sAnd (sBi allD (aCons (sLC (iSeqD (sVar 1)) (.nm 2) bYes (sCall phi_is_integer (aCons (sVar 2) (aCons (sC (.int 1)) (aCons (sVar 0) aNil)))) [2]) aNil)) (sOp leD (sBi sumD (aCons (sVar 1) aNil)) (sVar 0)))))
abbrev N_is_rail : List Str := ["width", "value", "one"]
def phi_is_rail : SpD := fun ds R => ∃ (W : Int) (ws : List Int), ds = [.int W, iT ws] ∧ OkRail W ws ∧ R (.bl true)
theorem len_is_rail : ∀ ds R, phi_is_rail ds R → ds.length = 2 := by rintro ds R ⟨W, ws, rfl, _⟩; rfl
theorem rd_is_rail : ∀ ds R, phi_is_rail ds R → z_is_rail { nx := fun _ => R .non, rt := R } (startD N_is_rail ds) := by
  rintro ds R ⟨W, ws, rfl, hw, hR⟩
  show z_is_rail _ [.val (.int W), .val (iT ws), .un]
  simp only [z_is_rail, iT, zNext, zSeq, zPass, zBreak, zCont, zNever, zExpr, zRet, zRetN, zIf, zAsg, zSetO, zFrz, zApp, zPar, zParO1, zParO2, zFor, sVar, sC, sOp, sB, sBi, sCall, aNil, aCons, sTup, sLst, oLst, bAnd, bOr, bNot, sAnd, sOr, sNot, sIf, sNeg, sChain, oNone, oSome, sSl, sLast, iSeqD, iEnumD, iZipD, iRg1, iRg2, iRg3, sLC, sLC2, bYes, addD, subD, mulD, fdivD, modD, powD, ltD, leD, gtD, geD, eqD, neD, isD, isntD, ixD, sumD, lenD, absD, maxD, minD, allD, anyD, intCD, tupCD, lstCD, isiD, reprD, isTy, seqD?, bindP, bindPs, wipeD, frz, isN_non, isN_int, isN_bl, isN_tup, isN_lst, ints?_map, bls?_map, ints?_mapf, bls?_mapf, fit_int, fit_bl, fit_non, eqv_int, eqv_bl, cast2, cast3, cast1, cast0, intD, intD0, List.set_cons_zero, List.set_cons_succ, List.getElem?_cons_zero, List.getElem?_cons_succ, List.map_cons, List.map_nil, List.length_cons, List.length_nil, List.length_map, Nat.reduceAdd, Option.some.injEq, if_true, if_false, reduceCtorEq, decide_eq_true_eq, Bool.not_eq_true, true_or, or_true, true_and, and_true, false_or, or_false, String.reduceEq, String.reduceBEq, Bool.or_true, Bool.true_or, Bool.or_false, Bool.false_or, beq_self_eq_true, Bool.not_true, Bool.not_false, Bool.false_eq_true]
  have h6 := hw.len
  rw [if_neg (by omega)]
  refine lcGo_all D.int (fun x => .bl (isInt (.int x) 1 W)) ws _ (fun x hx => ⟨_, rfl, fun R h => ?_⟩) ?_
  · exact ⟨_, _, _, rfl, rfl, h⟩
  · have e : (ws.map fun x => isInt (.int x) 1 W).all id = true := by
      rw [List.all_eq_true]
      intro b hb
      obtain ⟨x, hx, rfl⟩ := List.mem_map.mp hb
      exact decide_eq_true (hw.each x hx)
    simp only [e, hw.sum, decide_true, zNext, zSeq, zPass, zBreak, zCont, zNever, zExpr, zRet, zRetN, zIf, zAsg, zSetO, zFrz, zApp, zPar, zParO1, zParO2, zFor, sVar, sC, sOp, sB, sBi, sCall, aNil, aCons, sTup, sLst, oLst, bAnd, bOr, bNot, sAnd, sOr, sNot, sIf, sNeg, sChain, oNone, oSome, sSl, sLast, iSeqD, iEnumD, iZipD, iRg1, iRg2, iRg3, sLC, sLC2, bYes, addD, subD, mulD, fdivD, modD, powD, ltD, leD, gtD, geD, eqD, neD, isD, isntD, ixD, sumD, lenD, absD, maxD, minD, allD, anyD, intCD, tupCD, lstCD, isiD, reprD, isTy, seqD?, bindP, bindPs, wipeD, frz, isN_non, isN_int, isN_bl, isN_tup, isN_lst, ints?_map, bls?_map, ints?_mapf, bls?_mapf, fit_int, fit_bl, fit_non, eqv_int, eqv_bl, cast2, cast3, cast1, cast0, intD, intD0, List.set_cons_zero, List.set_cons_succ, List.getElem?_cons_zero, List.getElem?_cons_succ, List.map_cons, List.map_nil, List.length_cons, List.length_nil, List.length_map, Nat.reduceAdd, Option.some.injEq, if_true, if_false, reduceCtorEq, decide_eq_true_eq, Bool.not_eq_true, true_or, or_true, true_and, and_true, false_or, or_false, String.reduceEq, String.reduceBEq, Bool.or_true, Bool.true_or, Bool.or_false, Bool.false_or, beq_self_eq_true, Bool.not_true, Bool.not_false, Bool.false_eq_true]
    exact hR
def phi_is_wardrobe : SpD := fun ds R => ∃ w : Wd, ds = [encW w] ∧ OkW w ∧ R (.bl true)
theorem len_is_wardrobe : ∀ ds R, phi_is_wardrobe ds R → ds.length = 1 := by rintro ds R ⟨w, rfl, _⟩; rfl
theorem atI_0 {x : D} {l : List D} : L2.atI (x :: l) 0 = some x := atI_nat (i := 0) rfl
theorem atI_1 {x y : D} {l : List D} : L2.atI (x :: y :: l) 1 = some y := by
  have : (([x, y] ++ l).length : Int) = (l.length : Int) + 2 := by simp; omega
  exact atI_nat (i := 1) rfl
theorem atI_2 {x y z : D} {l : List D} : L2.atI (x :: y :: z :: l) 2 = some z := atI_nat (i := 2) rfl
def z_is_wardrobe : SDt := (zSeq (zIf (bOr (bNot (sB (sBi isiD (aCons (sVar 0) (aCons (sC (.ty "tuple")) aNil))))) (bOr (sB (sOp neD (sBi lenD (aCons (sVar 0) aNil)) (sC (.int 2)))) (bNot (sB (sCall phi_is_integer (aCons (sOp ixD (sVar 0) (sC (.int 0))) (aCons (sC (.int 1)) (aCons (sC (.int 1000000)) aNil)))))))) (zRet (sC (.bl false)))
      zNext)
    (zSeq (zIf (bOr (bNot (sB (sBi isiD (aCons (sOp ixD (sVar 0) (sC (.int 1))) (aCons (sC (.ty "tuple")) aNil))))) (bNot (sB (sChain leD leD (sC (.int 1)) (sBi lenD (aCons (sOp ixD (sVar 0) (sC (.int 1))) aNil)) (sC (.int 4)))))) (zRet (sC (.bl false)))
      zNext)
    (zRet (sBi allD (aCons (sLC (iSeqD (sOp ixD (sVar 0) (sC (.int 1)))) (.nm 1) bYes (sCall phi_is_rail (aCons (sOp ixD (sVar 0) (sC (.int 0))) (aCons (sVar 1) aNil))) [1]) aNil)))))
abbrev N_is_wardrobe : List Str := ["value", "rail"]
theorem rd_is_wardrobe : ∀ ds R, phi_is_wardrobe ds R → z_is_wardrobe { nx := fun _ => R .non, rt := R } (startD N_is_wardrobe ds) := by
  rintro ds R ⟨w, rfl, hw, hR⟩
  show z_is_wardrobe _ [.val (encW w), .un]
  simp only [z_is_wardrobe, encW, atI_0, atI_1, zNext, zSeq, zPass, zBreak, zCont, zNever, zExpr, zRet, zRetN, zIf, zAsg, zSetO, zFrz, zApp, zPar, zParO1, zParO2, zFor, sVar, sC, sOp, sB, sBi, sCall, aNil, aCons, sTup, sLst, oLst, bAnd, bOr, bNot, sAnd, sOr, sNot, sIf, sNeg, sChain, oNone, oSome, sSl, sLast, iSeqD, iEnumD, iZipD, iRg1, iRg2, iRg3, sLC, sLC2, bYes, addD, subD, mulD, fdivD, modD, powD, ltD, leD, gtD, geD, eqD, neD, isD, isntD, ixD, sumD, lenD, absD, maxD, minD, allD, anyD, intCD, tupCD, lstCD, isiD, reprD, isTy, seqD?, bindP, bindPs, wipeD, frz, isN_non, isN_int, isN_bl, isN_tup, isN_lst, ints?_map, bls?_map, ints?_mapf, bls?_mapf, fit_int, fit_bl, fit_non, eqv_int, eqv_bl, cast2, cast3, cast1, cast0, intD, intD0, List.set_cons_zero, List.set_cons_succ, List.getElem?_cons_zero, List.getElem?_cons_succ, List.map_cons, List.map_nil, List.length_cons, List.length_nil, List.length_map, Nat.reduceAdd, Option.some.injEq, if_true, if_false, reduceCtorEq, decide_eq_true_eq, Bool.not_eq_true, true_or, or_true, true_and, and_true, false_or, or_false, String.reduceEq, String.reduceBEq, Bool.or_true, Bool.true_or, Bool.or_false, Bool.false_or, beq_self_eq_true, Bool.not_true, Bool.not_false, Bool.false_eq_true]
  refine ⟨_, _, _, rfl, rfl, ?_⟩
  have e1 : isInt (.int w.1) 1 1000000 = true := decide_eq_true hw.width
  have h1 : (1 : Int) ≤ (w.2.length : Int) := by have := hw.rails.1; omega
  have h2 : (w.2.length : Int) ≤ 4 := by have := hw.rails.2; omega
  simp only [e1, h1, h2, decide_true, zNext, zSeq, zPass, zBreak, zCont, zNever, zExpr, zRet, zRetN, zIf, zAsg, zSetO, zFrz, zApp, zPar, zParO1, zParO2, zFor, sVar, sC, sOp, sB, sBi, sCall, aNil, aCons, sTup, sLst, oLst, bAnd, bOr, bNot, sAnd, sOr, sNot, sIf, sNeg, sChain, oNone, oSome, sSl, sLast, iSeqD, iEnumD, iZipD, iRg1, iRg2, iRg3, sLC, sLC2, bYes, addD, subD, mulD, fdivD, modD, powD, ltD, leD, gtD, geD, eqD, neD, isD, isntD, ixD, sumD, lenD, absD, maxD, minD, allD, anyD, intCD, tupCD, lstCD, isiD, reprD, isTy, seqD?, bindP, bindPs, wipeD, frz, isN_non, isN_int, isN_bl, isN_tup, isN_lst, ints?_map, bls?_map, ints?_mapf, bls?_mapf, fit_int, fit_bl, fit_non, eqv_int, eqv_bl, cast2, cast3, cast1, cast0, intD, intD0, List.set_cons_zero, List.set_cons_succ, List.getElem?_cons_zero, List.getElem?_cons_succ, List.map_cons, List.map_nil, List.length_cons, List.length_nil, List.length_map, Nat.reduceAdd, Option.some.injEq, if_true, if_false, reduceCtorEq, decide_eq_true_eq, Bool.not_eq_true, true_or, or_true, true_and, and_true, false_or, or_false, String.reduceEq, String.reduceBEq, Bool.or_true, Bool.true_or, Bool.or_false, Bool.false_or, beq_self_eq_true, Bool.not_true, Bool.not_false, Bool.false_eq_true]
  refine lcGo_all iT (fun x => .bl true) w.2 _ (fun x hx => ⟨_, rfl, fun R h => ?_⟩) ?_
  · simp only [atI_0, zNext, zSeq, zPass, zBreak, zCont, zNever, zExpr, zRet, zRetN, zIf, zAsg, zSetO, zFrz, zApp, zPar, zParO1, zParO2, zFor, sVar, sC, sOp, sB, sBi, sCall, aNil, aCons, sTup, sLst, oLst, bAnd, bOr, bNot, sAnd, sOr, sNot, sIf, sNeg, sChain, oNone, oSome, sSl, sLast, iSeqD, iEnumD, iZipD, iRg1, iRg2, iRg3, sLC, sLC2, bYes, addD, subD, mulD, fdivD, modD, powD, ltD, leD, gtD, geD, eqD, neD, isD, isntD, ixD, sumD, lenD, absD, maxD, minD, allD, anyD, intCD, tupCD, lstCD, isiD, reprD, isTy, seqD?, bindP, bindPs, wipeD, frz, isN_non, isN_int, isN_bl, isN_tup, isN_lst, ints?_map, bls?_map, ints?_mapf, bls?_mapf, fit_int, fit_bl, fit_non, eqv_int, eqv_bl, cast2, cast3, cast1, cast0, intD, intD0, List.set_cons_zero, List.set_cons_succ, List.getElem?_cons_zero, List.getElem?_cons_succ, List.map_cons, List.map_nil, List.length_cons, List.length_nil, List.length_map, Nat.reduceAdd, Option.some.injEq, if_true, if_false, reduceCtorEq, decide_eq_true_eq, Bool.not_eq_true, true_or, or_true, true_and, and_true, false_or, or_false, String.reduceEq, String.reduceBEq, Bool.or_true, Bool.true_or, Bool.or_false, Bool.false_or, beq_self_eq_true, Bool.not_true, Bool.not_false, Bool.false_eq_true]
    exact ⟨_, _, rfl, hw.each x hx, h⟩
  · have e : (w.2.map fun _ => true).all id = true := by simp
    simp only [e, zNext, zSeq, zPass, zBreak, zCont, zNever, zExpr, zRet, zRetN, zIf, zAsg, zSetO, zFrz, zApp, zPar, zParO1, zParO2, zFor, sVar, sC, sOp, sB, sBi, sCall, aNil, aCons, sTup, sLst, oLst, bAnd, bOr, bNot, sAnd, sOr, sNot, sIf, sNeg, sChain, oNone, oSome, sSl, sLast, iSeqD, iEnumD, iZipD, iRg1, iRg2, iRg3, sLC, sLC2, bYes, addD, subD, mulD, fdivD, modD, powD, ltD, leD, gtD, geD, eqD, neD, isD, isntD, ixD, sumD, lenD, absD, maxD, minD, allD, anyD, intCD, tupCD, lstCD, isiD, reprD, isTy, seqD?, bindP, bindPs, wipeD, frz, isN_non, isN_int, isN_bl, isN_tup, isN_lst, ints?_map, bls?_map, ints?_mapf, bls?_mapf, fit_int, fit_bl, fit_non, eqv_int, eqv_bl, cast2, cast3, cast1, cast0, intD, intD0, List.set_cons_zero, List.set_cons_succ, List.getElem?_cons_zero, List.getElem?_cons_succ, List.map_cons, List.map_nil, List.length_cons, List.length_nil, List.length_map, Nat.reduceAdd, Option.some.injEq, if_true, if_false, reduceCtorEq, decide_eq_true_eq, Bool.not_eq_true, true_or, or_true, true_and, and_true, false_or, or_false, String.reduceEq, String.reduceBEq, Bool.or_true, Bool.true_or, Bool.or_false, Bool.false_or, beq_self_eq_true, Bool.not_true, Bool.not_false, Bool.false_eq_true]
    exact hR
def phi_need_wardrobe : SpD := fun ds R => ∃ w : Wd, ds = [encW w] ∧ OkW w ∧ R .non
theorem len_need_wardrobe : ∀ ds R, phi_need_wardrobe ds R → ds.length = 1 := by rintro ds R ⟨w, rfl, _⟩; rfl
def z_need_wardrobe : SDt := (zIf (bNot (sB (sCall phi_is_wardrobe (aCons (sVar 0) aNil)))) zNever
      zNext)
abbrev N_need_wardrobe : List Str := ["value"]
theorem rd_need_wardrobe : ∀ ds R, phi_need_wardrobe ds R → z_need_wardrobe { nx := fun _ => R .non, rt := R } (startD N_need_wardrobe ds) := by
  rintro ds R ⟨w, rfl, hw, hR⟩
  show z_need_wardrobe _ [.val (encW w)]
  simp only [z_need_wardrobe, zNext, zSeq, zPass, zBreak, zCont, zNever, zExpr, zRet, zRetN, zIf, zAsg, zSetO, zFrz, zApp, zPar, zParO1, zParO2, zFor, sVar, sC, sOp, sB, sBi, sCall, aNil, aCons, sTup, sLst, oLst, bAnd, bOr, bNot, sAnd, sOr, sNot, sIf, sNeg, sChain, oNone, oSome, sSl, sLast, iSeqD, iEnumD, iZipD, iRg1, iRg2, iRg3, sLC, sLC2, bYes, addD, subD, mulD, fdivD, modD, powD, ltD, leD, gtD, geD, eqD, neD, isD, isntD, ixD, sumD, lenD, absD, maxD, minD, allD, anyD, intCD, tupCD, lstCD, isiD, reprD, isTy, seqD?, bindP, bindPs, wipeD, frz, isN_non, isN_int, isN_bl, isN_tup, isN_lst, ints?_map, bls?_map, ints?_mapf, bls?_mapf, fit_int, fit_bl, fit_non, eqv_int, eqv_bl, cast2, cast3, cast1, cast0, intD, intD0, List.set_cons_zero, List.set_cons_succ, List.getElem?_cons_zero, List.getElem?_cons_succ, List.map_cons, List.map_nil, List.length_cons, List.length_nil, List.length_map, Nat.reduceAdd, Option.some.injEq, if_true, if_false, reduceCtorEq, decide_eq_true_eq, Bool.not_eq_true, true_or, or_true, true_and, and_true, false_or, or_false, String.reduceEq, String.reduceBEq, Bool.or_true, Bool.true_or, Bool.or_false, Bool.false_or, beq_self_eq_true, Bool.not_true, Bool.not_false, Bool.false_eq_true]
  refine ⟨w, rfl, hw, ?_⟩
  simp only [zNext, zSeq, zPass, zBreak, zCont, zNever, zExpr, zRet, zRetN, zIf, zAsg, zSetO, zFrz, zApp, zPar, zParO1, zParO2, zFor, sVar, sC, sOp, sB, sBi, sCall, aNil, aCons, sTup, sLst, oLst, bAnd, bOr, bNot, sAnd, sOr, sNot, sIf, sNeg, sChain, oNone, oSome, sSl, sLast, iSeqD, iEnumD, iZipD, iRg1, iRg2, iRg3, sLC, sLC2, bYes, addD, subD, mulD, fdivD, modD, powD, ltD, leD, gtD, geD, eqD, neD, isD, isntD, ixD, sumD, lenD, absD, maxD, minD, allD, anyD, intCD, tupCD, lstCD, isiD, reprD, isTy, seqD?, bindP, bindPs, wipeD, frz, isN_non, isN_int, isN_bl, isN_tup, isN_lst, ints?_map, bls?_map, ints?_mapf, bls?_mapf, fit_int, fit_bl, fit_non, eqv_int, eqv_bl, cast2, cast3, cast1, cast0, intD, intD0, List.set_cons_zero, List.set_cons_succ, List.getElem?_cons_zero, List.getElem?_cons_succ, List.map_cons, List.map_nil, List.length_cons, List.length_nil, List.length_map, Nat.reduceAdd, Option.some.injEq, if_true, if_false, reduceCtorEq, decide_eq_true_eq, Bool.not_eq_true, true_or, or_true, true_and, and_true, false_or, or_false, String.reduceEq, String.reduceBEq, Bool.or_true, Bool.true_or, Bool.or_false, Bool.false_or, beq_self_eq_true, Bool.not_true, Bool.not_false, Bool.false_eq_true]
  exact hR
/-- a stretch within a width -/
def okS (W a b : Int) : Bool := decide (0 ≤ a ∧ a < b ∧ b ≤ W)
def phi_is_stretch : SpD := fun ds R => ∃ (w : Wd) (a b : Int), ds = [encW w, encS a b] ∧ R (.bl (okS w.1 a b))
theorem len_is_stretch : ∀ ds R, phi_is_stretch ds R → ds.length = 2 := by rintro ds R ⟨w, a, b, rfl, _⟩; rfl
def z_is_stretch : SDt := (zSeq (zIf (bOr (bNot (sB (sBi isiD (aCons (sVar 1) (aCons (sC (.ty "tuple")) aNil))))) (bOr (sB (sOp neD (sBi lenD (aCons (sVar 1) aNil)) (sC (.int 2)))) (bNot (sB (sCall phi_is_integer (aCons (sOp ixD (sVar 1) (sC (.int 0))) (aCons (sC (.int 0)) (aCons (sOp ixD (sVar 0) (sC (.int 0))) aNil)))))))) (zRet (sC (.bl false)))
      zNext)
    (zRet (sCall phi_is_integer (aCons (sOp ixD (sVar 1) (sC (.int 1))) (aCons (sOp addD (sOp ixD (sVar 1) (sC (.int 0))) (sC (.int 1))) (aCons (sOp ixD (sVar 0) (sC (.int 0))) aNil))))))
abbrev N_is_stretch : List Str := ["wardrobe", "value"]
theorem rd_is_stretch : ∀ ds R, phi_is_stretch ds R → z_is_stretch { nx := fun _ => R .non, rt := R } (startD N_is_stretch ds) := by
  rintro ds R ⟨w, a, b, rfl, hR⟩
  show z_is_stretch _ [.val (encW w), .val (encS a b)]
  simp only [z_is_stretch, encW, encS, atI_0, atI_1, zNext, zSeq, zPass, zBreak, zCont, zNever, zExpr, zRet, zRetN, zIf, zAsg, zSetO, zFrz, zApp, zPar, zParO1, zParO2, zFor, sVar, sC, sOp, sB, sBi, sCall, aNil, aCons, sTup, sLst, oLst, bAnd, bOr, bNot, sAnd, sOr, sNot, sIf, sNeg, sChain, oNone, oSome, sSl, sLast, iSeqD, iEnumD, iZipD, iRg1, iRg2, iRg3, sLC, sLC2, bYes, addD, subD, mulD, fdivD, modD, powD, ltD, leD, gtD, geD, eqD, neD, isD, isntD, ixD, sumD, lenD, absD, maxD, minD, allD, anyD, intCD, tupCD, lstCD, isiD, reprD, isTy, seqD?, bindP, bindPs, wipeD, frz, isN_non, isN_int, isN_bl, isN_tup, isN_lst, ints?_map, bls?_map, ints?_mapf, bls?_mapf, fit_int, fit_bl, fit_non, eqv_int, eqv_bl, cast2, cast3, cast1, cast0, intD, intD0, List.set_cons_zero, List.set_cons_succ, List.getElem?_cons_zero, List.getElem?_cons_succ, List.map_cons, List.map_nil, List.length_cons, List.length_nil, List.length_map, Nat.reduceAdd, Option.some.injEq, if_true, if_false, reduceCtorEq, decide_eq_true_eq, Bool.not_eq_true, true_or, or_true, true_and, and_true, false_or, or_false, String.reduceEq, String.reduceBEq, Bool.or_true, Bool.true_or, Bool.or_false, Bool.false_or, beq_self_eq_true, Bool.not_true, Bool.not_false, Bool.false_eq_true]
  refine ⟨_, _, _, rfl, rfl, ?_⟩
  by_cases h : 0 ≤ a ∧ a ≤ w.1
  · have e1 : isInt (.int a) 0 w.1 = true := decide_eq_true h
    simp only [e1, zNext, zSeq, zPass, zBreak, zCont, zNever, zExpr, zRet, zRetN, zIf, zAsg, zSetO, zFrz, zApp, zPar, zParO1, zParO2, zFor, sVar, sC, sOp, sB, sBi, sCall, aNil, aCons, sTup, sLst, oLst, bAnd, bOr, bNot, sAnd, sOr, sNot, sIf, sNeg, sChain, oNone, oSome, sSl, sLast, iSeqD, iEnumD, iZipD, iRg1, iRg2, iRg3, sLC, sLC2, bYes, addD, subD, mulD, fdivD, modD, powD, ltD, leD, gtD, geD, eqD, neD, isD, isntD, ixD, sumD, lenD, absD, maxD, minD, allD, anyD, intCD, tupCD, lstCD, isiD, reprD, isTy, seqD?, bindP, bindPs, wipeD, frz, isN_non, isN_int, isN_bl, isN_tup, isN_lst, ints?_map, bls?_map, ints?_mapf, bls?_mapf, fit_int, fit_bl, fit_non, eqv_int, eqv_bl, cast2, cast3, cast1, cast0, intD, intD0, List.set_cons_zero, List.set_cons_succ, List.getElem?_cons_zero, List.getElem?_cons_succ, List.map_cons, List.map_nil, List.length_cons, List.length_nil, List.length_map, Nat.reduceAdd, Option.some.injEq, if_true, if_false, reduceCtorEq, decide_eq_true_eq, Bool.not_eq_true, true_or, or_true, true_and, and_true, false_or, or_false, String.reduceEq, String.reduceBEq, Bool.or_true, Bool.true_or, Bool.or_false, Bool.false_or, beq_self_eq_true, Bool.not_true, Bool.not_false, Bool.false_eq_true]
    refine ⟨_, _, _, rfl, rfl, ?_⟩
    have : isInt (.int b) (a + 1) w.1 = okS w.1 a b := by
      show decide _ = decide _
      congr 1
      apply propext
      omega
    rw [this]
    exact hR
  · have e1 : isInt (.int a) 0 w.1 = false := decide_eq_false h
    simp only [e1, zNext, zSeq, zPass, zBreak, zCont, zNever, zExpr, zRet, zRetN, zIf, zAsg, zSetO, zFrz, zApp, zPar, zParO1, zParO2, zFor, sVar, sC, sOp, sB, sBi, sCall, aNil, aCons, sTup, sLst, oLst, bAnd, bOr, bNot, sAnd, sOr, sNot, sIf, sNeg, sChain, oNone, oSome, sSl, sLast, iSeqD, iEnumD, iZipD, iRg1, iRg2, iRg3, sLC, sLC2, bYes, addD, subD, mulD, fdivD, modD, powD, ltD, leD, gtD, geD, eqD, neD, isD, isntD, ixD, sumD, lenD, absD, maxD, minD, allD, anyD, intCD, tupCD, lstCD, isiD, reprD, isTy, seqD?, bindP, bindPs, wipeD, frz, isN_non, isN_int, isN_bl, isN_tup, isN_lst, ints?_map, bls?_map, ints?_mapf, bls?_mapf, fit_int, fit_bl, fit_non, eqv_int, eqv_bl, cast2, cast3, cast1, cast0, intD, intD0, List.set_cons_zero, List.set_cons_succ, List.getElem?_cons_zero, List.getElem?_cons_succ, List.map_cons, List.map_nil, List.length_cons, List.length_nil, List.length_map, Nat.reduceAdd, Option.some.injEq, if_true, if_false, reduceCtorEq, decide_eq_true_eq, Bool.not_eq_true, true_or, or_true, true_and, and_true, false_or, or_false, String.reduceEq, String.reduceBEq, Bool.or_true, Bool.true_or, Bool.or_false, Bool.false_or, beq_self_eq_true, Bool.not_true, Bool.not_false, Bool.false_eq_true]
    have : false = okS w.1 a b := by
      symm
      refine decide_eq_false ?_
      omega
    rw [this]
    exact hR
def phi_need_stretch : SpD := fun ds R => ∃ (w : Wd) (a b : Int), ds = [encW w, encS a b] ∧ (0 ≤ a ∧ a < b ∧ b ≤ w.1) ∧ R .non
theorem len_need_stretch : ∀ ds R, phi_need_stretch ds R → ds.length = 2 := by rintro ds R ⟨w, a, b, rfl, _⟩; rfl
def z_need_stretch : SDt := (zIf (bNot (sB (sCall phi_is_stretch (aCons (sVar 0) (aCons (sVar 1) aNil))))) zNever
      zNext)
abbrev N_need_stretch : List Str := ["wardrobe", "value"]
theorem rd_need_stretch : ∀ ds R, phi_need_stretch ds R → z_need_stretch { nx := fun _ => R .non, rt := R } (startD N_need_stretch ds) := by
  rintro ds R ⟨w, a, b, rfl, h, hR⟩
  show z_need_stretch _ [.val (encW w), .val (encS a b)]
  simp only [z_need_stretch, zNext, zSeq, zPass, zBreak, zCont, zNever, zExpr, zRet, zRetN, zIf, zAsg, zSetO, zFrz, zApp, zPar, zParO1, zParO2, zFor, sVar, sC, sOp, sB, sBi, sCall, aNil, aCons, sTup, sLst, oLst, bAnd, bOr, bNot, sAnd, sOr, sNot, sIf, sNeg, sChain, oNone, oSome, sSl, sLast, iSeqD, iEnumD, iZipD, iRg1, iRg2, iRg3, sLC, sLC2, bYes, addD, subD, mulD, fdivD, modD, powD, ltD, leD, gtD, geD, eqD, neD, isD, isntD, ixD, sumD, lenD, absD, maxD, minD, allD, anyD, intCD, tupCD, lstCD, isiD, reprD, isTy, seqD?, bindP, bindPs, wipeD, frz, isN_non, isN_int, isN_bl, isN_tup, isN_lst, ints?_map, bls?_map, ints?_mapf, bls?_mapf, fit_int, fit_bl, fit_non, eqv_int, eqv_bl, cast2, cast3, cast1, cast0, intD, intD0, List.set_cons_zero, List.set_cons_succ, List.getElem?_cons_zero, List.getElem?_cons_succ, List.map_cons, List.map_nil, List.length_cons, List.length_nil, List.length_map, Nat.reduceAdd, Option.some.injEq, if_true, if_false, reduceCtorEq, decide_eq_true_eq, Bool.not_eq_true, true_or, or_true, true_and, and_true, false_or, or_false, String.reduceEq, String.reduceBEq, Bool.or_true, Bool.true_or, Bool.or_false, Bool.false_or, beq_self_eq_true, Bool.not_true, Bool.not_false, Bool.false_eq_true]
  refine ⟨w, a, b, rfl, ?_⟩
  have e : okS w.1 a b = true := decide_eq_true h
  simp only [e, zNext, zSeq, zPass, zBreak, zCont, zNever, zExpr, zRet, zRetN, zIf, zAsg, zSetO, zFrz, zApp, zPar, zParO1, zParO2, zFor, sVar, sC, sOp, sB, sBi, sCall, aNil, aCons, sTup, sLst, oLst, bAnd, bOr, bNot, sAnd, sOr, sNot, sIf, sNeg, sChain, oNone, oSome, sSl, sLast, iSeqD, iEnumD, iZipD, iRg1, iRg2, iRg3, sLC, sLC2, bYes, addD, subD, mulD, fdivD, modD, powD, ltD, leD, gtD, geD, eqD, neD, isD, isntD, ixD, sumD, lenD, absD, maxD, minD, allD, anyD, intCD, tupCD, lstCD, isiD, reprD, isTy, seqD?, bindP, bindPs, wipeD, frz, isN_non, isN_int, isN_bl, isN_tup, isN_lst, ints?_map, bls?_map, ints?_mapf, bls?_mapf, fit_int, fit_bl, fit_non, eqv_int, eqv_bl, cast2, cast3, cast1, cast0, intD, intD0, List.set_cons_zero, List.set_cons_succ, List.getElem?_cons_zero, List.getElem?_cons_succ, List.map_cons, List.map_nil, List.length_cons, List.length_nil, List.length_map, Nat.reduceAdd, Option.some.injEq, if_true, if_false, reduceCtorEq, decide_eq_true_eq, Bool.not_eq_true, true_or, or_true, true_and, and_true, false_or, or_false, String.reduceEq, String.reduceBEq, Bool.or_true, Bool.true_or, Bool.or_false, Bool.false_or, beq_self_eq_true, Bool.not_true, Bool.not_false, Bool.false_eq_true]
  exact hR
/-- the splits of a rail: doors to the left, and what they leave -/
def spl (W T a b : Int) : Nat → List Int → List (Nat × Int)
  | _, [] => []
  | k, h :: hs => if h ≤ a ∧ b - h ≤ W - T then (k, h) :: spl W T a b (k + 1) hs else spl W T a b (k + 1) hs
theorem spl_cons {W T a b h : Int} {k : Nat} {hs : List Int} : spl W T a b k (h :: hs) = if h ≤ a ∧ b - h ≤ W - T then (k, h) :: spl W T a b (k + 1) hs else spl W T a b (k + 1) hs := rfl
def encSp (a b : Int) (x : Nat × Int) : D := .tup [.int x.1, .int (a - x.2), .int (b - x.2)]
abbrev splits (W a b : Int) (ws : List Int) : List (Nat × Int) := spl W ws.sum a b 0 (hds 0 ws)
def phi_splits : SpD := fun ds R => ∃ (W : Int) (ws : List Int) (a b : Int), ds = [.int W, iT ws, encS a b] ∧ ws.length ≤ 6 ∧ R (.lst ((splits W a b ws).map (encSp a b)))
theorem len_splits : ∀ ds R, phi_splits ds R → ds.length = 3 := by rintro ds R ⟨W, ws, a, b, rfl, _⟩; rfl
theorem enumFrom_map {α : Type} (f : α → D) : ∀ (l : List α) (k : Nat), enumFrom k (l.map f) = (l.zipIdx k).map fun x => D.tup [.int (x.2 : Nat), f x.1]
  | [], _ => rfl
  | x :: l, k => by rw [List.map_cons, enumFrom, enumFrom_map f l (k + 1), List.zipIdx_cons, List.map_cons]
def z_splits : SDt := (zSeq (zSetO (oLst aNil) 3)
    (zSeq (zFor (iEnumD (aCons (sCall phi_heads (aCons (sVar 1) aNil)) aNil)) (.tp [(.nm 4), (.nm 5)])
      (zIf (bAnd (sB (sOp leD (sVar 5) (sOp ixD (sVar 2) (sC (.int 0))))) (sB (sOp leD (sOp subD (sOp ixD (sVar 2) (sC (.int 1))) (sVar 5)) (sCall phi_slack_of (aCons (sVar 0) (aCons (sVar 1) aNil)))))) (zApp 3 (sTup (aCons (sVar 4) (aCons (sOp subD (sOp ixD (sVar 2) (sC (.int 0))) (sVar 5)) (aCons (sOp subD (sOp ixD (sVar 2) (sC (.int 1))) (sVar 5)) aNil)))))
      zNext))
    (zFrz 3 (zRet (sVar 3)))))
abbrev N_splits : List Str := ["width", "widths", "stretch", "found", "number", "head"]
theorem rd_splits : ∀ ds R, phi_splits ds R → z_splits { nx := fun _ => R .non, rt := R } (startD N_splits ds) := by
  rintro ds R ⟨W, ws, a, b, rfl, hl, hR⟩
  show z_splits _ [.val (.int W), .val (iT ws), .val (encS a b), .un, .un, .un]
  simp only [z_splits, zNext, zSeq, zPass, zBreak, zCont, zNever, zExpr, zRet, zRetN, zIf, zAsg, zSetO, zFrz, zApp, zPar, zParO1, zParO2, zFor, sVar, sC, sOp, sB, sBi, sCall, aNil, aCons, sTup, sLst, oLst, bAnd, bOr, bNot, sAnd, sOr, sNot, sIf, sNeg, sChain, oNone, oSome, sSl, sLast, iSeqD, iEnumD, iZipD, iRg1, iRg2, iRg3, sLC, sLC2, bYes, addD, subD, mulD, fdivD, modD, powD, ltD, leD, gtD, geD, eqD, neD, isD, isntD, ixD, sumD, lenD, absD, maxD, minD, allD, anyD, intCD, tupCD, lstCD, isiD, reprD, isTy, seqD?, bindP, bindPs, wipeD, frz, isN_non, isN_int, isN_bl, isN_tup, isN_lst, ints?_map, bls?_map, ints?_mapf, bls?_mapf, fit_int, fit_bl, fit_non, eqv_int, eqv_bl, cast2, cast3, cast1, cast0, intD, intD0, List.set_cons_zero, List.set_cons_succ, List.getElem?_cons_zero, List.getElem?_cons_succ, List.map_cons, List.map_nil, List.length_cons, List.length_nil, List.length_map, Nat.reduceAdd, Option.some.injEq, if_true, if_false, reduceCtorEq, decide_eq_true_eq, Bool.not_eq_true, true_or, or_true, true_and, and_true, false_or, or_false, String.reduceEq, String.reduceBEq, Bool.or_true, Bool.true_or, Bool.or_false, Bool.false_or, beq_self_eq_true, Bool.not_true, Bool.not_false, Bool.false_eq_true]
  refine ⟨le_sl (by decide), ws, rfl, by omega, ?_⟩
  simp only [iL, enumFrom_map, zNext, zSeq, zPass, zBreak, zCont, zNever, zExpr, zRet, zRetN, zIf, zAsg, zSetO, zFrz, zApp, zPar, zParO1, zParO2, zFor, sVar, sC, sOp, sB, sBi, sCall, aNil, aCons, sTup, sLst, oLst, bAnd, bOr, bNot, sAnd, sOr, sNot, sIf, sNeg, sChain, oNone, oSome, sSl, sLast, iSeqD, iEnumD, iZipD, iRg1, iRg2, iRg3, sLC, sLC2, bYes, addD, subD, mulD, fdivD, modD, powD, ltD, leD, gtD, geD, eqD, neD, isD, isntD, ixD, sumD, lenD, absD, maxD, minD, allD, anyD, intCD, tupCD, lstCD, isiD, reprD, isTy, seqD?, bindP, bindPs, wipeD, frz, isN_non, isN_int, isN_bl, isN_tup, isN_lst, ints?_map, bls?_map, ints?_mapf, bls?_mapf, fit_int, fit_bl, fit_non, eqv_int, eqv_bl, cast2, cast3, cast1, cast0, intD, intD0, List.set_cons_zero, List.set_cons_succ, List.getElem?_cons_zero, List.getElem?_cons_succ, List.map_cons, List.map_nil, List.length_cons, List.length_nil, List.length_map, Nat.reduceAdd, Option.some.injEq, if_true, if_false, reduceCtorEq, decide_eq_true_eq, Bool.not_eq_true, true_or, or_true, true_and, and_true, false_or, or_false, String.reduceEq, String.reduceBEq, Bool.or_true, Bool.true_or, Bool.or_false, Bool.false_or, beq_self_eq_true, Bool.not_true, Bool.not_false, Bool.false_eq_true]
  have hz := hds_length ws 0
  refine forGo_ind (p := .tp [.nm 4, .nm 5]) (fun x : Int × Nat => D.tup [.int (x.2 : Nat), D.int x.1]) (fun xs e => ∃ (acc : List (Nat × Int)) (k : Nat) (hs : List Int) (u1 u2 : Slot), xs = hs.zipIdx k ∧ e = [.val (.int W), .val (iT ws), .val (encS a b), .own (.l (acc.map (encSp a b))), u1, u2] ∧ acc ++ spl W ws.sum a b k hs = splits W a b ws ∧ acc.length + hs.length ≤ 500) ?_ ?_ _ _ ⟨[], 0, hds 0 ws, .un, .un, rfl, rfl, rfl, by simp; omega⟩
  · rintro e ⟨acc, k, hs, u1, u2, h0, rfl, h1, h2⟩
    simp only [zNext, zSeq, zPass, zBreak, zCont, zNever, zExpr, zRet, zRetN, zIf, zAsg, zSetO, zFrz, zApp, zPar, zParO1, zParO2, zFor, sVar, sC, sOp, sB, sBi, sCall, aNil, aCons, sTup, sLst, oLst, bAnd, bOr, bNot, sAnd, sOr, sNot, sIf, sNeg, sChain, oNone, oSome, sSl, sLast, iSeqD, iEnumD, iZipD, iRg1, iRg2, iRg3, sLC, sLC2, bYes, addD, subD, mulD, fdivD, modD, powD, ltD, leD, gtD, geD, eqD, neD, isD, isntD, ixD, sumD, lenD, absD, maxD, minD, allD, anyD, intCD, tupCD, lstCD, isiD, reprD, isTy, seqD?, bindP, bindPs, wipeD, frz, isN_non, isN_int, isN_bl, isN_tup, isN_lst, ints?_map, bls?_map, ints?_mapf, bls?_mapf, fit_int, fit_bl, fit_non, eqv_int, eqv_bl, cast2, cast3, cast1, cast0, intD, intD0, List.set_cons_zero, List.set_cons_succ, List.getElem?_cons_zero, List.getElem?_cons_succ, List.map_cons, List.map_nil, List.length_cons, List.length_nil, List.length_map, Nat.reduceAdd, Option.some.injEq, if_true, if_false, reduceCtorEq, decide_eq_true_eq, Bool.not_eq_true, true_or, or_true, true_and, and_true, false_or, or_false, String.reduceEq, String.reduceBEq, Bool.or_true, Bool.true_or, Bool.or_false, Bool.false_or, beq_self_eq_true, Bool.not_true, Bool.not_false, Bool.false_eq_true]
    have : hs = [] := by
      cases hs with
      | nil => rfl
      | cons x xs => rw [List.zipIdx_cons] at h0; cases h0
    subst this
    rw [← h1] at hR
    simpa [spl] using hR
  · rintro x xs e ⟨acc, k, hs, u1, u2, h0, rfl, h1, h2⟩ K hK
    cases hs with
    | nil => cases h0
    | cons h hs =>
      rw [List.zipIdx_cons] at h0
      cases h0
      refine ⟨_, rfl, ?_⟩
      rw [List.length_cons] at h2
      rw [spl_cons] at h1
      simp only [encS, atI_0, atI_1, zNext, zSeq, zPass, zBreak, zCont, zNever, zExpr, zRet, zRetN, zIf, zAsg, zSetO, zFrz, zApp, zPar, zParO1, zParO2, zFor, sVar, sC, sOp, sB, sBi, sCall, aNil, aCons, sTup, sLst, oLst, bAnd, bOr, bNot, sAnd, sOr, sNot, sIf, sNeg, sChain, oNone, oSome, sSl, sLast, iSeqD, iEnumD, iZipD, iRg1, iRg2, iRg3, sLC, sLC2, bYes, addD, subD, mulD, fdivD, modD, powD, ltD, leD, gtD, geD, eqD, neD, isD, isntD, ixD, sumD, lenD, absD, maxD, minD, allD, anyD, intCD, tupCD, lstCD, isiD, reprD, isTy, seqD?, bindP, bindPs, wipeD, frz, isN_non, isN_int, isN_bl, isN_tup, isN_lst, ints?_map, bls?_map, ints?_mapf, bls?_mapf, fit_int, fit_bl, fit_non, eqv_int, eqv_bl, cast2, cast3, cast1, cast0, intD, intD0, List.set_cons_zero, List.set_cons_succ, List.getElem?_cons_zero, List.getElem?_cons_succ, List.map_cons, List.map_nil, List.length_cons, List.length_nil, List.length_map, Nat.reduceAdd, Option.some.injEq, if_true, if_false, reduceCtorEq, decide_eq_true_eq, Bool.not_eq_true, true_or, or_true, true_and, and_true, false_or, or_false, String.reduceEq, String.reduceBEq, Bool.or_true, Bool.true_or, Bool.or_false, Bool.false_or, beq_self_eq_true, Bool.not_true, Bool.not_false, Bool.false_eq_true]
      by_cases c1 : h ≤ a
      · rw [if_pos c1]
        refine ⟨W, ws, rfl, ?_⟩
        simp only [zNext, zSeq, zPass, zBreak, zCont, zNever, zExpr, zRet, zRetN, zIf, zAsg, zSetO, zFrz, zApp, zPar, zParO1, zParO2, zFor, sVar, sC, sOp, sB, sBi, sCall, aNil, aCons, sTup, sLst, oLst, bAnd, bOr, bNot, sAnd, sOr, sNot, sIf, sNeg, sChain, oNone, oSome, sSl, sLast, iSeqD, iEnumD, iZipD, iRg1, iRg2, iRg3, sLC, sLC2, bYes, addD, subD, mulD, fdivD, modD, powD, ltD, leD, gtD, geD, eqD, neD, isD, isntD, ixD, sumD, lenD, absD, maxD, minD, allD, anyD, intCD, tupCD, lstCD, isiD, reprD, isTy, seqD?, bindP, bindPs, wipeD, frz, isN_non, isN_int, isN_bl, isN_tup, isN_lst, ints?_map, bls?_map, ints?_mapf, bls?_mapf, fit_int, fit_bl, fit_non, eqv_int, eqv_bl, cast2, cast3, cast1, cast0, intD, intD0, List.set_cons_zero, List.set_cons_succ, List.getElem?_cons_zero, List.getElem?_cons_succ, List.map_cons, List.map_nil, List.length_cons, List.length_nil, List.length_map, Nat.reduceAdd, Option.some.injEq, if_true, if_false, reduceCtorEq, decide_eq_true_eq, Bool.not_eq_true, true_or, or_true, true_and, and_true, false_or, or_false, String.reduceEq, String.reduceBEq, Bool.or_true, Bool.true_or, Bool.or_false, Bool.false_or, beq_self_eq_true, Bool.not_true, Bool.not_false, Bool.false_eq_true]
        by_cases c2 : b - h ≤ W - ws.sum
        · rw [if_pos c2]
          rw [if_pos ⟨c1, c2⟩] at h1
          refine ⟨le_sl (by decide), lt_sl (by omega), hK _ ⟨acc ++ [(k, h)], k + 1, hs, .val (.int k), .val (.int h), rfl, ?_, ?_, ?_⟩⟩
          · rw [List.map_append]; rfl
          · rw [List.append_assoc]; exact h1
          · simp; omega
        · rw [if_neg c2]
          rw [if_neg (fun z => c2 z.2)] at h1
          exact hK _ ⟨acc, k + 1, hs, .val (.int k), .val (.int h), rfl, rfl, h1, by omega⟩
      · rw [if_neg c1]
        rw [if_neg (fun z => c1 z.1)] at h1
        exact hK _ ⟨acc, k + 1, hs, .val (.int k), .val (.int h), rfl, rfl, h1, by omega⟩
end SD

namespace SD
open L2 PyProof.Rows PySem PySem.Spec
/-- whether a stretch can be opened on a rail: some number of doors stands to the left -/
def CanR (W a b : Int) (ws : List Int) : Prop := ∃ h ∈ hds 0 ws, h ≤ a ∧ b - h ≤ W - ws.sum
def Can (w : Wd) (a b : Int) : Prop := ∀ ws ∈ w.2, CanR w.1 a b ws
theorem spl_ne {W T a b : Int} : ∀ (hs : List Int) (k : Nat), spl W T a b k hs ≠ [] ↔ ∃ h ∈ hs, h ≤ a ∧ b - h ≤ W - T
  | [], k => by simp [spl]
  | h :: hs, k => by
    rw [spl_cons]
    by_cases c : h ≤ a ∧ b - h ≤ W - T
    · rw [if_pos c]
      exact ⟨fun _ => ⟨h, List.mem_cons_self, c⟩, fun _ z => by cases z⟩
    · rw [if_neg c, spl_ne hs (k + 1)]
      exact ⟨fun ⟨x, h1, h2⟩ => ⟨x, List.mem_cons_of_mem _ h1, h2⟩, fun ⟨x, h1, h2⟩ => by
        rcases List.mem_cons.mp h1 with rfl | h1
        · exact absurd h2 c
        · exact ⟨x, h1, h2⟩⟩
theorem splits_ne {W a b : Int} {ws : List Int} : splits W a b ws ≠ [] ↔ CanR W a b ws := spl_ne _ _
open Classical in
noncomputable def canB (w : Wd) (a b : Int) : Bool := decide (Can w a b)
open Classical in
theorem canB_iff {w : Wd} {a b : Int} : canB w a b = true ↔ Can w a b := by unfold canB; exact decide_eq_true_iff
def phi_can_open : SpD := fun ds R => ∃ (w : Wd) (a b : Int), ds = [encW w, encS a b] ∧ OkW w ∧ (0 ≤ a ∧ a < b ∧ b ≤ w.1) ∧ R (.bl (canB w a b))
theorem len_can_open : ∀ ds R, phi_can_open ds R → ds.length = 2 := by rintro ds R ⟨w, a, b, rfl, _⟩; rfl
theorem fit_splits {a b : Int} (l : List (Nat × Int)) : (D.lst (l.map (encSp a b))).fit := by
  refine ⟨?_, ?_⟩
  · unfold D.plain
    induction l with
    | nil => rfl
    | cons x l ih => rw [List.map_cons]; unfold D.plains; rw [ih]; rfl
  · unfold D.dep
    have : D.deps (l.map (encSp a b)) ≤ 1 := by
      induction l with
      | nil => exact Nat.zero_le _
      | cons x l ih => rw [List.map_cons]; unfold D.deps; exact Nat.max_le.mpr ⟨Nat.le_refl _, ih⟩
    omega
theorem fit_nil : (D.lst []).fit := ⟨rfl, by unfold D.dep D.deps; decide⟩
theorem eqv_nil (l : List D) : D.eqv (.lst l) (.lst []) = l.isEmpty := by
  cases l with
  | nil => unfold D.eqv D.eqvs; rfl
  | cons => unfold D.eqv D.eqvs; rfl
def z_can_open : SDt := (zSeq (zExpr (sCall phi_need_wardrobe (aCons (sVar 0) aNil)))
    (zSeq (zExpr (sCall phi_need_stretch (aCons (sVar 0) (aCons (sVar 1) aNil))))
    (zRet (sBi allD (aCons (sLC (iSeqD (sOp ixD (sVar 0) (sC (.int 1)))) (.nm 2) bYes (sOp neD (sCall phi_splits (aCons (sOp ixD (sVar 0) (sC (.int 0))) (aCons (sVar 2) (aCons (sVar 1) aNil)))) (sLst aNil)) [2]) aNil)))))
abbrev N_can_open : List Str := ["wardrobe", "stretch", "widths"]
open Classical in
theorem rd_can_open : ∀ ds R, phi_can_open ds R → z_can_open { nx := fun _ => R .non, rt := R } (startD N_can_open ds) := by
  rintro ds R ⟨w, a, b, rfl, hw, hs, hR⟩
  show z_can_open _ [.val (encW w), .val (encS a b), .un]
  simp only [z_can_open, zNext, zSeq, zPass, zBreak, zCont, zNever, zExpr, zRet, zRetN, zIf, zAsg, zSetO, zFrz, zApp, zPar, zParO1, zParO2, zFor, sVar, sC, sOp, sB, sBi, sCall, aNil, aCons, sTup, sLst, oLst, bAnd, bOr, bNot, sAnd, sOr, sNot, sIf, sNeg, sChain, oNone, oSome, sSl, sLast, iSeqD, iEnumD, iZipD, iRg1, iRg2, iRg3, sLC, sLC2, bYes, addD, subD, mulD, fdivD, modD, powD, ltD, leD, gtD, geD, eqD, neD, isD, isntD, ixD, sumD, lenD, absD, maxD, minD, allD, anyD, intCD, tupCD, lstCD, isiD, reprD, isTy, seqD?, bindP, bindPs, wipeD, frz, isN_non, isN_int, isN_bl, isN_tup, isN_lst, ints?_map, bls?_map, ints?_mapf, bls?_mapf, fit_int, fit_bl, fit_non, eqv_int, eqv_bl, cast2, cast3, cast1, cast0, intD, intD0, List.set_cons_zero, List.set_cons_succ, List.getElem?_cons_zero, List.getElem?_cons_succ, List.map_cons, List.map_nil, List.length_cons, List.length_nil, List.length_map, Nat.reduceAdd, Option.some.injEq, if_true, if_false, reduceCtorEq, decide_eq_true_eq, Bool.not_eq_true, true_or, or_true, true_and, and_true, false_or, or_false, String.reduceEq, String.reduceBEq, Bool.or_true, Bool.true_or, Bool.or_false, Bool.false_or, beq_self_eq_true, Bool.not_true, Bool.not_false, Bool.false_eq_true]
  refine ⟨w, rfl, hw, w, a, b, rfl, hs, ?_⟩
  simp only [encW, atI_0, atI_1, zNext, zSeq, zPass, zBreak, zCont, zNever, zExpr, zRet, zRetN, zIf, zAsg, zSetO, zFrz, zApp, zPar, zParO1, zParO2, zFor, sVar, sC, sOp, sB, sBi, sCall, aNil, aCons, sTup, sLst, oLst, bAnd, bOr, bNot, sAnd, sOr, sNot, sIf, sNeg, sChain, oNone, oSome, sSl, sLast, iSeqD, iEnumD, iZipD, iRg1, iRg2, iRg3, sLC, sLC2, bYes, addD, subD, mulD, fdivD, modD, powD, ltD, leD, gtD, geD, eqD, neD, isD, isntD, ixD, sumD, lenD, absD, maxD, minD, allD, anyD, intCD, tupCD, lstCD, isiD, reprD, isTy, seqD?, bindP, bindPs, wipeD, frz, isN_non, isN_int, isN_bl, isN_tup, isN_lst, ints?_map, bls?_map, ints?_mapf, bls?_mapf, fit_int, fit_bl, fit_non, eqv_int, eqv_bl, cast2, cast3, cast1, cast0, intD, intD0, List.set_cons_zero, List.set_cons_succ, List.getElem?_cons_zero, List.getElem?_cons_succ, List.map_cons, List.map_nil, List.length_cons, List.length_nil, List.length_map, Nat.reduceAdd, Option.some.injEq, if_true, if_false, reduceCtorEq, decide_eq_true_eq, Bool.not_eq_true, true_or, or_true, true_and, and_true, false_or, or_false, String.reduceEq, String.reduceBEq, Bool.or_true, Bool.true_or, Bool.or_false, Bool.false_or, beq_self_eq_true, Bool.not_true, Bool.not_false, Bool.false_eq_true]
  refine lcGo_all iT (fun ws => .bl (decide (CanR w.1 a b ws))) w.2 _ (fun ws h => ⟨_, rfl, fun R' hR' => ?_⟩) ?_
  · simp only [atI_0, zNext, zSeq, zPass, zBreak, zCont, zNever, zExpr, zRet, zRetN, zIf, zAsg, zSetO, zFrz, zApp, zPar, zParO1, zParO2, zFor, sVar, sC, sOp, sB, sBi, sCall, aNil, aCons, sTup, sLst, oLst, bAnd, bOr, bNot, sAnd, sOr, sNot, sIf, sNeg, sChain, oNone, oSome, sSl, sLast, iSeqD, iEnumD, iZipD, iRg1, iRg2, iRg3, sLC, sLC2, bYes, addD, subD, mulD, fdivD, modD, powD, ltD, leD, gtD, geD, eqD, neD, isD, isntD, ixD, sumD, lenD, absD, maxD, minD, allD, anyD, intCD, tupCD, lstCD, isiD, reprD, isTy, seqD?, bindP, bindPs, wipeD, frz, isN_non, isN_int, isN_bl, isN_tup, isN_lst, ints?_map, bls?_map, ints?_mapf, bls?_mapf, fit_int, fit_bl, fit_non, eqv_int, eqv_bl, cast2, cast3, cast1, cast0, intD, intD0, List.set_cons_zero, List.set_cons_succ, List.getElem?_cons_zero, List.getElem?_cons_succ, List.map_cons, List.map_nil, List.length_cons, List.length_nil, List.length_map, Nat.reduceAdd, Option.some.injEq, if_true, if_false, reduceCtorEq, decide_eq_true_eq, Bool.not_eq_true, true_or, or_true, true_and, and_true, false_or, or_false, String.reduceEq, String.reduceBEq, Bool.or_true, Bool.true_or, Bool.or_false, Bool.false_or, beq_self_eq_true, Bool.not_true, Bool.not_false, Bool.false_eq_true]
    refine ⟨w.1, ws, a, b, rfl, (hw.each ws h).len, ?_⟩
    simp only [zNext, zSeq, zPass, zBreak, zCont, zNever, zExpr, zRet, zRetN, zIf, zAsg, zSetO, zFrz, zApp, zPar, zParO1, zParO2, zFor, sVar, sC, sOp, sB, sBi, sCall, aNil, aCons, sTup, sLst, oLst, bAnd, bOr, bNot, sAnd, sOr, sNot, sIf, sNeg, sChain, oNone, oSome, sSl, sLast, iSeqD, iEnumD, iZipD, iRg1, iRg2, iRg3, sLC, sLC2, bYes, addD, subD, mulD, fdivD, modD, powD, ltD, leD, gtD, geD, eqD, neD, isD, isntD, ixD, sumD, lenD, absD, maxD, minD, allD, anyD, intCD, tupCD, lstCD, isiD, reprD, isTy, seqD?, bindP, bindPs, wipeD, frz, isN_non, isN_int, isN_bl, isN_tup, isN_lst, ints?_map, bls?_map, ints?_mapf, bls?_mapf, fit_int, fit_bl, fit_non, eqv_int, eqv_bl, cast2, cast3, cast1, cast0, intD, intD0, List.set_cons_zero, List.set_cons_succ, List.getElem?_cons_zero, List.getElem?_cons_succ, List.map_cons, List.map_nil, List.length_cons, List.length_nil, List.length_map, Nat.reduceAdd, Option.some.injEq, if_true, if_false, reduceCtorEq, decide_eq_true_eq, Bool.not_eq_true, true_or, or_true, true_and, and_true, false_or, or_false, String.reduceEq, String.reduceBEq, Bool.or_true, Bool.true_or, Bool.or_false, Bool.false_or, beq_self_eq_true, Bool.not_true, Bool.not_false, Bool.false_eq_true]
    refine ⟨le_sl (by decide), fit_splits _, fit_nil, ?_⟩
    have e : (!D.eqv (.lst ((splits w.1 a b ws).map (encSp a b))) (.lst [])) = decide (CanR w.1 a b ws) := by
      rw [eqv_nil]
      by_cases c : CanR w.1 a b ws
      · have := splits_ne.mpr c
        rw [decide_eq_true c]
        cases h : splits w.1 a b ws with
        | nil => exact absurd h this
        | cons => rfl
      · have : splits w.1 a b ws = [] := Classical.byContradiction fun z => c (splits_ne.mp z)
        rw [decide_eq_false c, this]; rfl
    rw [e]
    exact hR'
  · simp only [zNext, zSeq, zPass, zBreak, zCont, zNever, zExpr, zRet, zRetN, zIf, zAsg, zSetO, zFrz, zApp, zPar, zParO1, zParO2, zFor, sVar, sC, sOp, sB, sBi, sCall, aNil, aCons, sTup, sLst, oLst, bAnd, bOr, bNot, sAnd, sOr, sNot, sIf, sNeg, sChain, oNone, oSome, sSl, sLast, iSeqD, iEnumD, iZipD, iRg1, iRg2, iRg3, sLC, sLC2, bYes, addD, subD, mulD, fdivD, modD, powD, ltD, leD, gtD, geD, eqD, neD, isD, isntD, ixD, sumD, lenD, absD, maxD, minD, allD, anyD, intCD, tupCD, lstCD, isiD, reprD, isTy, seqD?, bindP, bindPs, wipeD, frz, isN_non, isN_int, isN_bl, isN_tup, isN_lst, ints?_map, bls?_map, ints?_mapf, bls?_mapf, fit_int, fit_bl, fit_non, eqv_int, eqv_bl, cast2, cast3, cast1, cast0, intD, intD0, List.set_cons_zero, List.set_cons_succ, List.getElem?_cons_zero, List.getElem?_cons_succ, List.map_cons, List.map_nil, List.length_cons, List.length_nil, List.length_map, Nat.reduceAdd, Option.some.injEq, if_true, if_false, reduceCtorEq, decide_eq_true_eq, Bool.not_eq_true, true_or, or_true, true_and, and_true, false_or, or_false, String.reduceEq, String.reduceBEq, Bool.or_true, Bool.true_or, Bool.or_false, Bool.false_or, beq_self_eq_true, Bool.not_true, Bool.not_false, Bool.false_eq_true]
    have e : (w.2.map fun ws => decide (CanR w.1 a b ws)).all id = canB w a b := by
      unfold canB
      rw [Bool.eq_iff_iff, List.all_eq_true, decide_eq_true_iff]
      constructor
      · intro h ws hws
        exact of_decide_eq_true (h _ (List.mem_map.mpr ⟨ws, hws, rfl⟩))
      · intro h x hx
        obtain ⟨ws, hws, rfl⟩ := List.mem_map.mp hx
        exact decide_eq_true (h ws hws)
    rw [e]
    exact hR
/-- the largest end -/
def phi_far_end : SpD := fun ds R => ∃ (w : Wd) (a : Int), ds = [encW w, .int a] ∧ OkW w ∧ 0 ≤ a ∧ ∀ r : Int, (∀ b, b ≤ r ↔ b ≤ w.1 ∧ Can w a b) → R (.int r)
theorem len_far_end : ∀ ds R, phi_far_end ds R → ds.length = 2 := by rintro ds R ⟨w, a, rfl, _⟩; rfl
theorem hds_self (s : Int) : ∀ ws : List Int, s ∈ hds s ws
  | [] => List.mem_singleton.mpr rfl
  | w :: ws => List.mem_cons_self
def z_far_end : SDt := (zSeq (zSetO (oLst (aCons (sOp ixD (sVar 0) (sC (.int 0))) aNil)) 2)
    (zSeq (zFor (iSeqD (sOp ixD (sVar 0) (sC (.int 1)))) (.nm 3)
      (zSeq (zAsg (sBi maxD (aCons (sLC (iSeqD (sCall phi_heads (aCons (sVar 3) aNil))) (.nm 5) (sB (sOp leD (sVar 5) (sVar 1))) (sVar 5) [5]) aNil)) (.nm 4))
    (zApp 2 (sOp addD (sOp subD (sOp ixD (sVar 0) (sC (.int 0))) (sBi sumD (aCons (sVar 3) aNil))) (sVar 4)))))
    (zFrz 2 (zRet (sBi minD (aCons (sVar 2) aNil))))))
abbrev N_far_end : List Str := ["wardrobe", "low", "ends", "widths", "left", "head"]
theorem rd_far_end : ∀ ds R, phi_far_end ds R → z_far_end { nx := fun _ => R .non, rt := R } (startD N_far_end ds) := by
  rintro ds R ⟨w, a, rfl, hw, ha, hR⟩
  show z_far_end _ [.val (encW w), .val (.int a), .un, .un, .un, .un]
  simp only [z_far_end, encW, atI_0, atI_1, zNext, zSeq, zPass, zBreak, zCont, zNever, zExpr, zRet, zRetN, zIf, zAsg, zSetO, zFrz, zApp, zPar, zParO1, zParO2, zFor, sVar, sC, sOp, sB, sBi, sCall, aNil, aCons, sTup, sLst, oLst, bAnd, bOr, bNot, sAnd, sOr, sNot, sIf, sNeg, sChain, oNone, oSome, sSl, sLast, iSeqD, iEnumD, iZipD, iRg1, iRg2, iRg3, sLC, sLC2, bYes, addD, subD, mulD, fdivD, modD, powD, ltD, leD, gtD, geD, eqD, neD, isD, isntD, ixD, sumD, lenD, absD, maxD, minD, allD, anyD, intCD, tupCD, lstCD, isiD, reprD, isTy, seqD?, bindP, bindPs, wipeD, frz, isN_non, isN_int, isN_bl, isN_tup, isN_lst, ints?_map, bls?_map, ints?_mapf, bls?_mapf, fit_int, fit_bl, fit_non, eqv_int, eqv_bl, cast2, cast3, cast1, cast0, intD, intD0, List.set_cons_zero, List.set_cons_succ, List.getElem?_cons_zero, List.getElem?_cons_succ, List.map_cons, List.map_nil, List.length_cons, List.length_nil, List.length_map, Nat.reduceAdd, Option.some.injEq, if_true, if_false, reduceCtorEq, decide_eq_true_eq, Bool.not_eq_true, true_or, or_true, true_and, and_true, false_or, or_false, String.reduceEq, String.reduceBEq, Bool.or_true, Bool.true_or, Bool.or_false, Bool.false_or, beq_self_eq_true, Bool.not_true, Bool.not_false, Bool.false_eq_true]
  refine ⟨le_sl (by decide), ?_⟩
  refine forGo_ind (p := .nm 3) iT (fun xs e => ∃ (acc : List Int) (done : List (List Int)) (u1 u2 u3 : Slot), e = [.val (D.tup [.int w.1, .tup (w.2.map iT)]), .val (.int a), .own (.l (acc.map D.int)), u1, u2, u3] ∧ done ++ xs = w.2 ∧ acc.length = done.length + 1 ∧
    ∀ b, (∀ y ∈ acc, b ≤ y) ↔ b ≤ w.1 ∧ ∀ ws ∈ done, CanR w.1 a b ws) ?_ ?_ w.2 _ ⟨[w.1], [], .un, .un, .un, rfl, rfl, rfl, fun b => (by simp)⟩
  · rintro e ⟨acc, done, u1, u2, u3, rfl, h1, h2, h3⟩
    simp only [zNext, zSeq, zPass, zBreak, zCont, zNever, zExpr, zRet, zRetN, zIf, zAsg, zSetO, zFrz, zApp, zPar, zParO1, zParO2, zFor, sVar, sC, sOp, sB, sBi, sCall, aNil, aCons, sTup, sLst, oLst, bAnd, bOr, bNot, sAnd, sOr, sNot, sIf, sNeg, sChain, oNone, oSome, sSl, sLast, iSeqD, iEnumD, iZipD, iRg1, iRg2, iRg3, sLC, sLC2, bYes, addD, subD, mulD, fdivD, modD, powD, ltD, leD, gtD, geD, eqD, neD, isD, isntD, ixD, sumD, lenD, absD, maxD, minD, allD, anyD, intCD, tupCD, lstCD, isiD, reprD, isTy, seqD?, bindP, bindPs, wipeD, frz, isN_non, isN_int, isN_bl, isN_tup, isN_lst, ints?_map, bls?_map, ints?_mapf, bls?_mapf, fit_int, fit_bl, fit_non, eqv_int, eqv_bl, cast2, cast3, cast1, cast0, intD, intD0, List.set_cons_zero, List.set_cons_succ, List.getElem?_cons_zero, List.getElem?_cons_succ, List.map_cons, List.map_nil, List.length_cons, List.length_nil, List.length_map, Nat.reduceAdd, Option.some.injEq, if_true, if_false, reduceCtorEq, decide_eq_true_eq, Bool.not_eq_true, true_or, or_true, true_and, and_true, false_or, or_false, String.reduceEq, String.reduceBEq, Bool.or_true, Bool.true_or, Bool.or_false, Bool.false_or, beq_self_eq_true, Bool.not_true, Bool.not_false, Bool.false_eq_true]
    rw [List.append_nil] at h1
    subst h1
    refine ⟨by omega, fun m hm hy => hR m fun b => ?_⟩
    constructor
    · intro h
      exact (h3 b).mp fun y hy' => Int.le_trans h (hy y hy')
    · intro h
      exact (h3 b).mpr h m hm
  · rintro ws xs e ⟨acc, done, u1, u2, u3, rfl, h1, h2, h3⟩ K hK
    refine ⟨_, rfl, ?_⟩
    have hws : ws ∈ w.2 := by rw [← h1]; simp
    have o := hw.each ws hws
    have hd : done.length + (xs.length + 1) = w.2.length := by rw [← h1]; simp
    simp only [zNext, zSeq, zPass, zBreak, zCont, zNever, zExpr, zRet, zRetN, zIf, zAsg, zSetO, zFrz, zApp, zPar, zParO1, zParO2, zFor, sVar, sC, sOp, sB, sBi, sCall, aNil, aCons, sTup, sLst, oLst, bAnd, bOr, bNot, sAnd, sOr, sNot, sIf, sNeg, sChain, oNone, oSome, sSl, sLast, iSeqD, iEnumD, iZipD, iRg1, iRg2, iRg3, sLC, sLC2, bYes, addD, subD, mulD, fdivD, modD, powD, ltD, leD, gtD, geD, eqD, neD, isD, isntD, ixD, sumD, lenD, absD, maxD, minD, allD, anyD, intCD, tupCD, lstCD, isiD, reprD, isTy, seqD?, bindP, bindPs, wipeD, frz, isN_non, isN_int, isN_bl, isN_tup, isN_lst, ints?_map, bls?_map, ints?_mapf, bls?_mapf, fit_int, fit_bl, fit_non, eqv_int, eqv_bl, cast2, cast3, cast1, cast0, intD, intD0, List.set_cons_zero, List.set_cons_succ, List.getElem?_cons_zero, List.getElem?_cons_succ, List.map_cons, List.map_nil, List.length_cons, List.length_nil, List.length_map, Nat.reduceAdd, Option.some.injEq, if_true, if_false, reduceCtorEq, decide_eq_true_eq, Bool.not_eq_true, true_or, or_true, true_and, and_true, false_or, or_false, String.reduceEq, String.reduceBEq, Bool.or_true, Bool.true_or, Bool.or_false, Bool.false_or, beq_self_eq_true, Bool.not_true, Bool.not_false, Bool.false_eq_true]
    refine ⟨ws, rfl, by have := o.len; omega, ?_⟩
    simp only [iL, zNext, zSeq, zPass, zBreak, zCont, zNever, zExpr, zRet, zRetN, zIf, zAsg, zSetO, zFrz, zApp, zPar, zParO1, zParO2, zFor, sVar, sC, sOp, sB, sBi, sCall, aNil, aCons, sTup, sLst, oLst, bAnd, bOr, bNot, sAnd, sOr, sNot, sIf, sNeg, sChain, oNone, oSome, sSl, sLast, iSeqD, iEnumD, iZipD, iRg1, iRg2, iRg3, sLC, sLC2, bYes, addD, subD, mulD, fdivD, modD, powD, ltD, leD, gtD, geD, eqD, neD, isD, isntD, ixD, sumD, lenD, absD, maxD, minD, allD, anyD, intCD, tupCD, lstCD, isiD, reprD, isTy, seqD?, bindP, bindPs, wipeD, frz, isN_non, isN_int, isN_bl, isN_tup, isN_lst, ints?_map, bls?_map, ints?_mapf, bls?_mapf, fit_int, fit_bl, fit_non, eqv_int, eqv_bl, cast2, cast3, cast1, cast0, intD, intD0, List.set_cons_zero, List.set_cons_succ, List.getElem?_cons_zero, List.getElem?_cons_succ, List.map_cons, List.map_nil, List.length_cons, List.length_nil, List.length_map, Nat.reduceAdd, Option.some.injEq, if_true, if_false, reduceCtorEq, decide_eq_true_eq, Bool.not_eq_true, true_or, or_true, true_and, and_true, false_or, or_false, String.reduceEq, String.reduceBEq, Bool.or_true, Bool.true_or, Bool.or_false, Bool.false_or, beq_self_eq_true, Bool.not_true, Bool.not_false, Bool.false_eq_true]
    refine lcGo_map D.int D.int (fun h => decide (h ≤ a)) (hds 0 ws) _ _ (fun h hh => ⟨_, rfl, fun R' hR' => ?_, fun _ R' hR' => ?_⟩) ?_
    · simp only [zNext, zSeq, zPass, zBreak, zCont, zNever, zExpr, zRet, zRetN, zIf, zAsg, zSetO, zFrz, zApp, zPar, zParO1, zParO2, zFor, sVar, sC, sOp, sB, sBi, sCall, aNil, aCons, sTup, sLst, oLst, bAnd, bOr, bNot, sAnd, sOr, sNot, sIf, sNeg, sChain, oNone, oSome, sSl, sLast, iSeqD, iEnumD, iZipD, iRg1, iRg2, iRg3, sLC, sLC2, bYes, addD, subD, mulD, fdivD, modD, powD, ltD, leD, gtD, geD, eqD, neD, isD, isntD, ixD, sumD, lenD, absD, maxD, minD, allD, anyD, intCD, tupCD, lstCD, isiD, reprD, isTy, seqD?, bindP, bindPs, wipeD, frz, isN_non, isN_int, isN_bl, isN_tup, isN_lst, ints?_map, bls?_map, ints?_mapf, bls?_mapf, fit_int, fit_bl, fit_non, eqv_int, eqv_bl, cast2, cast3, cast1, cast0, intD, intD0, List.set_cons_zero, List.set_cons_succ, List.getElem?_cons_zero, List.getElem?_cons_succ, List.map_cons, List.map_nil, List.length_cons, List.length_nil, List.length_map, Nat.reduceAdd, Option.some.injEq, if_true, if_false, reduceCtorEq, decide_eq_true_eq, Bool.not_eq_true, true_or, or_true, true_and, and_true, false_or, or_false, String.reduceEq, String.reduceBEq, Bool.or_true, Bool.true_or, Bool.or_false, Bool.false_or, beq_self_eq_true, Bool.not_true, Bool.not_false, Bool.false_eq_true]; exact hR'
    · simp only [zNext, zSeq, zPass, zBreak, zCont, zNever, zExpr, zRet, zRetN, zIf, zAsg, zSetO, zFrz, zApp, zPar, zParO1, zParO2, zFor, sVar, sC, sOp, sB, sBi, sCall, aNil, aCons, sTup, sLst, oLst, bAnd, bOr, bNot, sAnd, sOr, sNot, sIf, sNeg, sChain, oNone, oSome, sSl, sLast, iSeqD, iEnumD, iZipD, iRg1, iRg2, iRg3, sLC, sLC2, bYes, addD, subD, mulD, fdivD, modD, powD, ltD, leD, gtD, geD, eqD, neD, isD, isntD, ixD, sumD, lenD, absD, maxD, minD, allD, anyD, intCD, tupCD, lstCD, isiD, reprD, isTy, seqD?, bindP, bindPs, wipeD, frz, isN_non, isN_int, isN_bl, isN_tup, isN_lst, ints?_map, bls?_map, ints?_mapf, bls?_mapf, fit_int, fit_bl, fit_non, eqv_int, eqv_bl, cast2, cast3, cast1, cast0, intD, intD0, List.set_cons_zero, List.set_cons_succ, List.getElem?_cons_zero, List.getElem?_cons_succ, List.map_cons, List.map_nil, List.length_cons, List.length_nil, List.length_map, Nat.reduceAdd, Option.some.injEq, if_true, if_false, reduceCtorEq, decide_eq_true_eq, Bool.not_eq_true, true_or, or_true, true_and, and_true, false_or, or_false, String.reduceEq, String.reduceBEq, Bool.or_true, Bool.true_or, Bool.or_false, Bool.false_or, beq_self_eq_true, Bool.not_true, Bool.not_false, Bool.false_eq_true]; exact hR'
    · rw [List.nil_append]
      simp only [zNext, zSeq, zPass, zBreak, zCont, zNever, zExpr, zRet, zRetN, zIf, zAsg, zSetO, zFrz, zApp, zPar, zParO1, zParO2, zFor, sVar, sC, sOp, sB, sBi, sCall, aNil, aCons, sTup, sLst, oLst, bAnd, bOr, bNot, sAnd, sOr, sNot, sIf, sNeg, sChain, oNone, oSome, sSl, sLast, iSeqD, iEnumD, iZipD, iRg1, iRg2, iRg3, sLC, sLC2, bYes, addD, subD, mulD, fdivD, modD, powD, ltD, leD, gtD, geD, eqD, neD, isD, isntD, ixD, sumD, lenD, absD, maxD, minD, allD, anyD, intCD, tupCD, lstCD, isiD, reprD, isTy, seqD?, bindP, bindPs, wipeD, frz, isN_non, isN_int, isN_bl, isN_tup, isN_lst, ints?_map, bls?_map, ints?_mapf, bls?_mapf, fit_int, fit_bl, fit_non, eqv_int, eqv_bl, cast2, cast3, cast1, cast0, intD, intD0, List.set_cons_zero, List.set_cons_succ, List.getElem?_cons_zero, List.getElem?_cons_succ, List.map_cons, List.map_nil, List.length_cons, List.length_nil, List.length_map, Nat.reduceAdd, Option.some.injEq, if_true, if_false, reduceCtorEq, decide_eq_true_eq, Bool.not_eq_true, true_or, or_true, true_and, and_true, false_or, or_false, String.reduceEq, String.reduceBEq, Bool.or_true, Bool.true_or, Bool.or_false, Bool.false_or, beq_self_eq_true, Bool.not_true, Bool.not_false, Bool.false_eq_true]
      refine ⟨List.length_pos_iff.mpr fun z => ?_, fun m hm hy => ?_⟩
      · have := List.filter_eq_nil_iff.mp z 0 (hds_self 0 ws)
        exact this (decide_eq_true ha)
      · rw [List.mem_filter] at hm
        have hma := of_decide_eq_true hm.2
        simp only [iT, atI_0, zNext, zSeq, zPass, zBreak, zCont, zNever, zExpr, zRet, zRetN, zIf, zAsg, zSetO, zFrz, zApp, zPar, zParO1, zParO2, zFor, sVar, sC, sOp, sB, sBi, sCall, aNil, aCons, sTup, sLst, oLst, bAnd, bOr, bNot, sAnd, sOr, sNot, sIf, sNeg, sChain, oNone, oSome, sSl, sLast, iSeqD, iEnumD, iZipD, iRg1, iRg2, iRg3, sLC, sLC2, bYes, addD, subD, mulD, fdivD, modD, powD, ltD, leD, gtD, geD, eqD, neD, isD, isntD, ixD, sumD, lenD, absD, maxD, minD, allD, anyD, intCD, tupCD, lstCD, isiD, reprD, isTy, seqD?, bindP, bindPs, wipeD, frz, isN_non, isN_int, isN_bl, isN_tup, isN_lst, ints?_map, bls?_map, ints?_mapf, bls?_mapf, fit_int, fit_bl, fit_non, eqv_int, eqv_bl, cast2, cast3, cast1, cast0, intD, intD0, List.set_cons_zero, List.set_cons_succ, List.getElem?_cons_zero, List.getElem?_cons_succ, List.map_cons, List.map_nil, List.length_cons, List.length_nil, List.length_map, Nat.reduceAdd, Option.some.injEq, if_true, if_false, reduceCtorEq, decide_eq_true_eq, Bool.not_eq_true, true_or, or_true, true_and, and_true, false_or, or_false, String.reduceEq, String.reduceBEq, Bool.or_true, Bool.true_or, Bool.or_false, Bool.false_or, beq_self_eq_true, Bool.not_true, Bool.not_false, Bool.false_eq_true]
        refine ⟨lt_sl (by have := hw.rails.2; omega), hK _ ⟨acc ++ [w.1 - ws.sum + m], done ++ [ws], .val (iT ws), .val (.int m), u3, ?_, ?_, ?_, fun b => ?_⟩⟩
        · rw [List.map_append]; rfl
        · rw [List.append_assoc]; exact h1
        · simp; omega
        · have e1 : b ≤ w.1 - ws.sum + m ↔ CanR w.1 a b ws := by
            constructor
            · intro h
              exact ⟨m, hm.1, hma, by omega⟩
            · rintro ⟨h, q1, q2, q3⟩
              have := hy h (List.mem_filter.mpr ⟨q1, decide_eq_true q2⟩)
              omega
          constructor
          · intro h
            have h4 := (h3 b).mp fun y q => h y (List.mem_append_left _ q)
            refine ⟨h4.1, fun z hzm => ?_⟩
            rcases List.mem_append.mp hzm with hzm | hzm
            · exact h4.2 z hzm
            · rw [List.mem_singleton.mp hzm]
              exact e1.mp (h _ (List.mem_append_right _ (List.mem_singleton.mpr rfl)))
          · rintro ⟨h4, h5⟩ y hy'
            rcases List.mem_append.mp hy' with hy' | hy'
            · exact (h3 b).mpr ⟨h4, fun z hz => h5 z (List.mem_append_left _ hz)⟩ y hy'
            · rw [List.mem_singleton.mp hy']
              exact e1.mpr (h5 ws (List.mem_append_right _ (List.mem_singleton.mpr rfl)))
end SD

namespace SD
open L2 PyProof.Rows PySem PySem.Spec
theorem lcIn_all {α : Type} {p : Pat} {te : ED} {e : EnvD} (f g : α → D) : ∀ (xs : List α) (acc : List D) (R : List D → Prop),
    (∀ x ∈ xs, ∃ e2, bindP p (f x) e = some e2 ∧ ∀ R, R (g x) → te e2 R) → acc.length + xs.length ≤ sizeLine → R (acc ++ xs.map g) → lcIn p bYes te e (xs.map f) acc R
  | [], acc, R, h, z, q => by
    rw [List.map_nil, List.append_nil] at q
    exact q
  | x :: xs, acc, R, h, z, q => by
    obtain ⟨e2, h1, h2⟩ := h x List.mem_cons_self
    rw [List.length_cons] at z
    rw [List.map_cons]
    unfold lcIn
    rw [h1]
    simp only [bYes, if_true]
    refine h2 _ ⟨by omega, lcIn_all f g xs _ R (fun y hy => h y (List.mem_cons_of_mem _ hy)) (by rw [List.length_append, List.length_singleton]; omega) ?_⟩
    rw [List.append_assoc]
    exact q
theorem lcGo2_all {α β : Type} {p p1 : Pat} {ti1 : ID} {te : ED} {vs1 : List Nat} {e : EnvD} (f : α → D) (l : α → List β) (f1 g : β → D) : ∀ (xs : List α) (acc : List D) (R : List D → Prop),
    (∀ x ∈ xs, ∃ e2, bindP p (f x) e = some e2 ∧ (∀ R, R ((l x).map f1) → ti1 e2 R) ∧ ∀ y ∈ l x, ∃ e3, bindP p1 (f1 y) (wipeD e2 vs1) = some e3 ∧ ∀ R, R (g y) → te e3 R) →
    acc.length + (xs.flatMap l).length ≤ sizeLine → R (acc ++ (xs.flatMap l).map g) → lcGo2 p bYes ti1 p1 bYes te vs1 e (xs.map f) acc R
  | [], acc, R, h, z, q => by
    rw [List.flatMap_nil, List.map_nil, List.append_nil] at q
    exact q
  | x :: xs, acc, R, h, z, q => by
    obtain ⟨e2, h1, h2, h3⟩ := h x List.mem_cons_self
    rw [List.flatMap_cons, List.length_append] at z
    rw [List.flatMap_cons, List.map_append, ← List.append_assoc] at q
    rw [List.map_cons]
    unfold lcGo2
    rw [h1]
    simp only [bYes, if_true]
    refine h2 _ (lcIn_all f1 g (l x) acc _ h3 (by omega) ?_)
    exact lcGo2_all f l f1 g xs _ R (fun y hy => h y (List.mem_cons_of_mem _ hy)) (by rw [List.length_append, List.length_map]; omega) q
/-- the first pair of a kind, by its numbers, if there is one -/
def LM (S : Int → Int → Prop) (o : Option (Int × Int)) : Prop := match o with
  | none => ∀ l h, ¬ S l h
  | some p => S p.1 p.2 ∧ ∀ l h, S l h → p.1 < l ∨ (p.1 = l ∧ p.2 ≤ h)
theorem LM.uniq {S : Int → Int → Prop} {o o' : Option (Int × Int)} (h : LM S o) (h' : LM S o') : o = o' := by
  cases o with
  | none =>
    cases o' with
    | none => rfl
    | some p => exact absurd h'.1 (h _ _)
  | some p =>
    cases o' with
    | none => exact absurd h.1 (h' _ _)
    | some p' =>
      have a := h.2 _ _ h'.1
      have b := h'.2 _ _ h.1
      obtain ⟨x, y⟩ := p
      obtain ⟨x', y'⟩ := p'
      simp only at a b
      have e1 : x = x' := by omega
      have e2 : y = y' := by omega
      rw [e1, e2]
/-- only the second wardrobe can open it -/
def Tell (one other : Wd) (l h : Int) : Prop := 0 ≤ l ∧ l < h ∧ h ≤ other.1 ∧ Can other l h ∧ ¬ (h ≤ one.1 ∧ Can one l h)
def encO (o : Option (Int × Int)) : D := match o with
  | none => .non
  | some p => encS p.1 p.2
def phi_first_unlike : SpD := fun ds R => ∃ one other : Wd, ds = [encW one, encW other] ∧ OkW one ∧ OkW other ∧ ∀ o, LM (Tell one other) o → R (encO o)
theorem len_first_unlike : ∀ ds R, phi_first_unlike ds R → ds.length = 2 := by rintro ds R ⟨w, a, rfl, _⟩; rfl
theorem hds_ge : ∀ (ws : List Int) (s : Int), (∀ x ∈ ws, 1 ≤ x) → ∀ h ∈ hds s ws, s ≤ h
  | [], s, _, h, hh => by rw [List.mem_singleton.mp hh]; exact Int.le_refl _
  | w :: ws, s, q, h, hh => by
    rcases List.mem_cons.mp hh with rfl | hh
    · exact Int.le_refl _
    · have := hds_ge ws (s + w) (fun x hx => q x (List.mem_cons_of_mem _ hx)) h hh
      have := q w List.mem_cons_self
      omega
theorem flat_len {l : List (List Int)} (h : ∀ ws ∈ l, ws.length ≤ 6) : (l.flatMap fun ws => hds 0 ws).length ≤ 7 * l.length := by
  induction l with
  | nil => exact Nat.le_refl _
  | cons x l ih =>
    rw [List.flatMap_cons, List.length_append, hds_length, List.length_cons]
    have := ih fun ws hw => h ws (List.mem_cons_of_mem _ hw)
    have := h x List.mem_cons_self
    omega
theorem can_mono {w : Wd} {l l' b : Int} (h : Can w l b) (q : l ≤ l') : Can w l' b := fun ws hw => by
  obtain ⟨x, h1, h2, h3⟩ := h ws hw
  exact ⟨x, h1, by omega, h3⟩
/-- an end of a stretch from a cell on can be reached from the last head of a door too -/
theorem can_head {w : Wd} {l b : Int} (h : Can w l b) (h0 : 0 ≤ l) : ∃ l', 0 ≤ l' ∧ l' ≤ l ∧ Can w l' b ∧ (l' = 0 ∨ l' ∈ w.2.flatMap fun ws => hds 0 ws) := by
  obtain ⟨W, rs⟩ := w
  induction rs with
  | nil => exact ⟨0, Int.le_refl _, h0, fun ws hw => (nomatch hw), .inl rfl⟩
  | cons r rs ih =>
    obtain ⟨x, h1, h2, h3⟩ := h r List.mem_cons_self
    obtain ⟨l', q1, q2, q3, q4⟩ := ih fun ws hw => h ws (List.mem_cons_of_mem _ hw)
    by_cases c : x ≤ l'
    · refine ⟨l', q1, q2, fun ws hw => ?_, ?_⟩
      · rcases List.mem_cons.mp hw with rfl | hw
        · exact ⟨x, h1, c, h3⟩
        · exact q3 ws hw
      · rcases q4 with z | z
        · exact .inl z
        · exact .inr (by rw [List.flatMap_cons]; exact List.mem_append_right _ z)
    · refine ⟨x, by omega, h2, fun ws hw => ?_, .inr (by rw [List.flatMap_cons]; exact List.mem_append_left _ h1)⟩
      rcases List.mem_cons.mp hw with rfl | hw
      · exact ⟨x, h1, Int.le_refl _, h3⟩
      · obtain ⟨y, y1, y2, y3⟩ := q3 ws hw
        exact ⟨y, y1, by omega, y3⟩
/-- the largest end that can be opened -/
theorem far_ex {w : Wd} {a : Int} (ha : 0 ≤ a) : ∃ r : Int, ∀ b, b ≤ r ↔ b ≤ w.1 ∧ Can w a b := by
  obtain ⟨W, rs⟩ := w
  induction rs with
  | nil => exact ⟨W, fun b => ⟨fun h => ⟨h, fun ws hw => (nomatch hw)⟩, fun h => h.1⟩⟩
  | cons ws rs ih =>
    obtain ⟨r, hr⟩ := ih
    have : ∃ m : Int, m ∈ hds 0 ws ∧ m ≤ a ∧ ∀ h ∈ hds 0 ws, h ≤ a → h ≤ m := by
      have gen : ∀ l : List Int, (∃ x ∈ l, x ≤ a) → ∃ m : Int, m ∈ l ∧ m ≤ a ∧ ∀ h ∈ l, h ≤ a → h ≤ m := by
        intro l
        induction l with
        | nil => rintro ⟨x, hx, _⟩; cases hx
        | cons y l ih =>
          rintro ⟨x, hx, hxa⟩
          by_cases c : ∃ x ∈ l, x ≤ a
          · obtain ⟨m, m1, m2, m3⟩ := ih c
            by_cases d : y ≤ a ∧ m ≤ y
            · refine ⟨y, List.mem_cons_self, d.1, fun h hh ha => ?_⟩
              rcases List.mem_cons.mp hh with rfl | hh
              · exact Int.le_refl _
              · exact Int.le_trans (m3 h hh ha) d.2
            · refine ⟨m, List.mem_cons_of_mem _ m1, m2, fun h hh ha => ?_⟩
              rcases List.mem_cons.mp hh with rfl | hh
              · omega
              · exact m3 h hh ha
          · rcases List.mem_cons.mp hx with rfl | hx
            · refine ⟨x, List.mem_cons_self, hxa, fun h hh ha => ?_⟩
              rcases List.mem_cons.mp hh with rfl | hh
              · exact Int.le_refl _
              · exact absurd ⟨h, hh, ha⟩ c
            · exact absurd ⟨x, hx, hxa⟩ c
      exact gen _ ⟨0, hds_self 0 ws, ha⟩
    obtain ⟨m, m1, m2, m3⟩ := this
    have e1 : ∀ b, b ≤ W - ws.sum + m ↔ CanR W a b ws := fun b => by
      constructor
      · intro h
        exact ⟨m, m1, m2, by omega⟩
      · rintro ⟨h, q1, q2, q3⟩
        have := m3 h q1 q2
        omega
    refine ⟨min r (W - ws.sum + m), fun b => ?_⟩
    have h1 := hr b
    have h2 := e1 b
    constructor
    · intro h
      have z1 := h1.mp (by omega)
      refine ⟨z1.1, fun y hy => ?_⟩
      (rcases List.mem_cons.mp hy with rfl | hy)
      · exact h2.mp (by omega)
      · exact z1.2 y hy
    · rintro ⟨z1, z2⟩
      have := h1.mpr ⟨z1, fun y hy => z2 y (List.mem_cons_of_mem _ hy)⟩
      have := h2.mpr (z2 ws List.mem_cons_self)
      omega
def z_first_unlike : SDt := (zSeq (zAsg (sSortSetI (sLC2 (iSeqD (sOp ixD (sVar 1) (sC (.int 1)))) (.nm 5) bYes (iSeqD (sCall phi_heads (aCons (sVar 5) aNil))) (.nm 6) bYes (sVar 6) [5, 6] [6])) (.nm 2))
    (zSeq (zFor (iSeqD (sVar 2)) (.nm 3)
      (zSeq (zAsg (sBi maxD (aCons (sVar 3) (aCons (sCall phi_far_end (aCons (sVar 0) (aCons (sVar 3) aNil))) aNil))) (.nm 4))
    (zIf (sB (sOp gtD (sCall phi_far_end (aCons (sVar 1) (aCons (sVar 3) aNil))) (sVar 4))) (zRet (sTup (aCons (sVar 3) (aCons (sOp addD (sVar 4) (sC (.int 1))) aNil))))
      zNext)))
    (zRet (sC .non))))
abbrev N_first_unlike : List Str := ["first", "second", "lows", "low", "end", "widths", "head"]
theorem rd_first_unlike : ∀ ds R, phi_first_unlike ds R → z_first_unlike { nx := fun _ => R .non, rt := R } (startD N_first_unlike ds) := by
  rintro ds R ⟨one, other, rfl, h1, h2, hR⟩
  show z_first_unlike _ [.val (encW one), .val (encW other), .un, .un, .un, .un, .un]
  have e2 : encW other = D.tup [.int other.1, .tup (other.2.map iT)] := rfl
  simp only [z_first_unlike, e2, atI_0, atI_1, zNext, zSeq, zPass, zBreak, zCont, zNever, zExpr, zRet, zRetN, zIf, zAsg, zSetO, zFrz, zApp, zPar, zParO1, zParO2, zFor, sVar, sC, sOp, sB, sBi, sCall, aNil, aCons, sTup, sLst, oLst, bAnd, bOr, bNot, sAnd, sOr, sNot, sIf, sNeg, sChain, oNone, oSome, sSl, sLast, iSeqD, iEnumD, iZipD, iRg1, iRg2, iRg3, sLC, sLC2, bYes, addD, subD, mulD, fdivD, modD, powD, ltD, leD, gtD, geD, eqD, neD, isD, isntD, ixD, sumD, lenD, absD, maxD, minD, allD, anyD, intCD, tupCD, lstCD, isiD, reprD, isTy, seqD?, bindP, bindPs, wipeD, frz, isN_non, isN_int, isN_bl, isN_tup, isN_lst, ints?_map, bls?_map, ints?_mapf, bls?_mapf, fit_int, fit_bl, fit_non, eqv_int, eqv_bl, cast2, cast3, cast1, cast0, intD, intD0, List.set_cons_zero, List.set_cons_succ, List.getElem?_cons_zero, List.getElem?_cons_succ, List.map_cons, List.map_nil, List.length_cons, List.length_nil, List.length_map, Nat.reduceAdd, Option.some.injEq, if_true, if_false, reduceCtorEq, decide_eq_true_eq, Bool.not_eq_true, true_or, or_true, true_and, and_true, false_or, or_false, String.reduceEq, String.reduceBEq, Bool.or_true, Bool.true_or, Bool.or_false, Bool.false_or, beq_self_eq_true, Bool.not_true, Bool.not_false, Bool.false_eq_true]
  rw [← e2]
  have hf := flat_len fun ws hw => (h2.each ws hw).len
  have hr := h2.rails.2
  refine lcGo2_all iT (fun ws => hds 0 ws) D.int D.int other.2 [] _ (fun ws hw => ⟨_, rfl, fun R' hR' => ?_, fun h hh => ⟨_, rfl, fun R' hR' => ?_⟩⟩) (le_sl (by simp only [List.length_nil]; omega)) ?_
  · simp only [zNext, zSeq, zPass, zBreak, zCont, zNever, zExpr, zRet, zRetN, zIf, zAsg, zSetO, zFrz, zApp, zPar, zParO1, zParO2, zFor, sVar, sC, sOp, sB, sBi, sCall, aNil, aCons, sTup, sLst, oLst, bAnd, bOr, bNot, sAnd, sOr, sNot, sIf, sNeg, sChain, oNone, oSome, sSl, sLast, iSeqD, iEnumD, iZipD, iRg1, iRg2, iRg3, sLC, sLC2, bYes, addD, subD, mulD, fdivD, modD, powD, ltD, leD, gtD, geD, eqD, neD, isD, isntD, ixD, sumD, lenD, absD, maxD, minD, allD, anyD, intCD, tupCD, lstCD, isiD, reprD, isTy, seqD?, bindP, bindPs, wipeD, frz, isN_non, isN_int, isN_bl, isN_tup, isN_lst, ints?_map, bls?_map, ints?_mapf, bls?_mapf, fit_int, fit_bl, fit_non, eqv_int, eqv_bl, cast2, cast3, cast1, cast0, intD, intD0, List.set_cons_zero, List.set_cons_succ, List.getElem?_cons_zero, List.getElem?_cons_succ, List.map_cons, List.map_nil, List.length_cons, List.length_nil, List.length_map, Nat.reduceAdd, Option.some.injEq, if_true, if_false, reduceCtorEq, decide_eq_true_eq, Bool.not_eq_true, true_or, or_true, true_and, and_true, false_or, or_false, String.reduceEq, String.reduceBEq, Bool.or_true, Bool.true_or, Bool.or_false, Bool.false_or, beq_self_eq_true, Bool.not_true, Bool.not_false, Bool.false_eq_true]
    refine ⟨ws, rfl, by have := (h2.each ws hw).len; omega, ?_⟩
    simp only [iL, zNext, zSeq, zPass, zBreak, zCont, zNever, zExpr, zRet, zRetN, zIf, zAsg, zSetO, zFrz, zApp, zPar, zParO1, zParO2, zFor, sVar, sC, sOp, sB, sBi, sCall, aNil, aCons, sTup, sLst, oLst, bAnd, bOr, bNot, sAnd, sOr, sNot, sIf, sNeg, sChain, oNone, oSome, sSl, sLast, iSeqD, iEnumD, iZipD, iRg1, iRg2, iRg3, sLC, sLC2, bYes, addD, subD, mulD, fdivD, modD, powD, ltD, leD, gtD, geD, eqD, neD, isD, isntD, ixD, sumD, lenD, absD, maxD, minD, allD, anyD, intCD, tupCD, lstCD, isiD, reprD, isTy, seqD?, bindP, bindPs, wipeD, frz, isN_non, isN_int, isN_bl, isN_tup, isN_lst, ints?_map, bls?_map, ints?_mapf, bls?_mapf, fit_int, fit_bl, fit_non, eqv_int, eqv_bl, cast2, cast3, cast1, cast0, intD, intD0, List.set_cons_zero, List.set_cons_succ, List.getElem?_cons_zero, List.getElem?_cons_succ, List.map_cons, List.map_nil, List.length_cons, List.length_nil, List.length_map, Nat.reduceAdd, Option.some.injEq, if_true, if_false, reduceCtorEq, decide_eq_true_eq, Bool.not_eq_true, true_or, or_true, true_and, and_true, false_or, or_false, String.reduceEq, String.reduceBEq, Bool.or_true, Bool.true_or, Bool.or_false, Bool.false_or, beq_self_eq_true, Bool.not_true, Bool.not_false, Bool.false_eq_true]
    exact hR'
  · simp only [List.set, zNext, zSeq, zPass, zBreak, zCont, zNever, zExpr, zRet, zRetN, zIf, zAsg, zSetO, zFrz, zApp, zPar, zParO1, zParO2, zFor, sVar, sC, sOp, sB, sBi, sCall, aNil, aCons, sTup, sLst, oLst, bAnd, bOr, bNot, sAnd, sOr, sNot, sIf, sNeg, sChain, oNone, oSome, sSl, sLast, iSeqD, iEnumD, iZipD, iRg1, iRg2, iRg3, sLC, sLC2, bYes, addD, subD, mulD, fdivD, modD, powD, ltD, leD, gtD, geD, eqD, neD, isD, isntD, ixD, sumD, lenD, absD, maxD, minD, allD, anyD, intCD, tupCD, lstCD, isiD, reprD, isTy, seqD?, bindP, bindPs, wipeD, frz, isN_non, isN_int, isN_bl, isN_tup, isN_lst, ints?_map, bls?_map, ints?_mapf, bls?_mapf, fit_int, fit_bl, fit_non, eqv_int, eqv_bl, cast2, cast3, cast1, cast0, intD, intD0, List.set_cons_zero, List.set_cons_succ, List.getElem?_cons_zero, List.getElem?_cons_succ, List.map_cons, List.map_nil, List.length_cons, List.length_nil, List.length_map, Nat.reduceAdd, Option.some.injEq, if_true, if_false, reduceCtorEq, decide_eq_true_eq, Bool.not_eq_true, true_or, or_true, true_and, and_true, false_or, or_false, String.reduceEq, String.reduceBEq, Bool.or_true, Bool.true_or, Bool.or_false, Bool.false_or, beq_self_eq_true, Bool.not_true, Bool.not_false, Bool.false_eq_true]
    exact hR'
  rw [List.nil_append]
  refine ⟨_, ints?_map _, by omega, fun ms hp hm => ?_⟩
  simp only [zNext, zSeq, zPass, zBreak, zCont, zNever, zExpr, zRet, zRetN, zIf, zAsg, zSetO, zFrz, zApp, zPar, zParO1, zParO2, zFor, sVar, sC, sOp, sB, sBi, sCall, aNil, aCons, sTup, sLst, oLst, bAnd, bOr, bNot, sAnd, sOr, sNot, sIf, sNeg, sChain, oNone, oSome, sSl, sLast, iSeqD, iEnumD, iZipD, iRg1, iRg2, iRg3, sLC, sLC2, bYes, addD, subD, mulD, fdivD, modD, powD, ltD, leD, gtD, geD, eqD, neD, isD, isntD, ixD, sumD, lenD, absD, maxD, minD, allD, anyD, intCD, tupCD, lstCD, isiD, reprD, isTy, seqD?, bindP, bindPs, wipeD, frz, isN_non, isN_int, isN_bl, isN_tup, isN_lst, ints?_map, bls?_map, ints?_mapf, bls?_mapf, fit_int, fit_bl, fit_non, eqv_int, eqv_bl, cast2, cast3, cast1, cast0, intD, intD0, List.set_cons_zero, List.set_cons_succ, List.getElem?_cons_zero, List.getElem?_cons_succ, List.map_cons, List.map_nil, List.length_cons, List.length_nil, List.length_map, Nat.reduceAdd, Option.some.injEq, if_true, if_false, reduceCtorEq, decide_eq_true_eq, Bool.not_eq_true, true_or, or_true, true_and, and_true, false_or, or_false, String.reduceEq, String.reduceBEq, Bool.or_true, Bool.true_or, Bool.or_false, Bool.false_or, beq_self_eq_true, Bool.not_true, Bool.not_false, Bool.false_eq_true]
  -- what is known of the turns that are done
  refine forGo_ind (p := .nm 3) D.int (fun xs e => ∃ (dn : List Int) (u3 u4 u5 u6 : Slot), e = [.val (encW one), .val (encW other), .val (.lst (ms.map D.int)), u3, u4, u5, u6] ∧ dn ++ xs = ms ∧ ∀ l ∈ dn, ∀ h, ¬ Tell one other l h) ?_ ?_ ms _ ⟨[], .un, .un, .un, .un, rfl, rfl, fun _ z => (nomatch z)⟩
  · rintro e ⟨dn, u3, u4, u5, u6, rfl, q1, q2⟩
    simp only [zNext, zSeq, zPass, zBreak, zCont, zNever, zExpr, zRet, zRetN, zIf, zAsg, zSetO, zFrz, zApp, zPar, zParO1, zParO2, zFor, sVar, sC, sOp, sB, sBi, sCall, aNil, aCons, sTup, sLst, oLst, bAnd, bOr, bNot, sAnd, sOr, sNot, sIf, sNeg, sChain, oNone, oSome, sSl, sLast, iSeqD, iEnumD, iZipD, iRg1, iRg2, iRg3, sLC, sLC2, bYes, addD, subD, mulD, fdivD, modD, powD, ltD, leD, gtD, geD, eqD, neD, isD, isntD, ixD, sumD, lenD, absD, maxD, minD, allD, anyD, intCD, tupCD, lstCD, isiD, reprD, isTy, seqD?, bindP, bindPs, wipeD, frz, isN_non, isN_int, isN_bl, isN_tup, isN_lst, ints?_map, bls?_map, ints?_mapf, bls?_mapf, fit_int, fit_bl, fit_non, eqv_int, eqv_bl, cast2, cast3, cast1, cast0, intD, intD0, List.set_cons_zero, List.set_cons_succ, List.getElem?_cons_zero, List.getElem?_cons_succ, List.map_cons, List.map_nil, List.length_cons, List.length_nil, List.length_map, Nat.reduceAdd, Option.some.injEq, if_true, if_false, reduceCtorEq, decide_eq_true_eq, Bool.not_eq_true, true_or, or_true, true_and, and_true, false_or, or_false, String.reduceEq, String.reduceBEq, Bool.or_true, Bool.true_or, Bool.or_false, Bool.false_or, beq_self_eq_true, Bool.not_true, Bool.not_false, Bool.false_eq_true]
    refine hR none fun l h t => ?_
    obtain ⟨t1, t2, t3, t4, t5⟩ := t
    obtain ⟨l', p1, p2, p3, p4⟩ := can_head t4 t1
    have hl' : l' ∈ dn := by
      rw [List.append_nil] at q1
      rw [q1, hm]
      rcases p4 with z | z
      · rw [z]
        obtain ⟨ws, hws⟩ : ∃ ws, ws ∈ other.2 := List.exists_mem_of_length_pos h2.rails.1
        exact List.mem_flatMap.mpr ⟨ws, hws, hds_self 0 ws⟩
      · exact z
    exact q2 l' hl' h ⟨p1, by omega, t3, p3, fun z => t5 ⟨z.1, can_mono z.2 p2⟩⟩
  · rintro low xs e ⟨dn, u3, u4, u5, u6, rfl, q1, q2⟩ K hK
    refine ⟨_, rfl, ?_⟩
    have hlow : low ∈ other.2.flatMap fun ws => hds 0 ws := (hm low).mp (by rw [← q1]; simp)
    have h0 : 0 ≤ low := by
      obtain ⟨ws, hws, hh⟩ := List.mem_flatMap.mp hlow
      exact hds_ge ws 0 (fun x hx => ((h2.each ws hws).each x hx).1) low hh
    simp only [zNext, zSeq, zPass, zBreak, zCont, zNever, zExpr, zRet, zRetN, zIf, zAsg, zSetO, zFrz, zApp, zPar, zParO1, zParO2, zFor, sVar, sC, sOp, sB, sBi, sCall, aNil, aCons, sTup, sLst, oLst, bAnd, bOr, bNot, sAnd, sOr, sNot, sIf, sNeg, sChain, oNone, oSome, sSl, sLast, iSeqD, iEnumD, iZipD, iRg1, iRg2, iRg3, sLC, sLC2, bYes, addD, subD, mulD, fdivD, modD, powD, ltD, leD, gtD, geD, eqD, neD, isD, isntD, ixD, sumD, lenD, absD, maxD, minD, allD, anyD, intCD, tupCD, lstCD, isiD, reprD, isTy, seqD?, bindP, bindPs, wipeD, frz, isN_non, isN_int, isN_bl, isN_tup, isN_lst, ints?_map, bls?_map, ints?_mapf, bls?_mapf, fit_int, fit_bl, fit_non, eqv_int, eqv_bl, cast2, cast3, cast1, cast0, intD, intD0, List.set_cons_zero, List.set_cons_succ, List.getElem?_cons_zero, List.getElem?_cons_succ, List.map_cons, List.map_nil, List.length_cons, List.length_nil, List.length_map, Nat.reduceAdd, Option.some.injEq, if_true, if_false, reduceCtorEq, decide_eq_true_eq, Bool.not_eq_true, true_or, or_true, true_and, and_true, false_or, or_false, String.reduceEq, String.reduceBEq, Bool.or_true, Bool.true_or, Bool.or_false, Bool.false_or, beq_self_eq_true, Bool.not_true, Bool.not_false, Bool.false_eq_true]
    refine ⟨one, low, rfl, h1, h0, fun f1 hf1 => ?_⟩
    simp only [zNext, zSeq, zPass, zBreak, zCont, zNever, zExpr, zRet, zRetN, zIf, zAsg, zSetO, zFrz, zApp, zPar, zParO1, zParO2, zFor, sVar, sC, sOp, sB, sBi, sCall, aNil, aCons, sTup, sLst, oLst, bAnd, bOr, bNot, sAnd, sOr, sNot, sIf, sNeg, sChain, oNone, oSome, sSl, sLast, iSeqD, iEnumD, iZipD, iRg1, iRg2, iRg3, sLC, sLC2, bYes, addD, subD, mulD, fdivD, modD, powD, ltD, leD, gtD, geD, eqD, neD, isD, isntD, ixD, sumD, lenD, absD, maxD, minD, allD, anyD, intCD, tupCD, lstCD, isiD, reprD, isTy, seqD?, bindP, bindPs, wipeD, frz, isN_non, isN_int, isN_bl, isN_tup, isN_lst, ints?_map, bls?_map, ints?_mapf, bls?_mapf, fit_int, fit_bl, fit_non, eqv_int, eqv_bl, cast2, cast3, cast1, cast0, intD, intD0, List.set_cons_zero, List.set_cons_succ, List.getElem?_cons_zero, List.getElem?_cons_succ, List.map_cons, List.map_nil, List.length_cons, List.length_nil, List.length_map, Nat.reduceAdd, Option.some.injEq, if_true, if_false, reduceCtorEq, decide_eq_true_eq, Bool.not_eq_true, true_or, or_true, true_and, and_true, false_or, or_false, String.reduceEq, String.reduceBEq, Bool.or_true, Bool.true_or, Bool.or_false, Bool.false_or, beq_self_eq_true, Bool.not_true, Bool.not_false, Bool.false_eq_true]
    refine ⟨other, low, rfl, h2, h0, fun f2 hf2 => ?_⟩
    simp only [zNext, zSeq, zPass, zBreak, zCont, zNever, zExpr, zRet, zRetN, zIf, zAsg, zSetO, zFrz, zApp, zPar, zParO1, zParO2, zFor, sVar, sC, sOp, sB, sBi, sCall, aNil, aCons, sTup, sLst, oLst, bAnd, bOr, bNot, sAnd, sOr, sNot, sIf, sNeg, sChain, oNone, oSome, sSl, sLast, iSeqD, iEnumD, iZipD, iRg1, iRg2, iRg3, sLC, sLC2, bYes, addD, subD, mulD, fdivD, modD, powD, ltD, leD, gtD, geD, eqD, neD, isD, isntD, ixD, sumD, lenD, absD, maxD, minD, allD, anyD, intCD, tupCD, lstCD, isiD, reprD, isTy, seqD?, bindP, bindPs, wipeD, frz, isN_non, isN_int, isN_bl, isN_tup, isN_lst, ints?_map, bls?_map, ints?_mapf, bls?_mapf, fit_int, fit_bl, fit_non, eqv_int, eqv_bl, cast2, cast3, cast1, cast0, intD, intD0, List.set_cons_zero, List.set_cons_succ, List.getElem?_cons_zero, List.getElem?_cons_succ, List.map_cons, List.map_nil, List.length_cons, List.length_nil, List.length_map, Nat.reduceAdd, Option.some.injEq, if_true, if_false, reduceCtorEq, decide_eq_true_eq, Bool.not_eq_true, true_or, or_true, true_and, and_true, false_or, or_false, String.reduceEq, String.reduceBEq, Bool.or_true, Bool.true_or, Bool.or_false, Bool.false_or, beq_self_eq_true, Bool.not_true, Bool.not_false, Bool.false_eq_true]
    generalize hE : (if f1 > low then f1 else low) = E
    have hE1 : f1 ≤ E ∧ low ≤ E ∧ (E = f1 ∨ E = low) := by rw [← hE]; split <;> omega
    by_cases c : E < f2
    · rw [if_pos c]
      refine ⟨le_sl (by decide), hR (some (low, E + 1)) ⟨?_, fun l h t => ?_⟩⟩
      · have z := (hf2 (E + 1)).mp (by omega)
        refine ⟨h0, by show low < E + 1; omega, z.1, z.2, fun y => ?_⟩
        have := (hf1 (E + 1)).mpr y
        omega
      · obtain ⟨t1, t2, t3, t4, t5⟩ := t
        show low < l ∨ (low = l ∧ E + 1 ≤ h)
        rcases Int.lt_trichotomy low l with z | z | z
        · exact .inl z
        · subst z
          refine .inr ⟨rfl, ?_⟩
          by_cases y : E < h
          · omega
          · exfalso
            have : h ≤ f1 := by omega
            exact t5 ((hf1 h).mp this)
        · exfalso
          obtain ⟨l', p1, p2, p3, p4⟩ := can_head t4 t1
          have hl' : l' ∈ ms := by
            rw [hm]
            rcases p4 with z | z
            · rw [z]
              obtain ⟨ws, hws⟩ : ∃ ws, ws ∈ other.2 := List.exists_mem_of_length_pos h2.rails.1
              exact List.mem_flatMap.mpr ⟨ws, hws, hds_self 0 ws⟩
            · exact z
          have hd : l' ∈ dn := by
            rw [← q1] at hl' hp
            rcases List.mem_append.mp hl' with y | y
            · exact y
            · exfalso
              rw [List.pairwise_append] at hp
              rcases List.mem_cons.mp y with y | y
              · omega
              · have := (List.pairwise_cons.mp hp.2.1).1 l' y
                omega
          exact q2 l' hd h ⟨p1, by omega, t3, p3, fun z => t5 ⟨z.1, can_mono z.2 p2⟩⟩
    · rw [if_neg c]
      refine hK _ ⟨dn ++ [low], .val (.int low), .val (.int E), u5, u6, rfl, by rw [List.append_assoc]; exact q1, fun l hl h t => ?_⟩
      rcases List.mem_append.mp hl with hl | hl
      · exact q2 l hl h t
      · rw [List.mem_singleton.mp hl] at t
        obtain ⟨t1, t2, t3, t4, t5⟩ := t
        have a1 := (hf2 h).mpr ⟨t3, t4⟩
        rcases hE1.2.2 with z | z
        · exact t5 ((hf1 h).mp (by omega))
        · omega
def phi_opens_all : SpD := fun ds R => ∃ one other : Wd, ds = [encW one, encW other] ∧ OkW one ∧ OkW other ∧ ∀ o, LM (Tell one other) o → R (.bl o.isNone)
theorem len_opens_all : ∀ ds R, phi_opens_all ds R → ds.length = 2 := by rintro ds R ⟨w, a, rfl, _⟩; rfl
def z_opens_all : SDt := (zSeq (zExpr (sCall phi_need_wardrobe (aCons (sVar 0) aNil)))
    (zSeq (zExpr (sCall phi_need_wardrobe (aCons (sVar 1) aNil)))
    (zRet (sOp isD (sCall phi_first_unlike (aCons (sVar 0) (aCons (sVar 1) aNil))) (sC .non)))))
abbrev N_opens_all : List Str := ["first", "second"]
def z_telling_stretch : SDt := (zSeq (zExpr (sCall phi_need_wardrobe (aCons (sVar 0) aNil)))
    (zSeq (zExpr (sCall phi_need_wardrobe (aCons (sVar 1) aNil)))
    (zRet (sCall phi_first_unlike (aCons (sVar 0) (aCons (sVar 1) aNil))))))
abbrev N_telling_stretch : List Str := ["first", "second"]
theorem isN_encO (o : Option (Int × Int)) : (encO o).isN = o.isNone := by cases o <;> rfl
theorem rd_opens_all : ∀ ds R, phi_opens_all ds R → z_opens_all { nx := fun _ => R .non, rt := R } (startD N_opens_all ds) := by
  rintro ds R ⟨one, other, rfl, h1, h2, hR⟩
  show z_opens_all _ [.val (encW one), .val (encW other)]
  simp only [z_opens_all, zNext, zSeq, zPass, zBreak, zCont, zNever, zExpr, zRet, zRetN, zIf, zAsg, zSetO, zFrz, zApp, zPar, zParO1, zParO2, zFor, sVar, sC, sOp, sB, sBi, sCall, aNil, aCons, sTup, sLst, oLst, bAnd, bOr, bNot, sAnd, sOr, sNot, sIf, sNeg, sChain, oNone, oSome, sSl, sLast, iSeqD, iEnumD, iZipD, iRg1, iRg2, iRg3, sLC, sLC2, bYes, addD, subD, mulD, fdivD, modD, powD, ltD, leD, gtD, geD, eqD, neD, isD, isntD, ixD, sumD, lenD, absD, maxD, minD, allD, anyD, intCD, tupCD, lstCD, isiD, reprD, isTy, seqD?, bindP, bindPs, wipeD, frz, isN_non, isN_int, isN_bl, isN_tup, isN_lst, ints?_map, bls?_map, ints?_mapf, bls?_mapf, fit_int, fit_bl, fit_non, eqv_int, eqv_bl, cast2, cast3, cast1, cast0, intD, intD0, List.set_cons_zero, List.set_cons_succ, List.getElem?_cons_zero, List.getElem?_cons_succ, List.map_cons, List.map_nil, List.length_cons, List.length_nil, List.length_map, Nat.reduceAdd, Option.some.injEq, if_true, if_false, reduceCtorEq, decide_eq_true_eq, Bool.not_eq_true, true_or, or_true, true_and, and_true, false_or, or_false, String.reduceEq, String.reduceBEq, Bool.or_true, Bool.true_or, Bool.or_false, Bool.false_or, beq_self_eq_true, Bool.not_true, Bool.not_false, Bool.false_eq_true]
  refine ⟨one, rfl, h1, ?_⟩
  refine ⟨other, rfl, h2, ?_⟩
  refine ⟨one, other, rfl, h1, h2, fun o ho => ?_⟩
  simp only [isN_encO, zNext, zSeq, zPass, zBreak, zCont, zNever, zExpr, zRet, zRetN, zIf, zAsg, zSetO, zFrz, zApp, zPar, zParO1, zParO2, zFor, sVar, sC, sOp, sB, sBi, sCall, aNil, aCons, sTup, sLst, oLst, bAnd, bOr, bNot, sAnd, sOr, sNot, sIf, sNeg, sChain, oNone, oSome, sSl, sLast, iSeqD, iEnumD, iZipD, iRg1, iRg2, iRg3, sLC, sLC2, bYes, addD, subD, mulD, fdivD, modD, powD, ltD, leD, gtD, geD, eqD, neD, isD, isntD, ixD, sumD, lenD, absD, maxD, minD, allD, anyD, intCD, tupCD, lstCD, isiD, reprD, isTy, seqD?, bindP, bindPs, wipeD, frz, isN_non, isN_int, isN_bl, isN_tup, isN_lst, ints?_map, bls?_map, ints?_mapf, bls?_mapf, fit_int, fit_bl, fit_non, eqv_int, eqv_bl, cast2, cast3, cast1, cast0, intD, intD0, List.set_cons_zero, List.set_cons_succ, List.getElem?_cons_zero, List.getElem?_cons_succ, List.map_cons, List.map_nil, List.length_cons, List.length_nil, List.length_map, Nat.reduceAdd, Option.some.injEq, if_true, if_false, reduceCtorEq, decide_eq_true_eq, Bool.not_eq_true, true_or, or_true, true_and, and_true, false_or, or_false, String.reduceEq, String.reduceBEq, Bool.or_true, Bool.true_or, Bool.or_false, Bool.false_or, beq_self_eq_true, Bool.not_true, Bool.not_false, Bool.false_eq_true]
  exact hR o ho
def phi_telling_stretch : SpD := fun ds R => ∃ one other : Wd, ds = [encW one, encW other] ∧ OkW one ∧ OkW other ∧ ∀ o, LM (Tell one other) o → R (encO o)
theorem len_telling_stretch : ∀ ds R, phi_telling_stretch ds R → ds.length = 2 := by rintro ds R ⟨w, a, rfl, _⟩; rfl
theorem rd_telling_stretch : ∀ ds R, phi_telling_stretch ds R → z_telling_stretch { nx := fun _ => R .non, rt := R } (startD N_telling_stretch ds) := by
  rintro ds R ⟨one, other, rfl, h1, h2, hR⟩
  show z_telling_stretch _ [.val (encW one), .val (encW other)]
  simp only [z_telling_stretch, zNext, zSeq, zPass, zBreak, zCont, zNever, zExpr, zRet, zRetN, zIf, zAsg, zSetO, zFrz, zApp, zPar, zParO1, zParO2, zFor, sVar, sC, sOp, sB, sBi, sCall, aNil, aCons, sTup, sLst, oLst, bAnd, bOr, bNot, sAnd, sOr, sNot, sIf, sNeg, sChain, oNone, oSome, sSl, sLast, iSeqD, iEnumD, iZipD, iRg1, iRg2, iRg3, sLC, sLC2, bYes, addD, subD, mulD, fdivD, modD, powD, ltD, leD, gtD, geD, eqD, neD, isD, isntD, ixD, sumD, lenD, absD, maxD, minD, allD, anyD, intCD, tupCD, lstCD, isiD, reprD, isTy, seqD?, bindP, bindPs, wipeD, frz, isN_non, isN_int, isN_bl, isN_tup, isN_lst, ints?_map, bls?_map, ints?_mapf, bls?_mapf, fit_int, fit_bl, fit_non, eqv_int, eqv_bl, cast2, cast3, cast1, cast0, intD, intD0, List.set_cons_zero, List.set_cons_succ, List.getElem?_cons_zero, List.getElem?_cons_succ, List.map_cons, List.map_nil, List.length_cons, List.length_nil, List.length_map, Nat.reduceAdd, Option.some.injEq, if_true, if_false, reduceCtorEq, decide_eq_true_eq, Bool.not_eq_true, true_or, or_true, true_and, and_true, false_or, or_false, String.reduceEq, String.reduceBEq, Bool.or_true, Bool.true_or, Bool.or_false, Bool.false_or, beq_self_eq_true, Bool.not_true, Bool.not_false, Bool.false_eq_true]
  refine ⟨one, rfl, h1, ?_⟩
  refine ⟨other, rfl, h2, ?_⟩
  exact ⟨one, other, rfl, h1, h2, hR⟩
end SD

namespace SD
open L2 PyProof.Rows PySem PySem.Spec
theorem len_law_draws : ∀ ds R, phi_law_draws ds R → ds.length = 3 := by rintro ds R ⟨w, rfl, _⟩; rfl
def z_law_draws : SDt := (zSeq (zSetO (oLst aNil) 3)
    (zSeq (zAsg (sOp mulD (sVar 0) (sBi intCD (aCons (sOp geD (sVar 0) (sOp powD (sC (.int 10)) (sC (.int 18)))) aNil))) (.nm 4))
    (zSeq (zAsg (sOp modD (sVar 0) (sC (.int 2305843009213693951))) (.nm 5))
    (zSeq (zFor (iRg1 (aCons (sOp addD (sVar 1) (sC (.int 3))) aNil)) (.nm 6)
      (zSeq (zAsg (sOp modD (sOp addD (sOp addD (sOp addD (sOp mulD (sVar 5) (sVar 5)) (sOp mulD (sC (.int 48271)) (sVar 5))) (sVar 6)) (sC (.int 1))) (sC (.int 2305843009213693951))) (.nm 5))
    (zIf (bAnd (sB (sOp gtD (sVar 6) (sC (.int 2)))) (sB (sOp gtD (sVar 4) (sC (.int 0))))) (zSeq (zApp 3 (sOp modD (sVar 4) (sVar 2)))
    (zAsg (sOp fdivD (sVar 4) (sVar 2)) (.nm 4)))
      (zIf (sB (sOp gtD (sVar 6) (sC (.int 2)))) (zApp 3 (sOp modD (sOp fdivD (sVar 5) (sC (.int 4096))) (sVar 2)))
      zNext))))
    (zFrz 3 (zRet (sVar 3)))))))
abbrev N_law_draws : List Str := ["cell", "many", "size", "found", "rest", "stirred", "k"]
theorem pow18 : CPow 10 18 := ⟨by decide, by decide, by decide⟩
theorem cmul_r {i j : Int} (h0 : 0 ≤ j) (h1 : j < 2305843009213693951) : CMul i j := .inr ⟨by omega, by omega⟩
theorem rd_law_draws : ∀ ds R, phi_law_draws ds R → z_law_draws { nx := fun _ => R .non, rt := R } (startD N_law_draws ds) := by
  rintro ds R ⟨cell, rfl, hR⟩
  show z_law_draws _ [.val (.int cell), .val (.int 400), .val (.int 1000), .un, .un, .un, .un]
  simp only [z_law_draws, zNext, zSeq, zPass, zBreak, zCont, zNever, zExpr, zRet, zRetN, zIf, zAsg, zSetO, zFrz, zApp, zPar, zParO1, zParO2, zFor, sVar, sC, sOp, sB, sBi, sCall, aNil, aCons, sTup, sLst, oLst, bAnd, bOr, bNot, sAnd, sOr, sNot, sIf, sNeg, sChain, oNone, oSome, sSl, sLast, iSeqD, iEnumD, iZipD, iRg1, iRg2, iRg3, sLC, sLC2, bYes, addD, subD, mulD, fdivD, modD, powD, ltD, leD, gtD, geD, eqD, neD, isD, isntD, ixD, sumD, lenD, absD, maxD, minD, allD, anyD, intCD, tupCD, lstCD, isiD, reprD, isTy, seqD?, bindP, bindPs, wipeD, frz, isN_non, isN_int, isN_bl, isN_tup, isN_lst, ints?_map, bls?_map, ints?_mapf, bls?_mapf, fit_int, fit_bl, fit_non, eqv_int, eqv_bl, cast2, cast3, cast1, cast0, intD, intD0, List.set_cons_zero, List.set_cons_succ, List.getElem?_cons_zero, List.getElem?_cons_succ, List.map_cons, List.map_nil, List.length_cons, List.length_nil, List.length_map, Nat.reduceAdd, Option.some.injEq, if_true, if_false, reduceCtorEq, decide_eq_true_eq, Bool.not_eq_true, true_or, or_true, true_and, and_true, false_or, or_false, String.reduceEq, String.reduceBEq, Bool.or_true, Bool.true_or, Bool.or_false, Bool.false_or, beq_self_eq_true, Bool.not_true, Bool.not_false, Bool.false_eq_true]
  refine ⟨le_sl (by decide), pow18, .inl ?_, by decide, by decide, by decide, ?_⟩
  · split
    · exact cmul_r (by decide) (by decide)
    · exact cmul_r (by decide) (by decide)
  generalize hr : cell * (if (10 : Int) ^ Int.toNat 18 ≤ cell then (1 : Int) else 0) = r0
  have hs0 : 0 ≤ cell % 2305843009213693951 ∧ cell % 2305843009213693951 < 2305843009213693951 := ⟨Int.emod_nonneg _ (by decide), Int.emod_lt_of_pos _ (by decide)⟩
  generalize cell % 2305843009213693951 = s0 at hs0
  show forGo (.nm 6) _ _ (rgD 0 ((403 : Nat) : Int)) _
  rw [rgD_zero, List.range_eq_range']
  refine forGo_ind (p := .nm 6) (fun i : Nat => D.int (i : Int)) (fun xs e => ∃ (k m : Nat) (acc : List Int) (r s : Int) (u : Slot), xs = List.range' k m ∧ k + m = 403 ∧ acc.length = k - 3 ∧ (∀ x ∈ acc, 0 ≤ x ∧ x < 1000) ∧ (0 ≤ s ∧ s < 2305843009213693951) ∧
    e = [.val (.int cell), .val (.int 400), .val (.int 1000), .own (.l (acc.map D.int)), .val (.int r), .val (.int s), u]) ?_ ?_ _ _ ⟨0, 403, [], r0, s0, .un, rfl, rfl, rfl, fun _ z => (nomatch z), hs0, rfl⟩
  · rintro e ⟨k, m, acc, r, s, u, h1, h2, h3, h4, h5, rfl⟩
    have hm : m = 0 := by
      cases m with
      | zero => rfl
      | succ m => rw [List.range'_succ] at h1; cases h1
    simp only [zNext, zSeq, zPass, zBreak, zCont, zNever, zExpr, zRet, zRetN, zIf, zAsg, zSetO, zFrz, zApp, zPar, zParO1, zParO2, zFor, sVar, sC, sOp, sB, sBi, sCall, aNil, aCons, sTup, sLst, oLst, bAnd, bOr, bNot, sAnd, sOr, sNot, sIf, sNeg, sChain, oNone, oSome, sSl, sLast, iSeqD, iEnumD, iZipD, iRg1, iRg2, iRg3, sLC, sLC2, bYes, addD, subD, mulD, fdivD, modD, powD, ltD, leD, gtD, geD, eqD, neD, isD, isntD, ixD, sumD, lenD, absD, maxD, minD, allD, anyD, intCD, tupCD, lstCD, isiD, reprD, isTy, seqD?, bindP, bindPs, wipeD, frz, isN_non, isN_int, isN_bl, isN_tup, isN_lst, ints?_map, bls?_map, ints?_mapf, bls?_mapf, fit_int, fit_bl, fit_non, eqv_int, eqv_bl, cast2, cast3, cast1, cast0, intD, intD0, List.set_cons_zero, List.set_cons_succ, List.getElem?_cons_zero, List.getElem?_cons_succ, List.map_cons, List.map_nil, List.length_cons, List.length_nil, List.length_map, Nat.reduceAdd, Option.some.injEq, if_true, if_false, reduceCtorEq, decide_eq_true_eq, Bool.not_eq_true, true_or, or_true, true_and, and_true, false_or, or_false, String.reduceEq, String.reduceBEq, Bool.or_true, Bool.true_or, Bool.or_false, Bool.false_or, beq_self_eq_true, Bool.not_true, Bool.not_false, Bool.false_eq_true]
    exact hR acc (by omega) h4
  · rintro x xs e ⟨k, m, acc, r, s, u, h1, h2, h3, h4, h5, rfl⟩ K hK
    cases m with
    | zero => cases h1
    | succ m =>
      rw [List.range'_succ] at h1
      have e1 := (List.cons.inj h1).1.symm
      have e2 := (List.cons.inj h1).2
      subst e1
      subst e2
      refine ⟨_, rfl, ?_⟩
      simp only [zNext, zSeq, zPass, zBreak, zCont, zNever, zExpr, zRet, zRetN, zIf, zAsg, zSetO, zFrz, zApp, zPar, zParO1, zParO2, zFor, sVar, sC, sOp, sB, sBi, sCall, aNil, aCons, sTup, sLst, oLst, bAnd, bOr, bNot, sAnd, sOr, sNot, sIf, sNeg, sChain, oNone, oSome, sSl, sLast, iSeqD, iEnumD, iZipD, iRg1, iRg2, iRg3, sLC, sLC2, bYes, addD, subD, mulD, fdivD, modD, powD, ltD, leD, gtD, geD, eqD, neD, isD, isntD, ixD, sumD, lenD, absD, maxD, minD, allD, anyD, intCD, tupCD, lstCD, isiD, reprD, isTy, seqD?, bindP, bindPs, wipeD, frz, isN_non, isN_int, isN_bl, isN_tup, isN_lst, ints?_map, bls?_map, ints?_mapf, bls?_mapf, fit_int, fit_bl, fit_non, eqv_int, eqv_bl, cast2, cast3, cast1, cast0, intD, intD0, List.set_cons_zero, List.set_cons_succ, List.getElem?_cons_zero, List.getElem?_cons_succ, List.map_cons, List.map_nil, List.length_cons, List.length_nil, List.length_map, Nat.reduceAdd, Option.some.injEq, if_true, if_false, reduceCtorEq, decide_eq_true_eq, Bool.not_eq_true, true_or, or_true, true_and, and_true, false_or, or_false, String.reduceEq, String.reduceBEq, Bool.or_true, Bool.true_or, Bool.or_false, Bool.false_or, beq_self_eq_true, Bool.not_true, Bool.not_false, Bool.false_eq_true]
      refine ⟨.inl (cmul_r h5.1 h5.2), .inl (cmul_r h5.1 h5.2), by decide, ?_⟩
      have hs := (s * s + 48271 * s + (k : Int) + 1)
      generalize hS : (s * s + 48271 * s + (k : Int) + 1) % 2305843009213693951 = s'
      have hs' : 0 ≤ s' ∧ s' < 2305843009213693951 := by rw [← hS]; exact ⟨Int.emod_nonneg _ (by decide), Int.emod_lt_of_pos _ (by decide)⟩
      have app : ∀ (v r' : Int), 0 ≤ v ∧ v < 1000 → 2 < (k : Int) → K [.val (.int cell), .val (.int 400), .val (.int 1000), .own (.l (acc.map D.int ++ [D.int v])), .val (.int r'), .val (.int s'), .val (.int k)] := fun v r' hv hk => by
        refine hK _ ⟨k + 1, m, acc ++ [v], r', s', .val (.int k), rfl, by omega, by rw [List.length_append, List.length_singleton]; omega, fun x hx => ?_, hs', by rw [List.map_append]; rfl⟩
        (rcases List.mem_append.mp hx with hx | hx)
        · exact h4 x hx
        · rw [List.mem_singleton.mp hx]; exact hv
      have b1000 : ∀ v : Int, 0 ≤ v % 1000 ∧ v % 1000 < 1000 := fun v => ⟨Int.emod_nonneg _ (by decide), Int.emod_lt_of_pos _ (by decide)⟩
      have skip : ¬ 2 < (k : Int) → K [.val (.int cell), .val (.int 400), .val (.int 1000), .own (.l (acc.map D.int)), .val (.int r), .val (.int s'), .val (.int k)] := fun hk =>
        hK _ ⟨k + 1, m, acc, r, s', .val (.int k), rfl, by omega, by omega, h4, hs', rfl⟩
      by_cases c : 2 < (k : Int)
      · rw [if_pos c]
        by_cases d : 0 < r
        · rw [if_pos d]
          exact ⟨by decide, lt_sl (by omega), ⟨by decide, by decide +kernel⟩, app _ _ (b1000 r) c⟩
        · rw [if_neg d, if_pos c]
          exact ⟨⟨by decide, by decide +kernel⟩, by decide, lt_sl (by omega), app _ _ (b1000 _) c⟩
      · rw [if_neg c, if_neg c]
        exact skip c
end SD

namespace SD
open L2 PyProof.Rows PySem PySem.Spec
/-! ### cuts, ranges, sums -/
theorem cut_hi (l : List D) (i : Nat) : cutD l none (some (i : Int)) = l.take i := by
  unfold cutD
  rw [HT.sIx_none, HT.sIx_nat, List.drop_zero, Nat.sub_zero]
  rcases Nat.le_total i l.length with h | h
  · rw [Nat.min_eq_left h]
  · rw [Nat.min_eq_right h, List.take_length, List.take_of_length_le h]
theorem cut_lo (l : List D) (i : Nat) : cutD l (some (i : Int)) none = l.drop i := by
  unfold cutD
  rw [HT.sIx_none, HT.sIx_nat]
  rcases Nat.le_total i l.length with h | h
  · rw [Nat.min_eq_left h, List.take_of_length_le (by rw [List.length_drop]; exact Nat.le_refl _)]
  · rw [Nat.min_eq_right h, List.drop_length, List.drop_of_length_le h]; simp
theorem cut_lo1 (l : List D) (i : Nat) : cutD l (some ((i : Int) + 1)) none = l.drop (i + 1) := cut_lo l (i + 1)
theorem cut_lo_1 (l : List D) : cutD l (some 1) none = l.drop 1 := cut_lo l 1
theorem cut_hi_4 (l : List D) : cutD l none (some 4) = l.take 4 := cut_hi l 4
theorem sum_nn : ∀ {l : List Int}, (∀ x ∈ l, 0 ≤ x) → 0 ≤ l.sum
  | [], _ => by simp
  | x :: l, h => by
    rw [List.sum_cons]
    have := sum_nn fun y hy => h y (List.mem_cons_of_mem x hy)
    have := h x List.mem_cons_self
    omega
theorem rgD_to (n : Int) : rgD 0 n = (List.range n.toNat).map fun i : Nat => D.int (i : Int) := by
  unfold rgD
  rw [Int.sub_zero]
  exact List.map_congr_left fun i _ => by rw [Int.zero_add]
theorem take_drop_sum (ws : List Int) (i : Nat) : (ws.take i).sum + (ws.drop i).sum = ws.sum := by
  rw [← List.sum_append, List.take_append_drop]
theorem mem_hds : ∀ {ws : List Int} {s h : Int}, h ∈ hds s ws ↔ ∃ i, i ≤ ws.length ∧ h = s + (ws.take i).sum
  | [], s, h => by
    rw [hds, List.mem_singleton]
    constructor
    · rintro rfl; exact ⟨0, Nat.le_refl _, by simp⟩
    · rintro ⟨i, _, rfl⟩; simp
  | w :: ws, s, h => by
    rw [hds, List.mem_cons, mem_hds (ws := ws)]
    constructor
    · rintro (rfl | ⟨i, hi, rfl⟩)
      · exact ⟨0, Nat.zero_le _, by simp⟩
      · exact ⟨i + 1, by rw [List.length_cons]; omega, by rw [List.take_succ_cons, List.sum_cons]; omega⟩
    · rintro ⟨i, hi, rfl⟩
      cases i with
      | zero => exact .inl (by simp)
      | succ i => exact .inr ⟨i, by rw [List.length_cons] at hi; omega, by rw [List.take_succ_cons, List.sum_cons]; omega⟩
theorem canR_iff {W a b : Int} {ws : List Int} : CanR W a b ws ↔ ∃ i, i ≤ ws.length ∧ (ws.take i).sum ≤ a ∧ (ws.drop i).sum ≤ W - b := by
  constructor
  · rintro ⟨h, h1, h2, h3⟩
    obtain ⟨i, hi, rfl⟩ := mem_hds.mp h1
    have := take_drop_sum ws i
    exact ⟨i, hi, by omega, by omega⟩
  · rintro ⟨i, hi, h1, h2⟩
    have := take_drop_sum ws i
    exact ⟨_, mem_hds.mpr ⟨i, hi, rfl⟩, by omega, by omega⟩
theorem plains_ints : ∀ l : List Int, D.plains (l.map D.int) = true
  | [] => rfl
  | x :: l => by rw [List.map_cons]; unfold D.plains; rw [plains_ints l]; rfl
theorem deps_ints : ∀ l : List Int, D.deps (l.map D.int) = 0
  | [] => rfl
  | x :: l => by rw [List.map_cons]; unfold D.deps; rw [deps_ints l]; rfl
theorem fit_iL (l : List Int) : (D.lst (l.map D.int)).fit := ⟨by unfold D.plain; exact plains_ints l, by unfold D.dep; rw [deps_ints]; decide⟩
theorem fit_iT (l : List Int) : (D.tup (l.map D.int)).fit := ⟨by unfold D.plain; exact plains_ints l, by unfold D.dep; rw [deps_ints]; decide⟩
/-- the law's own look at a stretch -/
def phi_law_can : SpD := fun ds R => ∃ (w : Wd) (a b : Int), ds = [encW w, .int a, .int b] ∧ OkW w ∧ ∀ r : Bool, (r = true ↔ b ≤ w.1 ∧ Can w a b) → R (.bl r)
theorem len_law_can : ∀ ds R, phi_law_can ds R → ds.length = 3 := by rintro ds R ⟨w, a, b, rfl, _⟩; rfl
theorem map_nat {α : Type} (l : List Nat) : (l.map fun i : Nat => D.int (i : Int)) = (l.map fun i : Nat => (i : Int)).map D.int := by rw [List.map_map]; rfl
theorem isEmpty_map {α β : Type} (f : α → β) (l : List α) : (l.map f).isEmpty = l.isEmpty := by cases l <;> rfl
def z_law_can : SDt := (zSeq (zIf (sB (sOp gtD (sVar 2) (sOp ixD (sVar 0) (sC (.int 0))))) (zRet (sC (.bl false)))
      zNext)
    (zSeq (zFor (iSeqD (sOp ixD (sVar 0) (sC (.int 1)))) (.nm 3)
      (zSeq (zAsg (sLC (iRg1 (aCons (sOp addD (sBi lenD (aCons (sVar 3) aNil)) (sC (.int 1))) aNil)) (.nm 5) (sB (sOp leD (sBi sumD (aCons (sSl (sVar 3) oNone (oSome (sVar 5))) aNil)) (sVar 1))) (sVar 5) [5]) (.nm 4))
    (zIf (sB (sOp eqD (sLC (iSeqD (sVar 4)) (.nm 5) (sB (sOp leD (sBi sumD (aCons (sSl (sVar 3) (oSome (sVar 5)) oNone) aNil)) (sOp subD (sOp ixD (sVar 0) (sC (.int 0))) (sVar 2)))) (sVar 5) [5]) (sLst aNil))) (zRet (sC (.bl false)))
      zNext)))
    (zRet (sC (.bl true)))))
abbrev N_law_can : List Str := ["wardrobe", "low", "high", "widths", "left", "at"]
theorem rd_law_can : ∀ ds R, phi_law_can ds R → z_law_can { nx := fun _ => R .non, rt := R } (startD N_law_can ds) := by
  rintro ds R ⟨w, a, b, rfl, hw, hR⟩
  show z_law_can _ [.val (encW w), .val (.int a), .val (.int b), .un, .un, .un]
  have e2 : encW w = D.tup [.int w.1, .tup (w.2.map iT)] := rfl
  simp only [z_law_can, e2, atI_0, atI_1, zNext, zSeq, zPass, zBreak, zCont, zNever, zExpr, zRet, zRetN, zIf, zAsg, zSetO, zFrz, zApp, zPar, zParO1, zParO2, zFor, sVar, sC, sOp, sB, sBi, sCall, aNil, aCons, sTup, sLst, oLst, bAnd, bOr, bNot, sAnd, sOr, sNot, sIf, sNeg, sChain, oNone, oSome, sSl, sLast, iSeqD, iEnumD, iZipD, iRg1, iRg2, iRg3, sLC, sLC2, bYes, addD, subD, mulD, fdivD, modD, powD, ltD, leD, gtD, geD, eqD, neD, isD, isntD, ixD, sumD, lenD, absD, maxD, minD, allD, anyD, intCD, tupCD, lstCD, isiD, reprD, isTy, seqD?, bindP, bindPs, wipeD, frz, isN_non, isN_int, isN_bl, isN_tup, isN_lst, ints?_map, bls?_map, ints?_mapf, bls?_mapf, fit_int, fit_bl, fit_non, eqv_int, eqv_bl, cast2, cast3, cast1, cast0, intD, intD0, List.set_cons_zero, List.set_cons_succ, List.getElem?_cons_zero, List.getElem?_cons_succ, List.map_cons, List.map_nil, List.length_cons, List.length_nil, List.length_map, Nat.reduceAdd, Option.some.injEq, if_true, if_false, reduceCtorEq, decide_eq_true_eq, Bool.not_eq_true, true_or, or_true, true_and, and_true, false_or, or_false, String.reduceEq, String.reduceBEq, Bool.or_true, Bool.true_or, Bool.or_false, Bool.false_or, beq_self_eq_true, Bool.not_true, Bool.not_false, Bool.false_eq_true]
  rw [← e2]
  by_cases c : w.1 < b
  · rw [if_pos c]
    exact hR false ⟨fun z => (by cases z), fun z => (by omega)⟩
  rw [if_neg c]
  refine forGo_ind (p := .nm 3) iT (fun xs e => ∃ (dn : List (List Int)) (u3 u4 u5 : Slot), e = [.val (encW w), .val (.int a), .val (.int b), u3, u4, u5] ∧ dn ++ xs = w.2 ∧ ∀ ws ∈ dn, CanR w.1 a b ws) ?_ ?_ w.2 _ ⟨[], .un, .un, .un, rfl, rfl, fun _ z => (nomatch z)⟩
  · rintro e ⟨dn, u3, u4, u5, rfl, h1, h2⟩
    simp only [zNext, zSeq, zPass, zBreak, zCont, zNever, zExpr, zRet, zRetN, zIf, zAsg, zSetO, zFrz, zApp, zPar, zParO1, zParO2, zFor, sVar, sC, sOp, sB, sBi, sCall, aNil, aCons, sTup, sLst, oLst, bAnd, bOr, bNot, sAnd, sOr, sNot, sIf, sNeg, sChain, oNone, oSome, sSl, sLast, iSeqD, iEnumD, iZipD, iRg1, iRg2, iRg3, sLC, sLC2, bYes, addD, subD, mulD, fdivD, modD, powD, ltD, leD, gtD, geD, eqD, neD, isD, isntD, ixD, sumD, lenD, absD, maxD, minD, allD, anyD, intCD, tupCD, lstCD, isiD, reprD, isTy, seqD?, bindP, bindPs, wipeD, frz, isN_non, isN_int, isN_bl, isN_tup, isN_lst, ints?_map, bls?_map, ints?_mapf, bls?_mapf, fit_int, fit_bl, fit_non, eqv_int, eqv_bl, cast2, cast3, cast1, cast0, intD, intD0, List.set_cons_zero, List.set_cons_succ, List.getElem?_cons_zero, List.getElem?_cons_succ, List.map_cons, List.map_nil, List.length_cons, List.length_nil, List.length_map, Nat.reduceAdd, Option.some.injEq, if_true, if_false, reduceCtorEq, decide_eq_true_eq, Bool.not_eq_true, true_or, or_true, true_and, and_true, false_or, or_false, String.reduceEq, String.reduceBEq, Bool.or_true, Bool.true_or, Bool.or_false, Bool.false_or, beq_self_eq_true, Bool.not_true, Bool.not_false, Bool.false_eq_true]
    rw [List.append_nil] at h1
    subst h1
    exact hR true ⟨fun _ => ⟨by omega, h2⟩, fun _ => rfl⟩
  · rintro ws xs e ⟨dn, u3, u4, u5, rfl, h1, h2⟩ K hK
    refine ⟨_, rfl, ?_⟩
    have hws : ws ∈ w.2 := by rw [← h1]; simp
    have h6 := (hw.each ws hws).len
    simp only [iT, e2, atI_0, atI_1, zNext, zSeq, zPass, zBreak, zCont, zNever, zExpr, zRet, zRetN, zIf, zAsg, zSetO, zFrz, zApp, zPar, zParO1, zParO2, zFor, sVar, sC, sOp, sB, sBi, sCall, aNil, aCons, sTup, sLst, oLst, bAnd, bOr, bNot, sAnd, sOr, sNot, sIf, sNeg, sChain, oNone, oSome, sSl, sLast, iSeqD, iEnumD, iZipD, iRg1, iRg2, iRg3, sLC, sLC2, bYes, addD, subD, mulD, fdivD, modD, powD, ltD, leD, gtD, geD, eqD, neD, isD, isntD, ixD, sumD, lenD, absD, maxD, minD, allD, anyD, intCD, tupCD, lstCD, isiD, reprD, isTy, seqD?, bindP, bindPs, wipeD, frz, isN_non, isN_int, isN_bl, isN_tup, isN_lst, ints?_map, bls?_map, ints?_mapf, bls?_mapf, fit_int, fit_bl, fit_non, eqv_int, eqv_bl, cast2, cast3, cast1, cast0, intD, intD0, List.set_cons_zero, List.set_cons_succ, List.getElem?_cons_zero, List.getElem?_cons_succ, List.map_cons, List.map_nil, List.length_cons, List.length_nil, List.length_map, Nat.reduceAdd, Option.some.injEq, if_true, if_false, reduceCtorEq, decide_eq_true_eq, Bool.not_eq_true, true_or, or_true, true_and, and_true, false_or, or_false, String.reduceEq, String.reduceBEq, Bool.or_true, Bool.true_or, Bool.or_false, Bool.false_or, beq_self_eq_true, Bool.not_true, Bool.not_false, Bool.false_eq_true]
    rw [← e2]
    (refine ⟨by omega, by omega, ?_⟩)
    rw [rgD_to]
    have en : ((ws.length : Int) + 1).toNat = ws.length + 1 := by omega
    rw [en]
    refine lcGo_map (fun i : Nat => D.int (i : Int)) (fun i : Nat => D.int (i : Int)) (fun i => decide ((ws.take i).sum ≤ a)) _ _ _ (fun i hi => ⟨_, rfl, fun R' hR' => ?_, fun _ R' hR' => ?_⟩) ?_
    · simp only [cut_hi, ← List.map_take, zNext, zSeq, zPass, zBreak, zCont, zNever, zExpr, zRet, zRetN, zIf, zAsg, zSetO, zFrz, zApp, zPar, zParO1, zParO2, zFor, sVar, sC, sOp, sB, sBi, sCall, aNil, aCons, sTup, sLst, oLst, bAnd, bOr, bNot, sAnd, sOr, sNot, sIf, sNeg, sChain, oNone, oSome, sSl, sLast, iSeqD, iEnumD, iZipD, iRg1, iRg2, iRg3, sLC, sLC2, bYes, addD, subD, mulD, fdivD, modD, powD, ltD, leD, gtD, geD, eqD, neD, isD, isntD, ixD, sumD, lenD, absD, maxD, minD, allD, anyD, intCD, tupCD, lstCD, isiD, reprD, isTy, seqD?, bindP, bindPs, wipeD, frz, isN_non, isN_int, isN_bl, isN_tup, isN_lst, ints?_map, bls?_map, ints?_mapf, bls?_mapf, fit_int, fit_bl, fit_non, eqv_int, eqv_bl, cast2, cast3, cast1, cast0, intD, intD0, List.set_cons_zero, List.set_cons_succ, List.getElem?_cons_zero, List.getElem?_cons_succ, List.map_cons, List.map_nil, List.length_cons, List.length_nil, List.length_map, Nat.reduceAdd, Option.some.injEq, if_true, if_false, reduceCtorEq, decide_eq_true_eq, Bool.not_eq_true, true_or, or_true, true_and, and_true, false_or, or_false, String.reduceEq, String.reduceBEq, Bool.or_true, Bool.true_or, Bool.or_false, Bool.false_or, beq_self_eq_true, Bool.not_true, Bool.not_false, Bool.false_eq_true]
      exact hR'
    · exact hR'
    rw [List.nil_append]
    try simp only [zNext, zSeq, zPass, zBreak, zCont, zNever, zExpr, zRet, zRetN, zIf, zAsg, zSetO, zFrz, zApp, zPar, zParO1, zParO2, zFor, sVar, sC, sOp, sB, sBi, sCall, aNil, aCons, sTup, sLst, oLst, bAnd, bOr, bNot, sAnd, sOr, sNot, sIf, sNeg, sChain, oNone, oSome, sSl, sLast, iSeqD, iEnumD, iZipD, iRg1, iRg2, iRg3, sLC, sLC2, bYes, addD, subD, mulD, fdivD, modD, powD, ltD, leD, gtD, geD, eqD, neD, isD, isntD, ixD, sumD, lenD, absD, maxD, minD, allD, anyD, intCD, tupCD, lstCD, isiD, reprD, isTy, seqD?, bindP, bindPs, wipeD, frz, isN_non, isN_int, isN_bl, isN_tup, isN_lst, ints?_map, bls?_map, ints?_mapf, bls?_mapf, fit_int, fit_bl, fit_non, eqv_int, eqv_bl, cast2, cast3, cast1, cast0, intD, intD0, List.set_cons_zero, List.set_cons_succ, List.getElem?_cons_zero, List.getElem?_cons_succ, List.map_cons, List.map_nil, List.length_cons, List.length_nil, List.length_map, Nat.reduceAdd, Option.some.injEq, if_true, if_false, reduceCtorEq, decide_eq_true_eq, Bool.not_eq_true, true_or, or_true, true_and, and_true, false_or, or_false, String.reduceEq, String.reduceBEq, Bool.or_true, Bool.true_or, Bool.or_false, Bool.false_or, beq_self_eq_true, Bool.not_true, Bool.not_false, Bool.false_eq_true]
    refine lcGo_map (fun i : Nat => D.int (i : Int)) (fun i : Nat => D.int (i : Int)) (fun i => decide ((ws.drop i).sum ≤ w.1 - b)) _ _ _ (fun i hi => ⟨_, rfl, fun R' hR' => ?_, fun _ R' hR' => ?_⟩) ?_
    · simp only [cut_lo, ← List.map_drop, e2, atI_0, zNext, zSeq, zPass, zBreak, zCont, zNever, zExpr, zRet, zRetN, zIf, zAsg, zSetO, zFrz, zApp, zPar, zParO1, zParO2, zFor, sVar, sC, sOp, sB, sBi, sCall, aNil, aCons, sTup, sLst, oLst, bAnd, bOr, bNot, sAnd, sOr, sNot, sIf, sNeg, sChain, oNone, oSome, sSl, sLast, iSeqD, iEnumD, iZipD, iRg1, iRg2, iRg3, sLC, sLC2, bYes, addD, subD, mulD, fdivD, modD, powD, ltD, leD, gtD, geD, eqD, neD, isD, isntD, ixD, sumD, lenD, absD, maxD, minD, allD, anyD, intCD, tupCD, lstCD, isiD, reprD, isTy, seqD?, bindP, bindPs, wipeD, frz, isN_non, isN_int, isN_bl, isN_tup, isN_lst, ints?_map, bls?_map, ints?_mapf, bls?_mapf, fit_int, fit_bl, fit_non, eqv_int, eqv_bl, cast2, cast3, cast1, cast0, intD, intD0, List.set_cons_zero, List.set_cons_succ, List.getElem?_cons_zero, List.getElem?_cons_succ, List.map_cons, List.map_nil, List.length_cons, List.length_nil, List.length_map, Nat.reduceAdd, Option.some.injEq, if_true, if_false, reduceCtorEq, decide_eq_true_eq, Bool.not_eq_true, true_or, or_true, true_and, and_true, false_or, or_false, String.reduceEq, String.reduceBEq, Bool.or_true, Bool.true_or, Bool.or_false, Bool.false_or, beq_self_eq_true, Bool.not_true, Bool.not_false, Bool.false_eq_true]
      exact hR'
    · exact hR'
    rw [List.nil_append]
    try simp only [zNext, zSeq, zPass, zBreak, zCont, zNever, zExpr, zRet, zRetN, zIf, zAsg, zSetO, zFrz, zApp, zPar, zParO1, zParO2, zFor, sVar, sC, sOp, sB, sBi, sCall, aNil, aCons, sTup, sLst, oLst, bAnd, bOr, bNot, sAnd, sOr, sNot, sIf, sNeg, sChain, oNone, oSome, sSl, sLast, iSeqD, iEnumD, iZipD, iRg1, iRg2, iRg3, sLC, sLC2, bYes, addD, subD, mulD, fdivD, modD, powD, ltD, leD, gtD, geD, eqD, neD, isD, isntD, ixD, sumD, lenD, absD, maxD, minD, allD, anyD, intCD, tupCD, lstCD, isiD, reprD, isTy, seqD?, bindP, bindPs, wipeD, frz, isN_non, isN_int, isN_bl, isN_tup, isN_lst, ints?_map, bls?_map, ints?_mapf, bls?_mapf, fit_int, fit_bl, fit_non, eqv_int, eqv_bl, cast2, cast3, cast1, cast0, intD, intD0, List.set_cons_zero, List.set_cons_succ, List.getElem?_cons_zero, List.getElem?_cons_succ, List.map_cons, List.map_nil, List.length_cons, List.length_nil, List.length_map, Nat.reduceAdd, Option.some.injEq, if_true, if_false, reduceCtorEq, decide_eq_true_eq, Bool.not_eq_true, true_or, or_true, true_and, and_true, false_or, or_false, String.reduceEq, String.reduceBEq, Bool.or_true, Bool.true_or, Bool.or_false, Bool.false_or, beq_self_eq_true, Bool.not_true, Bool.not_false, Bool.false_eq_true]
    refine ⟨le_sl (by decide), by rw [map_nat (α := Nat)]; exact fit_iL _, fit_nil, ?_⟩
    rw [eqv_nil, isEmpty_map]
    have key : (((List.range (ws.length + 1)).filter fun i => decide ((ws.take i).sum ≤ a)).filter fun i => decide ((ws.drop i).sum ≤ w.1 - b)).isEmpty = true ↔ ¬ CanR w.1 a b ws := by
      rw [List.isEmpty_iff, canR_iff, List.filter_eq_nil_iff]
      constructor
      · rintro h ⟨i, i1, i2, i3⟩
        exact h i (List.mem_filter.mpr ⟨List.mem_range.mpr (by omega), decide_eq_true i2⟩) (decide_eq_true i3)
      · intro h i hi z
        obtain ⟨i1, i2⟩ := List.mem_filter.mp hi
        exact h ⟨i, by have := List.mem_range.mp i1; omega, of_decide_eq_true i2, of_decide_eq_true z⟩
    split
    · rename_i z
      exact hR false ⟨fun z => (by cases z), fun y => absurd (y.2 ws hws) (key.mp z)⟩
    · rename_i z
      refine hK _ ⟨dn ++ [ws], _, _, _, rfl, by rw [List.append_assoc]; exact h1, fun y hy => ?_⟩
      (rcases List.mem_append.mp hy with hy | hy)
      · exact h2 y hy
      · rw [List.mem_singleton.mp hy]
        exact Classical.byContradiction fun q => z (key.mpr q)
end SD

namespace SD
open L2 PyProof.Rows PySem PySem.Spec
/-- a loop's range, by what is left of it -/
theorem range_ind {p : Pat} {tb : SDt} {E : EndsD} (I : Nat → EnvD → Prop) (h0 : ∀ e, I 0 e → E.nx e)
    (step : ∀ m (k : Nat) e, I (m + 1) e → ∀ K : EnvD → Prop, (∀ e', I m e' → K e') → ∃ e2, bindP p (.int (k : Int)) e = some e2 ∧ tb { nx := K, rt := E.rt, bk := E.nx, ct := K } e2) (n : Int) (e : EnvD) (h : I n.toNat e) : forGo p tb E (rgD 0 n) e := by
  rw [rgD_to, List.range_eq_range']
  refine forGo_ind (fun i : Nat => D.int (i : Int)) (fun xs e => I xs.length e) (fun e h => h0 e h) (fun x xs e h K hK => step xs.length x e h K hK) _ e ?_
  rw [List.length_range']
  exact h
/-- a random wardrobe -/
def phi_law_wardrobe : SpD := fun ds R => ∃ most rails doors : Int, ds = [.bag, .int most, .int rails, .int doors] ∧ (1 ≤ most ∧ most ≤ 1000000) ∧ (1 ≤ rails ∧ rails ≤ 4) ∧ (0 ≤ doors ∧ doors ≤ 6) ∧
  ∀ w : Wd, OkW w → w.1 ≤ most → (w.2.length : Int) ≤ rails → (∀ ws ∈ w.2, (ws.length : Int) ≤ doors) → R (encW w)
theorem len_law_wardrobe : ∀ ds R, phi_law_wardrobe ds R → ds.length = 4 := by rintro ds R ⟨w, a, b, rfl, _⟩; rfl
theorem get_lt {l : List D} {r : Int} (h0 : 0 ≤ r) (h1 : r < (l.length : Int)) : ∃ d, d ∈ l ∧ L2.atI l r = some d := by
  obtain ⟨n, rfl⟩ : ∃ n : Nat, r = (n : Int) := ⟨r.toNat, (Int.toNat_of_nonneg h0).symm⟩
  have hn : n < l.length := by omega
  exact ⟨l[n], List.getElem_mem hn, atI_nat (List.getElem?_eq_getElem hn)⟩
def z_law_wardrobe : SDt := (zSeq (zPar 4 5 (sOp addD (sC (.int 1)) (sCall phi_law_take (aCons (sVar 0) (aCons (sVar 1) aNil)))) (sTup aNil))
    (zSeq (zFor (iRg1 (aCons (sOp addD (sC (.int 1)) (sCall phi_law_take (aCons (sVar 0) (aCons (sVar 2) aNil)))) aNil)) (.nm 6)
      (zSeq (zPar 7 8 (sTup aNil) (sVar 4))
    (zSeq (zFor (iRg1 (aCons (sCall phi_law_take (aCons (sVar 0) (aCons (sOp addD (sVar 3) (sC (.int 1))) aNil))) aNil)) (.nm 9)
      (zSeq (zAsg (sOp addD (sC (.int 1)) (sCall phi_law_take (aCons (sVar 0) (aCons (sBi maxD (aCons (sC (.int 1)) (aCons (sOp ixD (sLst (aCons (sOp fdivD (sVar 4) (sC (.int 2))) (aCons (sOp fdivD (sVar 4) (sC (.int 4))) (aCons (sC (.int 2)) aNil)))) (sCall phi_law_take (aCons (sVar 0) (aCons (sC (.int 3)) aNil)))) aNil))) aNil)))) (.nm 10))
    (zIf (sB (sOp leD (sVar 10) (sVar 8))) (zPar 7 8 (sOp addD (sVar 7) (sTup (aCons (sVar 10) aNil))) (sOp subD (sVar 8) (sVar 10)))
      zNext)))
    (zAsg (sOp addD (sVar 5) (sTup (aCons (sVar 7) aNil))) (.nm 5)))))
    (zRet (sTup (aCons (sVar 4) (aCons (sVar 5) aNil))))))
abbrev N_law_wardrobe : List Str := ["bag", "most", "rails", "doors", "width", "found", "rail", "widths", "free", "turn", "size"]
theorem rd_law_wardrobe : ∀ ds R, phi_law_wardrobe ds R → z_law_wardrobe { nx := fun _ => R .non, rt := R } (startD N_law_wardrobe ds) := by
  rintro ds R ⟨most, rails, doors, rfl, hm, hr, hd, hR⟩
  show z_law_wardrobe _ [.val .bag, .val (.int most), .val (.int rails), .val (.int doors), .un, .un, .un, .un, .un, .un, .un]
  simp only [z_law_wardrobe, zNext, zSeq, zPass, zBreak, zCont, zNever, zExpr, zRet, zRetN, zIf, zAsg, zSetO, zFrz, zApp, zPar, zParO1, zParO2, zFor, sVar, sC, sOp, sB, sBi, sCall, aNil, aCons, sTup, sLst, oLst, bAnd, bOr, bNot, sAnd, sOr, sNot, sIf, sNeg, sChain, oNone, oSome, sSl, sLast, iSeqD, iEnumD, iZipD, iRg1, iRg2, iRg3, sLC, sLC2, bYes, addD, subD, mulD, fdivD, modD, powD, ltD, leD, gtD, geD, eqD, neD, isD, isntD, ixD, sumD, lenD, absD, maxD, minD, allD, anyD, intCD, tupCD, lstCD, isiD, reprD, isTy, seqD?, bindP, bindPs, wipeD, frz, isN_non, isN_int, isN_bl, isN_tup, isN_lst, ints?_map, bls?_map, ints?_mapf, bls?_mapf, fit_int, fit_bl, fit_non, eqv_int, eqv_bl, cast2, cast3, cast1, cast0, intD, intD0, List.set_cons_zero, List.set_cons_succ, List.getElem?_cons_zero, List.getElem?_cons_succ, List.map_cons, List.map_nil, List.length_cons, List.length_nil, List.length_map, Nat.reduceAdd, Option.some.injEq, if_true, if_false, reduceCtorEq, decide_eq_true_eq, Bool.not_eq_true, true_or, or_true, true_and, and_true, false_or, or_false, String.reduceEq, String.reduceBEq, Bool.or_true, Bool.true_or, Bool.or_false, Bool.false_or, beq_self_eq_true, Bool.not_true, Bool.not_false, Bool.false_eq_true]
  refine ⟨most, rfl, by omega, fun w0 w1 w2 => ?_⟩
  simp only [zNext, zSeq, zPass, zBreak, zCont, zNever, zExpr, zRet, zRetN, zIf, zAsg, zSetO, zFrz, zApp, zPar, zParO1, zParO2, zFor, sVar, sC, sOp, sB, sBi, sCall, aNil, aCons, sTup, sLst, oLst, bAnd, bOr, bNot, sAnd, sOr, sNot, sIf, sNeg, sChain, oNone, oSome, sSl, sLast, iSeqD, iEnumD, iZipD, iRg1, iRg2, iRg3, sLC, sLC2, bYes, addD, subD, mulD, fdivD, modD, powD, ltD, leD, gtD, geD, eqD, neD, isD, isntD, ixD, sumD, lenD, absD, maxD, minD, allD, anyD, intCD, tupCD, lstCD, isiD, reprD, isTy, seqD?, bindP, bindPs, wipeD, frz, isN_non, isN_int, isN_bl, isN_tup, isN_lst, ints?_map, bls?_map, ints?_mapf, bls?_mapf, fit_int, fit_bl, fit_non, eqv_int, eqv_bl, cast2, cast3, cast1, cast0, intD, intD0, List.set_cons_zero, List.set_cons_succ, List.getElem?_cons_zero, List.getElem?_cons_succ, List.map_cons, List.map_nil, List.length_cons, List.length_nil, List.length_map, Nat.reduceAdd, Option.some.injEq, if_true, if_false, reduceCtorEq, decide_eq_true_eq, Bool.not_eq_true, true_or, or_true, true_and, and_true, false_or, or_false, String.reduceEq, String.reduceBEq, Bool.or_true, Bool.true_or, Bool.or_false, Bool.false_or, beq_self_eq_true, Bool.not_true, Bool.not_false, Bool.false_eq_true]
  refine ⟨le_sl (by decide), rails, rfl, by omega, fun r0 r1 r2 => ?_⟩
  simp only [zNext, zSeq, zPass, zBreak, zCont, zNever, zExpr, zRet, zRetN, zIf, zAsg, zSetO, zFrz, zApp, zPar, zParO1, zParO2, zFor, sVar, sC, sOp, sB, sBi, sCall, aNil, aCons, sTup, sLst, oLst, bAnd, bOr, bNot, sAnd, sOr, sNot, sIf, sNeg, sChain, oNone, oSome, sSl, sLast, iSeqD, iEnumD, iZipD, iRg1, iRg2, iRg3, sLC, sLC2, bYes, addD, subD, mulD, fdivD, modD, powD, ltD, leD, gtD, geD, eqD, neD, isD, isntD, ixD, sumD, lenD, absD, maxD, minD, allD, anyD, intCD, tupCD, lstCD, isiD, reprD, isTy, seqD?, bindP, bindPs, wipeD, frz, isN_non, isN_int, isN_bl, isN_tup, isN_lst, ints?_map, bls?_map, ints?_mapf, bls?_mapf, fit_int, fit_bl, fit_non, eqv_int, eqv_bl, cast2, cast3, cast1, cast0, intD, intD0, List.set_cons_zero, List.set_cons_succ, List.getElem?_cons_zero, List.getElem?_cons_succ, List.map_cons, List.map_nil, List.length_cons, List.length_nil, List.length_map, Nat.reduceAdd, Option.some.injEq, if_true, if_false, reduceCtorEq, decide_eq_true_eq, Bool.not_eq_true, true_or, or_true, true_and, and_true, false_or, or_false, String.reduceEq, String.reduceBEq, Bool.or_true, Bool.true_or, Bool.or_false, Bool.false_or, beq_self_eq_true, Bool.not_true, Bool.not_false, Bool.false_eq_true]
  generalize hW : 1 + w0 = W
  (refine ⟨by omega, by omega, ?_⟩)
  refine range_ind (p := .nm 6) (fun m e => ∃ (acc : List (List Int)) (u6 u7 u8 u9 u10 : Slot), (acc.length : Int) + m = 1 + r0 ∧ (∀ ws ∈ acc, OkRail W ws ∧ (ws.length : Int) ≤ doors) ∧
    e = [.val .bag, .val (.int most), .val (.int rails), .val (.int doors), .val (.int W), .val (.tup (acc.map iT)), u6, u7, u8, u9, u10]) ?_ ?_ _ _ ⟨[], .un, .un, .un, .un, .un, by simp only [List.length_nil]; omega, fun _ z => (nomatch z), rfl⟩
  · rintro e ⟨acc, u6, u7, u8, u9, u10, h1, h2, rfl⟩
    simp only [zNext, zSeq, zPass, zBreak, zCont, zNever, zExpr, zRet, zRetN, zIf, zAsg, zSetO, zFrz, zApp, zPar, zParO1, zParO2, zFor, sVar, sC, sOp, sB, sBi, sCall, aNil, aCons, sTup, sLst, oLst, bAnd, bOr, bNot, sAnd, sOr, sNot, sIf, sNeg, sChain, oNone, oSome, sSl, sLast, iSeqD, iEnumD, iZipD, iRg1, iRg2, iRg3, sLC, sLC2, bYes, addD, subD, mulD, fdivD, modD, powD, ltD, leD, gtD, geD, eqD, neD, isD, isntD, ixD, sumD, lenD, absD, maxD, minD, allD, anyD, intCD, tupCD, lstCD, isiD, reprD, isTy, seqD?, bindP, bindPs, wipeD, frz, isN_non, isN_int, isN_bl, isN_tup, isN_lst, ints?_map, bls?_map, ints?_mapf, bls?_mapf, fit_int, fit_bl, fit_non, eqv_int, eqv_bl, cast2, cast3, cast1, cast0, intD, intD0, List.set_cons_zero, List.set_cons_succ, List.getElem?_cons_zero, List.getElem?_cons_succ, List.map_cons, List.map_nil, List.length_cons, List.length_nil, List.length_map, Nat.reduceAdd, Option.some.injEq, if_true, if_false, reduceCtorEq, decide_eq_true_eq, Bool.not_eq_true, true_or, or_true, true_and, and_true, false_or, or_false, String.reduceEq, String.reduceBEq, Bool.or_true, Bool.true_or, Bool.or_false, Bool.false_or, beq_self_eq_true, Bool.not_true, Bool.not_false, Bool.false_eq_true]
    refine ⟨le_sl (by decide), hR (W, acc) ⟨by show 1 ≤ W ∧ W ≤ 1000000; omega, by show 1 ≤ acc.length ∧ acc.length ≤ 4; omega, fun ws h => (h2 ws h).1⟩ (by show W ≤ most; omega) (by show (acc.length : Int) ≤ rails; omega) fun ws h => (h2 ws h).2⟩
  · rintro m k e ⟨acc, u6, u7, u8, u9, u10, h1, h2, rfl⟩ K hK
    refine ⟨_, rfl, ?_⟩
    simp only [zNext, zSeq, zPass, zBreak, zCont, zNever, zExpr, zRet, zRetN, zIf, zAsg, zSetO, zFrz, zApp, zPar, zParO1, zParO2, zFor, sVar, sC, sOp, sB, sBi, sCall, aNil, aCons, sTup, sLst, oLst, bAnd, bOr, bNot, sAnd, sOr, sNot, sIf, sNeg, sChain, oNone, oSome, sSl, sLast, iSeqD, iEnumD, iZipD, iRg1, iRg2, iRg3, sLC, sLC2, bYes, addD, subD, mulD, fdivD, modD, powD, ltD, leD, gtD, geD, eqD, neD, isD, isntD, ixD, sumD, lenD, absD, maxD, minD, allD, anyD, intCD, tupCD, lstCD, isiD, reprD, isTy, seqD?, bindP, bindPs, wipeD, frz, isN_non, isN_int, isN_bl, isN_tup, isN_lst, ints?_map, bls?_map, ints?_mapf, bls?_mapf, fit_int, fit_bl, fit_non, eqv_int, eqv_bl, cast2, cast3, cast1, cast0, intD, intD0, List.set_cons_zero, List.set_cons_succ, List.getElem?_cons_zero, List.getElem?_cons_succ, List.map_cons, List.map_nil, List.length_cons, List.length_nil, List.length_map, Nat.reduceAdd, Option.some.injEq, if_true, if_false, reduceCtorEq, decide_eq_true_eq, Bool.not_eq_true, true_or, or_true, true_and, and_true, false_or, or_false, String.reduceEq, String.reduceBEq, Bool.or_true, Bool.true_or, Bool.or_false, Bool.false_or, beq_self_eq_true, Bool.not_true, Bool.not_false, Bool.false_eq_true]
    refine ⟨le_sl (by decide), doors + 1, rfl, by omega, fun t0 t1 t2 => ?_⟩
    simp only [zNext, zSeq, zPass, zBreak, zCont, zNever, zExpr, zRet, zRetN, zIf, zAsg, zSetO, zFrz, zApp, zPar, zParO1, zParO2, zFor, sVar, sC, sOp, sB, sBi, sCall, aNil, aCons, sTup, sLst, oLst, bAnd, bOr, bNot, sAnd, sOr, sNot, sIf, sNeg, sChain, oNone, oSome, sSl, sLast, iSeqD, iEnumD, iZipD, iRg1, iRg2, iRg3, sLC, sLC2, bYes, addD, subD, mulD, fdivD, modD, powD, ltD, leD, gtD, geD, eqD, neD, isD, isntD, ixD, sumD, lenD, absD, maxD, minD, allD, anyD, intCD, tupCD, lstCD, isiD, reprD, isTy, seqD?, bindP, bindPs, wipeD, frz, isN_non, isN_int, isN_bl, isN_tup, isN_lst, ints?_map, bls?_map, ints?_mapf, bls?_mapf, fit_int, fit_bl, fit_non, eqv_int, eqv_bl, cast2, cast3, cast1, cast0, intD, intD0, List.set_cons_zero, List.set_cons_succ, List.getElem?_cons_zero, List.getElem?_cons_succ, List.map_cons, List.map_nil, List.length_cons, List.length_nil, List.length_map, Nat.reduceAdd, Option.some.injEq, if_true, if_false, reduceCtorEq, decide_eq_true_eq, Bool.not_eq_true, true_or, or_true, true_and, and_true, false_or, or_false, String.reduceEq, String.reduceBEq, Bool.or_true, Bool.true_or, Bool.or_false, Bool.false_or, beq_self_eq_true, Bool.not_true, Bool.not_false, Bool.false_eq_true]
    (refine ⟨by omega, by omega, ?_⟩)
    refine range_ind (p := .nm 9) (fun m e => ∃ (ws : List Int) (u9 u10 : Slot), (ws.length : Int) + m ≤ doors ∧ (∀ x ∈ ws, 1 ≤ x ∧ x ≤ W) ∧ ws.sum ≤ W ∧
      e = [.val .bag, .val (.int most), .val (.int rails), .val (.int doors), .val (.int W), .val (.tup (acc.map iT)), .val (.int k), .val (iT ws), .val (.int (W - ws.sum)), u9, u10]) ?_ ?_ _ _ ⟨[], u9, u10, by simp only [List.length_nil]; omega, fun _ z => (nomatch z), by simp only [List.sum_nil]; omega, by rw [List.sum_nil, Int.sub_zero]; rfl⟩
    · rintro e ⟨ws, u9, u10, q1, q2, q3, rfl⟩
      simp only [zNext, zSeq, zPass, zBreak, zCont, zNever, zExpr, zRet, zRetN, zIf, zAsg, zSetO, zFrz, zApp, zPar, zParO1, zParO2, zFor, sVar, sC, sOp, sB, sBi, sCall, aNil, aCons, sTup, sLst, oLst, bAnd, bOr, bNot, sAnd, sOr, sNot, sIf, sNeg, sChain, oNone, oSome, sSl, sLast, iSeqD, iEnumD, iZipD, iRg1, iRg2, iRg3, sLC, sLC2, bYes, addD, subD, mulD, fdivD, modD, powD, ltD, leD, gtD, geD, eqD, neD, isD, isntD, ixD, sumD, lenD, absD, maxD, minD, allD, anyD, intCD, tupCD, lstCD, isiD, reprD, isTy, seqD?, bindP, bindPs, wipeD, frz, isN_non, isN_int, isN_bl, isN_tup, isN_lst, ints?_map, bls?_map, ints?_mapf, bls?_mapf, fit_int, fit_bl, fit_non, eqv_int, eqv_bl, cast2, cast3, cast1, cast0, intD, intD0, List.set_cons_zero, List.set_cons_succ, List.getElem?_cons_zero, List.getElem?_cons_succ, List.map_cons, List.map_nil, List.length_cons, List.length_nil, List.length_map, Nat.reduceAdd, Option.some.injEq, if_true, if_false, reduceCtorEq, decide_eq_true_eq, Bool.not_eq_true, true_or, or_true, true_and, and_true, false_or, or_false, String.reduceEq, String.reduceBEq, Bool.or_true, Bool.true_or, Bool.or_false, Bool.false_or, beq_self_eq_true, Bool.not_true, Bool.not_false, Bool.false_eq_true]
      have : OkRail W ws := ⟨by omega, q2, q3⟩
      refine ⟨le_sl (by decide), le_sl (by omega), hK _ ⟨acc ++ [ws], .val (.int k), .val (iT ws), .val (.int (W - ws.sum)), u9, u10, by rw [List.length_append, List.length_singleton]; omega, fun y hy => ?_, by rw [List.map_append]; rfl⟩⟩
      (rcases List.mem_append.mp hy with hy | hy)
      · exact h2 y hy
      · rw [List.mem_singleton.mp hy]; exact ⟨this, by omega⟩
    · rintro m' k' e ⟨ws, u9, u10, q1, q2, q3, rfl⟩ K' hK'
      refine ⟨_, rfl, ?_⟩
      simp only [zNext, zSeq, zPass, zBreak, zCont, zNever, zExpr, zRet, zRetN, zIf, zAsg, zSetO, zFrz, zApp, zPar, zParO1, zParO2, zFor, sVar, sC, sOp, sB, sBi, sCall, aNil, aCons, sTup, sLst, oLst, bAnd, bOr, bNot, sAnd, sOr, sNot, sIf, sNeg, sChain, oNone, oSome, sSl, sLast, iSeqD, iEnumD, iZipD, iRg1, iRg2, iRg3, sLC, sLC2, bYes, addD, subD, mulD, fdivD, modD, powD, ltD, leD, gtD, geD, eqD, neD, isD, isntD, ixD, sumD, lenD, absD, maxD, minD, allD, anyD, intCD, tupCD, lstCD, isiD, reprD, isTy, seqD?, bindP, bindPs, wipeD, frz, isN_non, isN_int, isN_bl, isN_tup, isN_lst, ints?_map, bls?_map, ints?_mapf, bls?_mapf, fit_int, fit_bl, fit_non, eqv_int, eqv_bl, cast2, cast3, cast1, cast0, intD, intD0, List.set_cons_zero, List.set_cons_succ, List.getElem?_cons_zero, List.getElem?_cons_succ, List.map_cons, List.map_nil, List.length_cons, List.length_nil, List.length_map, Nat.reduceAdd, Option.some.injEq, if_true, if_false, reduceCtorEq, decide_eq_true_eq, Bool.not_eq_true, true_or, or_true, true_and, and_true, false_or, or_false, String.reduceEq, String.reduceBEq, Bool.or_true, Bool.true_or, Bool.or_false, Bool.false_or, beq_self_eq_true, Bool.not_true, Bool.not_false, Bool.false_eq_true]
      refine ⟨⟨by decide, by decide +kernel⟩, ⟨by decide, by decide +kernel⟩, le_sl (by decide), 3, rfl, by decide, fun s0 s1 s2 => ?_⟩
      obtain ⟨d, hd1, hd2⟩ := get_lt (l := [D.int (W / 2), D.int (W / 4), D.int 2]) s1 s2
      obtain ⟨v, rfl⟩ : ∃ v, d = D.int v := by
        simp only [List.mem_cons, List.not_mem_nil, or_false] at hd1
        rcases hd1 with rfl | rfl | rfl
        · exact ⟨_, rfl⟩
        · exact ⟨_, rfl⟩
        · exact ⟨_, rfl⟩
      simp only [hd2, zNext, zSeq, zPass, zBreak, zCont, zNever, zExpr, zRet, zRetN, zIf, zAsg, zSetO, zFrz, zApp, zPar, zParO1, zParO2, zFor, sVar, sC, sOp, sB, sBi, sCall, aNil, aCons, sTup, sLst, oLst, bAnd, bOr, bNot, sAnd, sOr, sNot, sIf, sNeg, sChain, oNone, oSome, sSl, sLast, iSeqD, iEnumD, iZipD, iRg1, iRg2, iRg3, sLC, sLC2, bYes, addD, subD, mulD, fdivD, modD, powD, ltD, leD, gtD, geD, eqD, neD, isD, isntD, ixD, sumD, lenD, absD, maxD, minD, allD, anyD, intCD, tupCD, lstCD, isiD, reprD, isTy, seqD?, bindP, bindPs, wipeD, frz, isN_non, isN_int, isN_bl, isN_tup, isN_lst, ints?_map, bls?_map, ints?_mapf, bls?_mapf, fit_int, fit_bl, fit_non, eqv_int, eqv_bl, cast2, cast3, cast1, cast0, intD, intD0, List.set_cons_zero, List.set_cons_succ, List.getElem?_cons_zero, List.getElem?_cons_succ, List.map_cons, List.map_nil, List.length_cons, List.length_nil, List.length_map, Nat.reduceAdd, Option.some.injEq, if_true, if_false, reduceCtorEq, decide_eq_true_eq, Bool.not_eq_true, true_or, or_true, true_and, and_true, false_or, or_false, String.reduceEq, String.reduceBEq, Bool.or_true, Bool.true_or, Bool.or_false, Bool.false_or, beq_self_eq_true, Bool.not_true, Bool.not_false, Bool.false_eq_true]
      generalize hV : (if v > 1 then v else 1) = V
      have hV1 : 1 ≤ V := by rw [← hV]; split <;> omega
      refine ⟨V, rfl, by omega, fun x0 x1 x2 => ?_⟩
      simp only [zNext, zSeq, zPass, zBreak, zCont, zNever, zExpr, zRet, zRetN, zIf, zAsg, zSetO, zFrz, zApp, zPar, zParO1, zParO2, zFor, sVar, sC, sOp, sB, sBi, sCall, aNil, aCons, sTup, sLst, oLst, bAnd, bOr, bNot, sAnd, sOr, sNot, sIf, sNeg, sChain, oNone, oSome, sSl, sLast, iSeqD, iEnumD, iZipD, iRg1, iRg2, iRg3, sLC, sLC2, bYes, addD, subD, mulD, fdivD, modD, powD, ltD, leD, gtD, geD, eqD, neD, isD, isntD, ixD, sumD, lenD, absD, maxD, minD, allD, anyD, intCD, tupCD, lstCD, isiD, reprD, isTy, seqD?, bindP, bindPs, wipeD, frz, isN_non, isN_int, isN_bl, isN_tup, isN_lst, ints?_map, bls?_map, ints?_mapf, bls?_mapf, fit_int, fit_bl, fit_non, eqv_int, eqv_bl, cast2, cast3, cast1, cast0, intD, intD0, List.set_cons_zero, List.set_cons_succ, List.getElem?_cons_zero, List.getElem?_cons_succ, List.map_cons, List.map_nil, List.length_cons, List.length_nil, List.length_map, Nat.reduceAdd, Option.some.injEq, if_true, if_false, reduceCtorEq, decide_eq_true_eq, Bool.not_eq_true, true_or, or_true, true_and, and_true, false_or, or_false, String.reduceEq, String.reduceBEq, Bool.or_true, Bool.true_or, Bool.or_false, Bool.false_or, beq_self_eq_true, Bool.not_true, Bool.not_false, Bool.false_eq_true]
      by_cases c : 1 + x0 ≤ W - ws.sum
      · rw [if_pos c]
        simp only [iT, zNext, zSeq, zPass, zBreak, zCont, zNever, zExpr, zRet, zRetN, zIf, zAsg, zSetO, zFrz, zApp, zPar, zParO1, zParO2, zFor, sVar, sC, sOp, sB, sBi, sCall, aNil, aCons, sTup, sLst, oLst, bAnd, bOr, bNot, sAnd, sOr, sNot, sIf, sNeg, sChain, oNone, oSome, sSl, sLast, iSeqD, iEnumD, iZipD, iRg1, iRg2, iRg3, sLC, sLC2, bYes, addD, subD, mulD, fdivD, modD, powD, ltD, leD, gtD, geD, eqD, neD, isD, isntD, ixD, sumD, lenD, absD, maxD, minD, allD, anyD, intCD, tupCD, lstCD, isiD, reprD, isTy, seqD?, bindP, bindPs, wipeD, frz, isN_non, isN_int, isN_bl, isN_tup, isN_lst, ints?_map, bls?_map, ints?_mapf, bls?_mapf, fit_int, fit_bl, fit_non, eqv_int, eqv_bl, cast2, cast3, cast1, cast0, intD, intD0, List.set_cons_zero, List.set_cons_succ, List.getElem?_cons_zero, List.getElem?_cons_succ, List.map_cons, List.map_nil, List.length_cons, List.length_nil, List.length_map, Nat.reduceAdd, Option.some.injEq, if_true, if_false, reduceCtorEq, decide_eq_true_eq, Bool.not_eq_true, true_or, or_true, true_and, and_true, false_or, or_false, String.reduceEq, String.reduceBEq, Bool.or_true, Bool.true_or, Bool.or_false, Bool.false_or, beq_self_eq_true, Bool.not_true, Bool.not_false, Bool.false_eq_true]
        refine ⟨le_sl (by decide), le_sl (by omega), hK' _ ⟨ws ++ [1 + x0], .val (.int k'), .val (.int (1 + x0)), ?_, ?_, ?_, ?_⟩⟩
        · (rw [List.length_append, List.length_singleton]; omega)
        · have s0 : 0 ≤ ws.sum := sum_nn fun y hy => by have := (q2 y hy).1; omega
          intro y hy
          (rcases List.mem_append.mp hy with hy | hy)
          · exact q2 y hy
          · rw [List.mem_singleton.mp hy]; omega
        · rw [List.sum_append, List.sum_singleton]; omega
        · rw [List.sum_append, List.sum_singleton, show W - ws.sum - (1 + x0) = W - (ws.sum + (1 + x0)) by omega]
          unfold iT
          rw [List.map_append]
          rfl
      · rw [if_neg c]
        exact hK' _ ⟨ws, .val (.int k'), .val (.int (1 + x0)), by omega, q2, q3, rfl⟩
end SD

namespace SD
open L2 PyProof.Rows PySem PySem.Spec
inductive All2 {α β : Type} (P : α → β → Prop) : List α → List β → Prop
  | nil : All2 P [] []
  | cons {x : α} {y : β} {xs : List α} {ys : List β} : P x y → All2 P xs ys → All2 P (x :: xs) (y :: ys)
theorem All2.length {α β : Type} {P : α → β → Prop} : ∀ {xs : List α} {ys : List β}, All2 P xs ys → ys.length = xs.length
  | _, _, .nil => rfl
  | _, _, .cons _ h => (by rw [List.length_cons, List.length_cons, h.length])
theorem All2.mem {α β : Type} {P : α → β → Prop} : ∀ {xs : List α} {ys : List β}, All2 P xs ys → ∀ y ∈ ys, ∃ x ∈ xs, P x y
  | _, _, .nil, y, h => nomatch h
  | _, _, .cons p h, y, hy => by
    (rcases List.mem_cons.mp hy with rfl | hy)
    · exact ⟨_, List.mem_cons_self, p⟩
    · obtain ⟨x, h1, h2⟩ := h.mem y hy
      exact ⟨x, List.mem_cons_of_mem _ h1, h2⟩
/-- a comprehension whose values are not known, but what is true of each -/
theorem lcGo_dem {α β : Type} {p : Pat} {te : ED} {e : EnvD} (f : α → D) (g : β → D) (P : α → β → Prop) : ∀ (xs : List α) (acc : List D) (R : List D → Prop),
    (∀ x ∈ xs, ∃ e2, bindP p (f x) e = some e2 ∧ ∀ R : D → Prop, (∀ y, P x y → R (g y)) → te e2 R) → (∀ ys, All2 P xs ys → R (acc ++ ys.map g)) → lcGo p bYes te e (xs.map f) acc R
  | [], acc, R, h, q => by
    have := q [] .nil
    rw [List.map_nil, List.append_nil] at this
    exact this
  | x :: xs, acc, R, h, q => by
    obtain ⟨e2, h1, h2⟩ := h x List.mem_cons_self
    rw [List.map_cons]
    unfold lcGo
    rw [h1]
    simp only [bYes, if_true]
    refine h2 _ fun y hy => lcGo_dem f g P xs _ R (fun z hz => h z (List.mem_cons_of_mem _ hz)) fun ys hys => ?_
    have := q (y :: ys) (.cons hy hys)
    rw [List.append_assoc]
    exact this
/-- a number below a bound, whichever -/
def phi_law_far_draw : SpD := fun ds R => ∃ many : Int, ds = [.bag, .int many] ∧ 0 < many ∧ ∀ r : Int, 0 ≤ r → r < many → R (.int r)
theorem len_law_far_draw : ∀ ds R, phi_law_far_draw ds R → ds.length = 2 := by rintro ds R ⟨w, rfl, _⟩; rfl
def z_law_far_draw : SDt := (zSeq (zPar 2 3 (sC (.int 0)) (sVar 1))
    (zSeq (zWhile (sB (sOp gtD (sVar 3) (sC (.int 0))))
      (zPar 2 3 (sOp addD (sOp mulD (sC (.int 1000)) (sVar 2)) (sCall phi_law_take (aCons (sVar 0) (aCons (sC (.int 1000)) aNil)))) (sOp fdivD (sVar 3) (sC (.int 1000)))))
    (zRet (sOp ixD (sLst (aCons (sOp modD (sVar 2) (sVar 1)) (aCons (sC (.int 0)) (aCons (sOp subD (sVar 1) (sC (.int 1))) (aCons (sOp modD (sVar 2) (sVar 1)) aNil))))) (sCall phi_law_take (aCons (sVar 0) (aCons (sC (.int 4)) aNil)))))))
abbrev N_law_far_draw : List Str := ["bag", "many", "found", "much"]
theorem rd_law_far_draw : ∀ ds R, phi_law_far_draw ds R → z_law_far_draw { nx := fun _ => R .non, rt := R } (startD N_law_far_draw ds) := by
  rintro ds R ⟨many, rfl, hm, hR⟩
  show z_law_far_draw _ [.val .bag, .val (.int many), .un, .un]
  simp only [z_law_far_draw, zNext, zSeq, zPass, zBreak, zCont, zNever, zExpr, zRet, zRetN, zIf, zAsg, zSetO, zFrz, zApp, zPar, zParO1, zParO2, zFor, sVar, sC, sOp, sB, sBi, sCall, aNil, aCons, sTup, sLst, oLst, bAnd, bOr, bNot, sAnd, sOr, sNot, sIf, sNeg, sChain, oNone, oSome, sSl, sLast, iSeqD, iEnumD, iZipD, iRg1, iRg2, iRg3, sLC, sLC2, bYes, addD, subD, mulD, fdivD, modD, powD, ltD, leD, gtD, geD, eqD, neD, isD, isntD, ixD, sumD, lenD, absD, maxD, minD, allD, anyD, intCD, tupCD, lstCD, isiD, reprD, isTy, seqD?, bindP, bindPs, wipeD, frz, isN_non, isN_int, isN_bl, isN_tup, isN_lst, ints?_map, bls?_map, ints?_mapf, bls?_mapf, fit_int, fit_bl, fit_non, eqv_int, eqv_bl, cast2, cast3, cast1, cast0, intD, intD0, List.set_cons_zero, List.set_cons_succ, List.getElem?_cons_zero, List.getElem?_cons_succ, List.map_cons, List.map_nil, List.length_cons, List.length_nil, List.length_map, Nat.reduceAdd, Option.some.injEq, if_true, if_false, reduceCtorEq, decide_eq_true_eq, Bool.not_eq_true, true_or, or_true, true_and, and_true, false_or, or_false, String.reduceEq, String.reduceBEq, Bool.or_true, Bool.true_or, Bool.or_false, Bool.false_or, beq_self_eq_true, Bool.not_true, Bool.not_false, Bool.false_eq_true]
  refine ⟨fun m e => ∃ found much : Int, e = [.val .bag, .val (.int many), .val (.int found), .val (.int much)] ∧ much.toNat = m, ⟨_, 0, many, rfl, rfl⟩, ?_⟩
  rintro m e ⟨found, much, rfl, hmm⟩
  simp only [zNext, zSeq, zPass, zBreak, zCont, zNever, zExpr, zRet, zRetN, zIf, zAsg, zSetO, zFrz, zApp, zPar, zParO1, zParO2, zFor, sVar, sC, sOp, sB, sBi, sCall, aNil, aCons, sTup, sLst, oLst, bAnd, bOr, bNot, sAnd, sOr, sNot, sIf, sNeg, sChain, oNone, oSome, sSl, sLast, iSeqD, iEnumD, iZipD, iRg1, iRg2, iRg3, sLC, sLC2, bYes, addD, subD, mulD, fdivD, modD, powD, ltD, leD, gtD, geD, eqD, neD, isD, isntD, ixD, sumD, lenD, absD, maxD, minD, allD, anyD, intCD, tupCD, lstCD, isiD, reprD, isTy, seqD?, bindP, bindPs, wipeD, frz, isN_non, isN_int, isN_bl, isN_tup, isN_lst, ints?_map, bls?_map, ints?_mapf, bls?_mapf, fit_int, fit_bl, fit_non, eqv_int, eqv_bl, cast2, cast3, cast1, cast0, intD, intD0, List.set_cons_zero, List.set_cons_succ, List.getElem?_cons_zero, List.getElem?_cons_succ, List.map_cons, List.map_nil, List.length_cons, List.length_nil, List.length_map, Nat.reduceAdd, Option.some.injEq, if_true, if_false, reduceCtorEq, decide_eq_true_eq, Bool.not_eq_true, true_or, or_true, true_and, and_true, false_or, or_false, String.reduceEq, String.reduceBEq, Bool.or_true, Bool.true_or, Bool.or_false, Bool.false_or, beq_self_eq_true, Bool.not_true, Bool.not_false, Bool.false_eq_true]
  by_cases c : 0 < much
  · rw [if_pos c]
    refine ⟨.inl (.inl ⟨by decide, by decide⟩), 1000, rfl, by decide, fun r r0 r1 => ?_⟩
    simp only [zNext, zSeq, zPass, zBreak, zCont, zNever, zExpr, zRet, zRetN, zIf, zAsg, zSetO, zFrz, zApp, zPar, zParO1, zParO2, zFor, sVar, sC, sOp, sB, sBi, sCall, aNil, aCons, sTup, sLst, oLst, bAnd, bOr, bNot, sAnd, sOr, sNot, sIf, sNeg, sChain, oNone, oSome, sSl, sLast, iSeqD, iEnumD, iZipD, iRg1, iRg2, iRg3, sLC, sLC2, bYes, addD, subD, mulD, fdivD, modD, powD, ltD, leD, gtD, geD, eqD, neD, isD, isntD, ixD, sumD, lenD, absD, maxD, minD, allD, anyD, intCD, tupCD, lstCD, isiD, reprD, isTy, seqD?, bindP, bindPs, wipeD, frz, isN_non, isN_int, isN_bl, isN_tup, isN_lst, ints?_map, bls?_map, ints?_mapf, bls?_mapf, fit_int, fit_bl, fit_non, eqv_int, eqv_bl, cast2, cast3, cast1, cast0, intD, intD0, List.set_cons_zero, List.set_cons_succ, List.getElem?_cons_zero, List.getElem?_cons_succ, List.map_cons, List.map_nil, List.length_cons, List.length_nil, List.length_map, Nat.reduceAdd, Option.some.injEq, if_true, if_false, reduceCtorEq, decide_eq_true_eq, Bool.not_eq_true, true_or, or_true, true_and, and_true, false_or, or_false, String.reduceEq, String.reduceBEq, Bool.or_true, Bool.true_or, Bool.or_false, Bool.false_or, beq_self_eq_true, Bool.not_true, Bool.not_false, Bool.false_eq_true]
    refine ⟨⟨by decide, by decide +kernel⟩, _, ?_, _, _, rfl, rfl⟩
    have : much / 1000 < much := Int.ediv_lt_of_lt_mul (by decide) (by omega)
    have : 0 ≤ much / 1000 := Int.ediv_nonneg (by omega) (by decide)
    omega
  · rw [if_neg c]
    have ok : ∀ v, v = found % many ∨ v = 0 ∨ v = many - 1 → R (.int v) := fun v hv => by
      have h1 := Int.emod_nonneg found (show many ≠ 0 by omega)
      have h2 := Int.emod_lt_of_pos found hm
      refine hR v ?_ ?_ <;> rcases hv with rfl | rfl | rfl <;> omega
    refine ⟨hm, hm, le_sl (by decide), 4, rfl, by decide, fun r r0 r4 => ?_⟩
    obtain ⟨d, hd1, hd2⟩ := get_lt (l := [D.int (found % many), D.int 0, D.int (many - 1), D.int (found % many)]) r0 r4
    simp only [hd2, zNext, zSeq, zPass, zBreak, zCont, zNever, zExpr, zRet, zRetN, zIf, zAsg, zSetO, zFrz, zApp, zPar, zParO1, zParO2, zFor, sVar, sC, sOp, sB, sBi, sCall, aNil, aCons, sTup, sLst, oLst, bAnd, bOr, bNot, sAnd, sOr, sNot, sIf, sNeg, sChain, oNone, oSome, sSl, sLast, iSeqD, iEnumD, iZipD, iRg1, iRg2, iRg3, sLC, sLC2, bYes, addD, subD, mulD, fdivD, modD, powD, ltD, leD, gtD, geD, eqD, neD, isD, isntD, ixD, sumD, lenD, absD, maxD, minD, allD, anyD, intCD, tupCD, lstCD, isiD, reprD, isTy, seqD?, bindP, bindPs, wipeD, frz, isN_non, isN_int, isN_bl, isN_tup, isN_lst, ints?_map, bls?_map, ints?_mapf, bls?_mapf, fit_int, fit_bl, fit_non, eqv_int, eqv_bl, cast2, cast3, cast1, cast0, intD, intD0, List.set_cons_zero, List.set_cons_succ, List.getElem?_cons_zero, List.getElem?_cons_succ, List.map_cons, List.map_nil, List.length_cons, List.length_nil, List.length_map, Nat.reduceAdd, Option.some.injEq, if_true, if_false, reduceCtorEq, decide_eq_true_eq, Bool.not_eq_true, true_or, or_true, true_and, and_true, false_or, or_false, String.reduceEq, String.reduceBEq, Bool.or_true, Bool.true_or, Bool.or_false, Bool.false_or, beq_self_eq_true, Bool.not_true, Bool.not_false, Bool.false_eq_true]
    simp only [List.mem_cons, List.not_mem_nil, or_false] at hd1
    rcases hd1 with rfl | rfl | rfl | rfl
    · exact ok _ (.inl rfl)
    · exact ok _ (.inr (.inl rfl))
    · exact ok _ (.inr (.inr rfl))
    · exact ok _ (.inl rfl)
/-- a random stretch -/
def phi_law_stretch : SpD := fun ds R => ∃ w : Wd, ds = [.bag, encW w] ∧ OkW w ∧ ∀ a b, 0 ≤ a → a < b → b ≤ w.1 → R (encS a b)
theorem len_law_stretch : ∀ ds R, phi_law_stretch ds R → ds.length = 2 := by rintro ds R ⟨w, rfl, _⟩; rfl
def z_law_stretch : SDt := (zSeq (zAsg (sCall phi_law_far_draw (aCons (sVar 0) (aCons (sOp ixD (sVar 1) (sC (.int 0))) aNil))) (.nm 2))
    (zSeq (zAsg (sOp ixD (sLst (aCons (sOp subD (sOp ixD (sVar 1) (sC (.int 0))) (sVar 2)) (aCons (sBi maxD (aCons (sC (.int 1)) (aCons (sOp fdivD (sOp subD (sOp ixD (sVar 1) (sC (.int 0))) (sVar 2)) (sC (.int 4))) aNil))) aNil))) (sCall phi_law_take (aCons (sVar 0) (aCons (sC (.int 2)) aNil)))) (.nm 3))
    (zRet (sTup (aCons (sVar 2) (aCons (sOp addD (sOp addD (sVar 2) (sC (.int 1))) (sCall phi_law_far_draw (aCons (sVar 0) (aCons (sVar 3) aNil)))) aNil))))))
abbrev N_law_stretch : List Str := ["bag", "wardrobe", "low", "most"]
theorem rd_law_stretch : ∀ ds R, phi_law_stretch ds R → z_law_stretch { nx := fun _ => R .non, rt := R } (startD N_law_stretch ds) := by
  rintro ds R ⟨w, rfl, hw, hR⟩
  show z_law_stretch _ [.val .bag, .val (encW w), .un, .un]
  have hW := hw.width
  simp only [z_law_stretch, encW, atI_0, zNext, zSeq, zPass, zBreak, zCont, zNever, zExpr, zRet, zRetN, zIf, zAsg, zSetO, zFrz, zApp, zPar, zParO1, zParO2, zFor, sVar, sC, sOp, sB, sBi, sCall, aNil, aCons, sTup, sLst, oLst, bAnd, bOr, bNot, sAnd, sOr, sNot, sIf, sNeg, sChain, oNone, oSome, sSl, sLast, iSeqD, iEnumD, iZipD, iRg1, iRg2, iRg3, sLC, sLC2, bYes, addD, subD, mulD, fdivD, modD, powD, ltD, leD, gtD, geD, eqD, neD, isD, isntD, ixD, sumD, lenD, absD, maxD, minD, allD, anyD, intCD, tupCD, lstCD, isiD, reprD, isTy, seqD?, bindP, bindPs, wipeD, frz, isN_non, isN_int, isN_bl, isN_tup, isN_lst, ints?_map, bls?_map, ints?_mapf, bls?_mapf, fit_int, fit_bl, fit_non, eqv_int, eqv_bl, cast2, cast3, cast1, cast0, intD, intD0, List.set_cons_zero, List.set_cons_succ, List.getElem?_cons_zero, List.getElem?_cons_succ, List.map_cons, List.map_nil, List.length_cons, List.length_nil, List.length_map, Nat.reduceAdd, Option.some.injEq, if_true, if_false, reduceCtorEq, decide_eq_true_eq, Bool.not_eq_true, true_or, or_true, true_and, and_true, false_or, or_false, String.reduceEq, String.reduceBEq, Bool.or_true, Bool.true_or, Bool.or_false, Bool.false_or, beq_self_eq_true, Bool.not_true, Bool.not_false, Bool.false_eq_true]
  refine ⟨w.1, rfl, by omega, fun low l0 l1 => ?_⟩
  simp only [atI_0, zNext, zSeq, zPass, zBreak, zCont, zNever, zExpr, zRet, zRetN, zIf, zAsg, zSetO, zFrz, zApp, zPar, zParO1, zParO2, zFor, sVar, sC, sOp, sB, sBi, sCall, aNil, aCons, sTup, sLst, oLst, bAnd, bOr, bNot, sAnd, sOr, sNot, sIf, sNeg, sChain, oNone, oSome, sSl, sLast, iSeqD, iEnumD, iZipD, iRg1, iRg2, iRg3, sLC, sLC2, bYes, addD, subD, mulD, fdivD, modD, powD, ltD, leD, gtD, geD, eqD, neD, isD, isntD, ixD, sumD, lenD, absD, maxD, minD, allD, anyD, intCD, tupCD, lstCD, isiD, reprD, isTy, seqD?, bindP, bindPs, wipeD, frz, isN_non, isN_int, isN_bl, isN_tup, isN_lst, ints?_map, bls?_map, ints?_mapf, bls?_mapf, fit_int, fit_bl, fit_non, eqv_int, eqv_bl, cast2, cast3, cast1, cast0, intD, intD0, List.set_cons_zero, List.set_cons_succ, List.getElem?_cons_zero, List.getElem?_cons_succ, List.map_cons, List.map_nil, List.length_cons, List.length_nil, List.length_map, Nat.reduceAdd, Option.some.injEq, if_true, if_false, reduceCtorEq, decide_eq_true_eq, Bool.not_eq_true, true_or, or_true, true_and, and_true, false_or, or_false, String.reduceEq, String.reduceBEq, Bool.or_true, Bool.true_or, Bool.or_false, Bool.false_or, beq_self_eq_true, Bool.not_true, Bool.not_false, Bool.false_eq_true]
  refine ⟨⟨by decide, by decide +kernel⟩, le_sl (by decide), 2, rfl, by decide, fun r r0 r2 => ?_⟩
  have hq : 0 ≤ (w.1 - low) / 4 := Int.ediv_nonneg (by omega) (by decide)
  have hq2 : (w.1 - low) / 4 ≤ w.1 - low := Int.ediv_le_self _ (by omega)
  generalize hM : (if (w.1 - low) / 4 > 1 then (w.1 - low) / 4 else 1) = M
  have hM1 : 1 ≤ M ∧ M ≤ w.1 - low := by rw [← hM]; split <;> omega
  obtain ⟨d, hd1, hd2⟩ := get_lt (l := [D.int (w.1 - low), D.int M]) r0 r2
  obtain ⟨v, rfl, hv⟩ : ∃ v, d = D.int v ∧ 1 ≤ v ∧ v ≤ w.1 - low := by
    simp only [List.mem_cons, List.not_mem_nil, or_false] at hd1
    rcases hd1 with rfl | rfl
    · exact ⟨_, rfl, by omega, by omega⟩
    · exact ⟨_, rfl, hM1⟩
  simp only [hd2, zNext, zSeq, zPass, zBreak, zCont, zNever, zExpr, zRet, zRetN, zIf, zAsg, zSetO, zFrz, zApp, zPar, zParO1, zParO2, zFor, sVar, sC, sOp, sB, sBi, sCall, aNil, aCons, sTup, sLst, oLst, bAnd, bOr, bNot, sAnd, sOr, sNot, sIf, sNeg, sChain, oNone, oSome, sSl, sLast, iSeqD, iEnumD, iZipD, iRg1, iRg2, iRg3, sLC, sLC2, bYes, addD, subD, mulD, fdivD, modD, powD, ltD, leD, gtD, geD, eqD, neD, isD, isntD, ixD, sumD, lenD, absD, maxD, minD, allD, anyD, intCD, tupCD, lstCD, isiD, reprD, isTy, seqD?, bindP, bindPs, wipeD, frz, isN_non, isN_int, isN_bl, isN_tup, isN_lst, ints?_map, bls?_map, ints?_mapf, bls?_mapf, fit_int, fit_bl, fit_non, eqv_int, eqv_bl, cast2, cast3, cast1, cast0, intD, intD0, List.set_cons_zero, List.set_cons_succ, List.getElem?_cons_zero, List.getElem?_cons_succ, List.map_cons, List.map_nil, List.length_cons, List.length_nil, List.length_map, Nat.reduceAdd, Option.some.injEq, if_true, if_false, reduceCtorEq, decide_eq_true_eq, Bool.not_eq_true, true_or, or_true, true_and, and_true, false_or, or_false, String.reduceEq, String.reduceBEq, Bool.or_true, Bool.true_or, Bool.or_false, Bool.false_or, beq_self_eq_true, Bool.not_true, Bool.not_false, Bool.false_eq_true]
  refine ⟨v, rfl, by omega, fun x x0 x1 => ?_⟩
  simp only [zNext, zSeq, zPass, zBreak, zCont, zNever, zExpr, zRet, zRetN, zIf, zAsg, zSetO, zFrz, zApp, zPar, zParO1, zParO2, zFor, sVar, sC, sOp, sB, sBi, sCall, aNil, aCons, sTup, sLst, oLst, bAnd, bOr, bNot, sAnd, sOr, sNot, sIf, sNeg, sChain, oNone, oSome, sSl, sLast, iSeqD, iEnumD, iZipD, iRg1, iRg2, iRg3, sLC, sLC2, bYes, addD, subD, mulD, fdivD, modD, powD, ltD, leD, gtD, geD, eqD, neD, isD, isntD, ixD, sumD, lenD, absD, maxD, minD, allD, anyD, intCD, tupCD, lstCD, isiD, reprD, isTy, seqD?, bindP, bindPs, wipeD, frz, isN_non, isN_int, isN_bl, isN_tup, isN_lst, ints?_map, bls?_map, ints?_mapf, bls?_mapf, fit_int, fit_bl, fit_non, eqv_int, eqv_bl, cast2, cast3, cast1, cast0, intD, intD0, List.set_cons_zero, List.set_cons_succ, List.getElem?_cons_zero, List.getElem?_cons_succ, List.map_cons, List.map_nil, List.length_cons, List.length_nil, List.length_map, Nat.reduceAdd, Option.some.injEq, if_true, if_false, reduceCtorEq, decide_eq_true_eq, Bool.not_eq_true, true_or, or_true, true_and, and_true, false_or, or_false, String.reduceEq, String.reduceBEq, Bool.or_true, Bool.true_or, Bool.or_false, Bool.false_or, beq_self_eq_true, Bool.not_true, Bool.not_false, Bool.false_eq_true]
  exact ⟨le_sl (by decide), hR low (low + 1 + x) l0 (by omega) (by omega)⟩
/-- one more like it, with much more room -/
def phi_law_wide : SpD := fun ds R => ∃ w : Wd, ds = [.bag, encW w] ∧ OkW w ∧ w.1 ≤ 400 ∧ ∀ w' : Wd, OkW w' → w'.2.map List.length = w.2.map List.length → R (encW w')
theorem len_law_wide : ∀ ds R, phi_law_wide ds R → ds.length = 2 := by rintro ds R ⟨w, rfl, _⟩; rfl
theorem wide_sum {f : Int} (hf : 1 ≤ f) : ∀ {ws ys : List Int}, All2 (fun x y => 1 ≤ y ∧ y ≤ x * f) ws ys → ys.sum ≤ ws.sum * f
  | _, _, .nil => by simp
  | _, _, .cons (x := x) (y := y) (xs := xs) (ys := ys) p h => by
    have := wide_sum hf h
    rw [List.sum_cons, List.sum_cons, Int.add_mul]
    omega
def z_law_wide : SDt := (zSeq (zAsg (sTup (aCons (sOp addD (sC (.int 1)) (sCall phi_law_far_draw (aCons (sVar 0) (aCons (sC (.int 2000)) aNil)))) (aCons (sCall phi_law_far_draw (aCons (sVar 0) (aCons (sC (.int 1000)) aNil))) aNil))) (.tp [(.nm 2), (.nm 3)]))
    (zSeq (zAsg (sBi tupCD (aCons (sLC (iSeqD (sOp ixD (sVar 1) (sC (.int 1)))) (.nm 5) bYes (sBi tupCD (aCons (sLC (iSeqD (sVar 5)) (.nm 6) bYes (sBi maxD (aCons (sC (.int 1)) (aCons (sOp subD (sOp mulD (sVar 6) (sVar 2)) (sCall phi_law_take (aCons (sVar 0) (aCons (sC (.int 3)) aNil)))) aNil))) [6]) aNil)) [5]) aNil)) (.nm 4))
    (zRet (sTup (aCons (sOp addD (sOp mulD (sOp ixD (sVar 1) (sC (.int 0))) (sVar 2)) (sVar 3)) (aCons (sVar 4) aNil))))))
abbrev N_law_wide : List Str := ["bag", "wardrobe", "factor", "more", "rails", "widths", "size"]
theorem rd_law_wide : ∀ ds R, phi_law_wide ds R → z_law_wide { nx := fun _ => R .non, rt := R } (startD N_law_wide ds) := by
  rintro ds R ⟨w, rfl, hw, h400, hR⟩
  show z_law_wide _ [.val .bag, .val (encW w), .un, .un, .un, .un, .un]
  have hW := hw.width
  simp only [z_law_wide, zNext, zSeq, zPass, zBreak, zCont, zNever, zExpr, zRet, zRetN, zIf, zAsg, zSetO, zFrz, zApp, zPar, zParO1, zParO2, zFor, sVar, sC, sOp, sB, sBi, sCall, aNil, aCons, sTup, sLst, oLst, bAnd, bOr, bNot, sAnd, sOr, sNot, sIf, sNeg, sChain, oNone, oSome, sSl, sLast, iSeqD, iEnumD, iZipD, iRg1, iRg2, iRg3, sLC, sLC2, bYes, addD, subD, mulD, fdivD, modD, powD, ltD, leD, gtD, geD, eqD, neD, isD, isntD, ixD, sumD, lenD, absD, maxD, minD, allD, anyD, intCD, tupCD, lstCD, isiD, reprD, isTy, seqD?, bindP, bindPs, wipeD, frz, isN_non, isN_int, isN_bl, isN_tup, isN_lst, ints?_map, bls?_map, ints?_mapf, bls?_mapf, fit_int, fit_bl, fit_non, eqv_int, eqv_bl, cast2, cast3, cast1, cast0, intD, intD0, List.set_cons_zero, List.set_cons_succ, List.getElem?_cons_zero, List.getElem?_cons_succ, List.map_cons, List.map_nil, List.length_cons, List.length_nil, List.length_map, Nat.reduceAdd, Option.some.injEq, if_true, if_false, reduceCtorEq, decide_eq_true_eq, Bool.not_eq_true, true_or, or_true, true_and, and_true, false_or, or_false, String.reduceEq, String.reduceBEq, Bool.or_true, Bool.true_or, Bool.or_false, Bool.false_or, beq_self_eq_true, Bool.not_true, Bool.not_false, Bool.false_eq_true]
  refine ⟨2000, rfl, by decide, fun f0 f1 f2 => ?_⟩
  refine ⟨1000, rfl, by decide, fun m m1 m2 => ?_⟩
  simp only [encW, atI_0, atI_1, zNext, zSeq, zPass, zBreak, zCont, zNever, zExpr, zRet, zRetN, zIf, zAsg, zSetO, zFrz, zApp, zPar, zParO1, zParO2, zFor, sVar, sC, sOp, sB, sBi, sCall, aNil, aCons, sTup, sLst, oLst, bAnd, bOr, bNot, sAnd, sOr, sNot, sIf, sNeg, sChain, oNone, oSome, sSl, sLast, iSeqD, iEnumD, iZipD, iRg1, iRg2, iRg3, sLC, sLC2, bYes, addD, subD, mulD, fdivD, modD, powD, ltD, leD, gtD, geD, eqD, neD, isD, isntD, ixD, sumD, lenD, absD, maxD, minD, allD, anyD, intCD, tupCD, lstCD, isiD, reprD, isTy, seqD?, bindP, bindPs, wipeD, frz, isN_non, isN_int, isN_bl, isN_tup, isN_lst, ints?_map, bls?_map, ints?_mapf, bls?_mapf, fit_int, fit_bl, fit_non, eqv_int, eqv_bl, cast2, cast3, cast1, cast0, intD, intD0, List.set_cons_zero, List.set_cons_succ, List.getElem?_cons_zero, List.getElem?_cons_succ, List.map_cons, List.map_nil, List.length_cons, List.length_nil, List.length_map, Nat.reduceAdd, Option.some.injEq, if_true, if_false, reduceCtorEq, decide_eq_true_eq, Bool.not_eq_true, true_or, or_true, true_and, and_true, false_or, or_false, String.reduceEq, String.reduceBEq, Bool.or_true, Bool.true_or, Bool.or_false, Bool.false_or, beq_self_eq_true, Bool.not_true, Bool.not_false, Bool.false_eq_true]
  generalize hF : 1 + f0 = f
  refine ⟨le_sl (by decide), ?_⟩
  refine lcGo_dem iT iT (fun ws ys => All2 (fun x y => 1 ≤ y ∧ y ≤ x * f) ws ys) w.2 _ _ (fun ws hws => ⟨_, rfl, fun R' hR' => ?_⟩) fun ys hys => ?_
  · have o := hw.each ws hws
    simp only [iT, zNext, zSeq, zPass, zBreak, zCont, zNever, zExpr, zRet, zRetN, zIf, zAsg, zSetO, zFrz, zApp, zPar, zParO1, zParO2, zFor, sVar, sC, sOp, sB, sBi, sCall, aNil, aCons, sTup, sLst, oLst, bAnd, bOr, bNot, sAnd, sOr, sNot, sIf, sNeg, sChain, oNone, oSome, sSl, sLast, iSeqD, iEnumD, iZipD, iRg1, iRg2, iRg3, sLC, sLC2, bYes, addD, subD, mulD, fdivD, modD, powD, ltD, leD, gtD, geD, eqD, neD, isD, isntD, ixD, sumD, lenD, absD, maxD, minD, allD, anyD, intCD, tupCD, lstCD, isiD, reprD, isTy, seqD?, bindP, bindPs, wipeD, frz, isN_non, isN_int, isN_bl, isN_tup, isN_lst, ints?_map, bls?_map, ints?_mapf, bls?_mapf, fit_int, fit_bl, fit_non, eqv_int, eqv_bl, cast2, cast3, cast1, cast0, intD, intD0, List.set_cons_zero, List.set_cons_succ, List.getElem?_cons_zero, List.getElem?_cons_succ, List.map_cons, List.map_nil, List.length_cons, List.length_nil, List.length_map, Nat.reduceAdd, Option.some.injEq, if_true, if_false, reduceCtorEq, decide_eq_true_eq, Bool.not_eq_true, true_or, or_true, true_and, and_true, false_or, or_false, String.reduceEq, String.reduceBEq, Bool.or_true, Bool.true_or, Bool.or_false, Bool.false_or, beq_self_eq_true, Bool.not_true, Bool.not_false, Bool.false_eq_true]
    refine lcGo_dem D.int D.int (fun x y => 1 ≤ y ∧ y ≤ x * f) ws _ _ (fun x hx => ⟨_, rfl, fun R2 hR2 => ?_⟩) fun ys hys => ?_
    · have hx := o.each x hx
      simp only [zNext, zSeq, zPass, zBreak, zCont, zNever, zExpr, zRet, zRetN, zIf, zAsg, zSetO, zFrz, zApp, zPar, zParO1, zParO2, zFor, sVar, sC, sOp, sB, sBi, sCall, aNil, aCons, sTup, sLst, oLst, bAnd, bOr, bNot, sAnd, sOr, sNot, sIf, sNeg, sChain, oNone, oSome, sSl, sLast, iSeqD, iEnumD, iZipD, iRg1, iRg2, iRg3, sLC, sLC2, bYes, addD, subD, mulD, fdivD, modD, powD, ltD, leD, gtD, geD, eqD, neD, isD, isntD, ixD, sumD, lenD, absD, maxD, minD, allD, anyD, intCD, tupCD, lstCD, isiD, reprD, isTy, seqD?, bindP, bindPs, wipeD, frz, isN_non, isN_int, isN_bl, isN_tup, isN_lst, ints?_map, bls?_map, ints?_mapf, bls?_mapf, fit_int, fit_bl, fit_non, eqv_int, eqv_bl, cast2, cast3, cast1, cast0, intD, intD0, List.set_cons_zero, List.set_cons_succ, List.getElem?_cons_zero, List.getElem?_cons_succ, List.map_cons, List.map_nil, List.length_cons, List.length_nil, List.length_map, Nat.reduceAdd, Option.some.injEq, if_true, if_false, reduceCtorEq, decide_eq_true_eq, Bool.not_eq_true, true_or, or_true, true_and, and_true, false_or, or_false, String.reduceEq, String.reduceBEq, Bool.or_true, Bool.true_or, Bool.or_false, Bool.false_or, beq_self_eq_true, Bool.not_true, Bool.not_false, Bool.false_eq_true]
      refine ⟨.inl (.inl ⟨by omega, by omega⟩), 3, rfl, by decide, fun t t0 t1 => ?_⟩
      simp only [zNext, zSeq, zPass, zBreak, zCont, zNever, zExpr, zRet, zRetN, zIf, zAsg, zSetO, zFrz, zApp, zPar, zParO1, zParO2, zFor, sVar, sC, sOp, sB, sBi, sCall, aNil, aCons, sTup, sLst, oLst, bAnd, bOr, bNot, sAnd, sOr, sNot, sIf, sNeg, sChain, oNone, oSome, sSl, sLast, iSeqD, iEnumD, iZipD, iRg1, iRg2, iRg3, sLC, sLC2, bYes, addD, subD, mulD, fdivD, modD, powD, ltD, leD, gtD, geD, eqD, neD, isD, isntD, ixD, sumD, lenD, absD, maxD, minD, allD, anyD, intCD, tupCD, lstCD, isiD, reprD, isTy, seqD?, bindP, bindPs, wipeD, frz, isN_non, isN_int, isN_bl, isN_tup, isN_lst, ints?_map, bls?_map, ints?_mapf, bls?_mapf, fit_int, fit_bl, fit_non, eqv_int, eqv_bl, cast2, cast3, cast1, cast0, intD, intD0, List.set_cons_zero, List.set_cons_succ, List.getElem?_cons_zero, List.getElem?_cons_succ, List.map_cons, List.map_nil, List.length_cons, List.length_nil, List.length_map, Nat.reduceAdd, Option.some.injEq, if_true, if_false, reduceCtorEq, decide_eq_true_eq, Bool.not_eq_true, true_or, or_true, true_and, and_true, false_or, or_false, String.reduceEq, String.reduceBEq, Bool.or_true, Bool.true_or, Bool.or_false, Bool.false_or, beq_self_eq_true, Bool.not_true, Bool.not_false, Bool.false_eq_true]
      refine hR2 _ ?_
      have : x * 1 ≤ x * f := Int.mul_le_mul_of_nonneg_left (by omega) (by omega)
      split <;> omega
    · exact hR' ys hys
  · rw [List.nil_append]
    try simp only [atI_0, zNext, zSeq, zPass, zBreak, zCont, zNever, zExpr, zRet, zRetN, zIf, zAsg, zSetO, zFrz, zApp, zPar, zParO1, zParO2, zFor, sVar, sC, sOp, sB, sBi, sCall, aNil, aCons, sTup, sLst, oLst, bAnd, bOr, bNot, sAnd, sOr, sNot, sIf, sNeg, sChain, oNone, oSome, sSl, sLast, iSeqD, iEnumD, iZipD, iRg1, iRg2, iRg3, sLC, sLC2, bYes, addD, subD, mulD, fdivD, modD, powD, ltD, leD, gtD, geD, eqD, neD, isD, isntD, ixD, sumD, lenD, absD, maxD, minD, allD, anyD, intCD, tupCD, lstCD, isiD, reprD, isTy, seqD?, bindP, bindPs, wipeD, frz, isN_non, isN_int, isN_bl, isN_tup, isN_lst, ints?_map, bls?_map, ints?_mapf, bls?_mapf, fit_int, fit_bl, fit_non, eqv_int, eqv_bl, cast2, cast3, cast1, cast0, intD, intD0, List.set_cons_zero, List.set_cons_succ, List.getElem?_cons_zero, List.getElem?_cons_succ, List.map_cons, List.map_nil, List.length_cons, List.length_nil, List.length_map, Nat.reduceAdd, Option.some.injEq, if_true, if_false, reduceCtorEq, decide_eq_true_eq, Bool.not_eq_true, true_or, or_true, true_and, and_true, false_or, or_false, String.reduceEq, String.reduceBEq, Bool.or_true, Bool.true_or, Bool.or_false, Bool.false_or, beq_self_eq_true, Bool.not_true, Bool.not_false, Bool.false_eq_true]
    refine ⟨.inl (.inl ⟨by omega, by omega⟩), le_sl (by decide), ?_⟩
    have hmul : w.1 * 1 ≤ w.1 * f := Int.mul_le_mul_of_nonneg_left (by omega) (by omega)
    have hmul2 : w.1 * f ≤ 400 * f := Int.mul_le_mul_of_nonneg_right (by omega) (by omega)
    refine hR (w.1 * f + m, ys) ⟨by show 1 ≤ w.1 * f + m ∧ w.1 * f + m ≤ 1000000; omega, by show 1 ≤ ys.length ∧ ys.length ≤ 4; rw [hys.length]; exact hw.rails, fun zs hzs => ?_⟩ ?_
    · obtain ⟨ws, hws, hq⟩ := hys.mem zs hzs
      have o := hw.each ws hws
      refine ⟨by rw [hq.length]; exact o.len, fun y hy => ?_, ?_⟩
      · obtain ⟨x, hx, p⟩ := hq.mem y hy
        have hx := o.each x hx
        have : x * f ≤ w.1 * f := Int.mul_le_mul_of_nonneg_right hx.2 (by omega)
        show 1 ≤ y ∧ y ≤ w.1 * f + m
        omega
      · have h1 := wide_sum (by omega) hq
        have h2 : ws.sum * f ≤ w.1 * f := Int.mul_le_mul_of_nonneg_right o.sum (by omega)
        show zs.sum ≤ w.1 * f + m
        omega
    · show ys.map List.length = w.2.map List.length
      clear hR
      revert hys
      generalize w.2 = l
      intro hys
      induction hys with
      | nil => rfl
      | cons p _ ih => rw [List.map_cons, List.map_cons, ih, p.length]
/-- the widest sum of a rail -/
def phi_most_open : SpD := fun ds R => ∃ w : Wd, ds = [encW w] ∧ OkW w ∧ ∀ m, m ∈ w.2.map List.sum → (∀ ws ∈ w.2, ws.sum ≤ m) → R (.int (w.1 - m))
theorem len_most_open : ∀ ds R, phi_most_open ds R → ds.length = 1 := by rintro ds R ⟨w, rfl, _⟩; rfl
def z_most_open : SDt := (zSeq (zExpr (sCall phi_need_wardrobe (aCons (sVar 0) aNil)))
    (zRet (sOp subD (sOp ixD (sVar 0) (sC (.int 0))) (sBi maxD (aCons (sLC (iSeqD (sOp ixD (sVar 0) (sC (.int 1)))) (.nm 1) bYes (sBi sumD (aCons (sVar 1) aNil)) [1]) aNil)))))
abbrev N_most_open : List Str := ["wardrobe", "widths"]
theorem rd_most_open : ∀ ds R, phi_most_open ds R → z_most_open { nx := fun _ => R .non, rt := R } (startD N_most_open ds) := by
  rintro ds R ⟨w, rfl, hw, hR⟩
  show z_most_open _ [.val (encW w), .un]
  simp only [z_most_open, zNext, zSeq, zPass, zBreak, zCont, zNever, zExpr, zRet, zRetN, zIf, zAsg, zSetO, zFrz, zApp, zPar, zParO1, zParO2, zFor, sVar, sC, sOp, sB, sBi, sCall, aNil, aCons, sTup, sLst, oLst, bAnd, bOr, bNot, sAnd, sOr, sNot, sIf, sNeg, sChain, oNone, oSome, sSl, sLast, iSeqD, iEnumD, iZipD, iRg1, iRg2, iRg3, sLC, sLC2, bYes, addD, subD, mulD, fdivD, modD, powD, ltD, leD, gtD, geD, eqD, neD, isD, isntD, ixD, sumD, lenD, absD, maxD, minD, allD, anyD, intCD, tupCD, lstCD, isiD, reprD, isTy, seqD?, bindP, bindPs, wipeD, frz, isN_non, isN_int, isN_bl, isN_tup, isN_lst, ints?_map, bls?_map, ints?_mapf, bls?_mapf, fit_int, fit_bl, fit_non, eqv_int, eqv_bl, cast2, cast3, cast1, cast0, intD, intD0, List.set_cons_zero, List.set_cons_succ, List.getElem?_cons_zero, List.getElem?_cons_succ, List.map_cons, List.map_nil, List.length_cons, List.length_nil, List.length_map, Nat.reduceAdd, Option.some.injEq, if_true, if_false, reduceCtorEq, decide_eq_true_eq, Bool.not_eq_true, true_or, or_true, true_and, and_true, false_or, or_false, String.reduceEq, String.reduceBEq, Bool.or_true, Bool.true_or, Bool.or_false, Bool.false_or, beq_self_eq_true, Bool.not_true, Bool.not_false, Bool.false_eq_true]
  refine ⟨w, rfl, hw, ?_⟩
  simp only [encW, atI_0, atI_1, zNext, zSeq, zPass, zBreak, zCont, zNever, zExpr, zRet, zRetN, zIf, zAsg, zSetO, zFrz, zApp, zPar, zParO1, zParO2, zFor, sVar, sC, sOp, sB, sBi, sCall, aNil, aCons, sTup, sLst, oLst, bAnd, bOr, bNot, sAnd, sOr, sNot, sIf, sNeg, sChain, oNone, oSome, sSl, sLast, iSeqD, iEnumD, iZipD, iRg1, iRg2, iRg3, sLC, sLC2, bYes, addD, subD, mulD, fdivD, modD, powD, ltD, leD, gtD, geD, eqD, neD, isD, isntD, ixD, sumD, lenD, absD, maxD, minD, allD, anyD, intCD, tupCD, lstCD, isiD, reprD, isTy, seqD?, bindP, bindPs, wipeD, frz, isN_non, isN_int, isN_bl, isN_tup, isN_lst, ints?_map, bls?_map, ints?_mapf, bls?_mapf, fit_int, fit_bl, fit_non, eqv_int, eqv_bl, cast2, cast3, cast1, cast0, intD, intD0, List.set_cons_zero, List.set_cons_succ, List.getElem?_cons_zero, List.getElem?_cons_succ, List.map_cons, List.map_nil, List.length_cons, List.length_nil, List.length_map, Nat.reduceAdd, Option.some.injEq, if_true, if_false, reduceCtorEq, decide_eq_true_eq, Bool.not_eq_true, true_or, or_true, true_and, and_true, false_or, or_false, String.reduceEq, String.reduceBEq, Bool.or_true, Bool.true_or, Bool.or_false, Bool.false_or, beq_self_eq_true, Bool.not_true, Bool.not_false, Bool.false_eq_true]
  refine lcGo_all iT (fun ws => .int ws.sum) w.2 _ (fun ws hws => ⟨_, rfl, fun R' hR' => ?_⟩) ?_
  · simp only [iT, zNext, zSeq, zPass, zBreak, zCont, zNever, zExpr, zRet, zRetN, zIf, zAsg, zSetO, zFrz, zApp, zPar, zParO1, zParO2, zFor, sVar, sC, sOp, sB, sBi, sCall, aNil, aCons, sTup, sLst, oLst, bAnd, bOr, bNot, sAnd, sOr, sNot, sIf, sNeg, sChain, oNone, oSome, sSl, sLast, iSeqD, iEnumD, iZipD, iRg1, iRg2, iRg3, sLC, sLC2, bYes, addD, subD, mulD, fdivD, modD, powD, ltD, leD, gtD, geD, eqD, neD, isD, isntD, ixD, sumD, lenD, absD, maxD, minD, allD, anyD, intCD, tupCD, lstCD, isiD, reprD, isTy, seqD?, bindP, bindPs, wipeD, frz, isN_non, isN_int, isN_bl, isN_tup, isN_lst, ints?_map, bls?_map, ints?_mapf, bls?_mapf, fit_int, fit_bl, fit_non, eqv_int, eqv_bl, cast2, cast3, cast1, cast0, intD, intD0, List.set_cons_zero, List.set_cons_succ, List.getElem?_cons_zero, List.getElem?_cons_succ, List.map_cons, List.map_nil, List.length_cons, List.length_nil, List.length_map, Nat.reduceAdd, Option.some.injEq, if_true, if_false, reduceCtorEq, decide_eq_true_eq, Bool.not_eq_true, true_or, or_true, true_and, and_true, false_or, or_false, String.reduceEq, String.reduceBEq, Bool.or_true, Bool.true_or, Bool.or_false, Bool.false_or, beq_self_eq_true, Bool.not_true, Bool.not_false, Bool.false_eq_true]
    exact hR'
  · simp only [zNext, zSeq, zPass, zBreak, zCont, zNever, zExpr, zRet, zRetN, zIf, zAsg, zSetO, zFrz, zApp, zPar, zParO1, zParO2, zFor, sVar, sC, sOp, sB, sBi, sCall, aNil, aCons, sTup, sLst, oLst, bAnd, bOr, bNot, sAnd, sOr, sNot, sIf, sNeg, sChain, oNone, oSome, sSl, sLast, iSeqD, iEnumD, iZipD, iRg1, iRg2, iRg3, sLC, sLC2, bYes, addD, subD, mulD, fdivD, modD, powD, ltD, leD, gtD, geD, eqD, neD, isD, isntD, ixD, sumD, lenD, absD, maxD, minD, allD, anyD, intCD, tupCD, lstCD, isiD, reprD, isTy, seqD?, bindP, bindPs, wipeD, frz, isN_non, isN_int, isN_bl, isN_tup, isN_lst, ints?_map, bls?_map, ints?_mapf, bls?_mapf, fit_int, fit_bl, fit_non, eqv_int, eqv_bl, cast2, cast3, cast1, cast0, intD, intD0, List.set_cons_zero, List.set_cons_succ, List.getElem?_cons_zero, List.getElem?_cons_succ, List.map_cons, List.map_nil, List.length_cons, List.length_nil, List.length_map, Nat.reduceAdd, Option.some.injEq, if_true, if_false, reduceCtorEq, decide_eq_true_eq, Bool.not_eq_true, true_or, or_true, true_and, and_true, false_or, or_false, String.reduceEq, String.reduceBEq, Bool.or_true, Bool.true_or, Bool.or_false, Bool.false_or, beq_self_eq_true, Bool.not_true, Bool.not_false, Bool.false_eq_true]
    refine ⟨by have := hw.rails.1; omega, fun m hm hy => ?_⟩
    exact hR m hm fun ws hws => hy _ (List.mem_map.mpr ⟨ws, hws, rfl⟩)
end SD

namespace SD
open L2 PyProof.Rows PySem PySem.Spec
/-- a wardrobe near another -/
def phi_law_near : SpD := fun ds R => ∃ w : Wd, ds = [.bag, encW w] ∧ OkW w ∧ w.1 ≤ 1000 ∧ ∀ w' : Wd, OkW w' → w'.1 ≤ w.1 + 2 → R (encW w')
theorem len_law_near : ∀ ds R, phi_law_near ds R → ds.length = 2 := by rintro ds R ⟨w, rfl, _⟩; rfl
theorem enc_split (rs : List (List Int)) (i : Nat) (x : List Int) : (rs.map iT).take i ++ [D.tup (x.map D.int)] ++ (rs.map iT).drop (i + 1) = (rs.take i ++ [x] ++ rs.drop (i + 1)).map iT := by
  rw [List.map_append, List.map_append, List.map_take, List.map_drop]
  rfl
theorem ok_split {W : Int} {rs : List (List Int)} {i : Nat} {x : List Int} (h : OkW (W, rs)) (hi : i < rs.length) (o : OkRail W x) : OkW (W, rs.take i ++ [x] ++ rs.drop (i + 1)) := by
  refine ⟨h.width, ?_, fun ws hws => ?_⟩
  · have := h.rails
    simp only [List.length_append, List.length_take, List.length_drop, List.length_singleton] at this ⊢
    omega
  · rcases List.mem_append.mp hws with z | z
    · rcases List.mem_append.mp z with z | z
      · exact h.each ws (List.mem_of_mem_take z)
      · rw [List.mem_singleton.mp z]; exact o
    · exact h.each ws (List.mem_of_mem_drop z)
theorem OkRail.tail {W : Int} {x : List Int} (h : OkRail W x) : OkRail W (x.drop 1) := by
  refine ⟨by have := h.len; rw [List.length_drop]; omega, fun y hy => h.each y (List.mem_of_mem_drop hy), ?_⟩
  have a := take_drop_sum x 1
  have b : 0 ≤ (x.take 1).sum := sum_nn fun y hy => by have := (h.each y (List.mem_of_mem_take hy)).1; omega
  have := h.sum
  omega
theorem OkRail.more {W s : Int} {x : List Int} (h : OkRail W x) (h6 : x.length < 6) (hs : 1 ≤ s) (hW : x.sum + s ≤ W) : OkRail W (x ++ [s]) := by
  have b : 0 ≤ x.sum := sum_nn fun y hy => by have := (h.each y hy).1; omega
  refine ⟨by rw [List.length_append, List.length_singleton]; omega, fun y hy => ?_, by rw [List.sum_append, List.sum_singleton]; exact hW⟩
  (rcases List.mem_append.mp hy with hy | hy)
  · exact h.each y hy
  · rw [List.mem_singleton.mp hy]; omega
theorem OkRail.one {W s : Int} (hs : 1 ≤ s) (hW : s ≤ W) : OkRail W [s] :=
  ⟨by rw [List.length_singleton]; decide, fun y hy => by rw [List.mem_singleton.mp hy]; exact ⟨hs, hW⟩, by rw [List.sum_singleton]; exact hW⟩
def z_law_near : SDt := (zSeq (zAsg (sVar 1) (.tp [(.nm 2), (.nm 3)]))
    (zSeq (zPar 4 5 (sCall phi_law_take (aCons (sVar 0) (aCons (sC (.int 4)) aNil))) (sCall phi_law_take (aCons (sVar 0) (aCons (sBi lenD (aCons (sVar 3) aNil)) aNil))))
    (zSeq (zAsg (sOp ixD (sVar 3) (sVar 5)) (.nm 6))
    (zSeq (zIf (sB (sOp eqD (sVar 4) (sC (.int 0)))) (zRet (sTup (aCons (sOp addD (sVar 2) (sCall phi_law_take (aCons (sVar 0) (aCons (sC (.int 3)) aNil)))) (aCons (sVar 3) aNil))))
      zNext)
    (zSeq (zIf (sB (sOp eqD (sVar 4) (sC (.int 1)))) (zRet (sTup (aCons (sVar 2) (aCons (sOp addD (sOp addD (sSl (sVar 3) oNone (oSome (sVar 5))) (sTup (aCons (sSl (sVar 6) (oSome (sC (.int 1))) oNone) aNil))) (sSl (sVar 3) (oSome (sOp addD (sVar 5) (sC (.int 1)))) oNone)) aNil))))
      zNext)
    (zSeq (zAsg (sOp addD (sC (.int 1)) (sCall phi_law_take (aCons (sVar 0) (aCons (sC (.int 3)) aNil)))) (.nm 7))
    (zSeq (zIf (bAnd (sB (sOp eqD (sVar 4) (sC (.int 2)))) (bAnd (sB (sOp leD (sOp addD (sBi sumD (aCons (sVar 6) aNil)) (sVar 7)) (sVar 2))) (sB (sOp ltD (sBi lenD (aCons (sVar 6) aNil)) (sC (.int 6)))))) (zRet (sTup (aCons (sVar 2) (aCons (sOp addD (sOp addD (sSl (sVar 3) oNone (oSome (sVar 5))) (sTup (aCons (sOp addD (sVar 6) (sTup (aCons (sVar 7) aNil))) aNil))) (sSl (sVar 3) (oSome (sOp addD (sVar 5) (sC (.int 1)))) oNone)) aNil))))
      zNext)
    (zRet (sIf (sB (sOp leD (sVar 7) (sVar 2))) (sTup (aCons (sVar 2) (aCons (sSl (sOp addD (sVar 3) (sTup (aCons (sTup (aCons (sVar 7) aNil)) aNil))) oNone (oSome (sC (.int 4)))) aNil))) (sVar 1))))))))))
abbrev N_law_near : List Str := ["bag", "wardrobe", "width", "rails", "way", "rail", "widths", "size"]
theorem rd_law_near : ∀ ds R, phi_law_near ds R → z_law_near { nx := fun _ => R .non, rt := R } (startD N_law_near ds) := by
  rintro ds R ⟨w, rfl, hw, h1000, hR⟩
  obtain ⟨W, rs⟩ := w
  show z_law_near _ [.val .bag, .val (encW (W, rs)), .un, .un, .un, .un, .un, .un]
  have hr := hw.rails
  have hW := hw.width
  simp only at hr hW h1000
  simp only [z_law_near, encW, zNext, zSeq, zPass, zBreak, zCont, zNever, zExpr, zRet, zRetN, zIf, zAsg, zSetO, zFrz, zApp, zPar, zParO1, zParO2, zFor, sVar, sC, sOp, sB, sBi, sCall, aNil, aCons, sTup, sLst, oLst, bAnd, bOr, bNot, sAnd, sOr, sNot, sIf, sNeg, sChain, oNone, oSome, sSl, sLast, iSeqD, iEnumD, iZipD, iRg1, iRg2, iRg3, sLC, sLC2, bYes, addD, subD, mulD, fdivD, modD, powD, ltD, leD, gtD, geD, eqD, neD, isD, isntD, ixD, sumD, lenD, absD, maxD, minD, allD, anyD, intCD, tupCD, lstCD, isiD, reprD, isTy, seqD?, bindP, bindPs, wipeD, frz, isN_non, isN_int, isN_bl, isN_tup, isN_lst, ints?_map, bls?_map, ints?_mapf, bls?_mapf, fit_int, fit_bl, fit_non, eqv_int, eqv_bl, cast2, cast3, cast1, cast0, intD, intD0, List.set_cons_zero, List.set_cons_succ, List.getElem?_cons_zero, List.getElem?_cons_succ, List.map_cons, List.map_nil, List.length_cons, List.length_nil, List.length_map, Nat.reduceAdd, Option.some.injEq, if_true, if_false, reduceCtorEq, decide_eq_true_eq, Bool.not_eq_true, true_or, or_true, true_and, and_true, false_or, or_false, String.reduceEq, String.reduceBEq, Bool.or_true, Bool.true_or, Bool.or_false, Bool.false_or, beq_self_eq_true, Bool.not_true, Bool.not_false, Bool.false_eq_true]
  refine ⟨4, rfl, by decide, fun way y1 y2 => ?_⟩
  simp only [zNext, zSeq, zPass, zBreak, zCont, zNever, zExpr, zRet, zRetN, zIf, zAsg, zSetO, zFrz, zApp, zPar, zParO1, zParO2, zFor, sVar, sC, sOp, sB, sBi, sCall, aNil, aCons, sTup, sLst, oLst, bAnd, bOr, bNot, sAnd, sOr, sNot, sIf, sNeg, sChain, oNone, oSome, sSl, sLast, iSeqD, iEnumD, iZipD, iRg1, iRg2, iRg3, sLC, sLC2, bYes, addD, subD, mulD, fdivD, modD, powD, ltD, leD, gtD, geD, eqD, neD, isD, isntD, ixD, sumD, lenD, absD, maxD, minD, allD, anyD, intCD, tupCD, lstCD, isiD, reprD, isTy, seqD?, bindP, bindPs, wipeD, frz, isN_non, isN_int, isN_bl, isN_tup, isN_lst, ints?_map, bls?_map, ints?_mapf, bls?_mapf, fit_int, fit_bl, fit_non, eqv_int, eqv_bl, cast2, cast3, cast1, cast0, intD, intD0, List.set_cons_zero, List.set_cons_succ, List.getElem?_cons_zero, List.getElem?_cons_succ, List.map_cons, List.map_nil, List.length_cons, List.length_nil, List.length_map, Nat.reduceAdd, Option.some.injEq, if_true, if_false, reduceCtorEq, decide_eq_true_eq, Bool.not_eq_true, true_or, or_true, true_and, and_true, false_or, or_false, String.reduceEq, String.reduceBEq, Bool.or_true, Bool.true_or, Bool.or_false, Bool.false_or, beq_self_eq_true, Bool.not_true, Bool.not_false, Bool.false_eq_true]
  refine ⟨rs.length, rfl, by omega, fun r0 r1 r2 => ?_⟩
  obtain ⟨i, rfl⟩ : ∃ n : Nat, r0 = (n : Int) := ⟨r0.toNat, (Int.toNat_of_nonneg r1).symm⟩
  have hi : i < rs.length := by omega
  have hx : rs[i] ∈ rs := List.getElem_mem hi
  have ox := hw.each _ hx
  generalize hX : rs[i] = x at hx ox
  have e0 : L2.atI (rs.map iT) (i : Int) = some (iT x) := atI_nat (by rw [List.getElem?_map, List.getElem?_eq_getElem hi, hX]; rfl)
  simp only [e0, zNext, zSeq, zPass, zBreak, zCont, zNever, zExpr, zRet, zRetN, zIf, zAsg, zSetO, zFrz, zApp, zPar, zParO1, zParO2, zFor, sVar, sC, sOp, sB, sBi, sCall, aNil, aCons, sTup, sLst, oLst, bAnd, bOr, bNot, sAnd, sOr, sNot, sIf, sNeg, sChain, oNone, oSome, sSl, sLast, iSeqD, iEnumD, iZipD, iRg1, iRg2, iRg3, sLC, sLC2, bYes, addD, subD, mulD, fdivD, modD, powD, ltD, leD, gtD, geD, eqD, neD, isD, isntD, ixD, sumD, lenD, absD, maxD, minD, allD, anyD, intCD, tupCD, lstCD, isiD, reprD, isTy, seqD?, bindP, bindPs, wipeD, frz, isN_non, isN_int, isN_bl, isN_tup, isN_lst, ints?_map, bls?_map, ints?_mapf, bls?_mapf, fit_int, fit_bl, fit_non, eqv_int, eqv_bl, cast2, cast3, cast1, cast0, intD, intD0, List.set_cons_zero, List.set_cons_succ, List.getElem?_cons_zero, List.getElem?_cons_succ, List.map_cons, List.map_nil, List.length_cons, List.length_nil, List.length_map, Nat.reduceAdd, Option.some.injEq, if_true, if_false, reduceCtorEq, decide_eq_true_eq, Bool.not_eq_true, true_or, or_true, true_and, and_true, false_or, or_false, String.reduceEq, String.reduceBEq, Bool.or_true, Bool.true_or, Bool.or_false, Bool.false_or, beq_self_eq_true, Bool.not_true, Bool.not_false, Bool.false_eq_true]
  by_cases c0 : way = 0
  · subst c0
    simp only [zNext, zSeq, zPass, zBreak, zCont, zNever, zExpr, zRet, zRetN, zIf, zAsg, zSetO, zFrz, zApp, zPar, zParO1, zParO2, zFor, sVar, sC, sOp, sB, sBi, sCall, aNil, aCons, sTup, sLst, oLst, bAnd, bOr, bNot, sAnd, sOr, sNot, sIf, sNeg, sChain, oNone, oSome, sSl, sLast, iSeqD, iEnumD, iZipD, iRg1, iRg2, iRg3, sLC, sLC2, bYes, addD, subD, mulD, fdivD, modD, powD, ltD, leD, gtD, geD, eqD, neD, isD, isntD, ixD, sumD, lenD, absD, maxD, minD, allD, anyD, intCD, tupCD, lstCD, isiD, reprD, isTy, seqD?, bindP, bindPs, wipeD, frz, isN_non, isN_int, isN_bl, isN_tup, isN_lst, ints?_map, bls?_map, ints?_mapf, bls?_mapf, fit_int, fit_bl, fit_non, eqv_int, eqv_bl, cast2, cast3, cast1, cast0, intD, intD0, List.set_cons_zero, List.set_cons_succ, List.getElem?_cons_zero, List.getElem?_cons_succ, List.map_cons, List.map_nil, List.length_cons, List.length_nil, List.length_map, Nat.reduceAdd, Option.some.injEq, if_true, if_false, reduceCtorEq, decide_eq_true_eq, Bool.not_eq_true, true_or, or_true, true_and, and_true, false_or, or_false, String.reduceEq, String.reduceBEq, Bool.or_true, Bool.true_or, Bool.or_false, Bool.false_or, beq_self_eq_true, Bool.not_true, Bool.not_false, Bool.false_eq_true]
    refine ⟨3, rfl, by decide, fun t t0 t1 => ?_⟩
    simp only [zNext, zSeq, zPass, zBreak, zCont, zNever, zExpr, zRet, zRetN, zIf, zAsg, zSetO, zFrz, zApp, zPar, zParO1, zParO2, zFor, sVar, sC, sOp, sB, sBi, sCall, aNil, aCons, sTup, sLst, oLst, bAnd, bOr, bNot, sAnd, sOr, sNot, sIf, sNeg, sChain, oNone, oSome, sSl, sLast, iSeqD, iEnumD, iZipD, iRg1, iRg2, iRg3, sLC, sLC2, bYes, addD, subD, mulD, fdivD, modD, powD, ltD, leD, gtD, geD, eqD, neD, isD, isntD, ixD, sumD, lenD, absD, maxD, minD, allD, anyD, intCD, tupCD, lstCD, isiD, reprD, isTy, seqD?, bindP, bindPs, wipeD, frz, isN_non, isN_int, isN_bl, isN_tup, isN_lst, ints?_map, bls?_map, ints?_mapf, bls?_mapf, fit_int, fit_bl, fit_non, eqv_int, eqv_bl, cast2, cast3, cast1, cast0, intD, intD0, List.set_cons_zero, List.set_cons_succ, List.getElem?_cons_zero, List.getElem?_cons_succ, List.map_cons, List.map_nil, List.length_cons, List.length_nil, List.length_map, Nat.reduceAdd, Option.some.injEq, if_true, if_false, reduceCtorEq, decide_eq_true_eq, Bool.not_eq_true, true_or, or_true, true_and, and_true, false_or, or_false, String.reduceEq, String.reduceBEq, Bool.or_true, Bool.true_or, Bool.or_false, Bool.false_or, beq_self_eq_true, Bool.not_true, Bool.not_false, Bool.false_eq_true]
    refine ⟨le_sl (by decide), hR (W + t, rs) ⟨by show 1 ≤ W + t ∧ W + t ≤ 1000000; omega, hr, fun ws h => ?_⟩ (by show W + t ≤ W + 2; omega)⟩
    have o := hw.each ws h
    exact ⟨o.len, fun y hy => by have := o.each y hy; show 1 ≤ y ∧ y ≤ W + t; simp only at this; omega, by have := o.sum; show ws.sum ≤ W + t; simp only at this; omega⟩
  have d0 : (way == 0) = false := by simp [c0]
  simp only [d0, zNext, zSeq, zPass, zBreak, zCont, zNever, zExpr, zRet, zRetN, zIf, zAsg, zSetO, zFrz, zApp, zPar, zParO1, zParO2, zFor, sVar, sC, sOp, sB, sBi, sCall, aNil, aCons, sTup, sLst, oLst, bAnd, bOr, bNot, sAnd, sOr, sNot, sIf, sNeg, sChain, oNone, oSome, sSl, sLast, iSeqD, iEnumD, iZipD, iRg1, iRg2, iRg3, sLC, sLC2, bYes, addD, subD, mulD, fdivD, modD, powD, ltD, leD, gtD, geD, eqD, neD, isD, isntD, ixD, sumD, lenD, absD, maxD, minD, allD, anyD, intCD, tupCD, lstCD, isiD, reprD, isTy, seqD?, bindP, bindPs, wipeD, frz, isN_non, isN_int, isN_bl, isN_tup, isN_lst, ints?_map, bls?_map, ints?_mapf, bls?_mapf, fit_int, fit_bl, fit_non, eqv_int, eqv_bl, cast2, cast3, cast1, cast0, intD, intD0, List.set_cons_zero, List.set_cons_succ, List.getElem?_cons_zero, List.getElem?_cons_succ, List.map_cons, List.map_nil, List.length_cons, List.length_nil, List.length_map, Nat.reduceAdd, Option.some.injEq, if_true, if_false, reduceCtorEq, decide_eq_true_eq, Bool.not_eq_true, true_or, or_true, true_and, and_true, false_or, or_false, String.reduceEq, String.reduceBEq, Bool.or_true, Bool.true_or, Bool.or_false, Bool.false_or, beq_self_eq_true, Bool.not_true, Bool.not_false, Bool.false_eq_true]
  (try rw [if_neg Bool.false_ne_true])
  by_cases c1 : way = 1
  · subst c1
    simp only [zNext, zSeq, zPass, zBreak, zCont, zNever, zExpr, zRet, zRetN, zIf, zAsg, zSetO, zFrz, zApp, zPar, zParO1, zParO2, zFor, sVar, sC, sOp, sB, sBi, sCall, aNil, aCons, sTup, sLst, oLst, bAnd, bOr, bNot, sAnd, sOr, sNot, sIf, sNeg, sChain, oNone, oSome, sSl, sLast, iSeqD, iEnumD, iZipD, iRg1, iRg2, iRg3, sLC, sLC2, bYes, addD, subD, mulD, fdivD, modD, powD, ltD, leD, gtD, geD, eqD, neD, isD, isntD, ixD, sumD, lenD, absD, maxD, minD, allD, anyD, intCD, tupCD, lstCD, isiD, reprD, isTy, seqD?, bindP, bindPs, wipeD, frz, isN_non, isN_int, isN_bl, isN_tup, isN_lst, ints?_map, bls?_map, ints?_mapf, bls?_mapf, fit_int, fit_bl, fit_non, eqv_int, eqv_bl, cast2, cast3, cast1, cast0, intD, intD0, List.set_cons_zero, List.set_cons_succ, List.getElem?_cons_zero, List.getElem?_cons_succ, List.map_cons, List.map_nil, List.length_cons, List.length_nil, List.length_map, Nat.reduceAdd, Option.some.injEq, if_true, if_false, reduceCtorEq, decide_eq_true_eq, Bool.not_eq_true, true_or, or_true, true_and, and_true, false_or, or_false, String.reduceEq, String.reduceBEq, Bool.or_true, Bool.true_or, Bool.or_false, Bool.false_or, beq_self_eq_true, Bool.not_true, Bool.not_false, Bool.false_eq_true]
    try rw [if_pos rfl]
    simp only [cut_hi, cut_lo1, cut_lo_1, iT, zNext, zSeq, zPass, zBreak, zCont, zNever, zExpr, zRet, zRetN, zIf, zAsg, zSetO, zFrz, zApp, zPar, zParO1, zParO2, zFor, sVar, sC, sOp, sB, sBi, sCall, aNil, aCons, sTup, sLst, oLst, bAnd, bOr, bNot, sAnd, sOr, sNot, sIf, sNeg, sChain, oNone, oSome, sSl, sLast, iSeqD, iEnumD, iZipD, iRg1, iRg2, iRg3, sLC, sLC2, bYes, addD, subD, mulD, fdivD, modD, powD, ltD, leD, gtD, geD, eqD, neD, isD, isntD, ixD, sumD, lenD, absD, maxD, minD, allD, anyD, intCD, tupCD, lstCD, isiD, reprD, isTy, seqD?, bindP, bindPs, wipeD, frz, isN_non, isN_int, isN_bl, isN_tup, isN_lst, ints?_map, bls?_map, ints?_mapf, bls?_mapf, fit_int, fit_bl, fit_non, eqv_int, eqv_bl, cast2, cast3, cast1, cast0, intD, intD0, List.set_cons_zero, List.set_cons_succ, List.getElem?_cons_zero, List.getElem?_cons_succ, List.map_cons, List.map_nil, List.length_cons, List.length_nil, List.length_map, Nat.reduceAdd, Option.some.injEq, if_true, if_false, reduceCtorEq, decide_eq_true_eq, Bool.not_eq_true, true_or, or_true, true_and, and_true, false_or, or_false, String.reduceEq, String.reduceBEq, Bool.or_true, Bool.true_or, Bool.or_false, Bool.false_or, beq_self_eq_true, Bool.not_true, Bool.not_false, Bool.false_eq_true]
    rw [show (x.map D.int).drop 1 = (x.drop 1).map D.int from List.map_drop.symm, enc_split]
    have hl : (List.take i (List.map iT rs)).length ≤ rs.length := by rw [List.length_take, List.length_map]; omega
    have hl2 : (List.drop (i + 1) (List.map iT rs)).length ≤ rs.length := by rw [List.length_drop, List.length_map]; omega
    exact ⟨le_sl (by decide), le_sl (by omega), le_sl (by rw [List.length_append, List.length_singleton]; omega), le_sl (by decide), hR (W, _) (ok_split hw hi ox.tail) (by show W ≤ W + 2; omega)⟩
  have d1 : (way == 1) = false := by simp [c1]
  simp only [d1, zNext, zSeq, zPass, zBreak, zCont, zNever, zExpr, zRet, zRetN, zIf, zAsg, zSetO, zFrz, zApp, zPar, zParO1, zParO2, zFor, sVar, sC, sOp, sB, sBi, sCall, aNil, aCons, sTup, sLst, oLst, bAnd, bOr, bNot, sAnd, sOr, sNot, sIf, sNeg, sChain, oNone, oSome, sSl, sLast, iSeqD, iEnumD, iZipD, iRg1, iRg2, iRg3, sLC, sLC2, bYes, addD, subD, mulD, fdivD, modD, powD, ltD, leD, gtD, geD, eqD, neD, isD, isntD, ixD, sumD, lenD, absD, maxD, minD, allD, anyD, intCD, tupCD, lstCD, isiD, reprD, isTy, seqD?, bindP, bindPs, wipeD, frz, isN_non, isN_int, isN_bl, isN_tup, isN_lst, ints?_map, bls?_map, ints?_mapf, bls?_mapf, fit_int, fit_bl, fit_non, eqv_int, eqv_bl, cast2, cast3, cast1, cast0, intD, intD0, List.set_cons_zero, List.set_cons_succ, List.getElem?_cons_zero, List.getElem?_cons_succ, List.map_cons, List.map_nil, List.length_cons, List.length_nil, List.length_map, Nat.reduceAdd, Option.some.injEq, if_true, if_false, reduceCtorEq, decide_eq_true_eq, Bool.not_eq_true, true_or, or_true, true_and, and_true, false_or, or_false, String.reduceEq, String.reduceBEq, Bool.or_true, Bool.true_or, Bool.or_false, Bool.false_or, beq_self_eq_true, Bool.not_true, Bool.not_false, Bool.false_eq_true]
  refine ⟨3, rfl, by decide, fun s0 s1 s2 => ?_⟩
  have last : 1 ≤ sizeLine ∧ (if 1 + s0 ≤ W then 1 ≤ sizeLine ∧ 1 ≤ sizeLine ∧ (rs.length + 1 ≤ sizeLine) ∧ 2 ≤ sizeLine ∧ R (D.tup [D.int W, D.tup ((rs.map iT ++ [D.tup [D.int (1 + s0)]]).take 4)]) else R (D.tup [D.int W, D.tup (rs.map iT)])) := by
    refine ⟨le_sl (by decide), ?_⟩
    split
    · rename_i c
      refine ⟨le_sl (by decide), le_sl (by decide), le_sl (by omega), le_sl (by decide), ?_⟩
      have e : (rs.map iT ++ [D.tup [D.int (1 + s0)]]).take 4 = ((rs ++ [[1 + s0]]).take 4).map iT := by
        rw [List.map_take, List.map_append]; rfl
      rw [e]
      refine hR (W, _) ⟨hw.width, ?_, fun ws h => ?_⟩ (by show W ≤ W + 2; omega)
      · simp only [List.length_take, List.length_append, List.length_singleton]; omega
      · rcases List.mem_append.mp (List.mem_of_mem_take h) with h | h
        · exact hw.each ws h
        · rw [List.mem_singleton.mp h]; exact OkRail.one (by omega) c
    · exact hR (W, rs) hw (by show W ≤ W + 2; omega)
  have last2 := last.2
  by_cases c2 : way = 2
  · subst c2
    simp only [iT, zNext, zSeq, zPass, zBreak, zCont, zNever, zExpr, zRet, zRetN, zIf, zAsg, zSetO, zFrz, zApp, zPar, zParO1, zParO2, zFor, sVar, sC, sOp, sB, sBi, sCall, aNil, aCons, sTup, sLst, oLst, bAnd, bOr, bNot, sAnd, sOr, sNot, sIf, sNeg, sChain, oNone, oSome, sSl, sLast, iSeqD, iEnumD, iZipD, iRg1, iRg2, iRg3, sLC, sLC2, bYes, addD, subD, mulD, fdivD, modD, powD, ltD, leD, gtD, geD, eqD, neD, isD, isntD, ixD, sumD, lenD, absD, maxD, minD, allD, anyD, intCD, tupCD, lstCD, isiD, reprD, isTy, seqD?, bindP, bindPs, wipeD, frz, isN_non, isN_int, isN_bl, isN_tup, isN_lst, ints?_map, bls?_map, ints?_mapf, bls?_mapf, fit_int, fit_bl, fit_non, eqv_int, eqv_bl, cast2, cast3, cast1, cast0, intD, intD0, List.set_cons_zero, List.set_cons_succ, List.getElem?_cons_zero, List.getElem?_cons_succ, List.map_cons, List.map_nil, List.length_cons, List.length_nil, List.length_map, Nat.reduceAdd, Option.some.injEq, if_true, if_false, reduceCtorEq, decide_eq_true_eq, Bool.not_eq_true, true_or, or_true, true_and, and_true, false_or, or_false, String.reduceEq, String.reduceBEq, Bool.or_true, Bool.true_or, Bool.or_false, Bool.false_or, beq_self_eq_true, Bool.not_true, Bool.not_false, Bool.false_eq_true]
    by_cases c3 : x.sum + (1 + s0) ≤ W
    · rw [if_pos c3]
      by_cases c4 : (x.length : Int) < 6
      · rw [if_pos c4]
        simp only [cut_hi, cut_lo1, zNext, zSeq, zPass, zBreak, zCont, zNever, zExpr, zRet, zRetN, zIf, zAsg, zSetO, zFrz, zApp, zPar, zParO1, zParO2, zFor, sVar, sC, sOp, sB, sBi, sCall, aNil, aCons, sTup, sLst, oLst, bAnd, bOr, bNot, sAnd, sOr, sNot, sIf, sNeg, sChain, oNone, oSome, sSl, sLast, iSeqD, iEnumD, iZipD, iRg1, iRg2, iRg3, sLC, sLC2, bYes, addD, subD, mulD, fdivD, modD, powD, ltD, leD, gtD, geD, eqD, neD, isD, isntD, ixD, sumD, lenD, absD, maxD, minD, allD, anyD, intCD, tupCD, lstCD, isiD, reprD, isTy, seqD?, bindP, bindPs, wipeD, frz, isN_non, isN_int, isN_bl, isN_tup, isN_lst, ints?_map, bls?_map, ints?_mapf, bls?_mapf, fit_int, fit_bl, fit_non, eqv_int, eqv_bl, cast2, cast3, cast1, cast0, intD, intD0, List.set_cons_zero, List.set_cons_succ, List.getElem?_cons_zero, List.getElem?_cons_succ, List.map_cons, List.map_nil, List.length_cons, List.length_nil, List.length_map, Nat.reduceAdd, Option.some.injEq, if_true, if_false, reduceCtorEq, decide_eq_true_eq, Bool.not_eq_true, true_or, or_true, true_and, and_true, false_or, or_false, String.reduceEq, String.reduceBEq, Bool.or_true, Bool.true_or, Bool.or_false, Bool.false_or, beq_self_eq_true, Bool.not_true, Bool.not_false, Bool.false_eq_true]
        have e : List.map D.int x ++ [D.int (1 + s0)] = (x ++ [1 + s0]).map D.int := by rw [List.map_append]; rfl
        have hl : (List.take i (List.map iT rs)).length ≤ rs.length := by rw [List.length_take, List.length_map]; omega
        have hl2 : (List.drop (i + 1) (List.map iT rs)).length ≤ rs.length := by rw [List.length_drop, List.length_map]; omega
        have hq := hR (W, _) (ok_split hw hi (ox.more (by omega) (show 1 ≤ 1 + s0 by omega) c3)) (by show W ≤ W + 2; omega)
        unfold encW at hq
        rw [← enc_split] at hq
        rw [e]
        exact ⟨le_sl (by decide), le_sl (by omega), le_sl (by decide), le_sl (by omega), le_sl (by rw [List.length_append, List.length_singleton]; omega), le_sl (by decide), hq⟩
      · rw [if_neg c4]
        simp only [cut_hi_4, zNext, zSeq, zPass, zBreak, zCont, zNever, zExpr, zRet, zRetN, zIf, zAsg, zSetO, zFrz, zApp, zPar, zParO1, zParO2, zFor, sVar, sC, sOp, sB, sBi, sCall, aNil, aCons, sTup, sLst, oLst, bAnd, bOr, bNot, sAnd, sOr, sNot, sIf, sNeg, sChain, oNone, oSome, sSl, sLast, iSeqD, iEnumD, iZipD, iRg1, iRg2, iRg3, sLC, sLC2, bYes, addD, subD, mulD, fdivD, modD, powD, ltD, leD, gtD, geD, eqD, neD, isD, isntD, ixD, sumD, lenD, absD, maxD, minD, allD, anyD, intCD, tupCD, lstCD, isiD, reprD, isTy, seqD?, bindP, bindPs, wipeD, frz, isN_non, isN_int, isN_bl, isN_tup, isN_lst, ints?_map, bls?_map, ints?_mapf, bls?_mapf, fit_int, fit_bl, fit_non, eqv_int, eqv_bl, cast2, cast3, cast1, cast0, intD, intD0, List.set_cons_zero, List.set_cons_succ, List.getElem?_cons_zero, List.getElem?_cons_succ, List.map_cons, List.map_nil, List.length_cons, List.length_nil, List.length_map, Nat.reduceAdd, Option.some.injEq, if_true, if_false, reduceCtorEq, decide_eq_true_eq, Bool.not_eq_true, true_or, or_true, true_and, and_true, false_or, or_false, String.reduceEq, String.reduceBEq, Bool.or_true, Bool.true_or, Bool.or_false, Bool.false_or, beq_self_eq_true, Bool.not_true, Bool.not_false, Bool.false_eq_true]
        exact last2
    · rw [if_neg c3]
      simp only [cut_hi_4, zNext, zSeq, zPass, zBreak, zCont, zNever, zExpr, zRet, zRetN, zIf, zAsg, zSetO, zFrz, zApp, zPar, zParO1, zParO2, zFor, sVar, sC, sOp, sB, sBi, sCall, aNil, aCons, sTup, sLst, oLst, bAnd, bOr, bNot, sAnd, sOr, sNot, sIf, sNeg, sChain, oNone, oSome, sSl, sLast, iSeqD, iEnumD, iZipD, iRg1, iRg2, iRg3, sLC, sLC2, bYes, addD, subD, mulD, fdivD, modD, powD, ltD, leD, gtD, geD, eqD, neD, isD, isntD, ixD, sumD, lenD, absD, maxD, minD, allD, anyD, intCD, tupCD, lstCD, isiD, reprD, isTy, seqD?, bindP, bindPs, wipeD, frz, isN_non, isN_int, isN_bl, isN_tup, isN_lst, ints?_map, bls?_map, ints?_mapf, bls?_mapf, fit_int, fit_bl, fit_non, eqv_int, eqv_bl, cast2, cast3, cast1, cast0, intD, intD0, List.set_cons_zero, List.set_cons_succ, List.getElem?_cons_zero, List.getElem?_cons_succ, List.map_cons, List.map_nil, List.length_cons, List.length_nil, List.length_map, Nat.reduceAdd, Option.some.injEq, if_true, if_false, reduceCtorEq, decide_eq_true_eq, Bool.not_eq_true, true_or, or_true, true_and, and_true, false_or, or_false, String.reduceEq, String.reduceBEq, Bool.or_true, Bool.true_or, Bool.or_false, Bool.false_or, beq_self_eq_true, Bool.not_true, Bool.not_false, Bool.false_eq_true]
      exact last2
  · have d2 : (way == 2) = false := by simp [c2]
    simp only [d2, cut_hi_4, zNext, zSeq, zPass, zBreak, zCont, zNever, zExpr, zRet, zRetN, zIf, zAsg, zSetO, zFrz, zApp, zPar, zParO1, zParO2, zFor, sVar, sC, sOp, sB, sBi, sCall, aNil, aCons, sTup, sLst, oLst, bAnd, bOr, bNot, sAnd, sOr, sNot, sIf, sNeg, sChain, oNone, oSome, sSl, sLast, iSeqD, iEnumD, iZipD, iRg1, iRg2, iRg3, sLC, sLC2, bYes, addD, subD, mulD, fdivD, modD, powD, ltD, leD, gtD, geD, eqD, neD, isD, isntD, ixD, sumD, lenD, absD, maxD, minD, allD, anyD, intCD, tupCD, lstCD, isiD, reprD, isTy, seqD?, bindP, bindPs, wipeD, frz, isN_non, isN_int, isN_bl, isN_tup, isN_lst, ints?_map, bls?_map, ints?_mapf, bls?_mapf, fit_int, fit_bl, fit_non, eqv_int, eqv_bl, cast2, cast3, cast1, cast0, intD, intD0, List.set_cons_zero, List.set_cons_succ, List.getElem?_cons_zero, List.getElem?_cons_succ, List.map_cons, List.map_nil, List.length_cons, List.length_nil, List.length_map, Nat.reduceAdd, Option.some.injEq, if_true, if_false, reduceCtorEq, decide_eq_true_eq, Bool.not_eq_true, true_or, or_true, true_and, and_true, false_or, or_false, String.reduceEq, String.reduceBEq, Bool.or_true, Bool.true_or, Bool.or_false, Bool.false_or, beq_self_eq_true, Bool.not_true, Bool.not_false, Bool.false_eq_true]
    exact last2
end SD

namespace SD
open L2 PyProof.Rows PySem PySem.Spec
/-! ### a wardrobe with less in it opens more -/
structure Less (w w' : Wd) : Prop where
  width : w'.1 = w.1
  opens : ∀ a b, Can w a b → Can w' a b
  most : ∀ ws' ∈ w'.2, ∃ ws ∈ w.2, ws'.sum ≤ ws.sum
theorem Less.refl (w : Wd) : Less w w := ⟨rfl, fun _ _ h => h, fun ws h => ⟨ws, h, Int.le_refl _⟩⟩
theorem Less.trans {a b c : Wd} (h : Less a b) (k : Less b c) : Less a c :=
  ⟨k.width.trans h.width, fun x y q => k.opens x y (h.opens x y q), fun ws hw => by
    obtain ⟨x, h1, h2⟩ := k.most ws hw
    obtain ⟨y, h3, h4⟩ := h.most x h1
    exact ⟨y, h3, Int.le_trans h2 h4⟩⟩
theorem less_drop {W : Int} {rs : List (List Int)} {i : Nat} : Less (W, rs) (W, rs.take i ++ rs.drop (i + 1)) := by
  have sub : ∀ ws ∈ rs.take i ++ rs.drop (i + 1), ws ∈ rs := fun ws h => by
    (rcases List.mem_append.mp h with h | h)
    · exact List.mem_of_mem_take h
    · exact List.mem_of_mem_drop h
  exact ⟨rfl, fun a b h ws hw => h ws (sub ws hw), fun ws hw => ⟨ws, sub ws hw, Int.le_refl _⟩⟩
theorem less_rail {W : Int} {rs : List (List Int)} {i : Nat} (hi : i < rs.length) {y : List Int} (h : ∀ a b, CanR W a b rs[i] → CanR W a b y) (hs : y.sum ≤ rs[i].sum) : Less (W, rs) (W, rs.take i ++ [y] ++ rs.drop (i + 1)) := by
  have hx : rs[i] ∈ rs := List.getElem_mem hi
  refine ⟨rfl, fun a b q ws hw => ?_, fun ws hw => ?_⟩
  · rcases List.mem_append.mp hw with hw | hw
    · rcases List.mem_append.mp hw with hw | hw
      · exact q ws (List.mem_of_mem_take hw)
      · rw [List.mem_singleton.mp hw]; exact h a b (q _ hx)
    · exact q ws (List.mem_of_mem_drop hw)
  · rcases List.mem_append.mp hw with hw | hw
    · rcases List.mem_append.mp hw with hw | hw
      · exact ⟨ws, List.mem_of_mem_take hw, Int.le_refl _⟩
      · rw [List.mem_singleton.mp hw]; exact ⟨_, hx, hs⟩
    · exact ⟨ws, List.mem_of_mem_drop hw, Int.le_refl _⟩
/-- one door is put otherwise, with no more width -/
theorem canR_part {W a b : Int} {l r p : List Int} {x : Int} (hp : p.sum ≤ x) (hr : ∀ y ∈ p, 0 ≤ y) (h : CanR W a b (l ++ x :: r)) : CanR W a b (l ++ p ++ r) := by
  rw [canR_iff] at h ⊢
  obtain ⟨i, i1, i2, i3⟩ := h
  have hp0 : 0 ≤ p.sum := sum_nn hr
  have t := take_drop_sum (l ++ x :: r) i
  by_cases c : i ≤ l.length
  · refine ⟨i, by simp only [List.length_append]; omega, ?_, ?_⟩
    · rw [List.append_assoc, List.take_append_of_le_length c]
      rw [List.take_append_of_le_length c] at i2
      exact i2
    · rw [List.append_assoc, List.drop_append_of_le_length c, List.sum_append, List.sum_append]
      rw [List.drop_append_of_le_length c, List.sum_append, List.sum_cons] at i3
      omega
  · obtain ⟨j, rfl⟩ : ∃ j, i = l.length + (j + 1) := ⟨i - l.length - 1, by omega⟩
    simp only [List.length_append, List.length_cons] at i1
    have e1 : (l ++ x :: r).take (l.length + (j + 1)) = l ++ x :: r.take j := by
      rw [List.take_append, List.take_of_length_le (by omega), Nat.add_sub_cancel_left, List.take_succ_cons]
    have e2 : (l ++ x :: r).drop (l.length + (j + 1)) = r.drop j := by
      rw [List.drop_append, List.drop_of_length_le (by omega), List.nil_append, Nat.add_sub_cancel_left, List.drop_succ_cons]
    rw [e1, List.sum_append, List.sum_cons] at i2
    rw [e2] at i3
    refine ⟨(l ++ p).length + j, by simp only [List.length_append]; omega, ?_, ?_⟩
    · rw [List.take_append, List.take_of_length_le (by omega), Nat.add_sub_cancel_left, List.sum_append, List.sum_append]
      omega
    · rw [List.drop_append, List.drop_of_length_le (by omega), List.nil_append, Nat.add_sub_cancel_left]
      exact i3
def phi_law_less : SpD := fun ds R => ∃ w : Wd, ds = [.bag, encW w] ∧ OkW w ∧ ∀ w' : Wd, OkW w' → Less w w' → R (encW w')
theorem len_law_less : ∀ ds R, phi_law_less ds R → ds.length = 2 := by rintro ds R ⟨w, rfl, _⟩; rfl
theorem eqv_nilT (l : List D) : D.eqv (.tup l) (.tup []) = l.isEmpty := by
  cases l with
  | nil => unfold D.eqv D.eqvs; rfl
  | cons => unfold D.eqv D.eqvs; rfl
theorem fit_nilT : (D.tup []).fit := ⟨rfl, by unfold D.dep D.deps; decide⟩
theorem ok_part {W : Int} {l r p : List Int} {x : Int} (o : OkRail W (l ++ x :: r)) (h6 : (l ++ p ++ r).length ≤ 6) (hp : p.sum ≤ x) (hr : ∀ y ∈ p, 1 ≤ y ∧ y ≤ W) : OkRail W (l ++ p ++ r) := by
  refine ⟨h6, fun y hy => ?_, ?_⟩
  · rcases List.mem_append.mp hy with hy | hy
    · rcases List.mem_append.mp hy with hy | hy
      · exact o.each y (List.mem_append_left _ hy)
      · exact hr y hy
    · exact o.each y (List.mem_append_right _ (List.mem_cons_of_mem _ hy))
  · have := o.sum
    rw [List.sum_append, List.sum_cons] at this
    rw [List.sum_append, List.sum_append]
    omega
theorem ok_drop {W : Int} {rs : List (List Int)} {i : Nat} (h : OkW (W, rs)) (hi : i < rs.length) (h1 : 1 < rs.length) : OkW (W, rs.take i ++ rs.drop (i + 1)) := by
  refine ⟨h.width, ?_, fun ws hws => ?_⟩
  · have := h.rails
    simp only [List.length_append, List.length_take, List.length_drop] at this ⊢
    omega
  · rcases List.mem_append.mp hws with z | z
    · exact h.each ws (List.mem_of_mem_take z)
    · exact h.each ws (List.mem_of_mem_drop z)
theorem ite_and2 {A B X C : Prop} [Decidable A] [Decidable B] (h : ¬ (A ∧ B)) (c : C) : if A then (if B then X else C) else C := by
  split
  · rename_i a
    rw [if_neg fun b => h ⟨a, b⟩]
    exact c
  · exact c
def z_law_less : SDt := (zSeq (zAsg (sVar 1) (.tp [(.nm 2), (.nm 3)]))
    (zSeq (zPar 4 5 (sCall phi_law_take (aCons (sVar 0) (aCons (sC (.int 3)) aNil))) (sCall phi_law_take (aCons (sVar 0) (aCons (sBi lenD (aCons (sVar 3) aNil)) aNil))))
    (zSeq (zAsg (sOp ixD (sVar 3) (sVar 5)) (.nm 6))
    (zSeq (zIf (bAnd (sB (sOp eqD (sVar 4) (sC (.int 0)))) (sB (sOp gtD (sBi lenD (aCons (sVar 3) aNil)) (sC (.int 1))))) (zRet (sTup (aCons (sVar 2) (aCons (sOp addD (sSl (sVar 3) oNone (oSome (sVar 5))) (sSl (sVar 3) (oSome (sOp addD (sVar 5) (sC (.int 1)))) oNone)) aNil))))
      zNext)
    (zSeq (zIf (sB (sOp eqD (sVar 6) (sTup aNil))) (zRet (sVar 1))
      zNext)
    (zSeq (zAsg (sCall phi_law_take (aCons (sVar 0) (aCons (sBi lenD (aCons (sVar 6) aNil)) aNil))) (.nm 7))
    (zSeq (zAsg (sTup aNil) (.nm 8))
    (zSeq (zIf (bAnd (sB (sOp eqD (sVar 4) (sC (.int 1)))) (bAnd (sB (sOp gtD (sOp ixD (sVar 6) (sVar 7)) (sC (.int 1)))) (sB (sOp ltD (sBi lenD (aCons (sVar 6) aNil)) (sC (.int 6)))))) (zSeq (zAsg (sOp addD (sC (.int 1)) (sCall phi_law_far_draw (aCons (sVar 0) (aCons (sOp subD (sOp ixD (sVar 6) (sVar 7)) (sC (.int 1))) aNil)))) (.nm 9))
    (zAsg (sTup (aCons (sVar 9) (aCons (sOp subD (sOp ixD (sVar 6) (sVar 7)) (sVar 9)) aNil))) (.nm 8)))
      zNext)
    (zRet (sTup (aCons (sVar 2) (aCons (sOp addD (sOp addD (sSl (sVar 3) oNone (oSome (sVar 5))) (sTup (aCons (sOp addD (sOp addD (sSl (sVar 6) oNone (oSome (sVar 7))) (sVar 8)) (sSl (sVar 6) (oSome (sOp addD (sVar 7) (sC (.int 1)))) oNone)) aNil))) (sSl (sVar 3) (oSome (sOp addD (sVar 5) (sC (.int 1)))) oNone)) aNil))))))))))))
abbrev N_law_less : List Str := ["bag", "wardrobe", "width", "rails", "way", "rail", "widths", "door", "parts", "size"]
theorem rd_law_less : ∀ ds R, phi_law_less ds R → z_law_less { nx := fun _ => R .non, rt := R } (startD N_law_less ds) := by
  rintro ds R ⟨w, rfl, hw, hR⟩
  obtain ⟨W, rs⟩ := w
  show z_law_less _ [.val .bag, .val (encW (W, rs)), .un, .un, .un, .un, .un, .un, .un, .un]
  have hr := hw.rails
  have hW := hw.width
  simp only at hr hW
  have e9 : encW (W, rs) = D.tup [.int W, .tup (rs.map iT)] := rfl
  simp only [z_law_less, e9, zNext, zSeq, zPass, zBreak, zCont, zNever, zExpr, zRet, zRetN, zIf, zAsg, zSetO, zFrz, zApp, zPar, zParO1, zParO2, zFor, sVar, sC, sOp, sB, sBi, sCall, aNil, aCons, sTup, sLst, oLst, bAnd, bOr, bNot, sAnd, sOr, sNot, sIf, sNeg, sChain, oNone, oSome, sSl, sLast, iSeqD, iEnumD, iZipD, iRg1, iRg2, iRg3, sLC, sLC2, bYes, addD, subD, mulD, fdivD, modD, powD, ltD, leD, gtD, geD, eqD, neD, isD, isntD, ixD, sumD, lenD, absD, maxD, minD, allD, anyD, intCD, tupCD, lstCD, isiD, reprD, isTy, seqD?, bindP, bindPs, wipeD, frz, isN_non, isN_int, isN_bl, isN_tup, isN_lst, ints?_map, bls?_map, ints?_mapf, bls?_mapf, fit_int, fit_bl, fit_non, eqv_int, eqv_bl, cast2, cast3, cast1, cast0, intD, intD0, List.set_cons_zero, List.set_cons_succ, List.getElem?_cons_zero, List.getElem?_cons_succ, List.map_cons, List.map_nil, List.length_cons, List.length_nil, List.length_map, Nat.reduceAdd, Option.some.injEq, if_true, if_false, reduceCtorEq, decide_eq_true_eq, Bool.not_eq_true, true_or, or_true, true_and, and_true, false_or, or_false, String.reduceEq, String.reduceBEq, Bool.or_true, Bool.true_or, Bool.or_false, Bool.false_or, beq_self_eq_true, Bool.not_true, Bool.not_false, Bool.false_eq_true]
  refine ⟨3, rfl, by decide, fun way y1 y2 => ?_⟩
  simp only [zNext, zSeq, zPass, zBreak, zCont, zNever, zExpr, zRet, zRetN, zIf, zAsg, zSetO, zFrz, zApp, zPar, zParO1, zParO2, zFor, sVar, sC, sOp, sB, sBi, sCall, aNil, aCons, sTup, sLst, oLst, bAnd, bOr, bNot, sAnd, sOr, sNot, sIf, sNeg, sChain, oNone, oSome, sSl, sLast, iSeqD, iEnumD, iZipD, iRg1, iRg2, iRg3, sLC, sLC2, bYes, addD, subD, mulD, fdivD, modD, powD, ltD, leD, gtD, geD, eqD, neD, isD, isntD, ixD, sumD, lenD, absD, maxD, minD, allD, anyD, intCD, tupCD, lstCD, isiD, reprD, isTy, seqD?, bindP, bindPs, wipeD, frz, isN_non, isN_int, isN_bl, isN_tup, isN_lst, ints?_map, bls?_map, ints?_mapf, bls?_mapf, fit_int, fit_bl, fit_non, eqv_int, eqv_bl, cast2, cast3, cast1, cast0, intD, intD0, List.set_cons_zero, List.set_cons_succ, List.getElem?_cons_zero, List.getElem?_cons_succ, List.map_cons, List.map_nil, List.length_cons, List.length_nil, List.length_map, Nat.reduceAdd, Option.some.injEq, if_true, if_false, reduceCtorEq, decide_eq_true_eq, Bool.not_eq_true, true_or, or_true, true_and, and_true, false_or, or_false, String.reduceEq, String.reduceBEq, Bool.or_true, Bool.true_or, Bool.or_false, Bool.false_or, beq_self_eq_true, Bool.not_true, Bool.not_false, Bool.false_eq_true]
  refine ⟨rs.length, rfl, by omega, fun r0 r1 r2 => ?_⟩
  obtain ⟨i, rfl⟩ : ∃ n : Nat, r0 = (n : Int) := ⟨r0.toNat, (Int.toNat_of_nonneg r1).symm⟩
  have hi : i < rs.length := by omega
  have hx : rs[i] ∈ rs := List.getElem_mem hi
  have ox := hw.each _ hx
  have e0 : L2.atI (rs.map iT) (i : Int) = some (iT rs[i]) := atI_nat (by rw [List.getElem?_map, List.getElem?_eq_getElem hi]; rfl)
  have lt1 : (List.take i (List.map iT rs)).length ≤ rs.length := by rw [List.length_take, List.length_map]; omega
  have lt2 : (List.drop (i + 1) (List.map iT rs)).length ≤ rs.length := by rw [List.length_drop, List.length_map]; omega
  simp only [e0, zNext, zSeq, zPass, zBreak, zCont, zNever, zExpr, zRet, zRetN, zIf, zAsg, zSetO, zFrz, zApp, zPar, zParO1, zParO2, zFor, sVar, sC, sOp, sB, sBi, sCall, aNil, aCons, sTup, sLst, oLst, bAnd, bOr, bNot, sAnd, sOr, sNot, sIf, sNeg, sChain, oNone, oSome, sSl, sLast, iSeqD, iEnumD, iZipD, iRg1, iRg2, iRg3, sLC, sLC2, bYes, addD, subD, mulD, fdivD, modD, powD, ltD, leD, gtD, geD, eqD, neD, isD, isntD, ixD, sumD, lenD, absD, maxD, minD, allD, anyD, intCD, tupCD, lstCD, isiD, reprD, isTy, seqD?, bindP, bindPs, wipeD, frz, isN_non, isN_int, isN_bl, isN_tup, isN_lst, ints?_map, bls?_map, ints?_mapf, bls?_mapf, fit_int, fit_bl, fit_non, eqv_int, eqv_bl, cast2, cast3, cast1, cast0, intD, intD0, List.set_cons_zero, List.set_cons_succ, List.getElem?_cons_zero, List.getElem?_cons_succ, List.map_cons, List.map_nil, List.length_cons, List.length_nil, List.length_map, Nat.reduceAdd, Option.some.injEq, if_true, if_false, reduceCtorEq, decide_eq_true_eq, Bool.not_eq_true, true_or, or_true, true_and, and_true, false_or, or_false, String.reduceEq, String.reduceBEq, Bool.or_true, Bool.true_or, Bool.or_false, Bool.false_or, beq_self_eq_true, Bool.not_true, Bool.not_false, Bool.false_eq_true]
  have gone : 1 < rs.length → R (D.tup [.int W, .tup ((rs.map iT).take i ++ (rs.map iT).drop (i + 1))]) := fun h1 => by
    have := hR _ (ok_drop hw hi h1) less_drop
    unfold encW at this
    rw [List.map_append, List.map_take, List.map_drop] at this
    exact this
  by_cases c0 : way = 0 ∧ (1 : Int) < (rs.length : Int)
  · obtain ⟨rfl, c1⟩ := c0
    simp only [c1, cut_hi, cut_lo1, zNext, zSeq, zPass, zBreak, zCont, zNever, zExpr, zRet, zRetN, zIf, zAsg, zSetO, zFrz, zApp, zPar, zParO1, zParO2, zFor, sVar, sC, sOp, sB, sBi, sCall, aNil, aCons, sTup, sLst, oLst, bAnd, bOr, bNot, sAnd, sOr, sNot, sIf, sNeg, sChain, oNone, oSome, sSl, sLast, iSeqD, iEnumD, iZipD, iRg1, iRg2, iRg3, sLC, sLC2, bYes, addD, subD, mulD, fdivD, modD, powD, ltD, leD, gtD, geD, eqD, neD, isD, isntD, ixD, sumD, lenD, absD, maxD, minD, allD, anyD, intCD, tupCD, lstCD, isiD, reprD, isTy, seqD?, bindP, bindPs, wipeD, frz, isN_non, isN_int, isN_bl, isN_tup, isN_lst, ints?_map, bls?_map, ints?_mapf, bls?_mapf, fit_int, fit_bl, fit_non, eqv_int, eqv_bl, cast2, cast3, cast1, cast0, intD, intD0, List.set_cons_zero, List.set_cons_succ, List.getElem?_cons_zero, List.getElem?_cons_succ, List.map_cons, List.map_nil, List.length_cons, List.length_nil, List.length_map, Nat.reduceAdd, Option.some.injEq, if_true, if_false, reduceCtorEq, decide_eq_true_eq, Bool.not_eq_true, true_or, or_true, true_and, and_true, false_or, or_false, String.reduceEq, String.reduceBEq, Bool.or_true, Bool.true_or, Bool.or_false, Bool.false_or, beq_self_eq_true, Bool.not_true, Bool.not_false, Bool.false_eq_true]
    exact ⟨le_sl (by omega), le_sl (by decide), gone (by omega)⟩
  refine ite_and2 (fun z => c0 ⟨of_decide_eq_true (by simpa using z.1), z.2⟩) ?_
  generalize hX : rs[i] = x at *
  have tail : ∀ (p : List Int) (d : Nat) (u : List D), u = p.map D.int → (hd : d < x.length) → (x.take d ++ p ++ x.drop (d + 1)).length ≤ 6 → p.sum ≤ x[d] → (∀ y ∈ p, 1 ≤ y ∧ y ≤ W) →
      R (D.tup [.int W, .tup ((rs.map iT).take i ++ [D.tup ((x.map D.int).take d ++ u ++ (x.map D.int).drop (d + 1))] ++ (rs.map iT).drop (i + 1))]) := by
    rintro p d u rfl hd h6 hp hpr
    have ex : x = x.take d ++ x[d] :: x.drop (d + 1) := by rw [List.getElem_cons_drop]; exact (List.take_append_drop d x).symm
    have e : (x.map D.int).take d ++ p.map D.int ++ (x.map D.int).drop (d + 1) = (x.take d ++ p ++ x.drop (d + 1)).map D.int := by
      rw [List.map_append, List.map_append, List.map_take, List.map_drop]
    rw [e, enc_split]
    have o2 : OkRail W (x.take d ++ x[d] :: x.drop (d + 1)) := by rw [← ex]; exact ox
    refine hR (W, _) (ok_split hw hi (ok_part o2 h6 hp hpr)) (less_rail hi (fun a b h => ?_) ?_)
    · rw [hX, ex] at h
      exact canR_part hp (fun y hy => by have := (hpr y hy).1; omega) h
    · rw [hX]
      have := congrArg List.sum ex
      rw [List.sum_append, List.sum_cons] at this
      rw [List.sum_append, List.sum_append]
      omega
  simp only [iT, cut_hi, cut_lo1, zNext, zSeq, zPass, zBreak, zCont, zNever, zExpr, zRet, zRetN, zIf, zAsg, zSetO, zFrz, zApp, zPar, zParO1, zParO2, zFor, sVar, sC, sOp, sB, sBi, sCall, aNil, aCons, sTup, sLst, oLst, bAnd, bOr, bNot, sAnd, sOr, sNot, sIf, sNeg, sChain, oNone, oSome, sSl, sLast, iSeqD, iEnumD, iZipD, iRg1, iRg2, iRg3, sLC, sLC2, bYes, addD, subD, mulD, fdivD, modD, powD, ltD, leD, gtD, geD, eqD, neD, isD, isntD, ixD, sumD, lenD, absD, maxD, minD, allD, anyD, intCD, tupCD, lstCD, isiD, reprD, isTy, seqD?, bindP, bindPs, wipeD, frz, isN_non, isN_int, isN_bl, isN_tup, isN_lst, ints?_map, bls?_map, ints?_mapf, bls?_mapf, fit_int, fit_bl, fit_non, eqv_int, eqv_bl, cast2, cast3, cast1, cast0, intD, intD0, List.set_cons_zero, List.set_cons_succ, List.getElem?_cons_zero, List.getElem?_cons_succ, List.map_cons, List.map_nil, List.length_cons, List.length_nil, List.length_map, Nat.reduceAdd, Option.some.injEq, if_true, if_false, reduceCtorEq, decide_eq_true_eq, Bool.not_eq_true, true_or, or_true, true_and, and_true, false_or, or_false, String.reduceEq, String.reduceBEq, Bool.or_true, Bool.true_or, Bool.or_false, Bool.false_or, beq_self_eq_true, Bool.not_true, Bool.not_false, Bool.false_eq_true]
  refine ⟨Nat.zero_le _, fit_iT _, fit_nilT, ?_⟩
  rw [eqv_nilT]
  by_cases cx : (x.map D.int).isEmpty = true
  · rw [if_pos cx]
    exact hR (W, rs) hw (.refl _)
  rw [if_neg cx]
  have hx0 : 0 < x.length := by
    cases x with
    | nil => exact absurd rfl cx
    | cons => exact Nat.succ_pos _
  refine ⟨x.length, rfl, by omega, fun d0 d1 d2 => ?_⟩
  obtain ⟨d, rfl⟩ : ∃ n : Nat, d0 = (n : Int) := ⟨d0.toNat, (Int.toNat_of_nonneg d1).symm⟩
  have hd : d < x.length := by omega
  have h6 := ox.len
  have e1 : L2.atI (x.map D.int) (d : Int) = some (D.int x[d]) := atI_nat (by rw [List.getElem?_map, List.getElem?_eq_getElem hd]; rfl)
  have xd := ox.each _ (List.getElem_mem hd)
  have lt3 : (List.take d (List.map D.int x)).length ≤ x.length := by rw [List.length_take, List.length_map]; omega
  have lt4 : (List.drop (d + 1) (List.map D.int x)).length ≤ x.length := by rw [List.length_drop, List.length_map]; omega
  have lt5 : (x.take d).length + (x.drop (d + 1)).length + 1 = x.length := by rw [List.length_take, List.length_drop]; omega
  refine ⟨Nat.zero_le _, ?_⟩
  have plain : R (D.tup [.int W, .tup ((rs.map iT).take i ++ [D.tup ((x.map D.int).take d ++ (x.map D.int).drop (d + 1))] ++ (rs.map iT).drop (i + 1))]) := by
    have := tail [] d [] rfl hd (by simp only [List.append_nil, List.length_append]; omega) (by simp only [List.sum_nil]; omega) (fun _ z => nomatch z)
    rw [List.append_nil] at this
    exact this
  simp only [e1, cut_hi, cut_lo1, List.append_nil, zNext, zSeq, zPass, zBreak, zCont, zNever, zExpr, zRet, zRetN, zIf, zAsg, zSetO, zFrz, zApp, zPar, zParO1, zParO2, zFor, sVar, sC, sOp, sB, sBi, sCall, aNil, aCons, sTup, sLst, oLst, bAnd, bOr, bNot, sAnd, sOr, sNot, sIf, sNeg, sChain, oNone, oSome, sSl, sLast, iSeqD, iEnumD, iZipD, iRg1, iRg2, iRg3, sLC, sLC2, bYes, addD, subD, mulD, fdivD, modD, powD, ltD, leD, gtD, geD, eqD, neD, isD, isntD, ixD, sumD, lenD, absD, maxD, minD, allD, anyD, intCD, tupCD, lstCD, isiD, reprD, isTy, seqD?, bindP, bindPs, wipeD, frz, isN_non, isN_int, isN_bl, isN_tup, isN_lst, ints?_map, bls?_map, ints?_mapf, bls?_mapf, fit_int, fit_bl, fit_non, eqv_int, eqv_bl, cast2, cast3, cast1, cast0, intD, intD0, List.set_cons_zero, List.set_cons_succ, List.getElem?_cons_zero, List.getElem?_cons_succ, List.map_cons, List.map_nil, List.length_cons, List.length_nil, List.length_map, Nat.reduceAdd, Option.some.injEq, if_true, if_false, reduceCtorEq, decide_eq_true_eq, Bool.not_eq_true, true_or, or_true, true_and, and_true, false_or, or_false, String.reduceEq, String.reduceBEq, Bool.or_true, Bool.true_or, Bool.or_false, Bool.false_or, beq_self_eq_true, Bool.not_true, Bool.not_false, Bool.false_eq_true]
  have fin : ∀ (l : List D), l.length ≤ 20 → R (D.tup [.int W, .tup ((rs.map iT).take i ++ [D.tup l] ++ (rs.map iT).drop (i + 1))]) → 1 ≤ sizeLine ∧ (List.take i (List.map iT rs)).length + 1 ≤ sizeLine ∧ (List.take i (List.map iT rs) ++ [D.tup l]).length + (List.drop (i + 1) (List.map iT rs)).length ≤ sizeLine ∧ 2 ≤ sizeLine ∧ R (D.tup [.int W, .tup ((rs.map iT).take i ++ [D.tup l] ++ (rs.map iT).drop (i + 1))]) := fun l hl h =>
    ⟨le_sl (by decide), le_sl (by omega), le_sl (by rw [List.length_append, List.length_singleton]; omega), le_sl (by decide), h⟩
  have pl : (List.take d (List.map D.int x)).length + 0 ≤ sizeLine ∧ (List.take d (List.map D.int x)).length + (List.drop (d + 1) (List.map D.int x)).length ≤ sizeLine ∧ 1 ≤ sizeLine ∧ (List.take i (List.map iT rs)).length + 1 ≤ sizeLine ∧
      (List.take i (List.map iT rs) ++ [D.tup (List.take d (List.map D.int x) ++ List.drop (d + 1) (List.map D.int x))]).length + (List.drop (i + 1) (List.map iT rs)).length ≤ sizeLine ∧ 2 ≤ sizeLine ∧
      R (D.tup [.int W, .tup ((rs.map iT).take i ++ [D.tup ((x.map D.int).take d ++ (x.map D.int).drop (d + 1))] ++ (rs.map iT).drop (i + 1))]) :=
    ⟨le_sl (by omega), le_sl (by omega), fin _ (by rw [List.length_append]; omega) plain⟩
  split
  · split
    · rename_i c1
      split
      · rename_i c2
        refine ⟨x[d] - 1, rfl, by omega, fun t t0 t1 => ?_⟩
        simp only [zNext, zSeq, zPass, zBreak, zCont, zNever, zExpr, zRet, zRetN, zIf, zAsg, zSetO, zFrz, zApp, zPar, zParO1, zParO2, zFor, sVar, sC, sOp, sB, sBi, sCall, aNil, aCons, sTup, sLst, oLst, bAnd, bOr, bNot, sAnd, sOr, sNot, sIf, sNeg, sChain, oNone, oSome, sSl, sLast, iSeqD, iEnumD, iZipD, iRg1, iRg2, iRg3, sLC, sLC2, bYes, addD, subD, mulD, fdivD, modD, powD, ltD, leD, gtD, geD, eqD, neD, isD, isntD, ixD, sumD, lenD, absD, maxD, minD, allD, anyD, intCD, tupCD, lstCD, isiD, reprD, isTy, seqD?, bindP, bindPs, wipeD, frz, isN_non, isN_int, isN_bl, isN_tup, isN_lst, ints?_map, bls?_map, ints?_mapf, bls?_mapf, fit_int, fit_bl, fit_non, eqv_int, eqv_bl, cast2, cast3, cast1, cast0, intD, intD0, List.set_cons_zero, List.set_cons_succ, List.getElem?_cons_zero, List.getElem?_cons_succ, List.map_cons, List.map_nil, List.length_cons, List.length_nil, List.length_map, Nat.reduceAdd, Option.some.injEq, if_true, if_false, reduceCtorEq, decide_eq_true_eq, Bool.not_eq_true, true_or, or_true, true_and, and_true, false_or, or_false, String.reduceEq, String.reduceBEq, Bool.or_true, Bool.true_or, Bool.or_false, Bool.false_or, beq_self_eq_true, Bool.not_true, Bool.not_false, Bool.false_eq_true]
        have := tail [1 + t, x[d] - (1 + t)] d _ rfl hd (by simp only [List.length_append, List.length_cons, List.length_nil]; omega) (by simp only [List.sum_cons, List.sum_nil]; omega) (fun y hy => by
          simp only at xd
          simp only [List.mem_cons, List.not_mem_nil, or_false] at hy
          rcases hy with rfl | rfl <;> omega)
        exact ⟨le_sl (by decide), le_sl (by omega), le_sl (by simp only [List.length_append, List.length_cons, List.length_nil]; omega), fin _ (by simp only [List.length_append, List.length_cons, List.length_nil, List.map_cons, List.map_nil]; omega) this⟩
      · exact pl
    · exact pl
  · exact pl
end SD

namespace SD
open L2 PyProof.Rows PySem PySem.Spec
theorem LM.none_iff {S : Int → Int → Prop} {o : Option (Int × Int)} (h : LM S o) : o.isNone = true ↔ ∀ l k, ¬ S l k := by
  cases o with
  | none => exact ⟨fun _ => h, fun _ => rfl⟩
  | some p => exact ⟨fun z => (by cases z), fun z => absurd h.1 (z _ _)⟩
theorem Less.tell {w w' : Wd} (h : Less w w') {l k : Int} : ¬ Tell w' w l k := fun t => t.2.2.2.2 ⟨by rw [h.width]; exact t.2.2.1, h.opens _ _ t.2.2.2.1⟩
theorem Less.lm {w w' : Wd} (h : Less w w') {o : Option (Int × Int)} (q : LM (Tell w' w) o) : o = none := by
  have := q.none_iff.mpr fun l k => h.tell
  cases o with
  | none => rfl
  | some p => cases this
def z_lawB : SDt := (zSeq (zAsg (sCall phi_law_wide (aCons (sVar 1) (aCons (sCall phi_law_wardrobe (aCons (sVar 1) (aCons (sC (.int 20)) (aCons (sC (.int 4)) (aCons (sC (.int 6)) aNil))))) aNil))) (.nm 2))
    (zSeq (zAsg (sCall phi_law_less (aCons (sVar 1) (aCons (sVar 2) aNil))) (.nm 3))
    (zSeq (zAsg (sCall phi_law_less (aCons (sVar 1) (aCons (sVar 3) aNil))) (.nm 4))
    (zSeq (zAsg (sCall phi_law_wide (aCons (sVar 1) (aCons (sCall phi_law_wardrobe (aCons (sVar 1) (aCons (sC (.int 20)) (aCons (sC (.int 4)) (aCons (sC (.int 6)) aNil))))) aNil))) (.nm 5))
    (zSeq (zIf (bOr (bNot (sB (sCall phi_opens_all (aCons (sVar 3) (aCons (sVar 2) aNil))))) (bNot (sB (sCall phi_opens_all (aCons (sVar 4) (aCons (sVar 2) aNil)))))) (zRet (sC (.bl false)))
      zNext)
    (zSeq (zIf (sB (sOp isntD (sCall phi_telling_stretch (aCons (sVar 4) (aCons (sVar 3) aNil))) (sC .non))) (zRet (sC (.bl false)))
      zNext)
    (zSeq (zIf (bOr (sB (sOp ltD (sCall phi_most_open (aCons (sVar 3) aNil)) (sCall phi_most_open (aCons (sVar 2) aNil)))) (bNot (sB (sCall phi_opens_all (aCons (sVar 2) (aCons (sVar 2) aNil)))))) (zRet (sC (.bl false)))
      zNext)
    (zSeq (zFor (iSeqD (sTup (aCons (sTup (aCons (sVar 2) (aCons (sVar 3) aNil))) (aCons (sTup (aCons (sVar 2) (aCons (sVar 5) aNil))) (aCons (sTup (aCons (sVar 5) (aCons (sVar 4) aNil))) (aCons (sTup (aCons (sVar 3) (aCons (sVar 5) aNil))) aNil)))))) (.tp [(.nm 6), (.nm 7)])
      (zSeq (zAsg (sCall phi_telling_stretch (aCons (sVar 6) (aCons (sVar 7) aNil))) (.nm 8))
    (zSeq (zIf (sB (sOp neD (sOp isD (sVar 8) (sC .non)) (sCall phi_opens_all (aCons (sVar 6) (aCons (sVar 7) aNil))))) (zRet (sC (.bl false)))
      zNext)
    (zIf (sB (sOp isD (sVar 8) (sC .non))) (zSeq (zAsg (sCall phi_law_stretch (aCons (sVar 1) (aCons (sVar 7) aNil))) (.nm 9))
    (zIf (bAnd (sB (sOp leD (sOp ixD (sVar 9) (sC (.int 1))) (sOp ixD (sVar 6) (sC (.int 0))))) (bAnd (sB (sCall phi_can_open (aCons (sVar 7) (aCons (sVar 9) aNil)))) (bNot (sB (sCall phi_can_open (aCons (sVar 6) (aCons (sVar 9) aNil))))))) (zRet (sC (.bl false)))
      zNext))
      (zSeq (zIf (bOr (bNot (sB (sCall phi_can_open (aCons (sVar 7) (aCons (sVar 8) aNil))))) (bAnd (sB (sOp leD (sOp ixD (sVar 8) (sC (.int 1))) (sOp ixD (sVar 6) (sC (.int 0))))) (sB (sCall phi_can_open (aCons (sVar 6) (aCons (sVar 8) aNil)))))) (zRet (sC (.bl false)))
      zNext)
    (zSeq (zAsg (sTup (aCons (sOp ixD (sVar 8) (sC (.int 0))) (aCons (sOp subD (sOp ixD (sVar 8) (sC (.int 1))) (sC (.int 1))) aNil))) (.nm 10))
    (zIf (bAnd (sB (sOp gtD (sOp subD (sOp ixD (sVar 8) (sC (.int 1))) (sOp ixD (sVar 8) (sC (.int 0)))) (sC (.int 1)))) (bNot (sB (sCall phi_can_open (aCons (sVar 6) (aCons (sVar 10) aNil)))))) (zRet (sC (.bl false)))
      zNext)))))))
    (zIf (bOr (bAnd (sB (sCall phi_opens_all (aCons (sVar 2) (aCons (sVar 5) aNil)))) (bNot (sB (sCall phi_opens_all (aCons (sVar 3) (aCons (sVar 5) aNil)))))) (bAnd (sB (sCall phi_opens_all (aCons (sVar 5) (aCons (sVar 3) aNil)))) (bNot (sB (sCall phi_opens_all (aCons (sVar 5) (aCons (sVar 2) aNil))))))) (zRet (sC (.bl false)))
      zNext)))))))))
def z_lawT : SDt := (zRet (sAnd (sCall phi_opens_all (aCons (sTup (aCons (sC (.int 10)) (aCons (sTup (aCons (sTup (aCons (sC (.int 1)) aNil)) aNil)) aNil))) (aCons (sTup (aCons (sC (.int 10)) (aCons (sTup (aCons (sTup (aCons (sC (.int 1)) aNil)) (aCons (sTup (aCons (sC (.int 1)) aNil)) aNil))) aNil))) aNil))) (sNot (sCall phi_opens_all (aCons (sTup (aCons (sC (.int 9)) (aCons (sTup (aCons (sTup (aCons (sC (.int 1)) aNil)) aNil)) aNil))) (aCons (sTup (aCons (sC (.int 10)) (aCons (sTup (aCons (sTup (aCons (sC (.int 1)) aNil)) aNil)) aNil))) aNil))))))
abbrev N_law : List Str := ["script", "bag", "one", "two", "three", "other", "first", "second", "told", "stretch", "shorter"]

theorem rd_lawB : z_lawB { nx := fun _ => True, rt := fun _ => False, ct := fun _ => True } (envB 11) := by
  show z_lawB _ [.un, .val .bag, .un, .un, .un, .un, .un, .un, .un, .un, .un]
  simp only [z_lawB, zNext, zSeq, zPass, zBreak, zCont, zNever, zExpr, zRet, zRetN, zIf, zAsg, zSetO, zFrz, zApp, zPar, zParO1, zParO2, zFor, sVar, sC, sOp, sB, sBi, sCall, aNil, aCons, sTup, sLst, oLst, bAnd, bOr, bNot, sAnd, sOr, sNot, sIf, sNeg, sChain, oNone, oSome, sSl, sLast, iSeqD, iEnumD, iZipD, iRg1, iRg2, iRg3, sLC, sLC2, bYes, addD, subD, mulD, fdivD, modD, powD, ltD, leD, gtD, geD, eqD, neD, isD, isntD, ixD, sumD, lenD, absD, maxD, minD, allD, anyD, intCD, tupCD, lstCD, isiD, reprD, isTy, seqD?, bindP, bindPs, wipeD, frz, isN_non, isN_int, isN_bl, isN_tup, isN_lst, ints?_map, bls?_map, ints?_mapf, bls?_mapf, fit_int, fit_bl, fit_non, eqv_int, eqv_bl, cast2, cast3, cast1, cast0, intD, intD0, List.set_cons_zero, List.set_cons_succ, List.getElem?_cons_zero, List.getElem?_cons_succ, List.map_cons, List.map_nil, List.length_cons, List.length_nil, List.length_map, Nat.reduceAdd, Option.some.injEq, if_true, if_false, reduceCtorEq, decide_eq_true_eq, Bool.not_eq_true, true_or, or_true, true_and, and_true, false_or, or_false, String.reduceEq, String.reduceBEq, Bool.or_true, Bool.true_or, Bool.or_false, Bool.false_or, beq_self_eq_true, Bool.not_true, Bool.not_false, Bool.false_eq_true]
  refine ⟨20, 4, 6, rfl, by decide, by decide, by decide, fun v1 okv1 lv1 _ _ => ?_⟩
  refine ⟨v1, rfl, okv1, by omega, fun one ok1 _ => ?_⟩
  simp only [zNext, zSeq, zPass, zBreak, zCont, zNever, zExpr, zRet, zRetN, zIf, zAsg, zSetO, zFrz, zApp, zPar, zParO1, zParO2, zFor, sVar, sC, sOp, sB, sBi, sCall, aNil, aCons, sTup, sLst, oLst, bAnd, bOr, bNot, sAnd, sOr, sNot, sIf, sNeg, sChain, oNone, oSome, sSl, sLast, iSeqD, iEnumD, iZipD, iRg1, iRg2, iRg3, sLC, sLC2, bYes, addD, subD, mulD, fdivD, modD, powD, ltD, leD, gtD, geD, eqD, neD, isD, isntD, ixD, sumD, lenD, absD, maxD, minD, allD, anyD, intCD, tupCD, lstCD, isiD, reprD, isTy, seqD?, bindP, bindPs, wipeD, frz, isN_non, isN_int, isN_bl, isN_tup, isN_lst, ints?_map, bls?_map, ints?_mapf, bls?_mapf, fit_int, fit_bl, fit_non, eqv_int, eqv_bl, cast2, cast3, cast1, cast0, intD, intD0, List.set_cons_zero, List.set_cons_succ, List.getElem?_cons_zero, List.getElem?_cons_succ, List.map_cons, List.map_nil, List.length_cons, List.length_nil, List.length_map, Nat.reduceAdd, Option.some.injEq, if_true, if_false, reduceCtorEq, decide_eq_true_eq, Bool.not_eq_true, true_or, or_true, true_and, and_true, false_or, or_false, String.reduceEq, String.reduceBEq, Bool.or_true, Bool.true_or, Bool.or_false, Bool.false_or, beq_self_eq_true, Bool.not_true, Bool.not_false, Bool.false_eq_true]
  refine ⟨one, rfl, ok1, fun two ok2 le12 => ?_⟩
  simp only [zNext, zSeq, zPass, zBreak, zCont, zNever, zExpr, zRet, zRetN, zIf, zAsg, zSetO, zFrz, zApp, zPar, zParO1, zParO2, zFor, sVar, sC, sOp, sB, sBi, sCall, aNil, aCons, sTup, sLst, oLst, bAnd, bOr, bNot, sAnd, sOr, sNot, sIf, sNeg, sChain, oNone, oSome, sSl, sLast, iSeqD, iEnumD, iZipD, iRg1, iRg2, iRg3, sLC, sLC2, bYes, addD, subD, mulD, fdivD, modD, powD, ltD, leD, gtD, geD, eqD, neD, isD, isntD, ixD, sumD, lenD, absD, maxD, minD, allD, anyD, intCD, tupCD, lstCD, isiD, reprD, isTy, seqD?, bindP, bindPs, wipeD, frz, isN_non, isN_int, isN_bl, isN_tup, isN_lst, ints?_map, bls?_map, ints?_mapf, bls?_mapf, fit_int, fit_bl, fit_non, eqv_int, eqv_bl, cast2, cast3, cast1, cast0, intD, intD0, List.set_cons_zero, List.set_cons_succ, List.getElem?_cons_zero, List.getElem?_cons_succ, List.map_cons, List.map_nil, List.length_cons, List.length_nil, List.length_map, Nat.reduceAdd, Option.some.injEq, if_true, if_false, reduceCtorEq, decide_eq_true_eq, Bool.not_eq_true, true_or, or_true, true_and, and_true, false_or, or_false, String.reduceEq, String.reduceBEq, Bool.or_true, Bool.true_or, Bool.or_false, Bool.false_or, beq_self_eq_true, Bool.not_true, Bool.not_false, Bool.false_eq_true]
  refine ⟨two, rfl, ok2, fun three ok3 le23 => ?_⟩
  have le13 := le12.trans le23
  simp only [zNext, zSeq, zPass, zBreak, zCont, zNever, zExpr, zRet, zRetN, zIf, zAsg, zSetO, zFrz, zApp, zPar, zParO1, zParO2, zFor, sVar, sC, sOp, sB, sBi, sCall, aNil, aCons, sTup, sLst, oLst, bAnd, bOr, bNot, sAnd, sOr, sNot, sIf, sNeg, sChain, oNone, oSome, sSl, sLast, iSeqD, iEnumD, iZipD, iRg1, iRg2, iRg3, sLC, sLC2, bYes, addD, subD, mulD, fdivD, modD, powD, ltD, leD, gtD, geD, eqD, neD, isD, isntD, ixD, sumD, lenD, absD, maxD, minD, allD, anyD, intCD, tupCD, lstCD, isiD, reprD, isTy, seqD?, bindP, bindPs, wipeD, frz, isN_non, isN_int, isN_bl, isN_tup, isN_lst, ints?_map, bls?_map, ints?_mapf, bls?_mapf, fit_int, fit_bl, fit_non, eqv_int, eqv_bl, cast2, cast3, cast1, cast0, intD, intD0, List.set_cons_zero, List.set_cons_succ, List.getElem?_cons_zero, List.getElem?_cons_succ, List.map_cons, List.map_nil, List.length_cons, List.length_nil, List.length_map, Nat.reduceAdd, Option.some.injEq, if_true, if_false, reduceCtorEq, decide_eq_true_eq, Bool.not_eq_true, true_or, or_true, true_and, and_true, false_or, or_false, String.reduceEq, String.reduceBEq, Bool.or_true, Bool.true_or, Bool.or_false, Bool.false_or, beq_self_eq_true, Bool.not_true, Bool.not_false, Bool.false_eq_true]
  refine ⟨20, 4, 6, rfl, by decide, by decide, by decide, fun v2 okv2 lv2 _ _ => ?_⟩
  refine ⟨v2, rfl, okv2, by omega, fun other ok4 _ => ?_⟩
  simp only [zNext, zSeq, zPass, zBreak, zCont, zNever, zExpr, zRet, zRetN, zIf, zAsg, zSetO, zFrz, zApp, zPar, zParO1, zParO2, zFor, sVar, sC, sOp, sB, sBi, sCall, aNil, aCons, sTup, sLst, oLst, bAnd, bOr, bNot, sAnd, sOr, sNot, sIf, sNeg, sChain, oNone, oSome, sSl, sLast, iSeqD, iEnumD, iZipD, iRg1, iRg2, iRg3, sLC, sLC2, bYes, addD, subD, mulD, fdivD, modD, powD, ltD, leD, gtD, geD, eqD, neD, isD, isntD, ixD, sumD, lenD, absD, maxD, minD, allD, anyD, intCD, tupCD, lstCD, isiD, reprD, isTy, seqD?, bindP, bindPs, wipeD, frz, isN_non, isN_int, isN_bl, isN_tup, isN_lst, ints?_map, bls?_map, ints?_mapf, bls?_mapf, fit_int, fit_bl, fit_non, eqv_int, eqv_bl, cast2, cast3, cast1, cast0, intD, intD0, List.set_cons_zero, List.set_cons_succ, List.getElem?_cons_zero, List.getElem?_cons_succ, List.map_cons, List.map_nil, List.length_cons, List.length_nil, List.length_map, Nat.reduceAdd, Option.some.injEq, if_true, if_false, reduceCtorEq, decide_eq_true_eq, Bool.not_eq_true, true_or, or_true, true_and, and_true, false_or, or_false, String.reduceEq, String.reduceBEq, Bool.or_true, Bool.true_or, Bool.or_false, Bool.false_or, beq_self_eq_true, Bool.not_true, Bool.not_false, Bool.false_eq_true]
  refine ⟨two, one, rfl, ok2, ok1, fun o ho => ?_⟩
  obtain rfl := le12.lm ho
  simp only [Option.isNone_none, zNext, zSeq, zPass, zBreak, zCont, zNever, zExpr, zRet, zRetN, zIf, zAsg, zSetO, zFrz, zApp, zPar, zParO1, zParO2, zFor, sVar, sC, sOp, sB, sBi, sCall, aNil, aCons, sTup, sLst, oLst, bAnd, bOr, bNot, sAnd, sOr, sNot, sIf, sNeg, sChain, oNone, oSome, sSl, sLast, iSeqD, iEnumD, iZipD, iRg1, iRg2, iRg3, sLC, sLC2, bYes, addD, subD, mulD, fdivD, modD, powD, ltD, leD, gtD, geD, eqD, neD, isD, isntD, ixD, sumD, lenD, absD, maxD, minD, allD, anyD, intCD, tupCD, lstCD, isiD, reprD, isTy, seqD?, bindP, bindPs, wipeD, frz, isN_non, isN_int, isN_bl, isN_tup, isN_lst, ints?_map, bls?_map, ints?_mapf, bls?_mapf, fit_int, fit_bl, fit_non, eqv_int, eqv_bl, cast2, cast3, cast1, cast0, intD, intD0, List.set_cons_zero, List.set_cons_succ, List.getElem?_cons_zero, List.getElem?_cons_succ, List.map_cons, List.map_nil, List.length_cons, List.length_nil, List.length_map, Nat.reduceAdd, Option.some.injEq, if_true, if_false, reduceCtorEq, decide_eq_true_eq, Bool.not_eq_true, true_or, or_true, true_and, and_true, false_or, or_false, String.reduceEq, String.reduceBEq, Bool.or_true, Bool.true_or, Bool.or_false, Bool.false_or, beq_self_eq_true, Bool.not_true, Bool.not_false, Bool.false_eq_true]
  refine ⟨three, one, rfl, ok3, ok1, fun o ho => ?_⟩
  obtain rfl := le13.lm ho
  simp only [Option.isNone_none, zNext, zSeq, zPass, zBreak, zCont, zNever, zExpr, zRet, zRetN, zIf, zAsg, zSetO, zFrz, zApp, zPar, zParO1, zParO2, zFor, sVar, sC, sOp, sB, sBi, sCall, aNil, aCons, sTup, sLst, oLst, bAnd, bOr, bNot, sAnd, sOr, sNot, sIf, sNeg, sChain, oNone, oSome, sSl, sLast, iSeqD, iEnumD, iZipD, iRg1, iRg2, iRg3, sLC, sLC2, bYes, addD, subD, mulD, fdivD, modD, powD, ltD, leD, gtD, geD, eqD, neD, isD, isntD, ixD, sumD, lenD, absD, maxD, minD, allD, anyD, intCD, tupCD, lstCD, isiD, reprD, isTy, seqD?, bindP, bindPs, wipeD, frz, isN_non, isN_int, isN_bl, isN_tup, isN_lst, ints?_map, bls?_map, ints?_mapf, bls?_mapf, fit_int, fit_bl, fit_non, eqv_int, eqv_bl, cast2, cast3, cast1, cast0, intD, intD0, List.set_cons_zero, List.set_cons_succ, List.getElem?_cons_zero, List.getElem?_cons_succ, List.map_cons, List.map_nil, List.length_cons, List.length_nil, List.length_map, Nat.reduceAdd, Option.some.injEq, if_true, if_false, reduceCtorEq, decide_eq_true_eq, Bool.not_eq_true, true_or, or_true, true_and, and_true, false_or, or_false, String.reduceEq, String.reduceBEq, Bool.or_true, Bool.true_or, Bool.or_false, Bool.false_or, beq_self_eq_true, Bool.not_true, Bool.not_false, Bool.false_eq_true]
  refine ⟨three, two, rfl, ok3, ok2, fun o ho => ?_⟩
  obtain rfl := le23.lm ho
  simp only [isN_encO, Option.isNone_none, zNext, zSeq, zPass, zBreak, zCont, zNever, zExpr, zRet, zRetN, zIf, zAsg, zSetO, zFrz, zApp, zPar, zParO1, zParO2, zFor, sVar, sC, sOp, sB, sBi, sCall, aNil, aCons, sTup, sLst, oLst, bAnd, bOr, bNot, sAnd, sOr, sNot, sIf, sNeg, sChain, oNone, oSome, sSl, sLast, iSeqD, iEnumD, iZipD, iRg1, iRg2, iRg3, sLC, sLC2, bYes, addD, subD, mulD, fdivD, modD, powD, ltD, leD, gtD, geD, eqD, neD, isD, isntD, ixD, sumD, lenD, absD, maxD, minD, allD, anyD, intCD, tupCD, lstCD, isiD, reprD, isTy, seqD?, bindP, bindPs, wipeD, frz, isN_non, isN_int, isN_bl, isN_tup, isN_lst, ints?_map, bls?_map, ints?_mapf, bls?_mapf, fit_int, fit_bl, fit_non, eqv_int, eqv_bl, cast2, cast3, cast1, cast0, intD, intD0, List.set_cons_zero, List.set_cons_succ, List.getElem?_cons_zero, List.getElem?_cons_succ, List.map_cons, List.map_nil, List.length_cons, List.length_nil, List.length_map, Nat.reduceAdd, Option.some.injEq, if_true, if_false, reduceCtorEq, decide_eq_true_eq, Bool.not_eq_true, true_or, or_true, true_and, and_true, false_or, or_false, String.reduceEq, String.reduceBEq, Bool.or_true, Bool.true_or, Bool.or_false, Bool.false_or, beq_self_eq_true, Bool.not_true, Bool.not_false, Bool.false_eq_true]
  refine ⟨two, rfl, ok2, fun m2 h2 _ => ?_⟩
  refine ⟨one, rfl, ok1, fun m1 _ h1 => ?_⟩
  have hmm : m2 ≤ m1 := by
    obtain ⟨ws, hws, rfl⟩ := List.mem_map.mp h2
    obtain ⟨ys, hys, hle⟩ := le12.most ws hws
    exact Int.le_trans hle (h1 ys hys)
  have hw12 := le12.width
  simp only [zNext, zSeq, zPass, zBreak, zCont, zNever, zExpr, zRet, zRetN, zIf, zAsg, zSetO, zFrz, zApp, zPar, zParO1, zParO2, zFor, sVar, sC, sOp, sB, sBi, sCall, aNil, aCons, sTup, sLst, oLst, bAnd, bOr, bNot, sAnd, sOr, sNot, sIf, sNeg, sChain, oNone, oSome, sSl, sLast, iSeqD, iEnumD, iZipD, iRg1, iRg2, iRg3, sLC, sLC2, bYes, addD, subD, mulD, fdivD, modD, powD, ltD, leD, gtD, geD, eqD, neD, isD, isntD, ixD, sumD, lenD, absD, maxD, minD, allD, anyD, intCD, tupCD, lstCD, isiD, reprD, isTy, seqD?, bindP, bindPs, wipeD, frz, isN_non, isN_int, isN_bl, isN_tup, isN_lst, ints?_map, bls?_map, ints?_mapf, bls?_mapf, fit_int, fit_bl, fit_non, eqv_int, eqv_bl, cast2, cast3, cast1, cast0, intD, intD0, List.set_cons_zero, List.set_cons_succ, List.getElem?_cons_zero, List.getElem?_cons_succ, List.map_cons, List.map_nil, List.length_cons, List.length_nil, List.length_map, Nat.reduceAdd, Option.some.injEq, if_true, if_false, reduceCtorEq, decide_eq_true_eq, Bool.not_eq_true, true_or, or_true, true_and, and_true, false_or, or_false, String.reduceEq, String.reduceBEq, Bool.or_true, Bool.true_or, Bool.or_false, Bool.false_or, beq_self_eq_true, Bool.not_true, Bool.not_false, Bool.false_eq_true]
  rw [if_neg (by omega)]
  refine ⟨one, one, rfl, ok1, ok1, fun o ho => ?_⟩
  obtain rfl := (Less.refl one).lm ho
  simp only [Option.isNone_none, zNext, zSeq, zPass, zBreak, zCont, zNever, zExpr, zRet, zRetN, zIf, zAsg, zSetO, zFrz, zApp, zPar, zParO1, zParO2, zFor, sVar, sC, sOp, sB, sBi, sCall, aNil, aCons, sTup, sLst, oLst, bAnd, bOr, bNot, sAnd, sOr, sNot, sIf, sNeg, sChain, oNone, oSome, sSl, sLast, iSeqD, iEnumD, iZipD, iRg1, iRg2, iRg3, sLC, sLC2, bYes, addD, subD, mulD, fdivD, modD, powD, ltD, leD, gtD, geD, eqD, neD, isD, isntD, ixD, sumD, lenD, absD, maxD, minD, allD, anyD, intCD, tupCD, lstCD, isiD, reprD, isTy, seqD?, bindP, bindPs, wipeD, frz, isN_non, isN_int, isN_bl, isN_tup, isN_lst, ints?_map, bls?_map, ints?_mapf, bls?_mapf, fit_int, fit_bl, fit_non, eqv_int, eqv_bl, cast2, cast3, cast1, cast0, intD, intD0, List.set_cons_zero, List.set_cons_succ, List.getElem?_cons_zero, List.getElem?_cons_succ, List.map_cons, List.map_nil, List.length_cons, List.length_nil, List.length_map, Nat.reduceAdd, Option.some.injEq, if_true, if_false, reduceCtorEq, decide_eq_true_eq, Bool.not_eq_true, true_or, or_true, true_and, and_true, false_or, or_false, String.reduceEq, String.reduceBEq, Bool.or_true, Bool.true_or, Bool.or_false, Bool.false_or, beq_self_eq_true, Bool.not_true, Bool.not_false, Bool.false_eq_true]
  refine ⟨le_sl (by decide), le_sl (by decide), le_sl (by decide), le_sl (by decide), le_sl (by decide), ?_⟩
  refine forGo_ind1 (p := .tp [.nm 6, .nm 7]) (fun xs e => (∀ x ∈ xs, ∃ a b : Wd, x = D.tup [encW a, encW b] ∧ OkW a ∧ OkW b) ∧ ∃ u6 u7 u8 u9 u10 : Slot, e = [.un, .val .bag, .val (encW one), .val (encW two), .val (encW three), .val (encW other), u6, u7, u8, u9, u10]) ?_ ?_ _ _ ⟨fun x hx => ?_, .un, .un, .un, .un, .un, rfl⟩
  · rintro e ⟨_, u6, u7, u8, u9, u10, rfl⟩
    simp only [zNext, zSeq, zPass, zBreak, zCont, zNever, zExpr, zRet, zRetN, zIf, zAsg, zSetO, zFrz, zApp, zPar, zParO1, zParO2, zFor, sVar, sC, sOp, sB, sBi, sCall, aNil, aCons, sTup, sLst, oLst, bAnd, bOr, bNot, sAnd, sOr, sNot, sIf, sNeg, sChain, oNone, oSome, sSl, sLast, iSeqD, iEnumD, iZipD, iRg1, iRg2, iRg3, sLC, sLC2, bYes, addD, subD, mulD, fdivD, modD, powD, ltD, leD, gtD, geD, eqD, neD, isD, isntD, ixD, sumD, lenD, absD, maxD, minD, allD, anyD, intCD, tupCD, lstCD, isiD, reprD, isTy, seqD?, bindP, bindPs, wipeD, frz, isN_non, isN_int, isN_bl, isN_tup, isN_lst, ints?_map, bls?_map, ints?_mapf, bls?_mapf, fit_int, fit_bl, fit_non, eqv_int, eqv_bl, cast2, cast3, cast1, cast0, intD, intD0, List.set_cons_zero, List.set_cons_succ, List.getElem?_cons_zero, List.getElem?_cons_succ, List.map_cons, List.map_nil, List.length_cons, List.length_nil, List.length_map, Nat.reduceAdd, Option.some.injEq, if_true, if_false, reduceCtorEq, decide_eq_true_eq, Bool.not_eq_true, true_or, or_true, true_and, and_true, false_or, or_false, String.reduceEq, String.reduceBEq, Bool.or_true, Bool.true_or, Bool.or_false, Bool.false_or, beq_self_eq_true, Bool.not_true, Bool.not_false, Bool.false_eq_true]
    refine ⟨one, other, rfl, ok1, ok4, fun o ho => ?_⟩
    simp only [zNext, zSeq, zPass, zBreak, zCont, zNever, zExpr, zRet, zRetN, zIf, zAsg, zSetO, zFrz, zApp, zPar, zParO1, zParO2, zFor, sVar, sC, sOp, sB, sBi, sCall, aNil, aCons, sTup, sLst, oLst, bAnd, bOr, bNot, sAnd, sOr, sNot, sIf, sNeg, sChain, oNone, oSome, sSl, sLast, iSeqD, iEnumD, iZipD, iRg1, iRg2, iRg3, sLC, sLC2, bYes, addD, subD, mulD, fdivD, modD, powD, ltD, leD, gtD, geD, eqD, neD, isD, isntD, ixD, sumD, lenD, absD, maxD, minD, allD, anyD, intCD, tupCD, lstCD, isiD, reprD, isTy, seqD?, bindP, bindPs, wipeD, frz, isN_non, isN_int, isN_bl, isN_tup, isN_lst, ints?_map, bls?_map, ints?_mapf, bls?_mapf, fit_int, fit_bl, fit_non, eqv_int, eqv_bl, cast2, cast3, cast1, cast0, intD, intD0, List.set_cons_zero, List.set_cons_succ, List.getElem?_cons_zero, List.getElem?_cons_succ, List.map_cons, List.map_nil, List.length_cons, List.length_nil, List.length_map, Nat.reduceAdd, Option.some.injEq, if_true, if_false, reduceCtorEq, decide_eq_true_eq, Bool.not_eq_true, true_or, or_true, true_and, and_true, false_or, or_false, String.reduceEq, String.reduceBEq, Bool.or_true, Bool.true_or, Bool.or_false, Bool.false_or, beq_self_eq_true, Bool.not_true, Bool.not_false, Bool.false_eq_true]
    have tl : phi_opens_all [encW other, encW two] fun d => match d with
        | .bl b => if b = true then phi_opens_all [encW other, encW one] fun d => (match d with
          | .bl b => if (!b) = true then False else True
          | _ => False) else True
        | _ => False := by
      refine ⟨other, two, rfl, ok4, ok2, fun o ho => ?_⟩
      simp only [zNext, zSeq, zPass, zBreak, zCont, zNever, zExpr, zRet, zRetN, zIf, zAsg, zSetO, zFrz, zApp, zPar, zParO1, zParO2, zFor, sVar, sC, sOp, sB, sBi, sCall, aNil, aCons, sTup, sLst, oLst, bAnd, bOr, bNot, sAnd, sOr, sNot, sIf, sNeg, sChain, oNone, oSome, sSl, sLast, iSeqD, iEnumD, iZipD, iRg1, iRg2, iRg3, sLC, sLC2, bYes, addD, subD, mulD, fdivD, modD, powD, ltD, leD, gtD, geD, eqD, neD, isD, isntD, ixD, sumD, lenD, absD, maxD, minD, allD, anyD, intCD, tupCD, lstCD, isiD, reprD, isTy, seqD?, bindP, bindPs, wipeD, frz, isN_non, isN_int, isN_bl, isN_tup, isN_lst, ints?_map, bls?_map, ints?_mapf, bls?_mapf, fit_int, fit_bl, fit_non, eqv_int, eqv_bl, cast2, cast3, cast1, cast0, intD, intD0, List.set_cons_zero, List.set_cons_succ, List.getElem?_cons_zero, List.getElem?_cons_succ, List.map_cons, List.map_nil, List.length_cons, List.length_nil, List.length_map, Nat.reduceAdd, Option.some.injEq, if_true, if_false, reduceCtorEq, decide_eq_true_eq, Bool.not_eq_true, true_or, or_true, true_and, and_true, false_or, or_false, String.reduceEq, String.reduceBEq, Bool.or_true, Bool.true_or, Bool.or_false, Bool.false_or, beq_self_eq_true, Bool.not_true, Bool.not_false, Bool.false_eq_true]
      split
      · rename_i hn
        refine ⟨other, one, rfl, ok4, ok1, fun o' ho' => ?_⟩
        have : o'.isNone = true := ho'.none_iff.mpr fun l k t => ho.none_iff.mp hn l k ⟨t.1, t.2.1, by rw [hw12]; exact t.2.2.1, le12.opens _ _ t.2.2.2.1, t.2.2.2.2⟩
        simp only [this, zNext, zSeq, zPass, zBreak, zCont, zNever, zExpr, zRet, zRetN, zIf, zAsg, zSetO, zFrz, zApp, zPar, zParO1, zParO2, zFor, sVar, sC, sOp, sB, sBi, sCall, aNil, aCons, sTup, sLst, oLst, bAnd, bOr, bNot, sAnd, sOr, sNot, sIf, sNeg, sChain, oNone, oSome, sSl, sLast, iSeqD, iEnumD, iZipD, iRg1, iRg2, iRg3, sLC, sLC2, bYes, addD, subD, mulD, fdivD, modD, powD, ltD, leD, gtD, geD, eqD, neD, isD, isntD, ixD, sumD, lenD, absD, maxD, minD, allD, anyD, intCD, tupCD, lstCD, isiD, reprD, isTy, seqD?, bindP, bindPs, wipeD, frz, isN_non, isN_int, isN_bl, isN_tup, isN_lst, ints?_map, bls?_map, ints?_mapf, bls?_mapf, fit_int, fit_bl, fit_non, eqv_int, eqv_bl, cast2, cast3, cast1, cast0, intD, intD0, List.set_cons_zero, List.set_cons_succ, List.getElem?_cons_zero, List.getElem?_cons_succ, List.map_cons, List.map_nil, List.length_cons, List.length_nil, List.length_map, Nat.reduceAdd, Option.some.injEq, if_true, if_false, reduceCtorEq, decide_eq_true_eq, Bool.not_eq_true, true_or, or_true, true_and, and_true, false_or, or_false, String.reduceEq, String.reduceBEq, Bool.or_true, Bool.true_or, Bool.or_false, Bool.false_or, beq_self_eq_true, Bool.not_true, Bool.not_false, Bool.false_eq_true]
      · trivial
    split
    · rename_i hn
      refine ⟨two, other, rfl, ok2, ok4, fun o' ho' => ?_⟩
      have : o'.isNone = true := ho'.none_iff.mpr fun l k t => ho.none_iff.mp hn l k ⟨t.1, t.2.1, t.2.2.1, t.2.2.2.1, fun z => t.2.2.2.2 ⟨by rw [hw12]; exact z.1, le12.opens _ _ z.2⟩⟩
      simp only [this, zNext, zSeq, zPass, zBreak, zCont, zNever, zExpr, zRet, zRetN, zIf, zAsg, zSetO, zFrz, zApp, zPar, zParO1, zParO2, zFor, sVar, sC, sOp, sB, sBi, sCall, aNil, aCons, sTup, sLst, oLst, bAnd, bOr, bNot, sAnd, sOr, sNot, sIf, sNeg, sChain, oNone, oSome, sSl, sLast, iSeqD, iEnumD, iZipD, iRg1, iRg2, iRg3, sLC, sLC2, bYes, addD, subD, mulD, fdivD, modD, powD, ltD, leD, gtD, geD, eqD, neD, isD, isntD, ixD, sumD, lenD, absD, maxD, minD, allD, anyD, intCD, tupCD, lstCD, isiD, reprD, isTy, seqD?, bindP, bindPs, wipeD, frz, isN_non, isN_int, isN_bl, isN_tup, isN_lst, ints?_map, bls?_map, ints?_mapf, bls?_mapf, fit_int, fit_bl, fit_non, eqv_int, eqv_bl, cast2, cast3, cast1, cast0, intD, intD0, List.set_cons_zero, List.set_cons_succ, List.getElem?_cons_zero, List.getElem?_cons_succ, List.map_cons, List.map_nil, List.length_cons, List.length_nil, List.length_map, Nat.reduceAdd, Option.some.injEq, if_true, if_false, reduceCtorEq, decide_eq_true_eq, Bool.not_eq_true, true_or, or_true, true_and, and_true, false_or, or_false, String.reduceEq, String.reduceBEq, Bool.or_true, Bool.true_or, Bool.or_false, Bool.false_or, beq_self_eq_true, Bool.not_true, Bool.not_false, Bool.false_eq_true]
      exact tl
    · exact tl
  · rintro x xs e ⟨hx, u6, u7, u8, u9, u10, rfl⟩ K hK
    obtain ⟨first, second, rfl, oka, okb⟩ := hx x List.mem_cons_self
    have hxs := fun y hy => hx y (List.mem_cons_of_mem _ hy)
    have done : ∀ v8 v9 v10 : Slot, K [.un, .val .bag, .val (encW one), .val (encW two), .val (encW three), .val (encW other), .val (encW first), .val (encW second), v8, v9, v10] := fun v8 v9 v10 =>
      hK _ ⟨hxs, .val (encW first), .val (encW second), v8, v9, v10, rfl⟩
    refine ⟨_, rfl, ?_⟩
    simp only [zNext, zSeq, zPass, zBreak, zCont, zNever, zExpr, zRet, zRetN, zIf, zAsg, zSetO, zFrz, zApp, zPar, zParO1, zParO2, zFor, sVar, sC, sOp, sB, sBi, sCall, aNil, aCons, sTup, sLst, oLst, bAnd, bOr, bNot, sAnd, sOr, sNot, sIf, sNeg, sChain, oNone, oSome, sSl, sLast, iSeqD, iEnumD, iZipD, iRg1, iRg2, iRg3, sLC, sLC2, bYes, addD, subD, mulD, fdivD, modD, powD, ltD, leD, gtD, geD, eqD, neD, isD, isntD, ixD, sumD, lenD, absD, maxD, minD, allD, anyD, intCD, tupCD, lstCD, isiD, reprD, isTy, seqD?, bindP, bindPs, wipeD, frz, isN_non, isN_int, isN_bl, isN_tup, isN_lst, ints?_map, bls?_map, ints?_mapf, bls?_mapf, fit_int, fit_bl, fit_non, eqv_int, eqv_bl, cast2, cast3, cast1, cast0, intD, intD0, List.set_cons_zero, List.set_cons_succ, List.getElem?_cons_zero, List.getElem?_cons_succ, List.map_cons, List.map_nil, List.length_cons, List.length_nil, List.length_map, Nat.reduceAdd, Option.some.injEq, if_true, if_false, reduceCtorEq, decide_eq_true_eq, Bool.not_eq_true, true_or, or_true, true_and, and_true, false_or, or_false, String.reduceEq, String.reduceBEq, Bool.or_true, Bool.true_or, Bool.or_false, Bool.false_or, beq_self_eq_true, Bool.not_true, Bool.not_false, Bool.false_eq_true]
    refine ⟨first, second, rfl, oka, okb, fun o ho => ?_⟩
    simp only [isN_encO, zNext, zSeq, zPass, zBreak, zCont, zNever, zExpr, zRet, zRetN, zIf, zAsg, zSetO, zFrz, zApp, zPar, zParO1, zParO2, zFor, sVar, sC, sOp, sB, sBi, sCall, aNil, aCons, sTup, sLst, oLst, bAnd, bOr, bNot, sAnd, sOr, sNot, sIf, sNeg, sChain, oNone, oSome, sSl, sLast, iSeqD, iEnumD, iZipD, iRg1, iRg2, iRg3, sLC, sLC2, bYes, addD, subD, mulD, fdivD, modD, powD, ltD, leD, gtD, geD, eqD, neD, isD, isntD, ixD, sumD, lenD, absD, maxD, minD, allD, anyD, intCD, tupCD, lstCD, isiD, reprD, isTy, seqD?, bindP, bindPs, wipeD, frz, isN_non, isN_int, isN_bl, isN_tup, isN_lst, ints?_map, bls?_map, ints?_mapf, bls?_mapf, fit_int, fit_bl, fit_non, eqv_int, eqv_bl, cast2, cast3, cast1, cast0, intD, intD0, List.set_cons_zero, List.set_cons_succ, List.getElem?_cons_zero, List.getElem?_cons_succ, List.map_cons, List.map_nil, List.length_cons, List.length_nil, List.length_map, Nat.reduceAdd, Option.some.injEq, if_true, if_false, reduceCtorEq, decide_eq_true_eq, Bool.not_eq_true, true_or, or_true, true_and, and_true, false_or, or_false, String.reduceEq, String.reduceBEq, Bool.or_true, Bool.true_or, Bool.or_false, Bool.false_or, beq_self_eq_true, Bool.not_true, Bool.not_false, Bool.false_eq_true]
    refine ⟨first, second, rfl, oka, okb, fun o' ho' => ?_⟩
    obtain rfl := ho.uniq ho'
    have ef : encW first = D.tup [.int first.1, .tup (first.2.map iT)] := rfl
    simp only [zNext, zSeq, zPass, zBreak, zCont, zNever, zExpr, zRet, zRetN, zIf, zAsg, zSetO, zFrz, zApp, zPar, zParO1, zParO2, zFor, sVar, sC, sOp, sB, sBi, sCall, aNil, aCons, sTup, sLst, oLst, bAnd, bOr, bNot, sAnd, sOr, sNot, sIf, sNeg, sChain, oNone, oSome, sSl, sLast, iSeqD, iEnumD, iZipD, iRg1, iRg2, iRg3, sLC, sLC2, bYes, addD, subD, mulD, fdivD, modD, powD, ltD, leD, gtD, geD, eqD, neD, isD, isntD, ixD, sumD, lenD, absD, maxD, minD, allD, anyD, intCD, tupCD, lstCD, isiD, reprD, isTy, seqD?, bindP, bindPs, wipeD, frz, isN_non, isN_int, isN_bl, isN_tup, isN_lst, ints?_map, bls?_map, ints?_mapf, bls?_mapf, fit_int, fit_bl, fit_non, eqv_int, eqv_bl, cast2, cast3, cast1, cast0, intD, intD0, List.set_cons_zero, List.set_cons_succ, List.getElem?_cons_zero, List.getElem?_cons_succ, List.map_cons, List.map_nil, List.length_cons, List.length_nil, List.length_map, Nat.reduceAdd, Option.some.injEq, if_true, if_false, reduceCtorEq, decide_eq_true_eq, Bool.not_eq_true, true_or, or_true, true_and, and_true, false_or, or_false, String.reduceEq, String.reduceBEq, Bool.or_true, Bool.true_or, Bool.or_false, Bool.false_or, beq_self_eq_true, Bool.not_true, Bool.not_false, Bool.false_eq_true]
    cases o with
    | none =>
      simp only [Option.isNone_none, zNext, zSeq, zPass, zBreak, zCont, zNever, zExpr, zRet, zRetN, zIf, zAsg, zSetO, zFrz, zApp, zPar, zParO1, zParO2, zFor, sVar, sC, sOp, sB, sBi, sCall, aNil, aCons, sTup, sLst, oLst, bAnd, bOr, bNot, sAnd, sOr, sNot, sIf, sNeg, sChain, oNone, oSome, sSl, sLast, iSeqD, iEnumD, iZipD, iRg1, iRg2, iRg3, sLC, sLC2, bYes, addD, subD, mulD, fdivD, modD, powD, ltD, leD, gtD, geD, eqD, neD, isD, isntD, ixD, sumD, lenD, absD, maxD, minD, allD, anyD, intCD, tupCD, lstCD, isiD, reprD, isTy, seqD?, bindP, bindPs, wipeD, frz, isN_non, isN_int, isN_bl, isN_tup, isN_lst, ints?_map, bls?_map, ints?_mapf, bls?_mapf, fit_int, fit_bl, fit_non, eqv_int, eqv_bl, cast2, cast3, cast1, cast0, intD, intD0, List.set_cons_zero, List.set_cons_succ, List.getElem?_cons_zero, List.getElem?_cons_succ, List.map_cons, List.map_nil, List.length_cons, List.length_nil, List.length_map, Nat.reduceAdd, Option.some.injEq, if_true, if_false, reduceCtorEq, decide_eq_true_eq, Bool.not_eq_true, true_or, or_true, true_and, and_true, false_or, or_false, String.reduceEq, String.reduceBEq, Bool.or_true, Bool.true_or, Bool.or_false, Bool.false_or, beq_self_eq_true, Bool.not_true, Bool.not_false, Bool.false_eq_true]
      refine ⟨second, rfl, okb, fun a b a0 ab bW => ?_⟩
      simp only [ef, encS, atI_0, atI_1, zNext, zSeq, zPass, zBreak, zCont, zNever, zExpr, zRet, zRetN, zIf, zAsg, zSetO, zFrz, zApp, zPar, zParO1, zParO2, zFor, sVar, sC, sOp, sB, sBi, sCall, aNil, aCons, sTup, sLst, oLst, bAnd, bOr, bNot, sAnd, sOr, sNot, sIf, sNeg, sChain, oNone, oSome, sSl, sLast, iSeqD, iEnumD, iZipD, iRg1, iRg2, iRg3, sLC, sLC2, bYes, addD, subD, mulD, fdivD, modD, powD, ltD, leD, gtD, geD, eqD, neD, isD, isntD, ixD, sumD, lenD, absD, maxD, minD, allD, anyD, intCD, tupCD, lstCD, isiD, reprD, isTy, seqD?, bindP, bindPs, wipeD, frz, isN_non, isN_int, isN_bl, isN_tup, isN_lst, ints?_map, bls?_map, ints?_mapf, bls?_mapf, fit_int, fit_bl, fit_non, eqv_int, eqv_bl, cast2, cast3, cast1, cast0, intD, intD0, List.set_cons_zero, List.set_cons_succ, List.getElem?_cons_zero, List.getElem?_cons_succ, List.map_cons, List.map_nil, List.length_cons, List.length_nil, List.length_map, Nat.reduceAdd, Option.some.injEq, if_true, if_false, reduceCtorEq, decide_eq_true_eq, Bool.not_eq_true, true_or, or_true, true_and, and_true, false_or, or_false, String.reduceEq, String.reduceBEq, Bool.or_true, Bool.true_or, Bool.or_false, Bool.false_or, beq_self_eq_true, Bool.not_true, Bool.not_false, Bool.false_eq_true]
      rw [← ef]
      by_cases c : b ≤ first.1
      · rw [if_pos c]
        refine ⟨second, a, b, rfl, okb, ⟨a0, ab, bW⟩, ?_⟩
        simp only [zNext, zSeq, zPass, zBreak, zCont, zNever, zExpr, zRet, zRetN, zIf, zAsg, zSetO, zFrz, zApp, zPar, zParO1, zParO2, zFor, sVar, sC, sOp, sB, sBi, sCall, aNil, aCons, sTup, sLst, oLst, bAnd, bOr, bNot, sAnd, sOr, sNot, sIf, sNeg, sChain, oNone, oSome, sSl, sLast, iSeqD, iEnumD, iZipD, iRg1, iRg2, iRg3, sLC, sLC2, bYes, addD, subD, mulD, fdivD, modD, powD, ltD, leD, gtD, geD, eqD, neD, isD, isntD, ixD, sumD, lenD, absD, maxD, minD, allD, anyD, intCD, tupCD, lstCD, isiD, reprD, isTy, seqD?, bindP, bindPs, wipeD, frz, isN_non, isN_int, isN_bl, isN_tup, isN_lst, ints?_map, bls?_map, ints?_mapf, bls?_mapf, fit_int, fit_bl, fit_non, eqv_int, eqv_bl, cast2, cast3, cast1, cast0, intD, intD0, List.set_cons_zero, List.set_cons_succ, List.getElem?_cons_zero, List.getElem?_cons_succ, List.map_cons, List.map_nil, List.length_cons, List.length_nil, List.length_map, Nat.reduceAdd, Option.some.injEq, if_true, if_false, reduceCtorEq, decide_eq_true_eq, Bool.not_eq_true, true_or, or_true, true_and, and_true, false_or, or_false, String.reduceEq, String.reduceBEq, Bool.or_true, Bool.true_or, Bool.or_false, Bool.false_or, beq_self_eq_true, Bool.not_true, Bool.not_false, Bool.false_eq_true]
        cases c2 : canB second a b with
        | false => simp only [zNext, zSeq, zPass, zBreak, zCont, zNever, zExpr, zRet, zRetN, zIf, zAsg, zSetO, zFrz, zApp, zPar, zParO1, zParO2, zFor, sVar, sC, sOp, sB, sBi, sCall, aNil, aCons, sTup, sLst, oLst, bAnd, bOr, bNot, sAnd, sOr, sNot, sIf, sNeg, sChain, oNone, oSome, sSl, sLast, iSeqD, iEnumD, iZipD, iRg1, iRg2, iRg3, sLC, sLC2, bYes, addD, subD, mulD, fdivD, modD, powD, ltD, leD, gtD, geD, eqD, neD, isD, isntD, ixD, sumD, lenD, absD, maxD, minD, allD, anyD, intCD, tupCD, lstCD, isiD, reprD, isTy, seqD?, bindP, bindPs, wipeD, frz, isN_non, isN_int, isN_bl, isN_tup, isN_lst, ints?_map, bls?_map, ints?_mapf, bls?_mapf, fit_int, fit_bl, fit_non, eqv_int, eqv_bl, cast2, cast3, cast1, cast0, intD, intD0, List.set_cons_zero, List.set_cons_succ, List.getElem?_cons_zero, List.getElem?_cons_succ, List.map_cons, List.map_nil, List.length_cons, List.length_nil, List.length_map, Nat.reduceAdd, Option.some.injEq, if_true, if_false, reduceCtorEq, decide_eq_true_eq, Bool.not_eq_true, true_or, or_true, true_and, and_true, false_or, or_false, String.reduceEq, String.reduceBEq, Bool.or_true, Bool.true_or, Bool.or_false, Bool.false_or, beq_self_eq_true, Bool.not_true, Bool.not_false, Bool.false_eq_true]; exact done _ _ _
        | true =>
          simp only [zNext, zSeq, zPass, zBreak, zCont, zNever, zExpr, zRet, zRetN, zIf, zAsg, zSetO, zFrz, zApp, zPar, zParO1, zParO2, zFor, sVar, sC, sOp, sB, sBi, sCall, aNil, aCons, sTup, sLst, oLst, bAnd, bOr, bNot, sAnd, sOr, sNot, sIf, sNeg, sChain, oNone, oSome, sSl, sLast, iSeqD, iEnumD, iZipD, iRg1, iRg2, iRg3, sLC, sLC2, bYes, addD, subD, mulD, fdivD, modD, powD, ltD, leD, gtD, geD, eqD, neD, isD, isntD, ixD, sumD, lenD, absD, maxD, minD, allD, anyD, intCD, tupCD, lstCD, isiD, reprD, isTy, seqD?, bindP, bindPs, wipeD, frz, isN_non, isN_int, isN_bl, isN_tup, isN_lst, ints?_map, bls?_map, ints?_mapf, bls?_mapf, fit_int, fit_bl, fit_non, eqv_int, eqv_bl, cast2, cast3, cast1, cast0, intD, intD0, List.set_cons_zero, List.set_cons_succ, List.getElem?_cons_zero, List.getElem?_cons_succ, List.map_cons, List.map_nil, List.length_cons, List.length_nil, List.length_map, Nat.reduceAdd, Option.some.injEq, if_true, if_false, reduceCtorEq, decide_eq_true_eq, Bool.not_eq_true, true_or, or_true, true_and, and_true, false_or, or_false, String.reduceEq, String.reduceBEq, Bool.or_true, Bool.true_or, Bool.or_false, Bool.false_or, beq_self_eq_true, Bool.not_true, Bool.not_false, Bool.false_eq_true]
          refine ⟨first, a, b, rfl, oka, ⟨a0, ab, c⟩, ?_⟩
          have : canB first a b = true := by
            rw [canB_iff]
            exact Classical.byContradiction fun z => ho a b ⟨a0, ab, bW, canB_iff.mp c2, fun y => z y.2⟩
          simp only [this, zNext, zSeq, zPass, zBreak, zCont, zNever, zExpr, zRet, zRetN, zIf, zAsg, zSetO, zFrz, zApp, zPar, zParO1, zParO2, zFor, sVar, sC, sOp, sB, sBi, sCall, aNil, aCons, sTup, sLst, oLst, bAnd, bOr, bNot, sAnd, sOr, sNot, sIf, sNeg, sChain, oNone, oSome, sSl, sLast, iSeqD, iEnumD, iZipD, iRg1, iRg2, iRg3, sLC, sLC2, bYes, addD, subD, mulD, fdivD, modD, powD, ltD, leD, gtD, geD, eqD, neD, isD, isntD, ixD, sumD, lenD, absD, maxD, minD, allD, anyD, intCD, tupCD, lstCD, isiD, reprD, isTy, seqD?, bindP, bindPs, wipeD, frz, isN_non, isN_int, isN_bl, isN_tup, isN_lst, ints?_map, bls?_map, ints?_mapf, bls?_mapf, fit_int, fit_bl, fit_non, eqv_int, eqv_bl, cast2, cast3, cast1, cast0, intD, intD0, List.set_cons_zero, List.set_cons_succ, List.getElem?_cons_zero, List.getElem?_cons_succ, List.map_cons, List.map_nil, List.length_cons, List.length_nil, List.length_map, Nat.reduceAdd, Option.some.injEq, if_true, if_false, reduceCtorEq, decide_eq_true_eq, Bool.not_eq_true, true_or, or_true, true_and, and_true, false_or, or_false, String.reduceEq, String.reduceBEq, Bool.or_true, Bool.true_or, Bool.or_false, Bool.false_or, beq_self_eq_true, Bool.not_true, Bool.not_false, Bool.false_eq_true]
          exact done _ _ _
      · rw [if_neg c]
        exact done _ _ _
    | some q =>
      obtain ⟨l, h⟩ := q
      obtain ⟨⟨t1, t2, t3, t4, t5⟩, hmin⟩ := ho
      simp only [Option.isNone_some, encO, zNext, zSeq, zPass, zBreak, zCont, zNever, zExpr, zRet, zRetN, zIf, zAsg, zSetO, zFrz, zApp, zPar, zParO1, zParO2, zFor, sVar, sC, sOp, sB, sBi, sCall, aNil, aCons, sTup, sLst, oLst, bAnd, bOr, bNot, sAnd, sOr, sNot, sIf, sNeg, sChain, oNone, oSome, sSl, sLast, iSeqD, iEnumD, iZipD, iRg1, iRg2, iRg3, sLC, sLC2, bYes, addD, subD, mulD, fdivD, modD, powD, ltD, leD, gtD, geD, eqD, neD, isD, isntD, ixD, sumD, lenD, absD, maxD, minD, allD, anyD, intCD, tupCD, lstCD, isiD, reprD, isTy, seqD?, bindP, bindPs, wipeD, frz, isN_non, isN_int, isN_bl, isN_tup, isN_lst, ints?_map, bls?_map, ints?_mapf, bls?_mapf, fit_int, fit_bl, fit_non, eqv_int, eqv_bl, cast2, cast3, cast1, cast0, intD, intD0, List.set_cons_zero, List.set_cons_succ, List.getElem?_cons_zero, List.getElem?_cons_succ, List.map_cons, List.map_nil, List.length_cons, List.length_nil, List.length_map, Nat.reduceAdd, Option.some.injEq, if_true, if_false, reduceCtorEq, decide_eq_true_eq, Bool.not_eq_true, true_or, or_true, true_and, and_true, false_or, or_false, String.reduceEq, String.reduceBEq, Bool.or_true, Bool.true_or, Bool.or_false, Bool.false_or, beq_self_eq_true, Bool.not_true, Bool.not_false, Bool.false_eq_true]
      simp only at t1 t2 t3 t4 t5 hmin
      refine ⟨second, l, h, rfl, okb, ⟨t1, t2, t3⟩, ?_⟩
      simp only [canB_iff.mpr t4, ef, encS, atI_0, atI_1, zNext, zSeq, zPass, zBreak, zCont, zNever, zExpr, zRet, zRetN, zIf, zAsg, zSetO, zFrz, zApp, zPar, zParO1, zParO2, zFor, sVar, sC, sOp, sB, sBi, sCall, aNil, aCons, sTup, sLst, oLst, bAnd, bOr, bNot, sAnd, sOr, sNot, sIf, sNeg, sChain, oNone, oSome, sSl, sLast, iSeqD, iEnumD, iZipD, iRg1, iRg2, iRg3, sLC, sLC2, bYes, addD, subD, mulD, fdivD, modD, powD, ltD, leD, gtD, geD, eqD, neD, isD, isntD, ixD, sumD, lenD, absD, maxD, minD, allD, anyD, intCD, tupCD, lstCD, isiD, reprD, isTy, seqD?, bindP, bindPs, wipeD, frz, isN_non, isN_int, isN_bl, isN_tup, isN_lst, ints?_map, bls?_map, ints?_mapf, bls?_mapf, fit_int, fit_bl, fit_non, eqv_int, eqv_bl, cast2, cast3, cast1, cast0, intD, intD0, List.set_cons_zero, List.set_cons_succ, List.getElem?_cons_zero, List.getElem?_cons_succ, List.map_cons, List.map_nil, List.length_cons, List.length_nil, List.length_map, Nat.reduceAdd, Option.some.injEq, if_true, if_false, reduceCtorEq, decide_eq_true_eq, Bool.not_eq_true, true_or, or_true, true_and, and_true, false_or, or_false, String.reduceEq, String.reduceBEq, Bool.or_true, Bool.true_or, Bool.or_false, Bool.false_or, beq_self_eq_true, Bool.not_true, Bool.not_false, Bool.false_eq_true]
      rw [← ef]
      have shorter : ∀ u8 : Slot, u8 = .val (D.tup [D.int l, D.int h]) → (if 1 < h - l then phi_can_open [encW first, D.tup [D.int l, D.int (h - 1)]] fun d => (match d with
          | .bl b => if (!b) = true then False else K [.un, .val .bag, .val (encW one), .val (encW two), .val (encW three), .val (encW other), .val (encW first), .val (encW second), u8, u9, .val (D.tup [D.int l, D.int (h - 1)])]
          | _ => False) else K [.un, .val .bag, .val (encW one), .val (encW two), .val (encW three), .val (encW other), .val (encW first), .val (encW second), u8, u9, .val (D.tup [D.int l, D.int (h - 1)])]) := fun u8 _ => by
        split
        · rename_i c
          have nt : ¬ Tell first second l (h - 1) := fun t => by
            have := hmin _ _ t
            omega
          have hc : h - 1 ≤ first.1 ∧ Can first l (h - 1) := Classical.byContradiction fun z => nt ⟨t1, by omega, by omega, fun ws hws => by
            obtain ⟨x, x1, x2, x3⟩ := t4 ws hws
            exact ⟨x, x1, x2, by omega⟩, z⟩
          refine ⟨first, l, h - 1, rfl, oka, ⟨t1, by omega, hc.1⟩, ?_⟩
          simp only [canB_iff.mpr hc.2, zNext, zSeq, zPass, zBreak, zCont, zNever, zExpr, zRet, zRetN, zIf, zAsg, zSetO, zFrz, zApp, zPar, zParO1, zParO2, zFor, sVar, sC, sOp, sB, sBi, sCall, aNil, aCons, sTup, sLst, oLst, bAnd, bOr, bNot, sAnd, sOr, sNot, sIf, sNeg, sChain, oNone, oSome, sSl, sLast, iSeqD, iEnumD, iZipD, iRg1, iRg2, iRg3, sLC, sLC2, bYes, addD, subD, mulD, fdivD, modD, powD, ltD, leD, gtD, geD, eqD, neD, isD, isntD, ixD, sumD, lenD, absD, maxD, minD, allD, anyD, intCD, tupCD, lstCD, isiD, reprD, isTy, seqD?, bindP, bindPs, wipeD, frz, isN_non, isN_int, isN_bl, isN_tup, isN_lst, ints?_map, bls?_map, ints?_mapf, bls?_mapf, fit_int, fit_bl, fit_non, eqv_int, eqv_bl, cast2, cast3, cast1, cast0, intD, intD0, List.set_cons_zero, List.set_cons_succ, List.getElem?_cons_zero, List.getElem?_cons_succ, List.map_cons, List.map_nil, List.length_cons, List.length_nil, List.length_map, Nat.reduceAdd, Option.some.injEq, if_true, if_false, reduceCtorEq, decide_eq_true_eq, Bool.not_eq_true, true_or, or_true, true_and, and_true, false_or, or_false, String.reduceEq, String.reduceBEq, Bool.or_true, Bool.true_or, Bool.or_false, Bool.false_or, beq_self_eq_true, Bool.not_true, Bool.not_false, Bool.false_eq_true]
          exact done _ _ _
        · exact done _ _ _
      have sh := shorter _ rfl
      by_cases c : h ≤ first.1
      · rw [if_pos c]
        refine ⟨first, l, h, rfl, oka, ⟨t1, t2, c⟩, ?_⟩
        have : canB first l h = false := by
          cases z : canB first l h with
          | false => rfl
          | true => exact absurd ⟨c, canB_iff.mp z⟩ t5
        simp only [this, zNext, zSeq, zPass, zBreak, zCont, zNever, zExpr, zRet, zRetN, zIf, zAsg, zSetO, zFrz, zApp, zPar, zParO1, zParO2, zFor, sVar, sC, sOp, sB, sBi, sCall, aNil, aCons, sTup, sLst, oLst, bAnd, bOr, bNot, sAnd, sOr, sNot, sIf, sNeg, sChain, oNone, oSome, sSl, sLast, iSeqD, iEnumD, iZipD, iRg1, iRg2, iRg3, sLC, sLC2, bYes, addD, subD, mulD, fdivD, modD, powD, ltD, leD, gtD, geD, eqD, neD, isD, isntD, ixD, sumD, lenD, absD, maxD, minD, allD, anyD, intCD, tupCD, lstCD, isiD, reprD, isTy, seqD?, bindP, bindPs, wipeD, frz, isN_non, isN_int, isN_bl, isN_tup, isN_lst, ints?_map, bls?_map, ints?_mapf, bls?_mapf, fit_int, fit_bl, fit_non, eqv_int, eqv_bl, cast2, cast3, cast1, cast0, intD, intD0, List.set_cons_zero, List.set_cons_succ, List.getElem?_cons_zero, List.getElem?_cons_succ, List.map_cons, List.map_nil, List.length_cons, List.length_nil, List.length_map, Nat.reduceAdd, Option.some.injEq, if_true, if_false, reduceCtorEq, decide_eq_true_eq, Bool.not_eq_true, true_or, or_true, true_and, and_true, false_or, or_false, String.reduceEq, String.reduceBEq, Bool.or_true, Bool.true_or, Bool.or_false, Bool.false_or, beq_self_eq_true, Bool.not_true, Bool.not_false, Bool.false_eq_true]
        exact ⟨le_sl (by decide), sh⟩
      · rw [if_neg c]
        exact ⟨le_sl (by decide), sh⟩
  · simp only [List.mem_cons, List.not_mem_nil, or_false] at hx
    rcases hx with rfl | rfl | rfl | rfl
    · exact ⟨one, two, rfl, ok1, ok2⟩
    · exact ⟨one, other, rfl, ok1, ok4⟩
    · exact ⟨other, three, rfl, ok4, ok3⟩
    · exact ⟨two, other, rfl, ok2, ok4⟩
theorem okW1' {W : Int} {l : List (List Int)} (h : 1 ≤ W ∧ W ≤ 1000000) (hl : 1 ≤ l.length ∧ l.length ≤ 4) (o : ∀ ws ∈ l, OkRail W ws) : OkW (W, l) := ⟨h, hl, o⟩
theorem okR1' {W x : Int} (h : 1 ≤ x ∧ x ≤ W) : OkRail W [x] := OkRail.one h.1 h.2
theorem can_iff' {W a b : Int} {l : List (List Int)} : Can (W, l) a b ↔ ∀ ws ∈ l, CanR W a b ws := Iff.rfl
theorem canR_1' {W a b x : Int} : CanR W a b [x] ↔ (0 ≤ a ∧ b ≤ W - x) ∨ (x ≤ a ∧ b - x ≤ W - x) := by
  unfold CanR
  simp only [hds, List.mem_cons, List.not_mem_nil, or_false, exists_eq_or_imp, exists_eq_left, List.sum_cons, List.sum_nil, Int.add_zero, Int.zero_add]
  omega
theorem rd_lawT : z_lawT { nx := fun _ => False, rt := fun d => d = .bl true } (List.replicate 11 .un) := by
  simp only [z_lawT, zNext, zSeq, zPass, zBreak, zCont, zNever, zExpr, zRet, zRetN, zIf, zAsg, zSetO, zFrz, zApp, zPar, zParO1, zParO2, zFor, sVar, sC, sOp, sB, sBi, sCall, aNil, aCons, sTup, sLst, oLst, bAnd, bOr, bNot, sAnd, sOr, sNot, sIf, sNeg, sChain, oNone, oSome, sSl, sLast, iSeqD, iEnumD, iZipD, iRg1, iRg2, iRg3, sLC, sLC2, bYes, addD, subD, mulD, fdivD, modD, powD, ltD, leD, gtD, geD, eqD, neD, isD, isntD, ixD, sumD, lenD, absD, maxD, minD, allD, anyD, intCD, tupCD, lstCD, isiD, reprD, isTy, seqD?, bindP, bindPs, wipeD, frz, isN_non, isN_int, isN_bl, isN_tup, isN_lst, ints?_map, bls?_map, ints?_mapf, bls?_mapf, fit_int, fit_bl, fit_non, eqv_int, eqv_bl, cast2, cast3, cast1, cast0, intD, intD0, List.set_cons_zero, List.set_cons_succ, List.getElem?_cons_zero, List.getElem?_cons_succ, List.map_cons, List.map_nil, List.length_cons, List.length_nil, List.length_map, Nat.reduceAdd, Option.some.injEq, if_true, if_false, reduceCtorEq, decide_eq_true_eq, Bool.not_eq_true, true_or, or_true, true_and, and_true, false_or, or_false, String.reduceEq, String.reduceBEq, Bool.or_true, Bool.true_or, Bool.or_false, Bool.false_or, beq_self_eq_true, Bool.not_true, Bool.not_false, Bool.false_eq_true]
  refine ⟨le_sl (by decide), le_sl (by decide), le_sl (by decide), le_sl (by decide), le_sl (by decide), le_sl (by decide), le_sl (by decide), (10, [[1]]), (10, [[1], [1]]), rfl, okW1' (by decide) (by decide) (fun ws h => ?_), okW1' (by decide) (by decide) (fun ws h => ?_), fun o ho => ?_⟩
  · rw [List.mem_singleton.mp h]; exact okR1' (by decide)
  · simp only [List.mem_cons, List.not_mem_nil, or_false, or_self] at h
    rw [h]; exact okR1' (by decide)
  have : o.isNone = true := ho.none_iff.mpr fun l k t => by
    obtain ⟨t1, t2, t3, t4, t5⟩ := t
    exact t5 ⟨t3, fun ws h => t4 ws (by rw [List.mem_singleton.mp h]; exact List.mem_cons_self)⟩
  simp only [this, zNext, zSeq, zPass, zBreak, zCont, zNever, zExpr, zRet, zRetN, zIf, zAsg, zSetO, zFrz, zApp, zPar, zParO1, zParO2, zFor, sVar, sC, sOp, sB, sBi, sCall, aNil, aCons, sTup, sLst, oLst, bAnd, bOr, bNot, sAnd, sOr, sNot, sIf, sNeg, sChain, oNone, oSome, sSl, sLast, iSeqD, iEnumD, iZipD, iRg1, iRg2, iRg3, sLC, sLC2, bYes, addD, subD, mulD, fdivD, modD, powD, ltD, leD, gtD, geD, eqD, neD, isD, isntD, ixD, sumD, lenD, absD, maxD, minD, allD, anyD, intCD, tupCD, lstCD, isiD, reprD, isTy, seqD?, bindP, bindPs, wipeD, frz, isN_non, isN_int, isN_bl, isN_tup, isN_lst, ints?_map, bls?_map, ints?_mapf, bls?_mapf, fit_int, fit_bl, fit_non, eqv_int, eqv_bl, cast2, cast3, cast1, cast0, intD, intD0, List.set_cons_zero, List.set_cons_succ, List.getElem?_cons_zero, List.getElem?_cons_succ, List.map_cons, List.map_nil, List.length_cons, List.length_nil, List.length_map, Nat.reduceAdd, Option.some.injEq, if_true, if_false, reduceCtorEq, decide_eq_true_eq, Bool.not_eq_true, true_or, or_true, true_and, and_true, false_or, or_false, String.reduceEq, String.reduceBEq, Bool.or_true, Bool.true_or, Bool.or_false, Bool.false_or, beq_self_eq_true, Bool.not_true, Bool.not_false, Bool.false_eq_true]
  refine ⟨le_sl (by decide), le_sl (by decide), le_sl (by decide), le_sl (by decide), le_sl (by decide), le_sl (by decide), (9, [[1]]), (10, [[1]]), rfl, okW1' (by decide) (by decide) (fun ws h => ?_), okW1' (by decide) (by decide) (fun ws h => ?_), fun o ho => ?_⟩
  · rw [List.mem_singleton.mp h]; exact okR1' (by decide)
  · rw [List.mem_singleton.mp h]; exact okR1' (by decide)
  have : o.isNone = false := by
    cases h : o.isNone with
    | false => rfl
    | true =>
      have := ho.none_iff.mp h 0 9 ⟨by decide, by decide, by decide, fun ws h => ?_, fun z => ?_⟩
      · exact this.elim
      · rw [List.mem_singleton.mp h, canR_1']; decide
      · have := z.2 [1] List.mem_cons_self
        rw [canR_1'] at this
        simp only at this
        omega
  simp only [this, zNext, zSeq, zPass, zBreak, zCont, zNever, zExpr, zRet, zRetN, zIf, zAsg, zSetO, zFrz, zApp, zPar, zParO1, zParO2, zFor, sVar, sC, sOp, sB, sBi, sCall, aNil, aCons, sTup, sLst, oLst, bAnd, bOr, bNot, sAnd, sOr, sNot, sIf, sNeg, sChain, oNone, oSome, sSl, sLast, iSeqD, iEnumD, iZipD, iRg1, iRg2, iRg3, sLC, sLC2, bYes, addD, subD, mulD, fdivD, modD, powD, ltD, leD, gtD, geD, eqD, neD, isD, isntD, ixD, sumD, lenD, absD, maxD, minD, allD, anyD, intCD, tupCD, lstCD, isiD, reprD, isTy, seqD?, bindP, bindPs, wipeD, frz, isN_non, isN_int, isN_bl, isN_tup, isN_lst, ints?_map, bls?_map, ints?_mapf, bls?_mapf, fit_int, fit_bl, fit_non, eqv_int, eqv_bl, cast2, cast3, cast1, cast0, intD, intD0, List.set_cons_zero, List.set_cons_succ, List.getElem?_cons_zero, List.getElem?_cons_succ, List.map_cons, List.map_nil, List.length_cons, List.length_nil, List.length_map, Nat.reduceAdd, Option.some.injEq, if_true, if_false, reduceCtorEq, decide_eq_true_eq, Bool.not_eq_true, true_or, or_true, true_and, and_true, false_or, or_false, String.reduceEq, String.reduceBEq, Bool.or_true, Bool.true_or, Bool.or_false, Bool.false_or, beq_self_eq_true, Bool.not_true, Bool.not_false, Bool.false_eq_true]
end SD

namespace T15
open PySem PySem.Spec PyProof.Rows L2 SD
def top (i : Nat) : Stmt := PySem.Challenge.pw_slidepanels_k15_whole_wardrobes_compared.main.body.getD i (.Pass ⟨0, 0, 0, 0⟩)
abbrev s_is_integer : Stmt := top 6
abbrev s_is_rail : Stmt := top 7
abbrev s_is_wardrobe : Stmt := top 8
abbrev s_heads : Stmt := top 9
abbrev s_slack_of : Stmt := top 10
abbrev s_need_wardrobe : Stmt := top 11
abbrev s_is_stretch : Stmt := top 13
abbrev s_need_stretch : Stmt := top 14
abbrev s_splits : Stmt := top 15
abbrev s_can_open : Stmt := top 16
abbrev s_most_open : Stmt := top 18
abbrev s_far_end : Stmt := top 19
abbrev s_first_unlike : Stmt := top 20
abbrev s_opens_all : Stmt := top 21
abbrev s_telling_stretch : Stmt := top 22
abbrev s_law_cell_at : Stmt := top 24
abbrev s_law_draws : Stmt := top 25
abbrev s_law_bag : Stmt := top 26
abbrev s_law_bags : Stmt := top 27
abbrev s_law_take : Stmt := top 28
abbrev s_law_far_draw : Stmt := top 29
abbrev s_law_wardrobe : Stmt := top 30
abbrev s_law_stretch : Stmt := top 31
abbrev s_law_wide : Stmt := top 32
abbrev s_law_less : Stmt := top 33
abbrev s_law : Stmt := top 34

structure Txt (K : PySem.W.Frag) (mg : Str → Option Value) where
  a_is_integer : Addr
  d_is_integer : FuncData
  F_is_integer : Fun K "is_integer" "is_integer" s_is_integer a_is_integer d_is_integer
  b_is_integer : Binds K d_is_integer ["value", "low", "high"] []
  g_is_integer : mg "is_integer" = some (.ref a_is_integer)
  a_is_rail : Addr
  d_is_rail : FuncData
  F_is_rail : Fun K "is_rail" "is_rail" s_is_rail a_is_rail d_is_rail
  b_is_rail : Binds K d_is_rail ["width", "value"] []
  g_is_rail : mg "is_rail" = some (.ref a_is_rail)
  a_is_wardrobe : Addr
  d_is_wardrobe : FuncData
  F_is_wardrobe : Fun K "is_wardrobe" "is_wardrobe" s_is_wardrobe a_is_wardrobe d_is_wardrobe
  b_is_wardrobe : Binds K d_is_wardrobe ["value"] []
  g_is_wardrobe : mg "is_wardrobe" = some (.ref a_is_wardrobe)
  a_heads : Addr
  d_heads : FuncData
  F_heads : Fun K "heads" "heads" s_heads a_heads d_heads
  b_heads : Binds K d_heads ["widths"] []
  g_heads : mg "heads" = some (.ref a_heads)
  a_slack_of : Addr
  d_slack_of : FuncData
  F_slack_of : Fun K "slack_of" "slack_of" s_slack_of a_slack_of d_slack_of
  b_slack_of : Binds K d_slack_of ["width", "widths"] []
  g_slack_of : mg "slack_of" = some (.ref a_slack_of)
  a_need_wardrobe : Addr
  d_need_wardrobe : FuncData
  F_need_wardrobe : Fun K "need_wardrobe" "need_wardrobe" s_need_wardrobe a_need_wardrobe d_need_wardrobe
  b_need_wardrobe : Binds K d_need_wardrobe ["value"] []
  g_need_wardrobe : mg "need_wardrobe" = some (.ref a_need_wardrobe)
  a_is_stretch : Addr
  d_is_stretch : FuncData
  F_is_stretch : Fun K "is_stretch" "is_stretch" s_is_stretch a_is_stretch d_is_stretch
  b_is_stretch : Binds K d_is_stretch ["wardrobe", "value"] []
  g_is_stretch : mg "is_stretch" = some (.ref a_is_stretch)
  a_need_stretch : Addr
  d_need_stretch : FuncData
  F_need_stretch : Fun K "need_stretch" "need_stretch" s_need_stretch a_need_stretch d_need_stretch
  b_need_stretch : Binds K d_need_stretch ["wardrobe", "value"] []
  g_need_stretch : mg "need_stretch" = some (.ref a_need_stretch)
  a_splits : Addr
  d_splits : FuncData
  F_splits : Fun K "splits" "splits" s_splits a_splits d_splits
  b_splits : Binds K d_splits ["width", "widths", "stretch"] []
  g_splits : mg "splits" = some (.ref a_splits)
  a_can_open : Addr
  d_can_open : FuncData
  F_can_open : Fun K "can_open" "can_open" s_can_open a_can_open d_can_open
  b_can_open : Binds K d_can_open ["wardrobe", "stretch"] []
  g_can_open : mg "can_open" = some (.ref a_can_open)
  a_most_open : Addr
  d_most_open : FuncData
  F_most_open : Fun K "most_open" "most_open" s_most_open a_most_open d_most_open
  b_most_open : Binds K d_most_open ["wardrobe"] []
  g_most_open : mg "most_open" = some (.ref a_most_open)
  a_far_end : Addr
  d_far_end : FuncData
  F_far_end : Fun K "far_end" "far_end" s_far_end a_far_end d_far_end
  b_far_end : Binds K d_far_end ["wardrobe", "low"] []
  g_far_end : mg "far_end" = some (.ref a_far_end)
  a_first_unlike : Addr
  d_first_unlike : FuncData
  F_first_unlike : Fun K "first_unlike" "first_unlike" s_first_unlike a_first_unlike d_first_unlike
  b_first_unlike : Binds K d_first_unlike ["first", "second"] []
  g_first_unlike : mg "first_unlike" = some (.ref a_first_unlike)
  a_opens_all : Addr
  d_opens_all : FuncData
  F_opens_all : Fun K "opens_all" "opens_all" s_opens_all a_opens_all d_opens_all
  b_opens_all : Binds K d_opens_all ["first", "second"] []
  g_opens_all : mg "opens_all" = some (.ref a_opens_all)
  a_telling_stretch : Addr
  d_telling_stretch : FuncData
  F_telling_stretch : Fun K "telling_stretch" "telling_stretch" s_telling_stretch a_telling_stretch d_telling_stretch
  b_telling_stretch : Binds K d_telling_stretch ["first", "second"] []
  g_telling_stretch : mg "telling_stretch" = some (.ref a_telling_stretch)
  a_law_cell_at : Addr
  d_law_cell_at : FuncData
  F_law_cell_at : Fun K "_law_cell_at" "_law_cell_at" s_law_cell_at a_law_cell_at d_law_cell_at
  b_law_cell_at : Binds K d_law_cell_at ["script", "k"] []
  g_law_cell_at : mg "_law_cell_at" = some (.ref a_law_cell_at)
  a_law_draws : Addr
  d_law_draws : FuncData
  F_law_draws : Fun K "_law_draws" "_law_draws" s_law_draws a_law_draws d_law_draws
  b_law_draws : Binds K d_law_draws ["cell", "many", "size"] []
  g_law_draws : mg "_law_draws" = some (.ref a_law_draws)
  a_law_bag : Addr
  d_law_bag : FuncData
  F_law_bag : Fun K "_law_bag" "_law_bag" s_law_bag a_law_bag d_law_bag
  b_law_bag : Binds K d_law_bag ["script", "k"] []
  g_law_bag : mg "_law_bag" = some (.ref a_law_bag)
  a_law_bags : Addr
  d_law_bags : FuncData
  F_law_bags : Fun K "_law_bags" "_law_bags" s_law_bags a_law_bags d_law_bags
  b_law_bags : Binds K d_law_bags ["script", "limit"] []
  g_law_bags : mg "_law_bags" = some (.ref a_law_bags)
  a_law_take : Addr
  d_law_take : FuncData
  F_law_take : Fun K "_law_take" "_law_take" s_law_take a_law_take d_law_take
  b_law_take : Binds K d_law_take ["bag", "many"] []
  g_law_take : mg "_law_take" = some (.ref a_law_take)
  a_law_far_draw : Addr
  d_law_far_draw : FuncData
  F_law_far_draw : Fun K "_law_far_draw" "_law_far_draw" s_law_far_draw a_law_far_draw d_law_far_draw
  b_law_far_draw : Binds K d_law_far_draw ["bag", "many"] []
  g_law_far_draw : mg "_law_far_draw" = some (.ref a_law_far_draw)
  a_law_wardrobe : Addr
  d_law_wardrobe : FuncData
  F_law_wardrobe : Fun K "_law_wardrobe" "_law_wardrobe" s_law_wardrobe a_law_wardrobe d_law_wardrobe
  b_law_wardrobe : Binds K d_law_wardrobe ["bag", "most", "rails", "doors"] []
  g_law_wardrobe : mg "_law_wardrobe" = some (.ref a_law_wardrobe)
  a_law_stretch : Addr
  d_law_stretch : FuncData
  F_law_stretch : Fun K "_law_stretch" "_law_stretch" s_law_stretch a_law_stretch d_law_stretch
  b_law_stretch : Binds K d_law_stretch ["bag", "wardrobe"] []
  g_law_stretch : mg "_law_stretch" = some (.ref a_law_stretch)
  a_law_wide : Addr
  d_law_wide : FuncData
  F_law_wide : Fun K "_law_wide" "_law_wide" s_law_wide a_law_wide d_law_wide
  b_law_wide : Binds K d_law_wide ["bag", "wardrobe"] []
  g_law_wide : mg "_law_wide" = some (.ref a_law_wide)
  a_law_less : Addr
  d_law_less : FuncData
  F_law_less : Fun K "_law_less" "_law_less" s_law_less a_law_less d_law_less
  b_law_less : Binds K d_law_less ["bag", "wardrobe"] []
  g_law_less : mg "_law_less" = some (.ref a_law_less)
  a_law : Addr
  d_law : FuncData
  F_law : Fun K "law" "law" s_law a_law d_law
  b_law : Binds K d_law ["script"] []
  g_law : mg "law" = some (.ref a_law)
  n_all : mg "all" = none
  n_bool : mg "bool" = none
  n_enumerate : mg "enumerate" = none
  n_int : mg "int" = none
  n_isinstance : mg "isinstance" = none
  n_len : mg "len" = none
  n_max : mg "max" = none
  n_min : mg "min" = none
  n_range : mg "range" = none
  n_set : mg "set" = none
  n_sorted : mg "sorted" = none
  n_sum : mg "sum" = none
  n_tuple : mg "tuple" = none
  t_MAX_WIDTH : Tok
  g_MAX_WIDTH : mg "MAX_WIDTH" = some (.int 1000000 t_MAX_WIDTH)

abbrev N_law_bag : List Str := ["script", "k"]
abbrev N_law_bags : List Str := ["script", "limit", "k"]
abbrev N_law_cell_at : List Str := ["script", "k"]
abbrev N_law_take : List Str := ["bag", "many"]
section
variable {w : World} {P : Program} {K : PySem.W.Frag} {mg : Str → Option Value} {base : Heap}
theorem sc_is_integer : FnScope N_is_integer ["value", "low", "high"] (defScope s_is_integer) := ⟨rfl, rfl, rfl, by decide +kernel, rfl, by decide +kernel, by decide +kernel⟩
theorem ok_is_integer (T : Txt K mg) : FnOk P w K mg base CX0 2 T.a_is_integer T.d_is_integer ["value", "low", "high"] (spD phi_is_integer) :=
  fn_ok T.F_is_integer sc_is_integer len_is_integer fun cdv A outer s H E c hr => ⟨z_is_integer, (dss_one (ds_ret (de_and (de_bi call_isi lk_isi (by rfl) T.n_isinstance (by decide +kernel) (da_cons (de_var (pv 0)) (da_cons (de_tyName (T := "int") (by rfl) T.n_int (by decide +kernel)) da_nil))) (de_and (de_not (de_bi call_isi lk_isi (by rfl) T.n_isinstance (by decide +kernel) (da_cons (de_var (pv 0)) (da_cons (de_tyName (T := "bool") (by rfl) T.n_bool (by decide +kernel)) da_nil)))) (de_one (de_chain op_le lk_le op_le lk_le (de_var (pv 1)) (de_var (pv 0)) (de_var (pv 2)))))))), rd_is_integer⟩

theorem sc_is_rail : FnScope N_is_rail ["width", "value"] (defScope s_is_rail) := ⟨rfl, rfl, rfl, by decide +kernel, rfl, by decide +kernel, by decide +kernel⟩
theorem ok_is_rail (T : Txt K mg) : FnOk P w K mg base CX0 3 T.a_is_rail T.d_is_rail ["width", "value"] (spD phi_is_rail) :=
  fn_ok T.F_is_rail sc_is_rail len_is_rail fun cdv A outer s H E c hr => ⟨z_is_rail, (dss_cons (ds_if (dt_w (dw_or (dt_not (dt_val (de_bi call_isi lk_isi (by rfl) T.n_isinstance (by decide +kernel) (da_cons (de_var (pv 1)) (da_cons (de_tyName (T := "tuple") (by rfl) T.n_tuple (by decide +kernel)) da_nil))))) (dw_or1 (dt_gt (de_bi call_len_seq lk_len (by rfl) T.n_len PySem.boot_len (da_cons (de_var (pv 1)) da_nil)) de_int)))) (dss_one (ds_ret de_bl))
      dss_nil)
    (dss_one (ds_ret (de_and (de_bi (cr_all rfl) lk_all (by rfl) T.n_all (by decide +kernel) (da_cons (de_lc rfl sc_is_rail.nd (di_seq (de_var (pv 1))) (blkOk_by (own := [("one", 2)]) (by kernel_rfl)) (fun _ _ _ _ _ => (dg_name (i := 2) sc_is_rail.nd rfl (by first | exact .inl rfl | exact .inr rfl))) (fun _ _ _ _ _ => dts_nil) (fun _ _ _ _ _ => (de_call (ok_is_integer T) (hr.mono (by decide)) (by rfl) T.g_is_integer T.F_is_integer.kp T.b_is_integer pass0 (da_cons (de_var (pv 2)) (da_cons de_int (da_cons (de_var (pv 0)) da_nil)))))) da_nil)) (de_one (de_le (de_bi ((cr_sum rfl).or (cr_sumT rfl)) lk_sum (by rfl) T.n_sum (by decide +kernel) (da_cons (de_var (pv 1)) da_nil)) (de_var (pv 0)))))))), rd_is_rail⟩

theorem sc_is_wardrobe : FnScope N_is_wardrobe ["value"] (defScope s_is_wardrobe) := ⟨rfl, rfl, rfl, by decide +kernel, rfl, by decide +kernel, by decide +kernel⟩
theorem ok_is_wardrobe (T : Txt K mg) : FnOk P w K mg base CX0 4 T.a_is_wardrobe T.d_is_wardrobe ["value"] (spD phi_is_wardrobe) :=
  fn_ok T.F_is_wardrobe sc_is_wardrobe len_is_wardrobe fun cdv A outer s H E c hr => ⟨z_is_wardrobe, (dss_cons (ds_if (dt_w (dw_or (dt_not (dt_val (de_bi call_isi lk_isi (by rfl) T.n_isinstance (by decide +kernel) (da_cons (de_var (pv 0)) (da_cons (de_tyName (T := "tuple") (by rfl) T.n_tuple (by decide +kernel)) da_nil))))) (dw_or (dt_ne hr (de_bi call_len_seq lk_len (by rfl) T.n_len PySem.boot_len (da_cons (de_var (pv 0)) da_nil)) de_int) (dw_or1 (dt_not (dt_val (de_call (ok_is_integer T) (hr.mono (by decide)) (by rfl) T.g_is_integer T.F_is_integer.kp T.b_is_integer pass0 (da_cons (de_ix (de_var (pv 0)) de_int) (da_cons de_int (da_cons (de_c (pe_glob (v := .int 1000000) rfl T.g_MAX_WIDTH ⟨_, rfl⟩) (fun _ _ _ => Rep.int_iff.mpr rfl)) da_nil)))))))))) (dss_one (ds_ret de_bl))
      dss_nil)
    (dss_cons (ds_if (dt_w (dw_or (dt_not (dt_val (de_bi call_isi lk_isi (by rfl) T.n_isinstance (by decide +kernel) (da_cons (de_ix (de_var (pv 0)) de_int) (da_cons (de_tyName (T := "tuple") (by rfl) T.n_tuple (by decide +kernel)) da_nil))))) (dw_or1 (dt_not (dt_chain op_le lk_le op_le lk_le de_int (de_bi call_len_seq lk_len (by rfl) T.n_len PySem.boot_len (da_cons (de_ix (de_var (pv 0)) de_int) da_nil)) de_int))))) (dss_one (ds_ret de_bl))
      dss_nil)
    (dss_one (ds_ret (de_bi (cr_all rfl) lk_all (by rfl) T.n_all (by decide +kernel) (da_cons (de_lc rfl sc_is_wardrobe.nd (di_seq (de_ix (de_var (pv 0)) de_int)) (blkOk_by (own := [("rail", 1)]) (by kernel_rfl)) (fun _ _ _ _ _ => (dg_name (i := 1) sc_is_wardrobe.nd rfl (by first | exact .inl rfl | exact .inr rfl))) (fun _ _ _ _ _ => dts_nil) (fun _ _ _ _ _ => (de_call (ok_is_rail T) (hr.mono (by decide)) (by rfl) T.g_is_rail T.F_is_rail.kp T.b_is_rail pass0 (da_cons (de_ix (de_var (pv 0)) de_int) (da_cons (de_var (pv 1)) da_nil))))) da_nil)))))), rd_is_wardrobe⟩

theorem sc_heads : FnScope N_heads ["widths"] (defScope s_heads) := ⟨rfl, rfl, rfl, by decide +kernel, rfl, by decide +kernel, by decide +kernel⟩
theorem ok_heads (T : Txt K mg) : FnOk P w K mg base CX0 2 T.a_heads T.d_heads ["widths"] (spD phi_heads) :=
  fn_ok T.F_heads sc_heads len_heads fun cdv A outer s H E c hr => ⟨z_heads, (dss_cons (ds_setO (i := 1) sc_heads.nd rfl (by first | exact .inl rfl | exact .inr rfl) (do_list (da_cons de_int da_nil)))
    (dss_cons (ds_for PassesOwn.never rfl (di_seq (de_var (pv 0))) (dg_name (i := 2) sc_heads.nd rfl (by first | exact .inl rfl | exact .inr rfl))
      (dss_one (ds_append (pe_bm PySem.F.plainAttrs_list PySem.F.slot_list_append PySem.F.type_list_append mt_append (pv 1) (da_cons (de_add (de_last (pv 1)) (de_var (pv 2))) da_nil)))))
    (dss_frz (i := 1) (dss_one (ds_ret (de_var (pv 1))))))), rd_heads⟩

theorem sc_slack_of : FnScope N_slack_of ["width", "widths"] (defScope s_slack_of) := ⟨rfl, rfl, rfl, by decide +kernel, rfl, by decide +kernel, by decide +kernel⟩
theorem ok_slack_of (T : Txt K mg) : FnOk P w K mg base CX0 2 T.a_slack_of T.d_slack_of ["width", "widths"] (spD phi_slack_of) :=
  fn_ok T.F_slack_of sc_slack_of len_slack_of fun cdv A outer s H E c hr => ⟨z_slack_of, (dss_one (ds_ret (de_sub (de_var (pv 0)) (de_bi ((cr_sum rfl).or (cr_sumT rfl)) lk_sum (by rfl) T.n_sum (by decide +kernel) (da_cons (de_var (pv 1)) da_nil))))), rd_slack_of⟩

theorem sc_need_wardrobe : FnScope N_need_wardrobe ["value"] (defScope s_need_wardrobe) := ⟨rfl, rfl, rfl, by decide +kernel, rfl, by decide +kernel, by decide +kernel⟩
theorem ok_need_wardrobe (T : Txt K mg) : FnOk P w K mg base CX0 5 T.a_need_wardrobe T.d_need_wardrobe ["value"] (spD phi_need_wardrobe) :=
  fn_ok T.F_need_wardrobe sc_need_wardrobe len_need_wardrobe fun cdv A outer s H E c hr => ⟨z_need_wardrobe, (dss_one (ds_if (dt_not (dt_val (de_call (ok_is_wardrobe T) (hr.mono (by decide)) (by rfl) T.g_is_wardrobe T.F_is_wardrobe.kp T.b_is_wardrobe pass0 (da_cons (de_var (pv 0)) da_nil)))) (dss_one ds_never)
      dss_nil)), rd_need_wardrobe⟩

theorem sc_is_stretch : FnScope N_is_stretch ["wardrobe", "value"] (defScope s_is_stretch) := ⟨rfl, rfl, rfl, by decide +kernel, rfl, by decide +kernel, by decide +kernel⟩
theorem ok_is_stretch (T : Txt K mg) : FnOk P w K mg base CX0 3 T.a_is_stretch T.d_is_stretch ["wardrobe", "value"] (spD phi_is_stretch) :=
  fn_ok T.F_is_stretch sc_is_stretch len_is_stretch fun cdv A outer s H E c hr => ⟨z_is_stretch, (dss_cons (ds_if (dt_w (dw_or (dt_not (dt_val (de_bi call_isi lk_isi (by rfl) T.n_isinstance (by decide +kernel) (da_cons (de_var (pv 1)) (da_cons (de_tyName (T := "tuple") (by rfl) T.n_tuple (by decide +kernel)) da_nil))))) (dw_or (dt_ne hr (de_bi call_len_seq lk_len (by rfl) T.n_len PySem.boot_len (da_cons (de_var (pv 1)) da_nil)) de_int) (dw_or1 (dt_not (dt_val (de_call (ok_is_integer T) (hr.mono (by decide)) (by rfl) T.g_is_integer T.F_is_integer.kp T.b_is_integer pass0 (da_cons (de_ix (de_var (pv 1)) de_int) (da_cons de_int (da_cons (de_ix (de_var (pv 0)) de_int) da_nil)))))))))) (dss_one (ds_ret de_bl))
      dss_nil)
    (dss_one (ds_ret (de_call (ok_is_integer T) (hr.mono (by decide)) (by rfl) T.g_is_integer T.F_is_integer.kp T.b_is_integer pass0 (da_cons (de_ix (de_var (pv 1)) de_int) (da_cons (de_add (de_ix (de_var (pv 1)) de_int) de_int) (da_cons (de_ix (de_var (pv 0)) de_int) da_nil))))))), rd_is_stretch⟩

theorem sc_need_stretch : FnScope N_need_stretch ["wardrobe", "value"] (defScope s_need_stretch) := ⟨rfl, rfl, rfl, by decide +kernel, rfl, by decide +kernel, by decide +kernel⟩
theorem ok_need_stretch (T : Txt K mg) : FnOk P w K mg base CX0 4 T.a_need_stretch T.d_need_stretch ["wardrobe", "value"] (spD phi_need_stretch) :=
  fn_ok T.F_need_stretch sc_need_stretch len_need_stretch fun cdv A outer s H E c hr => ⟨z_need_stretch, (dss_one (ds_if (dt_not (dt_val (de_call (ok_is_stretch T) (hr.mono (by decide)) (by rfl) T.g_is_stretch T.F_is_stretch.kp T.b_is_stretch pass0 (da_cons (de_var (pv 0)) (da_cons (de_var (pv 1)) da_nil))))) (dss_one ds_never)
      dss_nil)), rd_need_stretch⟩

theorem sc_splits : FnScope N_splits ["width", "widths", "stretch"] (defScope s_splits) := ⟨rfl, rfl, rfl, by decide +kernel, rfl, by decide +kernel, by decide +kernel⟩
theorem ok_splits (T : Txt K mg) : FnOk P w K mg base CX0 3 T.a_splits T.d_splits ["width", "widths", "stretch"] (spD phi_splits) :=
  fn_ok T.F_splits sc_splits len_splits fun cdv A outer s H E c hr => ⟨z_splits, (dss_cons (ds_setO (i := 3) sc_splits.nd rfl (by first | exact .inl rfl | exact .inr rfl) (do_list da_nil))
    (dss_cons (ds_for PassesOwn.never rfl (di_enum (by rfl) T.n_enumerate (da_cons (de_call (ok_heads T) (hr.mono (by decide)) (by rfl) T.g_heads T.F_heads.kp T.b_heads pass0 (da_cons (de_var (pv 1)) da_nil)) da_nil)) (dg_tup rfl (dgs_cons (dg_name (i := 4) sc_splits.nd rfl (by first | exact .inl rfl | exact .inr rfl)) (dgs_cons (dg_name (i := 5) sc_splits.nd rfl (by first | exact .inl rfl | exact .inr rfl)) dgs_nil)))
      (dss_one (ds_if (dt_w (dw_and (dt_le (de_var (pv 5)) (de_ix (de_var (pv 2)) de_int)) (dw_and1 (dt_le (de_sub (de_ix (de_var (pv 2)) de_int) (de_var (pv 5))) (de_call (ok_slack_of T) (hr.mono (by decide)) (by rfl) T.g_slack_of T.F_slack_of.kp T.b_slack_of pass0 (da_cons (de_var (pv 0)) (da_cons (de_var (pv 1)) da_nil))))))) (dss_one (ds_append (pe_bm PySem.F.plainAttrs_list PySem.F.slot_list_append PySem.F.type_list_append mt_append (pv 3) (da_cons (de_tup (da_cons (de_var (pv 4)) (da_cons (de_sub (de_ix (de_var (pv 2)) de_int) (de_var (pv 5))) (da_cons (de_sub (de_ix (de_var (pv 2)) de_int) (de_var (pv 5))) da_nil)))) da_nil))))
      dss_nil)))
    (dss_frz (i := 3) (dss_one (ds_ret (de_var (pv 3))))))), rd_splits⟩

theorem sc_can_open : FnScope N_can_open ["wardrobe", "stretch"] (defScope s_can_open) := ⟨rfl, rfl, rfl, by decide +kernel, rfl, by decide +kernel, by decide +kernel⟩
theorem ok_can_open (T : Txt K mg) : FnOk P w K mg base CX0 6 T.a_can_open T.d_can_open ["wardrobe", "stretch"] (spD phi_can_open) :=
  fn_ok T.F_can_open sc_can_open len_can_open fun cdv A outer s H E c hr => ⟨z_can_open, (dss_cons (ds_expr (de_call (ok_need_wardrobe T) (hr.mono (by decide)) (by rfl) T.g_need_wardrobe T.F_need_wardrobe.kp T.b_need_wardrobe pass0 (da_cons (de_var (pv 0)) da_nil)))
    (dss_cons (ds_expr (de_call (ok_need_stretch T) (hr.mono (by decide)) (by rfl) T.g_need_stretch T.F_need_stretch.kp T.b_need_stretch pass0 (da_cons (de_var (pv 0)) (da_cons (de_var (pv 1)) da_nil))))
    (dss_one (ds_ret (de_bi (cr_all rfl) lk_all (by rfl) T.n_all (by decide +kernel) (da_cons (de_lc rfl sc_can_open.nd (di_seq (de_ix (de_var (pv 0)) de_int)) (blkOk_by (own := [("widths", 2)]) (by kernel_rfl)) (fun _ _ _ _ _ => (dg_name (i := 2) sc_can_open.nd rfl (by first | exact .inl rfl | exact .inr rfl))) (fun _ _ _ _ _ => dts_nil) (fun _ _ _ _ _ => (de_ne hr (de_call (ok_splits T) (hr.mono (by decide)) (by rfl) T.g_splits T.F_splits.kp T.b_splits pass0 (da_cons (de_ix (de_var (pv 0)) de_int) (da_cons (de_var (pv 2)) (da_cons (de_var (pv 1)) da_nil)))) (de_lst da_nil)))) da_nil)))))), rd_can_open⟩

theorem sc_most_open : FnScope N_most_open ["wardrobe"] (defScope s_most_open) := ⟨rfl, rfl, rfl, by decide +kernel, rfl, by decide +kernel, by decide +kernel⟩
theorem ok_most_open (T : Txt K mg) : FnOk P w K mg base CX0 6 T.a_most_open T.d_most_open ["wardrobe"] (spD phi_most_open) :=
  fn_ok T.F_most_open sc_most_open len_most_open fun cdv A outer s H E c hr => ⟨z_most_open, (dss_cons (ds_expr (de_call (ok_need_wardrobe T) (hr.mono (by decide)) (by rfl) T.g_need_wardrobe T.F_need_wardrobe.kp T.b_need_wardrobe pass0 (da_cons (de_var (pv 0)) da_nil)))
    (dss_one (ds_ret (de_sub (de_ix (de_var (pv 0)) de_int) (de_bi ((call_max2 rfl).or (cr_max rfl)) lk_max (by rfl) T.n_max (by decide +kernel) (da_cons (de_lc rfl sc_most_open.nd (di_seq (de_ix (de_var (pv 0)) de_int)) (blkOk_by (own := [("widths", 1)]) (by kernel_rfl)) (fun _ _ _ _ _ => (dg_name (i := 1) sc_most_open.nd rfl (by first | exact .inl rfl | exact .inr rfl))) (fun _ _ _ _ _ => dts_nil) (fun _ _ _ _ _ => (de_bi ((cr_sum rfl).or (cr_sumT rfl)) lk_sum (by rfl) T.n_sum (by decide +kernel) (da_cons (de_var (pv 1)) da_nil)))) da_nil)))))), rd_most_open⟩

theorem sc_far_end : FnScope N_far_end ["wardrobe", "low"] (defScope s_far_end) := ⟨rfl, rfl, rfl, by decide +kernel, rfl, by decide +kernel, by decide +kernel⟩
theorem ok_far_end (T : Txt K mg) : FnOk P w K mg base CX0 3 T.a_far_end T.d_far_end ["wardrobe", "low"] (spD phi_far_end) :=
  fn_ok T.F_far_end sc_far_end len_far_end fun cdv A outer s H E c hr => ⟨z_far_end, (dss_cons (ds_setO (i := 2) sc_far_end.nd rfl (by first | exact .inl rfl | exact .inr rfl) (do_list (da_cons (de_ix (de_var (pv 0)) de_int) da_nil)))
    (dss_cons (ds_for PassesOwn.never rfl (di_seq (de_ix (de_var (pv 0)) de_int)) (dg_name (i := 3) sc_far_end.nd rfl (by first | exact .inl rfl | exact .inr rfl))
      (dss_cons (ds_set (i := 4) sc_far_end.nd rfl (by first | exact .inl rfl | exact .inr rfl) (de_bi ((call_max2 rfl).or (cr_max rfl)) lk_max (by rfl) T.n_max (by decide +kernel) (da_cons (de_lc rfl sc_far_end.nd (di_seq (de_call (ok_heads T) (hr.mono (by decide)) (by rfl) T.g_heads T.F_heads.kp T.b_heads pass0 (da_cons (de_var (pv 3)) da_nil))) (blkOk_by (own := [("head", 5)]) (by kernel_rfl)) (fun _ _ _ _ _ => (dg_name (i := 5) sc_far_end.nd rfl (by first | exact .inl rfl | exact .inr rfl))) (fun _ _ _ _ _ => (dts_one (dt_le (de_var (pv 5)) (de_var (pv 1))))) (fun _ _ _ _ _ => (de_var (pv 5)))) da_nil)))
    (dss_one (ds_append (pe_bm PySem.F.plainAttrs_list PySem.F.slot_list_append PySem.F.type_list_append mt_append (pv 2) (da_cons (de_add (de_sub (de_ix (de_var (pv 0)) de_int) (de_bi ((cr_sum rfl).or (cr_sumT rfl)) lk_sum (by rfl) T.n_sum (by decide +kernel) (da_cons (de_var (pv 3)) da_nil))) (de_var (pv 4))) da_nil))))))
    (dss_frz (i := 2) (dss_one (ds_ret (de_bi ((call_min2 rfl).or (cr_min rfl)) lk_min (by rfl) T.n_min (by decide +kernel) (da_cons (de_var (pv 2)) da_nil))))))), rd_far_end⟩

theorem sc_first_unlike : FnScope N_first_unlike ["first", "second"] (defScope s_first_unlike) := ⟨rfl, rfl, rfl, by decide +kernel, rfl, by decide +kernel, by decide +kernel⟩
theorem ok_first_unlike (T : Txt K mg) : FnOk P w K mg base CX0 4 T.a_first_unlike T.d_first_unlike ["first", "second"] (spD phi_first_unlike) :=
  fn_ok T.F_first_unlike sc_first_unlike len_first_unlike fun cdv A outer s H E c hr => ⟨z_first_unlike, (dss_cons (ds_set (i := 2) sc_first_unlike.nd rfl (by first | exact .inl rfl | exact .inr rfl) (de_sortSetI rfl (by rfl) T.n_sorted (by rfl) T.n_set (de_lc2 (vs1 := [6]) rfl sc_first_unlike.nd (di_seq (de_ix (de_var (pv 1)) de_int)) (blkOk_by (own := [("widths", 5), ("head", 6)]) (by kernel_rfl)) (fun _ _ _ _ _ => (dg_name (i := 5) sc_first_unlike.nd rfl (by first | exact .inl rfl | exact .inr rfl))) (fun _ _ _ _ _ => dts_nil) (fun _ _ _ _ _ => (di_seq (de_call (ok_heads T) (hr.mono (by decide)) (by rfl) T.g_heads T.F_heads.kp T.b_heads pass0 (da_cons (de_var (pv 5)) da_nil)))) (fun _ _ _ _ _ => (dg_name (i := 6) sc_first_unlike.nd rfl (by first | exact .inl rfl | exact .inr rfl))) (fun _ _ _ _ _ => dts_nil) (fun _ _ _ _ _ => (de_var (pv 6))))))
    (dss_cons (ds_for PassesOwn.never rfl (di_seq (de_var (pv 2))) (dg_name (i := 3) sc_first_unlike.nd rfl (by first | exact .inl rfl | exact .inr rfl))
      (dss_cons (ds_set (i := 4) sc_first_unlike.nd rfl (by first | exact .inl rfl | exact .inr rfl) (de_bi ((call_max2 rfl).or (cr_max rfl)) lk_max (by rfl) T.n_max (by decide +kernel) (da_cons (de_var (pv 3)) (da_cons (de_call (ok_far_end T) (hr.mono (by decide)) (by rfl) T.g_far_end T.F_far_end.kp T.b_far_end pass0 (da_cons (de_var (pv 0)) (da_cons (de_var (pv 3)) da_nil))) da_nil))))
    (dss_one (ds_if (dt_gt (de_call (ok_far_end T) (hr.mono (by decide)) (by rfl) T.g_far_end T.F_far_end.kp T.b_far_end pass0 (da_cons (de_var (pv 1)) (da_cons (de_var (pv 3)) da_nil))) (de_var (pv 4))) (dss_one (ds_ret (de_tup (da_cons (de_var (pv 3)) (da_cons (de_add (de_var (pv 4)) de_int) da_nil)))))
      dss_nil))))
    (dss_one (ds_ret de_non)))), rd_first_unlike⟩

theorem sc_opens_all : FnScope N_opens_all ["first", "second"] (defScope s_opens_all) := ⟨rfl, rfl, rfl, by decide +kernel, rfl, by decide +kernel, by decide +kernel⟩
theorem ok_opens_all (T : Txt K mg) : FnOk P w K mg base CX0 6 T.a_opens_all T.d_opens_all ["first", "second"] (spD phi_opens_all) :=
  fn_ok T.F_opens_all sc_opens_all len_opens_all fun cdv A outer s H E c hr => ⟨z_opens_all, (dss_cons (ds_expr (de_call (ok_need_wardrobe T) (hr.mono (by decide)) (by rfl) T.g_need_wardrobe T.F_need_wardrobe.kp T.b_need_wardrobe pass0 (da_cons (de_var (pv 0)) da_nil)))
    (dss_cons (ds_expr (de_call (ok_need_wardrobe T) (hr.mono (by decide)) (by rfl) T.g_need_wardrobe T.F_need_wardrobe.kp T.b_need_wardrobe pass0 (da_cons (de_var (pv 1)) da_nil)))
    (dss_one (ds_ret (de_is (de_call (ok_first_unlike T) (hr.mono (by decide)) (by rfl) T.g_first_unlike T.F_first_unlike.kp T.b_first_unlike pass0 (da_cons (de_var (pv 0)) (da_cons (de_var (pv 1)) da_nil))) de_non))))), rd_opens_all⟩

theorem sc_telling_stretch : FnScope N_telling_stretch ["first", "second"] (defScope s_telling_stretch) := ⟨rfl, rfl, rfl, by decide +kernel, rfl, by decide +kernel, by decide +kernel⟩
theorem ok_telling_stretch (T : Txt K mg) : FnOk P w K mg base CX0 6 T.a_telling_stretch T.d_telling_stretch ["first", "second"] (spD phi_telling_stretch) :=
  fn_ok T.F_telling_stretch sc_telling_stretch len_telling_stretch fun cdv A outer s H E c hr => ⟨z_telling_stretch, (dss_cons (ds_expr (de_call (ok_need_wardrobe T) (hr.mono (by decide)) (by rfl) T.g_need_wardrobe T.F_need_wardrobe.kp T.b_need_wardrobe pass0 (da_cons (de_var (pv 0)) da_nil)))
    (dss_cons (ds_expr (de_call (ok_need_wardrobe T) (hr.mono (by decide)) (by rfl) T.g_need_wardrobe T.F_need_wardrobe.kp T.b_need_wardrobe pass0 (da_cons (de_var (pv 1)) da_nil)))
    (dss_one (ds_ret (de_call (ok_first_unlike T) (hr.mono (by decide)) (by rfl) T.g_first_unlike T.F_first_unlike.kp T.b_first_unlike pass0 (da_cons (de_var (pv 0)) (da_cons (de_var (pv 1)) da_nil))))))), rd_telling_stretch⟩

theorem sc_law_cell_at : FnScope N_law_cell_at ["script", "k"] (defScope s_law_cell_at) := ⟨rfl, rfl, rfl, by decide +kernel, rfl, by decide +kernel, by decide +kernel⟩
theorem ok_law_cell_at (T : Txt K mg) : FnOk P w K mg base CX0 2 T.a_law_cell_at T.d_law_cell_at ["script", "k"] (spCell K) :=
  T.F_law_cell_at.ok sc_law_cell_at (fun vs H Q E h => by obtain ⟨l, ns, j, rfl, _⟩ := h; rfl) (fun cdv A outer s H vs Q E hr h => ⟨tCell K, pss_cell rfl rfl (.inl rfl) (.inl rfl) (by rfl) T.n_len, cell_run h⟩)

theorem sc_law_draws : FnScope N_law_draws ["cell", "many", "size"] (defScope s_law_draws) := ⟨rfl, rfl, rfl, by decide +kernel, rfl, by decide +kernel, by decide +kernel⟩
theorem ok_law_draws (T : Txt K mg) : FnOk P w K mg base CX0 2 T.a_law_draws T.d_law_draws ["cell", "many", "size"] (spD phi_law_draws) :=
  fn_ok T.F_law_draws sc_law_draws len_law_draws fun cdv A outer s H E c hr => ⟨z_law_draws, (dss_cons (ds_setO (i := 3) sc_law_draws.nd rfl (by first | exact .inl rfl | exact .inr rfl) (do_list da_nil))
    (dss_cons (ds_set (i := 4) sc_law_draws.nd rfl (by first | exact .inl rfl | exact .inr rfl) (de_mul (de_var (pv 0)) (de_ty call_int1 lk_int (by rfl) T.n_int (by decide +kernel) (da_cons (de_ge (de_var (pv 0)) (de_pow de_int de_int)) da_nil))))
    (dss_cons (ds_set (i := 5) sc_law_draws.nd rfl (by first | exact .inl rfl | exact .inr rfl) (de_mod (de_var (pv 0)) de_int))
    (dss_cons (ds_for PassesOwn.never rfl (di_range1 (by rfl) T.n_range (da_cons (de_add (de_var (pv 1)) de_int) da_nil)) (dg_name (i := 6) sc_law_draws.nd rfl (by first | exact .inl rfl | exact .inr rfl))
      (dss_cons (ds_set (i := 5) sc_law_draws.nd rfl (by first | exact .inl rfl | exact .inr rfl) (de_mod (de_add (de_add (de_add (de_mul (de_var (pv 5)) (de_var (pv 5))) (de_mul de_int (de_var (pv 5)))) (de_var (pv 6))) de_int) de_int))
    (dss_one (ds_if (dt_w (dw_and (dt_gt (de_var (pv 6)) de_int) (dw_and1 (dt_gt (de_var (pv 4)) de_int)))) (dss_cons (ds_append (pe_bm PySem.F.plainAttrs_list PySem.F.slot_list_append PySem.F.type_list_append mt_append (pv 3) (da_cons (de_mod (de_var (pv 4)) (de_var (pv 2))) da_nil)))
    (dss_one (ds_set (i := 4) sc_law_draws.nd rfl (by first | exact .inl rfl | exact .inr rfl) (de_fdiv (de_var (pv 4)) (de_var (pv 2))))))
      (dss_one (ds_if (dt_gt (de_var (pv 6)) de_int) (dss_one (ds_append (pe_bm PySem.F.plainAttrs_list PySem.F.slot_list_append PySem.F.type_list_append mt_append (pv 3) (da_cons (de_mod (de_fdiv (de_var (pv 5)) de_int) (de_var (pv 2))) da_nil))))
      dss_nil))))))
    (dss_frz (i := 3) (dss_one (ds_ret (de_var (pv 3))))))))), rd_law_draws⟩

theorem sc_law_bag : FnScope N_law_bag ["script", "k"] (defScope s_law_bag) := ⟨rfl, rfl, rfl, by decide +kernel, rfl, by decide +kernel, by decide +kernel⟩
theorem ok_law_bag (T : Txt K mg) : FnOk P w K mg base CX0 3 T.a_law_bag T.d_law_bag ["script", "k"] (spBag K) :=
  T.F_law_bag.ok sc_law_bag (fun vs H Q E h => by obtain ⟨a, ns, j, rfl, _⟩ := h; rfl) (fun cdv A outer s H vs Q E hr h => ⟨tBag K, pss_one (ps_ret (pe_lst (pa_cons (pe_call (ok_law_draws T) (hr.mono (by decide)) (by rfl) T.g_law_draws T.F_law_draws.kp T.b_law_draws .nil pass0 (pa_cons (pe_call (ok_law_cell_at T) (hr.mono (by decide)) (by rfl) T.g_law_cell_at T.F_law_cell_at.kp T.b_law_cell_at .nil pass0 (pa_cons (pv 0) (pa_cons (pv 1) pa_nil))) (pa_cons pe_int (pa_cons pe_int pa_nil)))) (pa_cons pe_int pa_nil)))), bag_run h⟩)

theorem sc_law_bags : FnScope N_law_bags ["script", "limit"] (defScope s_law_bags) := ⟨rfl, rfl, rfl, by decide +kernel, rfl, by decide +kernel, by decide +kernel⟩
theorem ok_law_bags (T : Txt K mg) : FnOk P w K mg base CX0 4 T.a_law_bags T.d_law_bags ["script", "limit"] (spBags K) :=
  T.F_law_bags.ok sc_law_bags (fun vs H Q E h => by obtain ⟨a, ns, j, rfl, _⟩ := h; rfl) (fun cdv A outer s H vs Q E hr h => ⟨tBags K, pss_one (ps_ret (pe_lc rfl sc_law_bags.nd (pi_range1 (by rfl) T.n_range (pa_cons (pe_callB (call_max2 rfl) (by rfl) T.n_max (by decide +kernel) (pa_cons pe_int (pa_cons (pe_callB (call_min2 rfl) (by rfl) T.n_min (by decide +kernel) (pa_cons (pv 1) (pa_cons (pe_callB call_len_seq (by rfl) T.n_len PySem.boot_len (pa_cons (pv 0) pa_nil)) pa_nil))) pa_nil))) pa_nil)) (blkOk_by (own := [("k", 2)]) (by kernel_rfl)) (fun _ _ _ _ _ => pg_name (i := 2) sc_law_bags.nd rfl (by first | exact .inl rfl | exact .inr rfl)) (fun _ _ _ _ _ => pts_nil) (fun _ _ _ _ _ => pe_call (ok_law_bag T) (hr.mono (by decide)) (by rfl) T.g_law_bag T.F_law_bag.kp T.b_law_bag .nil pass0 (pa_cons (pv 0) (pa_cons (pv 2) pa_nil))))), bags_run h⟩)

theorem sc_law_take : FnScope N_law_take ["bag", "many"] (defScope s_law_take) := ⟨rfl, rfl, rfl, by decide +kernel, rfl, by decide +kernel, by decide +kernel⟩
theorem ok_law_take (T : Txt K mg) : FnOk P w K mg base CX0 2 T.a_law_take T.d_law_take ["bag", "many"] (spD phi_law_take) :=
  T.F_law_take.ok sc_law_take (fun vs H Q E h => by obtain ⟨A, bg, ds, R, _, _, h3, ⟨many, rfl, _⟩, _⟩ := h; exact h3.length) (fun cdv A outer s H vs Q E hr h => ⟨tTake K, pss_cons (ps_asg (pe_op op_add (pe_ix ix_seq (pv 0) pe_int fun _ _ => rfl) pe_int) (pg_sub (pv 0) pe_int set_list)) (pss_one (ps_ret (pe_op op_mod (pe_ix ix_seq (pe_ix ix_seq (pv 0) pe_int fun _ _ => rfl) (pe_op op_mod (pe_ix ix_seq (pv 0) pe_int fun _ _ => rfl) (pe_callB call_len_seq (by rfl) T.n_len PySem.boot_len (pa_cons (pe_ix ix_seq (pv 0) pe_int fun _ _ => rfl) pa_nil))) fun _ _ => rfl) (pv 1)))), take_run h⟩)

theorem sc_law_far_draw : FnScope N_law_far_draw ["bag", "many"] (defScope s_law_far_draw) := ⟨rfl, rfl, rfl, by decide +kernel, rfl, by decide +kernel, by decide +kernel⟩
theorem ok_law_far_draw (T : Txt K mg) : FnOk P w K mg base CX0 3 T.a_law_far_draw T.d_law_far_draw ["bag", "many"] (spD phi_law_far_draw) :=
  fn_ok T.F_law_far_draw sc_law_far_draw len_law_far_draw fun cdv A outer s H E c hr => ⟨z_law_far_draw, (dss_cons (ds_par (i := 2) (j := 3) rfl sc_law_far_draw.nd rfl rfl (by decide) rfl rfl de_int (de_var (pv 1)) (by rfl))
    (dss_cons (ds_while PassesOwn.never (dt_gt (de_var (pv 3)) de_int)
      (dss_one (ds_par (i := 2) (j := 3) rfl sc_law_far_draw.nd rfl rfl (by decide) rfl rfl (de_add (de_mul de_int (de_var (pv 2))) (de_call (ok_law_take T) (hr.mono (by decide)) (by rfl) T.g_law_take T.F_law_take.kp T.b_law_take pass0 (da_cons (de_var (pv 0)) (da_cons de_int da_nil)))) (de_fdiv (de_var (pv 3)) de_int) (by rfl))))
    (dss_one (ds_ret (de_ix (de_lst (da_cons (de_mod (de_var (pv 2)) (de_var (pv 1))) (da_cons de_int (da_cons (de_sub (de_var (pv 1)) de_int) (da_cons (de_mod (de_var (pv 2)) (de_var (pv 1))) da_nil))))) (de_call (ok_law_take T) (hr.mono (by decide)) (by rfl) T.g_law_take T.F_law_take.kp T.b_law_take pass0 (da_cons (de_var (pv 0)) (da_cons de_int da_nil)))))))), rd_law_far_draw⟩

theorem sc_law_wardrobe : FnScope N_law_wardrobe ["bag", "most", "rails", "doors"] (defScope s_law_wardrobe) := ⟨rfl, rfl, rfl, by decide +kernel, rfl, by decide +kernel, by decide +kernel⟩
theorem ok_law_wardrobe (T : Txt K mg) : FnOk P w K mg base CX0 3 T.a_law_wardrobe T.d_law_wardrobe ["bag", "most", "rails", "doors"] (spD phi_law_wardrobe) :=
  fn_ok T.F_law_wardrobe sc_law_wardrobe len_law_wardrobe fun cdv A outer s H E c hr => ⟨z_law_wardrobe, (dss_cons (ds_par (i := 4) (j := 5) rfl sc_law_wardrobe.nd rfl rfl (by decide) rfl rfl (de_add de_int (de_call (ok_law_take T) (hr.mono (by decide)) (by rfl) T.g_law_take T.F_law_take.kp T.b_law_take pass0 (da_cons (de_var (pv 0)) (da_cons (de_var (pv 1)) da_nil)))) (de_tup da_nil) (by rfl))
    (dss_cons (ds_for PassesOwn.never rfl (di_range1 (by rfl) T.n_range (da_cons (de_add de_int (de_call (ok_law_take T) (hr.mono (by decide)) (by rfl) T.g_law_take T.F_law_take.kp T.b_law_take pass0 (da_cons (de_var (pv 0)) (da_cons (de_var (pv 2)) da_nil)))) da_nil)) (dg_name (i := 6) sc_law_wardrobe.nd rfl (by first | exact .inl rfl | exact .inr rfl))
      (dss_cons (ds_par (i := 7) (j := 8) rfl sc_law_wardrobe.nd rfl rfl (by decide) rfl rfl (de_tup da_nil) (de_var (pv 4)) (by rfl))
    (dss_cons (ds_for PassesOwn.never rfl (di_range1 (by rfl) T.n_range (da_cons (de_call (ok_law_take T) (hr.mono (by decide)) (by rfl) T.g_law_take T.F_law_take.kp T.b_law_take pass0 (da_cons (de_var (pv 0)) (da_cons (de_add (de_var (pv 3)) de_int) da_nil))) da_nil)) (dg_name (i := 9) sc_law_wardrobe.nd rfl (by first | exact .inl rfl | exact .inr rfl))
      (dss_cons (ds_set (i := 10) sc_law_wardrobe.nd rfl (by first | exact .inl rfl | exact .inr rfl) (de_add de_int (de_call (ok_law_take T) (hr.mono (by decide)) (by rfl) T.g_law_take T.F_law_take.kp T.b_law_take pass0 (da_cons (de_var (pv 0)) (da_cons (de_bi ((call_max2 rfl).or (cr_max rfl)) lk_max (by rfl) T.n_max (by decide +kernel) (da_cons de_int (da_cons (de_ix (de_lst (da_cons (de_fdiv (de_var (pv 4)) de_int) (da_cons (de_fdiv (de_var (pv 4)) de_int) (da_cons de_int da_nil)))) (de_call (ok_law_take T) (hr.mono (by decide)) (by rfl) T.g_law_take T.F_law_take.kp T.b_law_take pass0 (da_cons (de_var (pv 0)) (da_cons de_int da_nil)))) da_nil))) da_nil)))))
    (dss_one (ds_if (dt_le (de_var (pv 10)) (de_var (pv 8))) (dss_one (ds_par (i := 7) (j := 8) rfl sc_law_wardrobe.nd rfl rfl (by decide) rfl rfl (de_add (de_var (pv 7)) (de_tup (da_cons (de_var (pv 10)) da_nil))) (de_sub (de_var (pv 8)) (de_var (pv 10))) (by rfl)))
      dss_nil))))
    (dss_one (ds_set (i := 5) sc_law_wardrobe.nd rfl (by first | exact .inl rfl | exact .inr rfl) (de_add (de_var (pv 5)) (de_tup (da_cons (de_var (pv 7)) da_nil))))))))
    (dss_one (ds_ret (de_tup (da_cons (de_var (pv 4)) (da_cons (de_var (pv 5)) da_nil))))))), rd_law_wardrobe⟩

theorem sc_law_stretch : FnScope N_law_stretch ["bag", "wardrobe"] (defScope s_law_stretch) := ⟨rfl, rfl, rfl, by decide +kernel, rfl, by decide +kernel, by decide +kernel⟩
theorem ok_law_stretch (T : Txt K mg) : FnOk P w K mg base CX0 4 T.a_law_stretch T.d_law_stretch ["bag", "wardrobe"] (spD phi_law_stretch) :=
  fn_ok T.F_law_stretch sc_law_stretch len_law_stretch fun cdv A outer s H E c hr => ⟨z_law_stretch, (dss_cons (ds_set (i := 2) sc_law_stretch.nd rfl (by first | exact .inl rfl | exact .inr rfl) (de_call (ok_law_far_draw T) (hr.mono (by decide)) (by rfl) T.g_law_far_draw T.F_law_far_draw.kp T.b_law_far_draw pass0 (da_cons (de_var (pv 0)) (da_cons (de_ix (de_var (pv 1)) de_int) da_nil))))
    (dss_cons (ds_set (i := 3) sc_law_stretch.nd rfl (by first | exact .inl rfl | exact .inr rfl) (de_ix (de_lst (da_cons (de_sub (de_ix (de_var (pv 1)) de_int) (de_var (pv 2))) (da_cons (de_bi ((call_max2 rfl).or (cr_max rfl)) lk_max (by rfl) T.n_max (by decide +kernel) (da_cons de_int (da_cons (de_fdiv (de_sub (de_ix (de_var (pv 1)) de_int) (de_var (pv 2))) de_int) da_nil))) da_nil))) (de_call (ok_law_take T) (hr.mono (by decide)) (by rfl) T.g_law_take T.F_law_take.kp T.b_law_take pass0 (da_cons (de_var (pv 0)) (da_cons de_int da_nil)))))
    (dss_one (ds_ret (de_tup (da_cons (de_var (pv 2)) (da_cons (de_add (de_add (de_var (pv 2)) de_int) (de_call (ok_law_far_draw T) (hr.mono (by decide)) (by rfl) T.g_law_far_draw T.F_law_far_draw.kp T.b_law_far_draw pass0 (da_cons (de_var (pv 0)) (da_cons (de_var (pv 3)) da_nil)))) da_nil))))))), rd_law_stretch⟩

theorem sc_law_wide : FnScope N_law_wide ["bag", "wardrobe"] (defScope s_law_wide) := ⟨rfl, rfl, rfl, by decide +kernel, rfl, by decide +kernel, by decide +kernel⟩
theorem ok_law_wide (T : Txt K mg) : FnOk P w K mg base CX0 4 T.a_law_wide T.d_law_wide ["bag", "wardrobe"] (spD phi_law_wide) :=
  fn_ok T.F_law_wide sc_law_wide len_law_wide fun cdv A outer s H E c hr => ⟨z_law_wide, (dss_cons (ds_asg (de_tup (da_cons (de_add de_int (de_call (ok_law_far_draw T) (hr.mono (by decide)) (by rfl) T.g_law_far_draw T.F_law_far_draw.kp T.b_law_far_draw pass0 (da_cons (de_var (pv 0)) (da_cons de_int da_nil)))) (da_cons (de_call (ok_law_far_draw T) (hr.mono (by decide)) (by rfl) T.g_law_far_draw T.F_law_far_draw.kp T.b_law_far_draw pass0 (da_cons (de_var (pv 0)) (da_cons de_int da_nil))) da_nil))) (dg_tup rfl (dgs_cons (dg_name (i := 2) sc_law_wide.nd rfl (by first | exact .inl rfl | exact .inr rfl)) (dgs_cons (dg_name (i := 3) sc_law_wide.nd rfl (by first | exact .inl rfl | exact .inr rfl)) dgs_nil))))
    (dss_cons (ds_set (i := 4) sc_law_wide.nd rfl (by first | exact .inl rfl | exact .inr rfl) (de_ty call_tuple_of lk_tupC (by rfl) T.n_tuple (by decide +kernel) (da_cons (de_lc rfl sc_law_wide.nd (di_seq (de_ix (de_var (pv 1)) de_int)) (blkOk_by (own := [("widths", 5)]) (by kernel_rfl)) (fun _ _ _ _ _ => (dg_name (i := 5) sc_law_wide.nd rfl (by first | exact .inl rfl | exact .inr rfl))) (fun _ _ _ _ _ => dts_nil) (fun _ _ _ _ _ => (de_ty call_tuple_of lk_tupC (by rfl) T.n_tuple (by decide +kernel) (da_cons (de_lc rfl sc_law_wide.nd (di_seq (de_var (pv 5))) (blkOk_by (own := [("size", 6)]) (by kernel_rfl)) (fun _ _ _ _ _ => (dg_name (i := 6) sc_law_wide.nd rfl (by first | exact .inl rfl | exact .inr rfl))) (fun _ _ _ _ _ => dts_nil) (fun _ _ _ _ _ => (de_bi ((call_max2 rfl).or (cr_max rfl)) lk_max (by rfl) T.n_max (by decide +kernel) (da_cons de_int (da_cons (de_sub (de_mul (de_var (pv 6)) (de_var (pv 2))) (de_call (ok_law_take T) (hr.mono (by decide)) (by rfl) T.g_law_take T.F_law_take.kp T.b_law_take pass0 (da_cons (de_var (pv 0)) (da_cons de_int da_nil)))) da_nil))))) da_nil)))) da_nil)))
    (dss_one (ds_ret (de_tup (da_cons (de_add (de_mul (de_ix (de_var (pv 1)) de_int) (de_var (pv 2))) (de_var (pv 3))) (da_cons (de_var (pv 4)) da_nil))))))), rd_law_wide⟩

theorem sc_law_less : FnScope N_law_less ["bag", "wardrobe"] (defScope s_law_less) := ⟨rfl, rfl, rfl, by decide +kernel, rfl, by decide +kernel, by decide +kernel⟩
theorem ok_law_less (T : Txt K mg) : FnOk P w K mg base CX0 4 T.a_law_less T.d_law_less ["bag", "wardrobe"] (spD phi_law_less) :=
  fn_ok T.F_law_less sc_law_less len_law_less fun cdv A outer s H E c hr => ⟨z_law_less, (dss_cons (ds_asg (de_var (pv 1)) (dg_tup rfl (dgs_cons (dg_name (i := 2) sc_law_less.nd rfl (by first | exact .inl rfl | exact .inr rfl)) (dgs_cons (dg_name (i := 3) sc_law_less.nd rfl (by first | exact .inl rfl | exact .inr rfl)) dgs_nil))))
    (dss_cons (ds_par (i := 4) (j := 5) rfl sc_law_less.nd rfl rfl (by decide) rfl rfl (de_call (ok_law_take T) (hr.mono (by decide)) (by rfl) T.g_law_take T.F_law_take.kp T.b_law_take pass0 (da_cons (de_var (pv 0)) (da_cons de_int da_nil))) (de_call (ok_law_take T) (hr.mono (by decide)) (by rfl) T.g_law_take T.F_law_take.kp T.b_law_take pass0 (da_cons (de_var (pv 0)) (da_cons (de_bi call_len_seq lk_len (by rfl) T.n_len PySem.boot_len (da_cons (de_var (pv 3)) da_nil)) da_nil))) (by rfl))
    (dss_cons (ds_set (i := 6) sc_law_less.nd rfl (by first | exact .inl rfl | exact .inr rfl) (de_ix (de_var (pv 3)) (de_var (pv 5))))
    (dss_cons (ds_if (dt_w (dw_and (dt_eq hr (de_var (pv 4)) de_int) (dw_and1 (dt_gt (de_bi call_len_seq lk_len (by rfl) T.n_len PySem.boot_len (da_cons (de_var (pv 3)) da_nil)) de_int)))) (dss_one (ds_ret (de_tup (da_cons (de_var (pv 2)) (da_cons (de_add (de_slice (de_var (pv 3)) dop_none (dop_some (de_var (pv 5)))) (de_slice (de_var (pv 3)) (dop_some (de_add (de_var (pv 5)) de_int)) dop_none)) da_nil)))))
      dss_nil)
    (dss_cons (ds_if (dt_eq hr (de_var (pv 6)) (de_tup da_nil)) (dss_one (ds_ret (de_var (pv 1))))
      dss_nil)
    (dss_cons (ds_set (i := 7) sc_law_less.nd rfl (by first | exact .inl rfl | exact .inr rfl) (de_call (ok_law_take T) (hr.mono (by decide)) (by rfl) T.g_law_take T.F_law_take.kp T.b_law_take pass0 (da_cons (de_var (pv 0)) (da_cons (de_bi call_len_seq lk_len (by rfl) T.n_len PySem.boot_len (da_cons (de_var (pv 6)) da_nil)) da_nil))))
    (dss_cons (ds_set (i := 8) sc_law_less.nd rfl (by first | exact .inl rfl | exact .inr rfl) (de_tup da_nil))
    (dss_cons (ds_if (dt_w (dw_and (dt_eq hr (de_var (pv 4)) de_int) (dw_and (dt_gt (de_ix (de_var (pv 6)) (de_var (pv 7))) de_int) (dw_and1 (dt_lt (de_bi call_len_seq lk_len (by rfl) T.n_len PySem.boot_len (da_cons (de_var (pv 6)) da_nil)) de_int))))) (dss_cons (ds_set (i := 9) sc_law_less.nd rfl (by first | exact .inl rfl | exact .inr rfl) (de_add de_int (de_call (ok_law_far_draw T) (hr.mono (by decide)) (by rfl) T.g_law_far_draw T.F_law_far_draw.kp T.b_law_far_draw pass0 (da_cons (de_var (pv 0)) (da_cons (de_sub (de_ix (de_var (pv 6)) (de_var (pv 7))) de_int) da_nil)))))
    (dss_one (ds_set (i := 8) sc_law_less.nd rfl (by first | exact .inl rfl | exact .inr rfl) (de_tup (da_cons (de_var (pv 9)) (da_cons (de_sub (de_ix (de_var (pv 6)) (de_var (pv 7))) (de_var (pv 9))) da_nil))))))
      dss_nil)
    (dss_one (ds_ret (de_tup (da_cons (de_var (pv 2)) (da_cons (de_add (de_add (de_slice (de_var (pv 3)) dop_none (dop_some (de_var (pv 5)))) (de_tup (da_cons (de_add (de_add (de_slice (de_var (pv 6)) dop_none (dop_some (de_var (pv 7)))) (de_var (pv 8))) (de_slice (de_var (pv 6)) (dop_some (de_add (de_var (pv 7)) de_int)) dop_none)) da_nil))) (de_slice (de_var (pv 3)) (dop_some (de_add (de_var (pv 5)) de_int)) dop_none)) da_nil))))))))))))), rd_law_less⟩

theorem sc_law : FnScope N_law ["script"] (defScope s_law) := ⟨rfl, rfl, rfl, by decide +kernel, rfl, by decide +kernel, by decide +kernel⟩
theorem ok_law (T : Txt K mg) : FnOk P w K mg base CX0 7 T.a_law T.d_law ["script"] (spLaw K) :=
  T.F_law.ok sc_law (fun vs H Q E h => by obtain ⟨a, ns, rfl, _⟩ := h; rfl) (fun cdv A outer s H vs Q E hr h => ⟨tLaw K 11 8 z_lawB z_lawT, pss_cons (ps_for PassesOwn.never rfl (pi_list (pe_call (ok_law_bags T) (hr.mono (by decide)) (by rfl) T.g_law_bags T.F_law_bags.kp T.b_law_bags .nil pass0 (pa_cons (pv 0) (pa_cons pe_int pa_nil)))) (pg_name (i := 1) sc_law.nd rfl (by first | exact .inl rfl | exact .inr rfl)) (pss_any rfl fun c => (dss_cons (ds_set (i := 2) sc_law.nd rfl (by first | exact .inl rfl | exact .inr rfl) (de_call (ok_law_wide T) (hr.mono (by decide)) (by rfl) T.g_law_wide T.F_law_wide.kp T.b_law_wide pass0 (da_cons (de_var (pv 1)) (da_cons (de_call (ok_law_wardrobe T) (hr.mono (by decide)) (by rfl) T.g_law_wardrobe T.F_law_wardrobe.kp T.b_law_wardrobe pass0 (da_cons (de_var (pv 1)) (da_cons de_int (da_cons de_int (da_cons de_int da_nil))))) da_nil))))
    (dss_cons (ds_set (i := 3) sc_law.nd rfl (by first | exact .inl rfl | exact .inr rfl) (de_call (ok_law_less T) (hr.mono (by decide)) (by rfl) T.g_law_less T.F_law_less.kp T.b_law_less pass0 (da_cons (de_var (pv 1)) (da_cons (de_var (pv 2)) da_nil))))
    (dss_cons (ds_set (i := 4) sc_law.nd rfl (by first | exact .inl rfl | exact .inr rfl) (de_call (ok_law_less T) (hr.mono (by decide)) (by rfl) T.g_law_less T.F_law_less.kp T.b_law_less pass0 (da_cons (de_var (pv 1)) (da_cons (de_var (pv 3)) da_nil))))
    (dss_cons (ds_set (i := 5) sc_law.nd rfl (by first | exact .inl rfl | exact .inr rfl) (de_call (ok_law_wide T) (hr.mono (by decide)) (by rfl) T.g_law_wide T.F_law_wide.kp T.b_law_wide pass0 (da_cons (de_var (pv 1)) (da_cons (de_call (ok_law_wardrobe T) (hr.mono (by decide)) (by rfl) T.g_law_wardrobe T.F_law_wardrobe.kp T.b_law_wardrobe pass0 (da_cons (de_var (pv 1)) (da_cons de_int (da_cons de_int (da_cons de_int da_nil))))) da_nil))))
    (dss_cons (ds_if (dt_w (dw_or (dt_not (dt_val (de_call (ok_opens_all T) (hr.mono (by decide)) (by rfl) T.g_opens_all T.F_opens_all.kp T.b_opens_all pass0 (da_cons (de_var (pv 3)) (da_cons (de_var (pv 2)) da_nil))))) (dw_or1 (dt_not (dt_val (de_call (ok_opens_all T) (hr.mono (by decide)) (by rfl) T.g_opens_all T.F_opens_all.kp T.b_opens_all pass0 (da_cons (de_var (pv 4)) (da_cons (de_var (pv 2)) da_nil)))))))) (dss_one (ds_ret de_bl))
      dss_nil)
    (dss_cons (ds_if (dt_isnt (de_call (ok_telling_stretch T) (hr.mono (by decide)) (by rfl) T.g_telling_stretch T.F_telling_stretch.kp T.b_telling_stretch pass0 (da_cons (de_var (pv 4)) (da_cons (de_var (pv 3)) da_nil))) de_non) (dss_one (ds_ret de_bl))
      dss_nil)
    (dss_cons (ds_if (dt_w (dw_or (dt_lt (de_call (ok_most_open T) (hr.mono (by decide)) (by rfl) T.g_most_open T.F_most_open.kp T.b_most_open pass0 (da_cons (de_var (pv 3)) da_nil)) (de_call (ok_most_open T) (hr.mono (by decide)) (by rfl) T.g_most_open T.F_most_open.kp T.b_most_open pass0 (da_cons (de_var (pv 2)) da_nil))) (dw_or1 (dt_not (dt_val (de_call (ok_opens_all T) (hr.mono (by decide)) (by rfl) T.g_opens_all T.F_opens_all.kp T.b_opens_all pass0 (da_cons (de_var (pv 2)) (da_cons (de_var (pv 2)) da_nil)))))))) (dss_one (ds_ret de_bl))
      dss_nil)
    (dss_cons (ds_for PassesOwn.never rfl (di_seq (de_tup (da_cons (de_tup (da_cons (de_var (pv 2)) (da_cons (de_var (pv 3)) da_nil))) (da_cons (de_tup (da_cons (de_var (pv 2)) (da_cons (de_var (pv 5)) da_nil))) (da_cons (de_tup (da_cons (de_var (pv 5)) (da_cons (de_var (pv 4)) da_nil))) (da_cons (de_tup (da_cons (de_var (pv 3)) (da_cons (de_var (pv 5)) da_nil))) da_nil)))))) (dg_tup rfl (dgs_cons (dg_name (i := 6) sc_law.nd rfl (by first | exact .inl rfl | exact .inr rfl)) (dgs_cons (dg_name (i := 7) sc_law.nd rfl (by first | exact .inl rfl | exact .inr rfl)) dgs_nil)))
      (dss_cons (ds_set (i := 8) sc_law.nd rfl (by first | exact .inl rfl | exact .inr rfl) (de_call (ok_telling_stretch T) (hr.mono (by decide)) (by rfl) T.g_telling_stretch T.F_telling_stretch.kp T.b_telling_stretch pass0 (da_cons (de_var (pv 6)) (da_cons (de_var (pv 7)) da_nil))))
    (dss_cons (ds_if (dt_ne hr (de_is (de_var (pv 8)) de_non) (de_call (ok_opens_all T) (hr.mono (by decide)) (by rfl) T.g_opens_all T.F_opens_all.kp T.b_opens_all pass0 (da_cons (de_var (pv 6)) (da_cons (de_var (pv 7)) da_nil)))) (dss_one (ds_ret de_bl))
      dss_nil)
    (dss_one (ds_if (dt_is (de_var (pv 8)) de_non) (dss_cons (ds_set (i := 9) sc_law.nd rfl (by first | exact .inl rfl | exact .inr rfl) (de_call (ok_law_stretch T) (hr.mono (by decide)) (by rfl) T.g_law_stretch T.F_law_stretch.kp T.b_law_stretch pass0 (da_cons (de_var (pv 1)) (da_cons (de_var (pv 7)) da_nil))))
    (dss_one (ds_if (dt_w (dw_and (dt_le (de_ix (de_var (pv 9)) de_int) (de_ix (de_var (pv 6)) de_int)) (dw_and (dt_val (de_call (ok_can_open T) (hr.mono (by decide)) (by rfl) T.g_can_open T.F_can_open.kp T.b_can_open pass0 (da_cons (de_var (pv 7)) (da_cons (de_var (pv 9)) da_nil)))) (dw_and1 (dt_not (dt_val (de_call (ok_can_open T) (hr.mono (by decide)) (by rfl) T.g_can_open T.F_can_open.kp T.b_can_open pass0 (da_cons (de_var (pv 6)) (da_cons (de_var (pv 9)) da_nil))))))))) (dss_one (ds_ret de_bl))
      dss_nil)))
      (dss_cons (ds_if (dt_w (dw_or (dt_not (dt_val (de_call (ok_can_open T) (hr.mono (by decide)) (by rfl) T.g_can_open T.F_can_open.kp T.b_can_open pass0 (da_cons (de_var (pv 7)) (da_cons (de_var (pv 8)) da_nil))))) (dw_or1 (dt_w (dw_and (dt_le (de_ix (de_var (pv 8)) de_int) (de_ix (de_var (pv 6)) de_int)) (dw_and1 (dt_val (de_call (ok_can_open T) (hr.mono (by decide)) (by rfl) T.g_can_open T.F_can_open.kp T.b_can_open pass0 (da_cons (de_var (pv 6)) (da_cons (de_var (pv 8)) da_nil)))))))))) (dss_one (ds_ret de_bl))
      dss_nil)
    (dss_cons (ds_set (i := 10) sc_law.nd rfl (by first | exact .inl rfl | exact .inr rfl) (de_tup (da_cons (de_ix (de_var (pv 8)) de_int) (da_cons (de_sub (de_ix (de_var (pv 8)) de_int) de_int) da_nil))))
    (dss_one (ds_if (dt_w (dw_and (dt_gt (de_sub (de_ix (de_var (pv 8)) de_int) (de_ix (de_var (pv 8)) de_int)) de_int) (dw_and1 (dt_not (dt_val (de_call (ok_can_open T) (hr.mono (by decide)) (by rfl) T.g_can_open T.F_can_open.kp T.b_can_open pass0 (da_cons (de_var (pv 6)) (da_cons (de_var (pv 10)) da_nil)))))))) (dss_one (ds_ret de_bl))
      dss_nil)))))))))
    (dss_one (ds_if (dt_w (dw_or (dt_w (dw_and (dt_val (de_call (ok_opens_all T) (hr.mono (by decide)) (by rfl) T.g_opens_all T.F_opens_all.kp T.b_opens_all pass0 (da_cons (de_var (pv 2)) (da_cons (de_var (pv 5)) da_nil)))) (dw_and1 (dt_not (dt_val (de_call (ok_opens_all T) (hr.mono (by decide)) (by rfl) T.g_opens_all T.F_opens_all.kp T.b_opens_all pass0 (da_cons (de_var (pv 3)) (da_cons (de_var (pv 5)) da_nil)))))))) (dw_or1 (dt_w (dw_and (dt_val (de_call (ok_opens_all T) (hr.mono (by decide)) (by rfl) T.g_opens_all T.F_opens_all.kp T.b_opens_all pass0 (da_cons (de_var (pv 5)) (da_cons (de_var (pv 3)) da_nil)))) (dw_and1 (dt_not (dt_val (de_call (ok_opens_all T) (hr.mono (by decide)) (by rfl) T.g_opens_all T.F_opens_all.kp T.b_opens_all pass0 (da_cons (de_var (pv 5)) (da_cons (de_var (pv 2)) da_nil))))))))))) (dss_one (ds_ret de_bl))
      dss_nil)))))))))))) (pss_any rfl fun c => (dss_one (ds_ret (de_and (de_call (ok_opens_all T) (hr.mono (by decide)) (by rfl) T.g_opens_all T.F_opens_all.kp T.b_opens_all pass0 (da_cons (de_tup (da_cons de_int (da_cons (de_tup (da_cons (de_tup (da_cons de_int da_nil)) da_nil)) da_nil))) (da_cons (de_tup (da_cons de_int (da_cons (de_tup (da_cons (de_tup (da_cons de_int da_nil)) (da_cons (de_tup (da_cons de_int da_nil)) da_nil))) da_nil))) da_nil))) (de_one (de_not (de_call (ok_opens_all T) (hr.mono (by decide)) (by rfl) T.g_opens_all T.F_opens_all.kp T.b_opens_all pass0 (da_cons (de_tup (da_cons de_int (da_cons (de_tup (da_cons (de_tup (da_cons de_int da_nil)) da_nil)) da_nil))) (da_cons (de_tup (da_cons de_int (da_cons (de_tup (da_cons (de_tup (da_cons de_int da_nil)) da_nil)) da_nil))) da_nil))))))))), law_run (by decide) rd_lawB rd_lawT h⟩)

end
theorem all_mk {l : PySem.W.OpenLaw} {w : World} {K : PySem.W.Frag} {h : Heap} {mg : Str → Option Value} {fa : Addr} (X : K.In h) (G : h.Ns mainGlobals mg) (hfa : mg "law" = some (.ref fa))
    {f_is_integer : Addr} {od_is_integer an_is_integer : Option Addr} {sl_is_integer : Array (Option Value)} {oc_is_integer kV_is_integer dc_is_integer pm_is_integer cd_is_integer ct_is_integer : Value}
    (A_is_integer : PySem.W.nsIn K mainGlobals "is_integer" = some (some (.ref f_is_integer))) (L_is_integer : K.lookup f_is_integer = some ⟨oc_is_integer, od_is_integer, .func (PySem.W.fnOf "is_integer" "is_integer" (defArgs s_is_integer) (defBody s_is_integer) (defScope s_is_integer) .none kV_is_integer dc_is_integer pm_is_integer an_is_integer cd_is_integer ct_is_integer), sl_is_integer⟩) (C_is_integer : PySem.W.codeIn K cd_is_integer "is_integer" = true) (K_is_integer : PySem.W.keepIn K (.ref f_is_integer) = true)
    {f_is_rail : Addr} {od_is_rail an_is_rail : Option Addr} {sl_is_rail : Array (Option Value)} {oc_is_rail kV_is_rail dc_is_rail pm_is_rail cd_is_rail ct_is_rail : Value}
    (A_is_rail : PySem.W.nsIn K mainGlobals "is_rail" = some (some (.ref f_is_rail))) (L_is_rail : K.lookup f_is_rail = some ⟨oc_is_rail, od_is_rail, .func (PySem.W.fnOf "is_rail" "is_rail" (defArgs s_is_rail) (defBody s_is_rail) (defScope s_is_rail) .none kV_is_rail dc_is_rail pm_is_rail an_is_rail cd_is_rail ct_is_rail), sl_is_rail⟩) (C_is_rail : PySem.W.codeIn K cd_is_rail "is_rail" = true) (K_is_rail : PySem.W.keepIn K (.ref f_is_rail) = true)
    {f_is_wardrobe : Addr} {od_is_wardrobe an_is_wardrobe : Option Addr} {sl_is_wardrobe : Array (Option Value)} {oc_is_wardrobe kV_is_wardrobe dc_is_wardrobe pm_is_wardrobe cd_is_wardrobe ct_is_wardrobe : Value}
    (A_is_wardrobe : PySem.W.nsIn K mainGlobals "is_wardrobe" = some (some (.ref f_is_wardrobe))) (L_is_wardrobe : K.lookup f_is_wardrobe = some ⟨oc_is_wardrobe, od_is_wardrobe, .func (PySem.W.fnOf "is_wardrobe" "is_wardrobe" (defArgs s_is_wardrobe) (defBody s_is_wardrobe) (defScope s_is_wardrobe) .none kV_is_wardrobe dc_is_wardrobe pm_is_wardrobe an_is_wardrobe cd_is_wardrobe ct_is_wardrobe), sl_is_wardrobe⟩) (C_is_wardrobe : PySem.W.codeIn K cd_is_wardrobe "is_wardrobe" = true) (K_is_wardrobe : PySem.W.keepIn K (.ref f_is_wardrobe) = true)
    {f_heads : Addr} {od_heads an_heads : Option Addr} {sl_heads : Array (Option Value)} {oc_heads kV_heads dc_heads pm_heads cd_heads ct_heads : Value}
    (A_heads : PySem.W.nsIn K mainGlobals "heads" = some (some (.ref f_heads))) (L_heads : K.lookup f_heads = some ⟨oc_heads, od_heads, .func (PySem.W.fnOf "heads" "heads" (defArgs s_heads) (defBody s_heads) (defScope s_heads) .none kV_heads dc_heads pm_heads an_heads cd_heads ct_heads), sl_heads⟩) (C_heads : PySem.W.codeIn K cd_heads "heads" = true) (K_heads : PySem.W.keepIn K (.ref f_heads) = true)
    {f_slack_of : Addr} {od_slack_of an_slack_of : Option Addr} {sl_slack_of : Array (Option Value)} {oc_slack_of kV_slack_of dc_slack_of pm_slack_of cd_slack_of ct_slack_of : Value}
    (A_slack_of : PySem.W.nsIn K mainGlobals "slack_of" = some (some (.ref f_slack_of))) (L_slack_of : K.lookup f_slack_of = some ⟨oc_slack_of, od_slack_of, .func (PySem.W.fnOf "slack_of" "slack_of" (defArgs s_slack_of) (defBody s_slack_of) (defScope s_slack_of) .none kV_slack_of dc_slack_of pm_slack_of an_slack_of cd_slack_of ct_slack_of), sl_slack_of⟩) (C_slack_of : PySem.W.codeIn K cd_slack_of "slack_of" = true) (K_slack_of : PySem.W.keepIn K (.ref f_slack_of) = true)
    {f_need_wardrobe : Addr} {od_need_wardrobe an_need_wardrobe : Option Addr} {sl_need_wardrobe : Array (Option Value)} {oc_need_wardrobe kV_need_wardrobe dc_need_wardrobe pm_need_wardrobe cd_need_wardrobe ct_need_wardrobe : Value}
    (A_need_wardrobe : PySem.W.nsIn K mainGlobals "need_wardrobe" = some (some (.ref f_need_wardrobe))) (L_need_wardrobe : K.lookup f_need_wardrobe = some ⟨oc_need_wardrobe, od_need_wardrobe, .func (PySem.W.fnOf "need_wardrobe" "need_wardrobe" (defArgs s_need_wardrobe) (defBody s_need_wardrobe) (defScope s_need_wardrobe) .none kV_need_wardrobe dc_need_wardrobe pm_need_wardrobe an_need_wardrobe cd_need_wardrobe ct_need_wardrobe), sl_need_wardrobe⟩) (C_need_wardrobe : PySem.W.codeIn K cd_need_wardrobe "need_wardrobe" = true) (K_need_wardrobe : PySem.W.keepIn K (.ref f_need_wardrobe) = true)
    {f_is_stretch : Addr} {od_is_stretch an_is_stretch : Option Addr} {sl_is_stretch : Array (Option Value)} {oc_is_stretch kV_is_stretch dc_is_stretch pm_is_stretch cd_is_stretch ct_is_stretch : Value}
    (A_is_stretch : PySem.W.nsIn K mainGlobals "is_stretch" = some (some (.ref f_is_stretch))) (L_is_stretch : K.lookup f_is_stretch = some ⟨oc_is_stretch, od_is_stretch, .func (PySem.W.fnOf "is_stretch" "is_stretch" (defArgs s_is_stretch) (defBody s_is_stretch) (defScope s_is_stretch) .none kV_is_stretch dc_is_stretch pm_is_stretch an_is_stretch cd_is_stretch ct_is_stretch), sl_is_stretch⟩) (C_is_stretch : PySem.W.codeIn K cd_is_stretch "is_stretch" = true) (K_is_stretch : PySem.W.keepIn K (.ref f_is_stretch) = true)
    {f_need_stretch : Addr} {od_need_stretch an_need_stretch : Option Addr} {sl_need_stretch : Array (Option Value)} {oc_need_stretch kV_need_stretch dc_need_stretch pm_need_stretch cd_need_stretch ct_need_stretch : Value}
    (A_need_stretch : PySem.W.nsIn K mainGlobals "need_stretch" = some (some (.ref f_need_stretch))) (L_need_stretch : K.lookup f_need_stretch = some ⟨oc_need_stretch, od_need_stretch, .func (PySem.W.fnOf "need_stretch" "need_stretch" (defArgs s_need_stretch) (defBody s_need_stretch) (defScope s_need_stretch) .none kV_need_stretch dc_need_stretch pm_need_stretch an_need_stretch cd_need_stretch ct_need_stretch), sl_need_stretch⟩) (C_need_stretch : PySem.W.codeIn K cd_need_stretch "need_stretch" = true) (K_need_stretch : PySem.W.keepIn K (.ref f_need_stretch) = true)
    {f_splits : Addr} {od_splits an_splits : Option Addr} {sl_splits : Array (Option Value)} {oc_splits kV_splits dc_splits pm_splits cd_splits ct_splits : Value}
    (A_splits : PySem.W.nsIn K mainGlobals "splits" = some (some (.ref f_splits))) (L_splits : K.lookup f_splits = some ⟨oc_splits, od_splits, .func (PySem.W.fnOf "splits" "splits" (defArgs s_splits) (defBody s_splits) (defScope s_splits) .none kV_splits dc_splits pm_splits an_splits cd_splits ct_splits), sl_splits⟩) (C_splits : PySem.W.codeIn K cd_splits "splits" = true) (K_splits : PySem.W.keepIn K (.ref f_splits) = true)
    {f_can_open : Addr} {od_can_open an_can_open : Option Addr} {sl_can_open : Array (Option Value)} {oc_can_open kV_can_open dc_can_open pm_can_open cd_can_open ct_can_open : Value}
    (A_can_open : PySem.W.nsIn K mainGlobals "can_open" = some (some (.ref f_can_open))) (L_can_open : K.lookup f_can_open = some ⟨oc_can_open, od_can_open, .func (PySem.W.fnOf "can_open" "can_open" (defArgs s_can_open) (defBody s_can_open) (defScope s_can_open) .none kV_can_open dc_can_open pm_can_open an_can_open cd_can_open ct_can_open), sl_can_open⟩) (C_can_open : PySem.W.codeIn K cd_can_open "can_open" = true) (K_can_open : PySem.W.keepIn K (.ref f_can_open) = true)
    {f_most_open : Addr} {od_most_open an_most_open : Option Addr} {sl_most_open : Array (Option Value)} {oc_most_open kV_most_open dc_most_open pm_most_open cd_most_open ct_most_open : Value}
    (A_most_open : PySem.W.nsIn K mainGlobals "most_open" = some (some (.ref f_most_open))) (L_most_open : K.lookup f_most_open = some ⟨oc_most_open, od_most_open, .func (PySem.W.fnOf "most_open" "most_open" (defArgs s_most_open) (defBody s_most_open) (defScope s_most_open) .none kV_most_open dc_most_open pm_most_open an_most_open cd_most_open ct_most_open), sl_most_open⟩) (C_most_open : PySem.W.codeIn K cd_most_open "most_open" = true) (K_most_open : PySem.W.keepIn K (.ref f_most_open) = true)
    {f_far_end : Addr} {od_far_end an_far_end : Option Addr} {sl_far_end : Array (Option Value)} {oc_far_end kV_far_end dc_far_end pm_far_end cd_far_end ct_far_end : Value}
    (A_far_end : PySem.W.nsIn K mainGlobals "far_end" = some (some (.ref f_far_end))) (L_far_end : K.lookup f_far_end = some ⟨oc_far_end, od_far_end, .func (PySem.W.fnOf "far_end" "far_end" (defArgs s_far_end) (defBody s_far_end) (defScope s_far_end) .none kV_far_end dc_far_end pm_far_end an_far_end cd_far_end ct_far_end), sl_far_end⟩) (C_far_end : PySem.W.codeIn K cd_far_end "far_end" = true) (K_far_end : PySem.W.keepIn K (.ref f_far_end) = true)
    {f_first_unlike : Addr} {od_first_unlike an_first_unlike : Option Addr} {sl_first_unlike : Array (Option Value)} {oc_first_unlike kV_first_unlike dc_first_unlike pm_first_unlike cd_first_unlike ct_first_unlike : Value}
    (A_first_unlike : PySem.W.nsIn K mainGlobals "first_unlike" = some (some (.ref f_first_unlike))) (L_first_unlike : K.lookup f_first_unlike = some ⟨oc_first_unlike, od_first_unlike, .func (PySem.W.fnOf "first_unlike" "first_unlike" (defArgs s_first_unlike) (defBody s_first_unlike) (defScope s_first_unlike) .none kV_first_unlike dc_first_unlike pm_first_unlike an_first_unlike cd_first_unlike ct_first_unlike), sl_first_unlike⟩) (C_first_unlike : PySem.W.codeIn K cd_first_unlike "first_unlike" = true) (K_first_unlike : PySem.W.keepIn K (.ref f_first_unlike) = true)
    {f_opens_all : Addr} {od_opens_all an_opens_all : Option Addr} {sl_opens_all : Array (Option Value)} {oc_opens_all kV_opens_all dc_opens_all pm_opens_all cd_opens_all ct_opens_all : Value}
    (A_opens_all : PySem.W.nsIn K mainGlobals "opens_all" = some (some (.ref f_opens_all))) (L_opens_all : K.lookup f_opens_all = some ⟨oc_opens_all, od_opens_all, .func (PySem.W.fnOf "opens_all" "opens_all" (defArgs s_opens_all) (defBody s_opens_all) (defScope s_opens_all) .none kV_opens_all dc_opens_all pm_opens_all an_opens_all cd_opens_all ct_opens_all), sl_opens_all⟩) (C_opens_all : PySem.W.codeIn K cd_opens_all "opens_all" = true) (K_opens_all : PySem.W.keepIn K (.ref f_opens_all) = true)
    {f_telling_stretch : Addr} {od_telling_stretch an_telling_stretch : Option Addr} {sl_telling_stretch : Array (Option Value)} {oc_telling_stretch kV_telling_stretch dc_telling_stretch pm_telling_stretch cd_telling_stretch ct_telling_stretch : Value}
    (A_telling_stretch : PySem.W.nsIn K mainGlobals "telling_stretch" = some (some (.ref f_telling_stretch))) (L_telling_stretch : K.lookup f_telling_stretch = some ⟨oc_telling_stretch, od_telling_stretch, .func (PySem.W.fnOf "telling_stretch" "telling_stretch" (defArgs s_telling_stretch) (defBody s_telling_stretch) (defScope s_telling_stretch) .none kV_telling_stretch dc_telling_stretch pm_telling_stretch an_telling_stretch cd_telling_stretch ct_telling_stretch), sl_telling_stretch⟩) (C_telling_stretch : PySem.W.codeIn K cd_telling_stretch "telling_stretch" = true) (K_telling_stretch : PySem.W.keepIn K (.ref f_telling_stretch) = true)
    {f_law_cell_at : Addr} {od_law_cell_at an_law_cell_at : Option Addr} {sl_law_cell_at : Array (Option Value)} {oc_law_cell_at kV_law_cell_at dc_law_cell_at pm_law_cell_at cd_law_cell_at ct_law_cell_at : Value}
    (A_law_cell_at : PySem.W.nsIn K mainGlobals "_law_cell_at" = some (some (.ref f_law_cell_at))) (L_law_cell_at : K.lookup f_law_cell_at = some ⟨oc_law_cell_at, od_law_cell_at, .func (PySem.W.fnOf "_law_cell_at" "_law_cell_at" (defArgs s_law_cell_at) (defBody s_law_cell_at) (defScope s_law_cell_at) .none kV_law_cell_at dc_law_cell_at pm_law_cell_at an_law_cell_at cd_law_cell_at ct_law_cell_at), sl_law_cell_at⟩) (C_law_cell_at : PySem.W.codeIn K cd_law_cell_at "_law_cell_at" = true) (K_law_cell_at : PySem.W.keepIn K (.ref f_law_cell_at) = true)
    {f_law_draws : Addr} {od_law_draws an_law_draws : Option Addr} {sl_law_draws : Array (Option Value)} {oc_law_draws kV_law_draws dc_law_draws pm_law_draws cd_law_draws ct_law_draws : Value}
    (A_law_draws : PySem.W.nsIn K mainGlobals "_law_draws" = some (some (.ref f_law_draws))) (L_law_draws : K.lookup f_law_draws = some ⟨oc_law_draws, od_law_draws, .func (PySem.W.fnOf "_law_draws" "_law_draws" (defArgs s_law_draws) (defBody s_law_draws) (defScope s_law_draws) .none kV_law_draws dc_law_draws pm_law_draws an_law_draws cd_law_draws ct_law_draws), sl_law_draws⟩) (C_law_draws : PySem.W.codeIn K cd_law_draws "_law_draws" = true) (K_law_draws : PySem.W.keepIn K (.ref f_law_draws) = true)
    {f_law_bag : Addr} {od_law_bag an_law_bag : Option Addr} {sl_law_bag : Array (Option Value)} {oc_law_bag kV_law_bag dc_law_bag pm_law_bag cd_law_bag ct_law_bag : Value}
    (A_law_bag : PySem.W.nsIn K mainGlobals "_law_bag" = some (some (.ref f_law_bag))) (L_law_bag : K.lookup f_law_bag = some ⟨oc_law_bag, od_law_bag, .func (PySem.W.fnOf "_law_bag" "_law_bag" (defArgs s_law_bag) (defBody s_law_bag) (defScope s_law_bag) .none kV_law_bag dc_law_bag pm_law_bag an_law_bag cd_law_bag ct_law_bag), sl_law_bag⟩) (C_law_bag : PySem.W.codeIn K cd_law_bag "_law_bag" = true) (K_law_bag : PySem.W.keepIn K (.ref f_law_bag) = true)
    {f_law_bags : Addr} {od_law_bags an_law_bags : Option Addr} {sl_law_bags : Array (Option Value)} {oc_law_bags kV_law_bags dc_law_bags pm_law_bags cd_law_bags ct_law_bags : Value}
    (A_law_bags : PySem.W.nsIn K mainGlobals "_law_bags" = some (some (.ref f_law_bags))) (L_law_bags : K.lookup f_law_bags = some ⟨oc_law_bags, od_law_bags, .func (PySem.W.fnOf "_law_bags" "_law_bags" (defArgs s_law_bags) (defBody s_law_bags) (defScope s_law_bags) .none kV_law_bags dc_law_bags pm_law_bags an_law_bags cd_law_bags ct_law_bags), sl_law_bags⟩) (C_law_bags : PySem.W.codeIn K cd_law_bags "_law_bags" = true) (K_law_bags : PySem.W.keepIn K (.ref f_law_bags) = true)
    {f_law_take : Addr} {od_law_take an_law_take : Option Addr} {sl_law_take : Array (Option Value)} {oc_law_take kV_law_take dc_law_take pm_law_take cd_law_take ct_law_take : Value}
    (A_law_take : PySem.W.nsIn K mainGlobals "_law_take" = some (some (.ref f_law_take))) (L_law_take : K.lookup f_law_take = some ⟨oc_law_take, od_law_take, .func (PySem.W.fnOf "_law_take" "_law_take" (defArgs s_law_take) (defBody s_law_take) (defScope s_law_take) .none kV_law_take dc_law_take pm_law_take an_law_take cd_law_take ct_law_take), sl_law_take⟩) (C_law_take : PySem.W.codeIn K cd_law_take "_law_take" = true) (K_law_take : PySem.W.keepIn K (.ref f_law_take) = true)
    {f_law_far_draw : Addr} {od_law_far_draw an_law_far_draw : Option Addr} {sl_law_far_draw : Array (Option Value)} {oc_law_far_draw kV_law_far_draw dc_law_far_draw pm_law_far_draw cd_law_far_draw ct_law_far_draw : Value}
    (A_law_far_draw : PySem.W.nsIn K mainGlobals "_law_far_draw" = some (some (.ref f_law_far_draw))) (L_law_far_draw : K.lookup f_law_far_draw = some ⟨oc_law_far_draw, od_law_far_draw, .func (PySem.W.fnOf "_law_far_draw" "_law_far_draw" (defArgs s_law_far_draw) (defBody s_law_far_draw) (defScope s_law_far_draw) .none kV_law_far_draw dc_law_far_draw pm_law_far_draw an_law_far_draw cd_law_far_draw ct_law_far_draw), sl_law_far_draw⟩) (C_law_far_draw : PySem.W.codeIn K cd_law_far_draw "_law_far_draw" = true) (K_law_far_draw : PySem.W.keepIn K (.ref f_law_far_draw) = true)
    {f_law_wardrobe : Addr} {od_law_wardrobe an_law_wardrobe : Option Addr} {sl_law_wardrobe : Array (Option Value)} {oc_law_wardrobe kV_law_wardrobe dc_law_wardrobe pm_law_wardrobe cd_law_wardrobe ct_law_wardrobe : Value}
    (A_law_wardrobe : PySem.W.nsIn K mainGlobals "_law_wardrobe" = some (some (.ref f_law_wardrobe))) (L_law_wardrobe : K.lookup f_law_wardrobe = some ⟨oc_law_wardrobe, od_law_wardrobe, .func (PySem.W.fnOf "_law_wardrobe" "_law_wardrobe" (defArgs s_law_wardrobe) (defBody s_law_wardrobe) (defScope s_law_wardrobe) .none kV_law_wardrobe dc_law_wardrobe pm_law_wardrobe an_law_wardrobe cd_law_wardrobe ct_law_wardrobe), sl_law_wardrobe⟩) (C_law_wardrobe : PySem.W.codeIn K cd_law_wardrobe "_law_wardrobe" = true) (K_law_wardrobe : PySem.W.keepIn K (.ref f_law_wardrobe) = true)
    {f_law_stretch : Addr} {od_law_stretch an_law_stretch : Option Addr} {sl_law_stretch : Array (Option Value)} {oc_law_stretch kV_law_stretch dc_law_stretch pm_law_stretch cd_law_stretch ct_law_stretch : Value}
    (A_law_stretch : PySem.W.nsIn K mainGlobals "_law_stretch" = some (some (.ref f_law_stretch))) (L_law_stretch : K.lookup f_law_stretch = some ⟨oc_law_stretch, od_law_stretch, .func (PySem.W.fnOf "_law_stretch" "_law_stretch" (defArgs s_law_stretch) (defBody s_law_stretch) (defScope s_law_stretch) .none kV_law_stretch dc_law_stretch pm_law_stretch an_law_stretch cd_law_stretch ct_law_stretch), sl_law_stretch⟩) (C_law_stretch : PySem.W.codeIn K cd_law_stretch "_law_stretch" = true) (K_law_stretch : PySem.W.keepIn K (.ref f_law_stretch) = true)
    {f_law_wide : Addr} {od_law_wide an_law_wide : Option Addr} {sl_law_wide : Array (Option Value)} {oc_law_wide kV_law_wide dc_law_wide pm_law_wide cd_law_wide ct_law_wide : Value}
    (A_law_wide : PySem.W.nsIn K mainGlobals "_law_wide" = some (some (.ref f_law_wide))) (L_law_wide : K.lookup f_law_wide = some ⟨oc_law_wide, od_law_wide, .func (PySem.W.fnOf "_law_wide" "_law_wide" (defArgs s_law_wide) (defBody s_law_wide) (defScope s_law_wide) .none kV_law_wide dc_law_wide pm_law_wide an_law_wide cd_law_wide ct_law_wide), sl_law_wide⟩) (C_law_wide : PySem.W.codeIn K cd_law_wide "_law_wide" = true) (K_law_wide : PySem.W.keepIn K (.ref f_law_wide) = true)
    {f_law_less : Addr} {od_law_less an_law_less : Option Addr} {sl_law_less : Array (Option Value)} {oc_law_less kV_law_less dc_law_less pm_law_less cd_law_less ct_law_less : Value}
    (A_law_less : PySem.W.nsIn K mainGlobals "_law_less" = some (some (.ref f_law_less))) (L_law_less : K.lookup f_law_less = some ⟨oc_law_less, od_law_less, .func (PySem.W.fnOf "_law_less" "_law_less" (defArgs s_law_less) (defBody s_law_less) (defScope s_law_less) .none kV_law_less dc_law_less pm_law_less an_law_less cd_law_less ct_law_less), sl_law_less⟩) (C_law_less : PySem.W.codeIn K cd_law_less "_law_less" = true) (K_law_less : PySem.W.keepIn K (.ref f_law_less) = true)
    {f_law : Addr} {od_law an_law : Option Addr} {sl_law : Array (Option Value)} {oc_law kV_law dc_law pm_law cd_law ct_law : Value}
    (A_law : PySem.W.nsIn K mainGlobals "law" = some (some (.ref f_law))) (L_law : K.lookup f_law = some ⟨oc_law, od_law, .func (PySem.W.fnOf "law" "law" (defArgs s_law) (defBody s_law) (defScope s_law) .none kV_law dc_law pm_law an_law cd_law ct_law), sl_law⟩) (C_law : PySem.W.codeIn K cd_law "law" = true) (K_law : PySem.W.keepIn K (.ref f_law) = true)
    (Z_all : PySem.W.nsIn K mainGlobals "all" = some none)
    (Z_bool : PySem.W.nsIn K mainGlobals "bool" = some none)
    (Z_enumerate : PySem.W.nsIn K mainGlobals "enumerate" = some none)
    (Z_int : PySem.W.nsIn K mainGlobals "int" = some none)
    (Z_isinstance : PySem.W.nsIn K mainGlobals "isinstance" = some none)
    (Z_len : PySem.W.nsIn K mainGlobals "len" = some none)
    (Z_max : PySem.W.nsIn K mainGlobals "max" = some none)
    (Z_min : PySem.W.nsIn K mainGlobals "min" = some none)
    (Z_range : PySem.W.nsIn K mainGlobals "range" = some none)
    (Z_set : PySem.W.nsIn K mainGlobals "set" = some none)
    (Z_sorted : PySem.W.nsIn K mainGlobals "sorted" = some none)
    (Z_sum : PySem.W.nsIn K mainGlobals "sum" = some none)
    (Z_tuple : PySem.W.nsIn K mainGlobals "tuple" = some none)
    {t_MAX_WIDTH : Tok} (Z_MAX_WIDTH : PySem.W.nsIn K mainGlobals "MAX_WIDTH" = some (some (.int 1000000 t_MAX_WIDTH))) :
    ∃ fd : FuncData, (∀ (s : Shared) (v : Value), BindsTo s fd ⟨[v], []⟩ [("script", v)]) ∧ ∀ base : Heap, K.In base → base.Ns mainGlobals mg → FnOk l.prog w K mg base CX0 7 fa fd ["script"] (spLaw K) := by
  have e := hfa.symm.trans (PySem.W.mg_of X G A_law)
  cases e
  have F_is_integer := fun_mk (st := s_is_integer) L_is_integer C_is_integer K_is_integer
  have F_is_rail := fun_mk (st := s_is_rail) L_is_rail C_is_rail K_is_rail
  have F_is_wardrobe := fun_mk (st := s_is_wardrobe) L_is_wardrobe C_is_wardrobe K_is_wardrobe
  have F_heads := fun_mk (st := s_heads) L_heads C_heads K_heads
  have F_slack_of := fun_mk (st := s_slack_of) L_slack_of C_slack_of K_slack_of
  have F_need_wardrobe := fun_mk (st := s_need_wardrobe) L_need_wardrobe C_need_wardrobe K_need_wardrobe
  have F_is_stretch := fun_mk (st := s_is_stretch) L_is_stretch C_is_stretch K_is_stretch
  have F_need_stretch := fun_mk (st := s_need_stretch) L_need_stretch C_need_stretch K_need_stretch
  have F_splits := fun_mk (st := s_splits) L_splits C_splits K_splits
  have F_can_open := fun_mk (st := s_can_open) L_can_open C_can_open K_can_open
  have F_most_open := fun_mk (st := s_most_open) L_most_open C_most_open K_most_open
  have F_far_end := fun_mk (st := s_far_end) L_far_end C_far_end K_far_end
  have F_first_unlike := fun_mk (st := s_first_unlike) L_first_unlike C_first_unlike K_first_unlike
  have F_opens_all := fun_mk (st := s_opens_all) L_opens_all C_opens_all K_opens_all
  have F_telling_stretch := fun_mk (st := s_telling_stretch) L_telling_stretch C_telling_stretch K_telling_stretch
  have F_law_cell_at := fun_mk (st := s_law_cell_at) L_law_cell_at C_law_cell_at K_law_cell_at
  have F_law_draws := fun_mk (st := s_law_draws) L_law_draws C_law_draws K_law_draws
  have F_law_bag := fun_mk (st := s_law_bag) L_law_bag C_law_bag K_law_bag
  have F_law_bags := fun_mk (st := s_law_bags) L_law_bags C_law_bags K_law_bags
  have F_law_take := fun_mk (st := s_law_take) L_law_take C_law_take K_law_take
  have F_law_far_draw := fun_mk (st := s_law_far_draw) L_law_far_draw C_law_far_draw K_law_far_draw
  have F_law_wardrobe := fun_mk (st := s_law_wardrobe) L_law_wardrobe C_law_wardrobe K_law_wardrobe
  have F_law_stretch := fun_mk (st := s_law_stretch) L_law_stretch C_law_stretch K_law_stretch
  have F_law_wide := fun_mk (st := s_law_wide) L_law_wide C_law_wide K_law_wide
  have F_law_less := fun_mk (st := s_law_less) L_law_less C_law_less K_law_less
  have F_law := fun_mk (st := s_law) L_law C_law K_law
  exact ⟨PySem.W.fnOf "law" "law" (defArgs s_law) (defBody s_law) (defScope s_law) .none kV_law dc_law pm_law an_law cd_law ct_law, fun s v => .of_eq rfl, fun base _ _ => ok_law
    { a_is_integer := _, d_is_integer := _, F_is_integer := F_is_integer, b_is_integer := F_is_integer.binds (ps := ["value", "low", "high"]) fun _ _ _ _ _ _ us hl => match us, hl with | [_, _, _], _ => rfl, g_is_integer := PySem.W.mg_of X G A_is_integer,
      a_is_rail := _, d_is_rail := _, F_is_rail := F_is_rail, b_is_rail := F_is_rail.binds (ps := ["width", "value"]) fun _ _ _ _ _ _ us hl => match us, hl with | [_, _], _ => rfl, g_is_rail := PySem.W.mg_of X G A_is_rail,
      a_is_wardrobe := _, d_is_wardrobe := _, F_is_wardrobe := F_is_wardrobe, b_is_wardrobe := F_is_wardrobe.binds (ps := ["value"]) fun _ _ _ _ _ _ us hl => match us, hl with | [_], _ => rfl, g_is_wardrobe := PySem.W.mg_of X G A_is_wardrobe,
      a_heads := _, d_heads := _, F_heads := F_heads, b_heads := F_heads.binds (ps := ["widths"]) fun _ _ _ _ _ _ us hl => match us, hl with | [_], _ => rfl, g_heads := PySem.W.mg_of X G A_heads,
      a_slack_of := _, d_slack_of := _, F_slack_of := F_slack_of, b_slack_of := F_slack_of.binds (ps := ["width", "widths"]) fun _ _ _ _ _ _ us hl => match us, hl with | [_, _], _ => rfl, g_slack_of := PySem.W.mg_of X G A_slack_of,
      a_need_wardrobe := _, d_need_wardrobe := _, F_need_wardrobe := F_need_wardrobe, b_need_wardrobe := F_need_wardrobe.binds (ps := ["value"]) fun _ _ _ _ _ _ us hl => match us, hl with | [_], _ => rfl, g_need_wardrobe := PySem.W.mg_of X G A_need_wardrobe,
      a_is_stretch := _, d_is_stretch := _, F_is_stretch := F_is_stretch, b_is_stretch := F_is_stretch.binds (ps := ["wardrobe", "value"]) fun _ _ _ _ _ _ us hl => match us, hl with | [_, _], _ => rfl, g_is_stretch := PySem.W.mg_of X G A_is_stretch,
      a_need_stretch := _, d_need_stretch := _, F_need_stretch := F_need_stretch, b_need_stretch := F_need_stretch.binds (ps := ["wardrobe", "value"]) fun _ _ _ _ _ _ us hl => match us, hl with | [_, _], _ => rfl, g_need_stretch := PySem.W.mg_of X G A_need_stretch,
      a_splits := _, d_splits := _, F_splits := F_splits, b_splits := F_splits.binds (ps := ["width", "widths", "stretch"]) fun _ _ _ _ _ _ us hl => match us, hl with | [_, _, _], _ => rfl, g_splits := PySem.W.mg_of X G A_splits,
      a_can_open := _, d_can_open := _, F_can_open := F_can_open, b_can_open := F_can_open.binds (ps := ["wardrobe", "stretch"]) fun _ _ _ _ _ _ us hl => match us, hl with | [_, _], _ => rfl, g_can_open := PySem.W.mg_of X G A_can_open,
      a_most_open := _, d_most_open := _, F_most_open := F_most_open, b_most_open := F_most_open.binds (ps := ["wardrobe"]) fun _ _ _ _ _ _ us hl => match us, hl with | [_], _ => rfl, g_most_open := PySem.W.mg_of X G A_most_open,
      a_far_end := _, d_far_end := _, F_far_end := F_far_end, b_far_end := F_far_end.binds (ps := ["wardrobe", "low"]) fun _ _ _ _ _ _ us hl => match us, hl with | [_, _], _ => rfl, g_far_end := PySem.W.mg_of X G A_far_end,
      a_first_unlike := _, d_first_unlike := _, F_first_unlike := F_first_unlike, b_first_unlike := F_first_unlike.binds (ps := ["first", "second"]) fun _ _ _ _ _ _ us hl => match us, hl with | [_, _], _ => rfl, g_first_unlike := PySem.W.mg_of X G A_first_unlike,
      a_opens_all := _, d_opens_all := _, F_opens_all := F_opens_all, b_opens_all := F_opens_all.binds (ps := ["first", "second"]) fun _ _ _ _ _ _ us hl => match us, hl with | [_, _], _ => rfl, g_opens_all := PySem.W.mg_of X G A_opens_all,
      a_telling_stretch := _, d_telling_stretch := _, F_telling_stretch := F_telling_stretch, b_telling_stretch := F_telling_stretch.binds (ps := ["first", "second"]) fun _ _ _ _ _ _ us hl => match us, hl with | [_, _], _ => rfl, g_telling_stretch := PySem.W.mg_of X G A_telling_stretch,
      a_law_cell_at := _, d_law_cell_at := _, F_law_cell_at := F_law_cell_at, b_law_cell_at := F_law_cell_at.binds (ps := ["script", "k"]) fun _ _ _ _ _ _ us hl => match us, hl with | [_, _], _ => rfl, g_law_cell_at := PySem.W.mg_of X G A_law_cell_at,
      a_law_draws := _, d_law_draws := _, F_law_draws := F_law_draws, b_law_draws := F_law_draws.binds (ps := ["cell", "many", "size"]) fun _ _ _ _ _ _ us hl => match us, hl with | [_, _, _], _ => rfl, g_law_draws := PySem.W.mg_of X G A_law_draws,
      a_law_bag := _, d_law_bag := _, F_law_bag := F_law_bag, b_law_bag := F_law_bag.binds (ps := ["script", "k"]) fun _ _ _ _ _ _ us hl => match us, hl with | [_, _], _ => rfl, g_law_bag := PySem.W.mg_of X G A_law_bag,
      a_law_bags := _, d_law_bags := _, F_law_bags := F_law_bags, b_law_bags := F_law_bags.binds (ps := ["script", "limit"]) fun _ _ _ _ _ _ us hl => match us, hl with | [_, _], _ => rfl, g_law_bags := PySem.W.mg_of X G A_law_bags,
      a_law_take := _, d_law_take := _, F_law_take := F_law_take, b_law_take := F_law_take.binds (ps := ["bag", "many"]) fun _ _ _ _ _ _ us hl => match us, hl with | [_, _], _ => rfl, g_law_take := PySem.W.mg_of X G A_law_take,
      a_law_far_draw := _, d_law_far_draw := _, F_law_far_draw := F_law_far_draw, b_law_far_draw := F_law_far_draw.binds (ps := ["bag", "many"]) fun _ _ _ _ _ _ us hl => match us, hl with | [_, _], _ => rfl, g_law_far_draw := PySem.W.mg_of X G A_law_far_draw,
      a_law_wardrobe := _, d_law_wardrobe := _, F_law_wardrobe := F_law_wardrobe, b_law_wardrobe := F_law_wardrobe.binds (ps := ["bag", "most", "rails", "doors"]) fun _ _ _ _ _ _ us hl => match us, hl with | [_, _, _, _], _ => rfl, g_law_wardrobe := PySem.W.mg_of X G A_law_wardrobe,
      a_law_stretch := _, d_law_stretch := _, F_law_stretch := F_law_stretch, b_law_stretch := F_law_stretch.binds (ps := ["bag", "wardrobe"]) fun _ _ _ _ _ _ us hl => match us, hl with | [_, _], _ => rfl, g_law_stretch := PySem.W.mg_of X G A_law_stretch,
      a_law_wide := _, d_law_wide := _, F_law_wide := F_law_wide, b_law_wide := F_law_wide.binds (ps := ["bag", "wardrobe"]) fun _ _ _ _ _ _ us hl => match us, hl with | [_, _], _ => rfl, g_law_wide := PySem.W.mg_of X G A_law_wide,
      a_law_less := _, d_law_less := _, F_law_less := F_law_less, b_law_less := F_law_less.binds (ps := ["bag", "wardrobe"]) fun _ _ _ _ _ _ us hl => match us, hl with | [_, _], _ => rfl, g_law_less := PySem.W.mg_of X G A_law_less,
      a_law := _, d_law := _, F_law := F_law, b_law := F_law.binds (ps := ["script"]) fun _ _ _ _ _ _ us hl => match us, hl with | [_], _ => rfl, g_law := PySem.W.mg_of X G A_law,
      n_all := PySem.W.mg_none_of X G Z_all,
      n_bool := PySem.W.mg_none_of X G Z_bool,
      n_enumerate := PySem.W.mg_none_of X G Z_enumerate,
      n_int := PySem.W.mg_none_of X G Z_int,
      n_isinstance := PySem.W.mg_none_of X G Z_isinstance,
      n_len := PySem.W.mg_none_of X G Z_len,
      n_max := PySem.W.mg_none_of X G Z_max,
      n_min := PySem.W.mg_none_of X G Z_min,
      n_range := PySem.W.mg_none_of X G Z_range,
      n_set := PySem.W.mg_none_of X G Z_set,
      n_sorted := PySem.W.mg_none_of X G Z_sorted,
      n_sum := PySem.W.mg_none_of X G Z_sum,
      n_tuple := PySem.W.mg_none_of X G Z_tuple,
      t_MAX_WIDTH := _, g_MAX_WIDTH := PySem.W.mg_of X G Z_MAX_WIDTH }⟩
theorem walk {q : Program} {l : PySem.W.OpenLaw} {loose : List Str} {XP : (Str → Option Value) → Heap → Prop} {YP : World → Heap → Prop} {d : DefRec} {K : Params → PySem.W.Frag} (hn : l.most = some 63) (hdf : d.params.defaults = [])
    (hYP : ∀ (w : World) (h : Heap), YP w h → (K w.params).In h)
    (FF : ∀ (w : World) (mg : Str → Option Value) (fa : Addr) (h : Heap), (K w.params).In h → h.Ns mainGlobals mg → mg d.name = some (.ref fa) →
      ∃ fd : FuncData, (∀ (s : Shared) (u : Value), BindsTo s fd ⟨[u], []⟩ [("script", u)]) ∧ ∀ base : Heap, (K w.params).In base → base.Ns mainGlobals mg → FnOk l.prog w (K w.params) mg base CX0 7 fa fd ["script"] (spLaw (K w.params))) :
    PySem.W.WalkO q loose XP YP l.row.toRowW d [] (fun f us => PySem.call f us) :=
  L2.walk_of (n := 63) (k := 7) (x := "script") (CX := fun _ => CX0) (sp := fun w => spLaw (K w.params)) hn (by rw [sizeLine_eq]; decide) hdf ⟨rfl, by decide, by decide⟩ hYP FF (fun _ _ a ns hl _ hS => ⟨a, ns, rfl, hS, hl, fun _ => rfl⟩) fun _ _ _ _ _ z => z

end T15
open PyProof.Rows PySem PySem.W in
set_option maxHeartbeats 0 in
set_option maxRecDepth 110000 in
theorem PySem.Challenge.cw_slidepanels_k15_whole_wardrobes_compared_holds : PySem.Challenge.rw_slidepanels_k15_whole_wardrobes_compared.Holds := by
  (w_on; o_law; k_head; (case hw => w_witness2))
  k_fill
  refine T15.walk (l := PySem.Challenge.rw_slidepanels_k15_whole_wardrobes_compared) rfl rfl (fun w h Y => PySem.W.kIn_of Y) ?FF
  case FF =>
    intro w mg fa h KX G hmg
    refine' T15.all_mk KX G hmg ?A_is_integer ?L_is_integer ?C_is_integer ?K_is_integer ?A_is_rail ?L_is_rail ?C_is_rail ?K_is_rail ?A_is_wardrobe ?L_is_wardrobe ?C_is_wardrobe ?K_is_wardrobe ?A_heads ?L_heads ?C_heads ?K_heads ?A_slack_of ?L_slack_of ?C_slack_of ?K_slack_of ?A_need_wardrobe ?L_need_wardrobe ?C_need_wardrobe ?K_need_wardrobe ?A_is_stretch ?L_is_stretch ?C_is_stretch ?K_is_stretch ?A_need_stretch ?L_need_stretch ?C_need_stretch ?K_need_stretch ?A_splits ?L_splits ?C_splits ?K_splits ?A_can_open ?L_can_open ?C_can_open ?K_can_open ?A_most_open ?L_most_open ?C_most_open ?K_most_open ?A_far_end ?L_far_end ?C_far_end ?K_far_end ?A_first_unlike ?L_first_unlike ?C_first_unlike ?K_first_unlike ?A_opens_all ?L_opens_all ?C_opens_all ?K_opens_all ?A_telling_stretch ?L_telling_stretch ?C_telling_stretch ?K_telling_stretch ?A_law_cell_at ?L_law_cell_at ?C_law_cell_at ?K_law_cell_at ?A_law_draws ?L_law_draws ?C_law_draws ?K_law_draws ?A_law_bag ?L_law_bag ?C_law_bag ?K_law_bag ?A_law_bags ?L_law_bags ?C_law_bags ?K_law_bags ?A_law_take ?L_law_take ?C_law_take ?K_law_take ?A_law_far_draw ?L_law_far_draw ?C_law_far_draw ?K_law_far_draw ?A_law_wardrobe ?L_law_wardrobe ?C_law_wardrobe ?K_law_wardrobe ?A_law_stretch ?L_law_stretch ?C_law_stretch ?K_law_stretch ?A_law_wide ?L_law_wide ?C_law_wide ?K_law_wide ?A_law_less ?L_law_less ?C_law_less ?K_law_less ?A_law ?L_law ?C_law ?K_law ?Z_all ?Z_bool ?Z_enumerate ?Z_int ?Z_isinstance ?Z_len ?Z_max ?Z_min ?Z_range ?Z_set ?Z_sorted ?Z_sum ?Z_tuple ?Z_MAX_WIDTH
    (case A_is_integer => k_is)
    (case L_is_integer => k_is)
    (case C_is_integer => k_is)
    (case K_is_integer => k_is)
    (case A_is_rail => k_is)
    (case L_is_rail => k_is)
    (case C_is_rail => k_is)
    (case K_is_rail => k_is)
    (case A_is_wardrobe => k_is)
    (case L_is_wardrobe => k_is)
    (case C_is_wardrobe => k_is)
    (case K_is_wardrobe => k_is)
    (case A_heads => k_is)
    (case L_heads => k_is)
    (case C_heads => k_is)
    (case K_heads => k_is)
    (case A_slack_of => k_is)
    (case L_slack_of => k_is)
    (case C_slack_of => k_is)
    (case K_slack_of => k_is)
    (case A_need_wardrobe => k_is)
    (case L_need_wardrobe => k_is)
    (case C_need_wardrobe => k_is)
    (case K_need_wardrobe => k_is)
    (case A_is_stretch => k_is)
    (case L_is_stretch => k_is)
    (case C_is_stretch => k_is)
    (case K_is_stretch => k_is)
    (case A_need_stretch => k_is)
    (case L_need_stretch => k_is)
    (case C_need_stretch => k_is)
    (case K_need_stretch => k_is)
    (case A_splits => k_is)
    (case L_splits => k_is)
    (case C_splits => k_is)
    (case K_splits => k_is)
    (case A_can_open => k_is)
    (case L_can_open => k_is)
    (case C_can_open => k_is)
    (case K_can_open => k_is)
    (case A_most_open => k_is)
    (case L_most_open => k_is)
    (case C_most_open => k_is)
    (case K_most_open => k_is)
    (case A_far_end => k_is)
    (case L_far_end => k_is)
    (case C_far_end => k_is)
    (case K_far_end => k_is)
    (case A_first_unlike => k_is)
    (case L_first_unlike => k_is)
    (case C_first_unlike => k_is)
    (case K_first_unlike => k_is)
    (case A_opens_all => k_is)
    (case L_opens_all => k_is)
    (case C_opens_all => k_is)
    (case K_opens_all => k_is)
    (case A_telling_stretch => k_is)
    (case L_telling_stretch => k_is)
    (case C_telling_stretch => k_is)
    (case K_telling_stretch => k_is)
    (case A_law_cell_at => k_is)
    (case L_law_cell_at => k_is)
    (case C_law_cell_at => k_is)
    (case K_law_cell_at => k_is)
    (case A_law_draws => k_is)
    (case L_law_draws => k_is)
    (case C_law_draws => k_is)
    (case K_law_draws => k_is)
    (case A_law_bag => k_is)
    (case L_law_bag => k_is)
    (case C_law_bag => k_is)
    (case K_law_bag => k_is)
    (case A_law_bags => k_is)
    (case L_law_bags => k_is)
    (case C_law_bags => k_is)
    (case K_law_bags => k_is)
    (case A_law_take => k_is)
    (case L_law_take => k_is)
    (case C_law_take => k_is)
    (case K_law_take => k_is)
    (case A_law_far_draw => k_is)
    (case L_law_far_draw => k_is)
    (case C_law_far_draw => k_is)
    (case K_law_far_draw => k_is)
    (case A_law_wardrobe => k_is)
    (case L_law_wardrobe => k_is)
    (case C_law_wardrobe => k_is)
    (case K_law_wardrobe => k_is)
    (case A_law_stretch => k_is)
    (case L_law_stretch => k_is)
    (case C_law_stretch => k_is)
    (case K_law_stretch => k_is)
    (case A_law_wide => k_is)
    (case L_law_wide => k_is)
    (case C_law_wide => k_is)
    (case K_law_wide => k_is)
    (case A_law_less => k_is)
    (case L_law_less => k_is)
    (case C_law_less => k_is)
    (case K_law_less => k_is)
    (case A_law => k_is)
    (case L_law => k_is)
    (case C_law => k_is)
    (case K_law => k_is)
    (case Z_all => k_is)
    (case Z_bool => k_is)
    (case Z_enumerate => k_is)
    (case Z_int => k_is)
    (case Z_isinstance => k_is)
    (case Z_len => k_is)
    (case Z_max => k_is)
    (case Z_min => k_is)
    (case Z_range => k_is)
    (case Z_set => k_is)
    (case Z_sorted => k_is)
    (case Z_sum => k_is)
    (case Z_tuple => k_is)
    (case Z_MAX_WIDTH => k_is)
#print axioms PySem.Challenge.cw_slidepanels_k15_whole_wardrobes_compared_holds


