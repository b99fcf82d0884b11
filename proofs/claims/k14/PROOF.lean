import PyProof.Rows.All
import Wide.All
import OpenK.AllK
import Wide.FinOn
import HandS.ForMost
import HandS.ForExc
import HandS.Wide
import HandS.TupAny
import HandS.TupMul
import HandS.NoneIn
import HandS.Property
import HandS.IsInst
import HandS.Flow
import HandS.Style
import HandS.Conv
import HandS.ExcInit
import HandS.Defaults
import HandS.SetFor
import HandS.MakeKw
import KE.GoesEnum
import HandS.Head0
import HandS.Head1
import HandS.Head2
import HandS.HeadEnd
import HandS.HeadHook1
import HandS.HeadHook2
import PyProof.Rows.Walk
import PySem.Challenge.RW_nonepassed_k14_due_and_fair_step_by_step
set_option Elab.async false
set_option linter.all false
set_option maxRecDepth 100000
set_option maxHeartbeats 0
/-! A layer of our own over HandS: values as pure data, only what is really changed stands in a ledger. -/
namespace N
open PySem PySem.Spec PyProof.Rows L2
inductive D where
  | non | bl (b : Bool) | int (i : Int) | str (s : Str) | tup (ds : List D) | lst (ds : List D)
  | ro (ds : List D) | obj (C : Addr) (ks : List Str) (ds : List D) | ref (a : Addr) | fn (v : V)
inductive GO where
  | lst (ds : List D) | ins (C : Addr) (ks : List Str) (ds : List D)
  | dK (kvs : List (Key × D)) | dT (kvs : List (List Key × D))
abbrev GH := Addr → Option GO
def gup (G : GH) (a : Addr) (o : GO) : GH := fun b => if b = a then some o else G b
def gdel (G : GH) (a : Addr) : GH := fun b => if b = a then none else G b
theorem gup_same {G : GH} {a : Addr} {o : GO} : gup G a o a = some o := if_pos rfl
theorem gup_ne {G : GH} {a b : Addr} {o : GO} (h : b ≠ a) : gup G a o b = G b := if_neg h
theorem gup_gup {G : GH} {a : Addr} {o u : GO} : gup (gup G a o) a u = gup G a u := by
  funext b
  unfold gup
  split <;> rfl
theorem gdel_same {G : GH} {a : Addr} : gdel G a a = none := if_pos rfl
theorem gdel_ne {G : GH} {a b : Addr} (h : b ≠ a) : gdel G a b = G b := if_neg h
theorem gdel_gup {G : GH} {a : Addr} {o : GO} (h : G a = none) : gdel (gup G a o) a = G := by
  funext b
  by_cases e : b = a
  · rw [e, gdel_same, h]
  · rw [gdel_ne e, gup_ne e]
abbrev ZS := Addr → Prop
def insV (ks : List Str) (xs : List V) : List (Str × V) := ks.zip xs
/-- a list that is only read: a locked one, or one of the module's own -/
def RoL (K : PySem.W.Frag) (H : Hp) (a : Addr) (xs : List V) : Prop := (∃ o, H a = some (.frz o (.lst xs))) ∨
  ∃ (o : Obj) (its : Array Value) (n : Nat), K.lookup a = some o ∧ o.cls = .type "list" ∧ o.dict = none ∧ o.data = .seq its n ∧ its.size ≤ sizeLine ∧ Vals xs its.toList
theorem RoL.sq {K : PySem.W.Frag} {H : Hp} {a : Addr} {xs : List V} (h : RoL K H a xs) : SqL K H a xs := h.elim (fun z => .inl (.inr z)) .inr
theorem RoL.mv {K : PySem.W.Frag} {H H' : Hp} {a : Addr} {xs : List V} (h : RoL K H a xs) (f : ∀ b ob w, H b = some (.frz ob w) → H' b = some (.frz ob w)) : RoL K H' a xs :=
  h.elim (fun ⟨o, z⟩ => .inl ⟨o, f _ _ _ z⟩) .inr
mutual
inductive Rl (K : PySem.W.Frag) (Z : ZS) (G : GH) (H : Hp) : D → V → Prop where
  | non : Rl K Z G H .non .non
  | bl (b : Bool) : Rl K Z G H (.bl b) (.bl b)
  | int (i : Int) : Rl K Z G H (.int i) (.int i)
  | str (s : Str) : Rl K Z G H (.str s) (.str s)
  | tup {a : Addr} {xs : List V} {ds : List D} : SqT K H a xs → RlA K Z G H ds xs → Rl K Z G H (.tup ds) (.ref a)
  | lst {a : Addr} {xs : List V} {ds : List D} : H a = some (.lst xs) → G a = none → ¬ Z a → RlA K Z G H ds xs → Rl K Z G H (.lst ds) (.ref a)
  | ro {a : Addr} {xs : List V} {ds : List D} : RoL K H a xs → RlA K Z G H ds xs → Rl K Z G H (.ro ds) (.ref a)
  | obj {a C dx : Addr} {ks : List Str} {xs : List V} {ds : List D} : H a = some (.ins C dx (insV ks xs)) → G a = none → ¬ Z a → ks.length = xs.length → RlA K Z G H ds xs → Rl K Z G H (.obj C ks ds) (.ref a)
  | ref (a : Addr) : Rl K Z G H (.ref a) (.ref a)
  | fn (v : V) : Rl K Z G H (.fn v) v
inductive RlA (K : PySem.W.Frag) (Z : ZS) (G : GH) (H : Hp) : List D → List V → Prop where
  | nil : RlA K Z G H [] []
  | cons {d : D} {ds : List D} {v : V} {vs : List V} : Rl K Z G H d v → RlA K Z G H ds vs → RlA K Z G H (d :: ds) (v :: vs)
end
/-- what the ledger says of an address -/
def ROk (K : PySem.W.Frag) (Z : ZS) (G : GH) (H : Hp) (a : Addr) : GO → Prop
  | .lst ds => ∃ xs, H a = some (.lst xs) ∧ RlA K Z G H ds xs
  | .ins C ks ds => ∃ dx xs, H a = some (.ins C dx (insV ks xs)) ∧ ks.length = xs.length ∧ RlA K Z G H ds xs
  | .dK kvs => ∃ xs : List V, H a = some (.dK ((kvs.map (·.1)).zip xs)) ∧ RlA K Z G H (kvs.map (·.2)) xs
  | .dT kvs => ∃ xs : List V, H a = some (.dT ((kvs.map (·.1)).zip xs)) ∧ RlA K Z G H (kvs.map (·.2)) xs
structure Rel (K : PySem.W.Frag) (Z : ZS) (G : GH) (H : Hp) : Prop where
  ob : ∀ a o, G a = some o → ¬ Z a ∧ ROk K Z G H a o
  hid : ∀ a, Z a → ∃ o, H a = some o
/-- what is not in the ledger stays, and stays out of it -/
def Step (G : GH) (H : Hp) (G' : GH) (H' : Hp) : Prop := ∀ b o, H b = some o → G b = none → H' b = some o ∧ G' b = none
theorem Step.refl (G : GH) (H : Hp) : Step G H G H := fun _ _ h g => ⟨h, g⟩
theorem Step.trans {G G1 G2 : GH} {H H1 H2 : Hp} (a : Step G H G1 H1) (b : Step G1 H1 G2 H2) : Step G H G2 H2 := fun c o h g =>
  let ⟨h1, g1⟩ := a c o h g
  b c o h1 g1
section
variable {K : PySem.W.Frag} {Z Z' : ZS} {G G' : GH} {H H' : Hp} {a : Addr} {o : GO}
theorem ROk.some (r : ROk K Z G H a o) : ∃ u, H a = Option.some u ∧ (∀ xs, u ≠ .tup xs) ∧ (∀ ob w, u ≠ .frz ob w) := by
  cases o with
  | lst ds => obtain ⟨xs, h, _⟩ := r; exact ⟨_, h, (fun _ e => nomatch e), (fun _ _ e => nomatch e)⟩
  | ins C ks ds => obtain ⟨dx, xs, h, _⟩ := r; exact ⟨_, h, (fun _ e => nomatch e), (fun _ _ e => nomatch e)⟩
  | dK kvs => obtain ⟨xs, h, _⟩ := r; exact ⟨_, h, (fun _ e => nomatch e), (fun _ _ e => nomatch e)⟩
  | dT kvs => obtain ⟨xs, h, _⟩ := r; exact ⟨_, h, (fun _ e => nomatch e), (fun _ _ e => nomatch e)⟩
theorem Rel.fresh (R : Rel K Z G H) (h : H a = Option.none) : G a = Option.none := by
  cases e : G a with
  | none => rfl
  | some o =>
    obtain ⟨_, r⟩ := R.ob a o e
    obtain ⟨u, hu, _⟩ := r.some
    rw [h] at hu
    cases hu
theorem Rel.freshZ (R : Rel K Z G H) (h : H a = Option.none) : ¬ Z a := fun z => by
  obtain ⟨o, e⟩ := R.hid a z
  rw [h] at e
  cases e
theorem Rel.tupOut (R : Rel K Z G H) {xs : List V} (h : H a = Option.some (.tup xs)) : G a = Option.none := by
  cases e : G a with
  | none => rfl
  | some o =>
    obtain ⟨_, r⟩ := R.ob a o e
    obtain ⟨u, hu, n, _⟩ := r.some
    rw [h] at hu
    exact absurd (Option.some.inj hu).symm (n xs)
theorem Rel.frzOut (R : Rel K Z G H) {ob : Obj} {w : HO} (h : H a = Option.some (.frz ob w)) : G a = Option.none := by
  cases e : G a with
  | none => rfl
  | some o =>
    obtain ⟨_, r⟩ := R.ob a o e
    obtain ⟨u, hu, _, n⟩ := r.some
    rw [h] at hu
    exact absurd (Option.some.inj hu).symm (n ob w)
theorem SqT.mv {xs : List V} (k : ∀ ys, H a = Option.some (.tup ys) → H' a = Option.some (.tup ys)) (f : ∀ ob w, H a = Option.some (.frz ob w) → H' a = Option.some (.frz ob w)) (h : SqT K H a xs) : SqT K H' a xs := by
  rcases h with (h | ⟨ob, h⟩) | h
  · exact .inl (.inl (k _ h))
  · exact .inl (.inr ⟨ob, f _ _ h⟩)
  · exact .inr h
/-- how the state of things may move so that what was known of a value stays known -/
structure Mv (Z Z' : ZS) (G G' : GH) (H H' : Hp) : Prop where
  tups : ∀ b xs, H b = some (.tup xs) → H' b = some (.tup xs)
  frzs : ∀ b ob w, H b = some (.frz ob w) → H' b = some (.frz ob w)
  all : ∀ b o, H b = some o → G b = none → ¬ Z b → H' b = some o ∧ G' b = none ∧ ¬ Z' b
theorem Mv.trans {Z1 Z2 : ZS} {G1 G2 : GH} {H1 H2 : Hp} (m : Mv Z Z1 G G1 H H1) (n : Mv Z1 Z2 G1 G2 H1 H2) : Mv Z Z2 G G2 H H2 :=
  ⟨fun b xs e => n.tups b xs (m.tups b xs e), fun b ob w e => n.frzs b ob w (m.frzs b ob w e), fun b o e g z =>
    let ⟨h1, g1, z1⟩ := m.all b o e g z
    n.all b o h1 g1 z1⟩
theorem Mv.refl : Mv Z Z G G H H := ⟨fun _ _ e => e, fun _ _ _ e => e, fun _ _ e g z => ⟨e, g, z⟩⟩
theorem Step.mv (s : Step G H G' H') (R : Rel K Z G H) : Mv Z Z G G' H H' :=
  ⟨fun b xs e => (s b _ e (R.tupOut e)).1, fun b ob w e => (s b _ e (R.frzOut e)).1, fun b o e g z => ⟨(s b o e g).1, (s b o e g).2, z⟩⟩
mutual
theorem Rl.mv (m : Mv Z Z' G G' H H') : ∀ {d : D} {v : V}, Rl K Z G H d v → Rl K Z' G' H' d v
  | _, _, .non => .non
  | _, _, .bl b => .bl b
  | _, _, .int i => .int i
  | _, _, .str s => .str s
  | _, _, .tup h r => .tup (SqT.mv (fun ys => m.tups _ ys) (fun ob w => m.frzs _ ob w) h) (RlA.mv m r)
  | _, _, .lst h g z r => .lst (m.all _ _ h g z).1 (m.all _ _ h g z).2.1 (m.all _ _ h g z).2.2 (RlA.mv m r)
  | _, _, .ro h r => .ro (h.mv m.frzs) (RlA.mv m r)
  | _, _, .obj h g z e r => .obj (m.all _ _ h g z).1 (m.all _ _ h g z).2.1 (m.all _ _ h g z).2.2 e (RlA.mv m r)
  | _, _, .ref a => .ref a
  | _, _, .fn v => .fn v
theorem RlA.mv (m : Mv Z Z' G G' H H') : ∀ {ds : List D} {vs : List V}, RlA K Z G H ds vs → RlA K Z' G' H' ds vs
  | _, _, .nil => .nil
  | _, _, .cons h t => .cons (Rl.mv m h) (RlA.mv m t)
end
theorem RlA.length : ∀ {ds : List D} {vs : List V}, RlA K Z G H ds vs → ds.length = vs.length
  | _, _, .nil => rfl
  | _, _, .cons _ t => by rw [List.length_cons, List.length_cons, RlA.length t]
theorem RlA.get : ∀ {ds : List D} {vs : List V} {i : Nat} {d : D}, RlA K Z G H ds vs → ds[i]? = Option.some d → ∃ v, vs[i]? = Option.some v ∧ Rl K Z G H d v
  | _, _, _, _, .nil, e => by simp at e
  | _, _, 0, _, .cons h _, e => by
    simp at e
    subst e
    exact ⟨_, rfl, h⟩
  | _, _, i + 1, d, .cons _ t, e => by
    obtain ⟨v, h1, h2⟩ := RlA.get (i := i) (d := d) t (by simpa using e)
    exact ⟨v, by simpa using h1, h2⟩
theorem RlA.getV : ∀ {ds : List D} {vs : List V} {i : Nat} {v : V}, RlA K Z G H ds vs → vs[i]? = Option.some v → ∃ d, ds[i]? = Option.some d ∧ Rl K Z G H d v
  | _, _, _, _, .nil, e => by simp at e
  | _, _, 0, _, .cons h _, e => by
    simp at e
    subst e
    exact ⟨_, rfl, h⟩
  | _, _, i + 1, v, .cons _ t, e => by
    obtain ⟨d, h1, h2⟩ := RlA.getV (i := i) (v := v) t (by simpa using e)
    exact ⟨d, by simpa using h1, h2⟩
theorem RlA.append : ∀ {ds es : List D} {vs ws : List V}, RlA K Z G H ds vs → RlA K Z G H es ws → RlA K Z G H (ds ++ es) (vs ++ ws)
  | _, _, _, _, .nil, t => t
  | _, _, _, _, .cons h r, t => .cons h (RlA.append r t)
theorem RlA.take : ∀ {ds : List D} {vs : List V} (n : Nat), RlA K Z G H ds vs → RlA K Z G H (ds.take n) (vs.take n)
  | _, _, 0, _ => .nil
  | _, _, _ + 1, .nil => .nil
  | _, _, n + 1, .cons h t => .cons h (RlA.take n t)
theorem RlA.drop : ∀ {ds : List D} {vs : List V} (n : Nat), RlA K Z G H ds vs → RlA K Z G H (ds.drop n) (vs.drop n)
  | _, _, 0, r => r
  | _, _, _ + 1, .nil => .nil
  | _, _, n + 1, .cons _ t => RlA.drop n t
theorem RlA.set {d : D} {v : V} (h : Rl K Z G H d v) : ∀ {ds : List D} {vs : List V} (i : Nat), RlA K Z G H ds vs → RlA K Z G H (ds.set i d) (vs.set i v)
  | _, _, _, .nil => .nil
  | _, _, 0, .cons _ t => .cons h t
  | _, _, i + 1, .cons q t => .cons q (RlA.set h i t)
theorem RlA.dropLast {ds : List D} {vs : List V} (h : RlA K Z G H ds vs) : RlA K Z G H ds.dropLast vs.dropLast := by
  rw [List.dropLast_eq_take, List.dropLast_eq_take, h.length]
  exact h.take _
theorem RlA.eraseIdx : ∀ {ds : List D} {vs : List V} (i : Nat), RlA K Z G H ds vs → RlA K Z G H (ds.eraseIdx i) (vs.eraseIdx i)
  | _, _, _, .nil => .nil
  | _, _, 0, .cons _ t => t
  | _, _, i + 1, .cons h t => .cons h (RlA.eraseIdx i t)
theorem RlA.reverse : ∀ {ds : List D} {vs : List V}, RlA K Z G H ds vs → RlA K Z G H ds.reverse vs.reverse
  | _, _, .nil => .nil
  | _, _, .cons h t => by
    rw [List.reverse_cons, List.reverse_cons]
    exact (RlA.reverse t).append (.cons h .nil)
theorem RlA.insert {d : D} {v : V} (h : Rl K Z G H d v) {ds : List D} {vs : List V} (i : Nat) (t : RlA K Z G H ds vs) : RlA K Z G H (ds.take i ++ d :: ds.drop i) (vs.take i ++ v :: vs.drop i) :=
  (t.take i).append (.cons h (t.drop i))
theorem RlA.rep {ds : List D} {vs : List V} (h : RlA K Z G H ds vs) : ∀ k : Nat, RlA K Z G H (List.replicate k ds).flatten (List.replicate k vs).flatten
  | 0 => .nil
  | k + 1 => by
    rw [List.replicate_succ, List.replicate_succ, List.flatten_cons, List.flatten_cons]
    exact h.append (RlA.rep h k)
/-- the ledger's own objects under a move of the rest -/
theorem ROk.mv (m : Mv Z Z' G G' H H') (r : ROk K Z G H a o) (h : H' a = H a) : ROk K Z' G' H' a o := by
  cases o with
  | lst ds => obtain ⟨xs, e, t⟩ := r; exact ⟨xs, h.trans e, RlA.mv m t⟩
  | ins C ks ds => obtain ⟨dx, xs, e, l, t⟩ := r; exact ⟨dx, xs, h.trans e, l, RlA.mv m t⟩
  | dK kvs => obtain ⟨xs, e, t⟩ := r; exact ⟨xs, h.trans e, RlA.mv m t⟩
  | dT kvs => obtain ⟨xs, e, t⟩ := r; exact ⟨xs, h.trans e, RlA.mv m t⟩
end
/-! ### moves that occur -/
section
variable {K : PySem.W.Frag} {Z : ZS} {G : GH} {H : Hp} {p a : Addr}
/-- a new object that the ledger does not take -/
theorem step_new {u : HO} (R : Rel K Z G H) (h : H p = none) : Step G H G (upd H p u) := fun b o e g => by
  rw [upd_ne (ne_of_none e h)]
  exact ⟨e, g⟩
theorem rel_new {u : HO} (R : Rel K Z G H) (h : H p = none) : Rel K Z G (upd H p u) := by
  refine ⟨fun a o e => ?_, fun z hz => ?_⟩
  · obtain ⟨z, r⟩ := R.ob a o e
    obtain ⟨w, hw, _⟩ := r.some
    exact ⟨z, r.mv ((step_new R h).mv R) (upd_ne (ne_of_none hw h))⟩
  · obtain ⟨o, e⟩ := R.hid z hz
    exact ⟨o, by rw [upd_ne (ne_of_none e h)]; exact e⟩
/-- a new object that the ledger takes -/
theorem step_newG {u : HO} {o : GO} (R : Rel K Z G H) (h : H p = none) : Step G H (gup G p o) (upd H p u) := fun b w e g => by
  have n := ne_of_none e h
  rw [upd_ne n, gup_ne n]
  exact ⟨e, g⟩
theorem rel_newG {u : HO} {o : GO} (R : Rel K Z G H) (h : H p = none) (r : ROk K Z (gup G p o) (upd H p u) p o) : Rel K Z (gup G p o) (upd H p u) := by
  refine ⟨fun a w e => ?_, fun z hz => ?_⟩
  · by_cases n : a = p
    · subst n
      rw [gup_same] at e
      cases e
      exact ⟨R.freshZ h, r⟩
    · rw [gup_ne n] at e
      obtain ⟨z, q⟩ := R.ob a w e
      exact ⟨z, q.mv ((step_newG R h).mv R) (upd_ne n)⟩
  · obtain ⟨o, e⟩ := R.hid z hz
    exact ⟨o, by rw [upd_ne (ne_of_none e h)]; exact e⟩
/-- an object of the ledger is changed -/
theorem step_set {u : HO} {o o' : GO} (R : Rel K Z G H) (h : G a = some o) : Step G H (gup G a o') (upd H a u) := fun b w e g => by
  have n : b ≠ a := fun z => by rw [z, h] at g; cases g
  rw [upd_ne n, gup_ne n]
  exact ⟨e, g⟩
theorem mv_set {u : HO} {o o' : GO} (R : Rel K Z G H) (h : G a = some o) : Mv Z Z G (gup G a o') H (upd H a u) := (step_set R h).mv R
theorem rel_set {u : HO} {o o' : GO} (R : Rel K Z G H) (h : G a = some o) (r : ROk K Z (gup G a o') (upd H a u) a o') : Rel K Z (gup G a o') (upd H a u) := by
  have zn := (R.ob a o h).1
  refine ⟨fun b w e => ?_, fun z hz => ?_⟩
  · by_cases n : b = a
    · subst n
      rw [gup_same] at e
      cases e
      exact ⟨zn, r⟩
    · rw [gup_ne n] at e
      obtain ⟨z, q⟩ := R.ob b w e
      exact ⟨z, q.mv (mv_set R h) (upd_ne n)⟩
  · obtain ⟨w, e⟩ := R.hid z hz
    have n : z ≠ a := fun q => zn (q ▸ hz)
    exact ⟨w, by rw [upd_ne n]; exact e⟩
/-- an object leaves the ledger -/
theorem step_del : Step G H (gdel G p) H := fun b w e g => by
  refine ⟨e, ?_⟩
  by_cases n : b = p
  · rw [n, gdel_same]
  · rw [gdel_ne n]
    exact g
theorem rel_del (R : Rel K Z G H) : Rel K Z (gdel G p) H := by
  refine ⟨fun a w e => ?_, R.hid⟩
  have n : a ≠ p := fun z => by rw [z, gdel_same] at e; cases e
  rw [gdel_ne n] at e
  obtain ⟨z, q⟩ := R.ob a w e
  exact ⟨z, q.mv (step_del.mv R) rfl⟩
end
end N
namespace N
open PySem PySem.Spec PyProof.Rows L2
abbrev SD := List (Option D)
abbrev QD := D → GH → Prop
/-- an exception: its class, what its at is, the ledger behind it -/
abbrev XD := Addr → D → GH → Prop
abbrev TED := SD → GH → XD → QD → Prop
abbrev TTD := SD → GH → XD → (Bool → GH → Prop) → Prop
abbrev TAD := SD → GH → XD → (List D → GH → Prop) → Prop
structure EndsD where
  nx : SD → GH → Prop
  rt : QD
  bk : SD → GH → Prop := fun _ _ => False
  ct : SD → GH → Prop := fun _ _ => False
  ex : Addr → D → SD → GH → Prop := fun _ _ _ _ => False
abbrev TSD := EndsD → SD → GH → Prop
structure StR (K : PySem.W.Frag) (Z : ZS) (G : GH) (H : Hp) (τ : SD) (σ : L2.St) : Prop where
  len : σ.length = τ.length
  val : ∀ (i : Nat) (d : D), τ[i]? = some (some d) → ∃ v, σ[i]? = some (some v) ∧ Rl K Z G H d v
section
variable {K : PySem.W.Frag} {Z Z' : ZS} {G G' : GH} {H H' : Hp} {τ : SD} {σ : L2.St}
theorem StR.mv (m : Mv Z Z' G G' H H') (s : StR K Z G H τ σ) : StR K Z' G' H' τ σ :=
  ⟨s.len, fun i d e => let ⟨v, h, r⟩ := s.val i d e; ⟨v, h, r.mv m⟩⟩
theorem StR.set {d : D} {v : V} (s : StR K Z G H τ σ) (i : Nat) (r : Rl K Z G H d v) : StR K Z G H (τ.set i (some d)) (σ.set i (some v)) := by
  refine ⟨by rw [List.length_set, List.length_set]; exact s.len, fun j e h => ?_⟩
  by_cases hj : i = j
  · subst hj
    have hl : i < τ.length := by
      have := (List.getElem?_eq_some_iff.mp h).1
      rwa [List.length_set] at this
    rw [List.getElem?_set_self hl] at h
    cases h
    exact ⟨v, by rw [List.getElem?_set_self (by rw [s.len]; exact hl)], r⟩
  · rw [List.getElem?_set_ne hj] at h
    obtain ⟨u, e1, r1⟩ := s.val j e h
    exact ⟨u, by rw [List.getElem?_set_ne hj]; exact e1, r1⟩
end
/-! ### the closures -/
section
variable (K : PySem.W.Frag) (Z : ZS) (G : GH) (H : Hp)
def ClE (q : QD) (Q : VK) : Prop := ∀ d G' H' v, q d G' → Step G H G' H' → Rel K Z G' H' → Rl K Z G' H' d v → Q v H'
def ClT (q : Bool → GH → Prop) (Q : Bool → Hp → Prop) : Prop := ∀ b G' H', q b G' → Step G H G' H' → Rel K Z G' H' → Q b H'
def ClA (q : List D → GH → Prop) (Q : List V → Hp → Prop) : Prop := ∀ ds G' H' vs, q ds G' → Step G H G' H' → Rel K Z G' H' → RlA K Z G' H' ds vs → Q vs H'
def ClX (x : XD) (W : WX) (σ : L2.St) : Prop := ∀ C d G' H' dct v, x C d G' → Step G H G' H' → Rel K Z G' H' → Rl K Z G' H' d v → H' dct = some (.xd [(("at" : Str), v)]) → W (.ref C) (some dct) σ H'
def ClS (q : SD → GH → Prop) (Q : L2.St → Hp → Prop) : Prop := ∀ τ G' H' σ, q τ G' → Step G H G' H' → Rel K Z G' H' → StR K Z G' H' τ σ → Q σ H'
def ClXS (x : Addr → D → SD → GH → Prop) (W : WX) : Prop := ∀ C d τ G' H' σ dct v, x C d τ G' → Step G H G' H' → Rel K Z G' H' → StR K Z G' H' τ σ → Rl K Z G' H' d v → H' dct = some (.xd [(("at" : Str), v)]) → W (.ref C) (some dct) σ H'
end
section
variable {K : PySem.W.Frag} {Z : ZS} {G G1 : GH} {H H1 : Hp}
theorem ClE.step {q : QD} {Q : VK} (s : Step G H G1 H1) (c : ClE K Z G H q Q) : ClE K Z G1 H1 q Q := fun d G' H' v h st => c d G' H' v h (s.trans st)
theorem ClT.step {q : Bool → GH → Prop} {Q : Bool → Hp → Prop} (s : Step G H G1 H1) (c : ClT K Z G H q Q) : ClT K Z G1 H1 q Q := fun b G' H' h st => c b G' H' h (s.trans st)
theorem ClA.step {q : List D → GH → Prop} {Q : List V → Hp → Prop} (s : Step G H G1 H1) (c : ClA K Z G H q Q) : ClA K Z G1 H1 q Q := fun d G' H' v h st => c d G' H' v h (s.trans st)
theorem ClX.step {x : XD} {W : WX} {σ : L2.St} (s : Step G H G1 H1) (c : ClX K Z G H x W σ) : ClX K Z G1 H1 x W σ := fun C d G' H' dct v h st => c C d G' H' dct v h (s.trans st)
theorem ClS.step {q : SD → GH → Prop} {Q : L2.St → Hp → Prop} (s : Step G H G1 H1) (c : ClS K Z G H q Q) : ClS K Z G1 H1 q Q := fun τ G' H' σ h st => c τ G' H' σ h (s.trans st)
theorem ClXS.step {x : Addr → D → SD → GH → Prop} {W : WX} (s : Step G H G1 H1) (c : ClXS K Z G H x W) : ClXS K Z G1 H1 x W := fun C d τ G' H' σ dct v h st => c C d τ G' H' σ dct v h (s.trans st)
end
def Lf (K : PySem.W.Frag) (W : WX) (t : TED) : TE := fun σ H Q => ∃ Z G τ x q, StR K Z G H τ σ ∧ Rel K Z G H ∧ t τ G x q ∧ ClE K Z G H q Q ∧ ClX K Z G H x W σ
def LfT (K : PySem.W.Frag) (W : WX) (t : TTD) : TT := fun σ H Q => ∃ Z G τ x q, StR K Z G H τ σ ∧ Rel K Z G H ∧ t τ G x q ∧ ClT K Z G H q Q ∧ ClX K Z G H x W σ
def LfA (K : PySem.W.Frag) (W : WX) (t : TAD) : TA := fun σ H Q => ∃ Z G τ x q, StR K Z G H τ σ ∧ Rel K Z G H ∧ t τ G x q ∧ ClA K Z G H q Q ∧ ClX K Z G H x W σ
structure ClD (K : PySem.W.Frag) (W : WX) (Z : ZS) (G : GH) (H : Hp) (e : EndsD) (D : Ends) : Prop where
  nx : ClS K Z G H e.nx D.nx
  rt : ClE K Z G H e.rt D.rt
  bk : ClS K Z G H e.bk D.bk
  ct : ClS K Z G H e.ct D.ct
  ex : ClXS K Z G H e.ex W
theorem ClD.step {K : PySem.W.Frag} {W : WX} {Z : ZS} {G G1 : GH} {H H1 : Hp} {e : EndsD} {D : Ends} (s : Step G H G1 H1) (c : ClD K W Z G H e D) : ClD K W Z G1 H1 e D :=
  ⟨c.nx.step s, c.rt.step s, c.bk.step s, c.ct.step s, c.ex.step s⟩
def LfS (K : PySem.W.Frag) (W : WX) (t : TSD) : TS := fun D σ H => ∃ Z G τ e, StR K Z G H τ σ ∧ Rel K Z G H ∧ t e τ G ∧ ClD K W Z G H e D
abbrev PEd (X : Cx) (W : WX) (e : Expr) (t : TED) : Prop := PE X e (Lf X.K W t)
abbrev PTd (X : Cx) (W : WX) (e : Expr) (t : TTD) : Prop := PT X e (LfT X.K W t)
abbrev PWd (X : Cx) (W : WX) (e : Expr) (t : TTD) : Prop := PW X e (LfT X.K W t)
abbrev PAd (X : Cx) (W : WX) (es : List Expr) (t : TAD) : Prop := PA X es (LfA X.K W t)
abbrev PSd (X : Cx) (W : WX) (s : Stmt) (t : TSD) : Prop := PS X s (LfS X.K W t)
abbrev PSsd (X : Cx) (W : WX) (s : List Stmt) (t : TSD) : Prop := PSs X s (LfS X.K W t)
theorem PEi {X : Cx} {e : Expr} {t u : TE} (h : PE X e t) (i : ∀ σ H Q, u σ H Q → t σ H Q) : PE X e u := ⟨fun pins s σ H Q I hw => h.run pins s σ H Q I (i _ _ _ hw)⟩
theorem PTi {X : Cx} {e : Expr} {t u : TT} (h : PT X e t) (i : ∀ σ H Q, u σ H Q → t σ H Q) : PT X e u := ⟨fun pins s σ H Q I hw => h.run pins s σ H Q I (i _ _ _ hw)⟩
theorem PWi {X : Cx} {e : Expr} {t u : TT} (h : PW X e t) (i : ∀ σ H Q, u σ H Q → t σ H Q) : PW X e u := ⟨fun wh pins s σ H Q I hw => h.run wh pins s σ H Q I (i _ _ _ hw)⟩
theorem PAi {X : Cx} {e : List Expr} {t u : TA} (h : PA X e t) (i : ∀ σ H Q, u σ H Q → t σ H Q) : PA X e u := ⟨fun pos pins s σ H Q I hw => h.run pos pins s σ H Q I (i _ _ _ hw)⟩
theorem PSi {X : Cx} {s : Stmt} {t u : TS} (h : PS X s t) (i : ∀ D σ H, u D σ H → t D σ H) : PS X s u := ⟨fun pins s σ H D I hw => h.run pins s σ H D I (i _ _ _ hw)⟩
theorem PSsi {X : Cx} {s : List Stmt} {t u : TS} (h : PSs X s t) (i : ∀ D σ H, u D σ H → t D σ H) : PSs X s u := ⟨fun pins s σ H D I hw => h.run pins s σ H D I (i _ _ _ hw)⟩
/-! ### marks: they are not opened by unfolding -/
@[irreducible] def Sd (C A : Prop) : Prop := C ∧ A
theorem Sd_i {C A : Prop} (c : C) (a : A) : Sd C A := by unfold Sd; exact ⟨c, a⟩
theorem Sd_e {C A : Prop} (h : Sd C A) : C ∧ A := by unfold Sd at h; exact h
@[irreducible] def Cond (b : Bool) (A B : Prop) : Prop := (b = true → A) ∧ (b = false → B)
theorem Cond_i {b : Bool} {A B : Prop} (h1 : b = true → A) (h2 : b = false → B) : Cond b A B := by unfold Cond; exact ⟨h1, h2⟩
theorem Cond_t {b : Bool} {A B : Prop} (h : b = true) (h1 : A) : Cond b A B := Cond_i (fun _ => h1) (fun q => by rw [h] at q; cases q)
theorem Cond_f {b : Bool} {A B : Prop} (h : b = false) (h1 : B) : Cond b A B := Cond_i (fun q => by rw [h] at q; cases q) (fun _ => h1)
theorem Cond_e {b : Bool} {A B : Prop} (h : Cond b A B) : if b = true then A else B := by
  unfold Cond at h
  cases b with
  | true => exact h.1 rfl
  | false => exact h.2 rfl
/-- a list comes: as a value that stays, or as an object of the ledger: the prover chooses -/
@[irreducible] def NewL (ds : List D) (G : GH) (q : QD) : Prop := q (.lst ds) G ∨ ∀ p, G p = none → q (.ref p) (gup G p (.lst ds))
theorem NewL_v {ds : List D} {G : GH} {q : QD} (h : q (.lst ds) G) : NewL ds G q := by unfold NewL; exact .inl h
theorem NewL_r {ds : List D} {G : GH} {q : QD} (h : ∀ p, G p = none → q (.ref p) (gup G p (.lst ds))) : NewL ds G q := by unfold NewL; exact .inr h
theorem NewL_e {ds : List D} {G : GH} {q : QD} (h : NewL ds G q) : q (.lst ds) G ∨ ∀ p, G p = none → q (.ref p) (gup G p (.lst ds)) := by unfold NewL at h; exact h
/-- the list at an address of the ledger -/
@[irreducible] def LkL (a : Addr) (G : GH) (k : List D → Prop) : Prop := ∃ ds, G a = some (.lst ds) ∧ k ds
theorem LkL_i {a : Addr} {G : GH} {k : List D → Prop} {ds : List D} (h : G a = some (.lst ds)) (q : k ds) : LkL a G k := by unfold LkL; exact ⟨ds, h, q⟩
theorem LkL_e {a : Addr} {G : GH} {k : List D → Prop} (h : LkL a G k) : ∃ ds, G a = some (.lst ds) ∧ k ds := by unfold LkL at h; exact h
/-- an item at a place -/
@[irreducible] def AtD (ds : List D) (i : Int) (k : D → Prop) : Prop := ∃ d, atI ds i = some d ∧ k d
theorem AtD_i {ds : List D} {i : Int} {k : D → Prop} {d : D} (h : atI ds i = some d) (q : k d) : AtD ds i k := by unfold AtD; exact ⟨d, h, q⟩
theorem AtD_e {ds : List D} {i : Int} {k : D → Prop} (h : AtD ds i k) : ∃ d, atI ds i = some d ∧ k d := by unfold AtD at h; exact h
section
variable {X : Cx} {W : WX} {a b : Expr} {ta tb : TED} {pos : Pos}
/-! ### names and constants -/
def gVar (i : Nat) : TED := fun τ G _ q => match τ[i]? with
  | some (some d) => q d G
  | _ => False
theorem pd_var {x : Str} {e : Expr} {i : Nat} (h : PE X e (tVar i)) : PEd X W e (gVar i) := PEi h fun σ H Q => by
  rintro ⟨Z, G, τ, x, q, S, R, h, c, _⟩
  unfold gVar at h
  cases e : τ[i]? with
  | none => rw [e] at h; exact h.elim
  | some o =>
    rw [e] at h
    cases o with
    | none => exact h.elim
    | some d =>
      obtain ⟨v, hv, r⟩ := S.val i d e
      exact ⟨v, hv, c d G H v h (Step.refl _ _) R r⟩
def gC (d : D) : TED := fun _ G _ q => q d G
/-- constants: the same at every state -/
def CstD : D → V → Prop
  | .non, .non => True
  | .bl b, .bl c => b = c
  | .int i, .int j => i = j
  | .str s, .str t => s = t
  | .fn u, v => u = v
  | _, _ => False
theorem CstD.rl {d : D} {v : V} (h : CstD d v) {K : PySem.W.Frag} {Z : ZS} {G : GH} {H : Hp} : Rl K Z G H d v := by
  cases d <;> cases v <;> first
    | exact .non
    | (cases (show _ = _ from h); first | exact .bl _ | exact .int _ | exact .str _ | exact .fn _)
    | exact (show False from h).elim
theorem pd_c {e : Expr} {d : D} {v : V} (h : PE X e (tC v)) (r : CstD d v) : PEd X W e (gC d) := PEi h fun σ H Q => by
  rintro ⟨Z, G, τ, x, q, S, R, h, c, _⟩
  exact c d G H v h (Step.refl _ _) R r.rl
theorem pd_int {i j} : PEd X W (.Constant (.int i) j pos) (gC (.int i)) := pd_c pe_int rfl
theorem pd_bl {b j} : PEd X W (.Constant (.bool b) j pos) (gC (.bl b)) := pd_c pe_bl rfl
theorem pd_non {j} : PEd X W (.Constant .none j pos) (gC .non) := pd_c pe_non True.intro
theorem pd_str {x j} : PEd X W (.Constant (.str x) j pos) (gC (.str x)) := pd_c pe_str rfl
/-! ### operators by values -/
abbrev R2D := D → D → GH → QD → Prop
def R2Ok (K : PySem.W.Frag) (r : R2) (t : R2D) : Prop := ∀ Z G H x y v u q Q, Rel K Z G H → Rl K Z G H x v → Rl K Z G H y u → t x y G q → ClE K Z G H q Q → r v u H Q
def gOp (t : R2D) (ta tb : TED) : TED := fun τ G x q => ta τ G x fun d G1 => tb τ G1 x fun e G2 => t d e G2 q
theorem lf_op {K : PySem.W.Frag} {r : R2} {t : R2D} (h : R2Ok K r t) {σ : L2.St} {H : Hp} {Q : VK} (w : Lf K W (gOp t ta tb) σ H Q) : tOp r (Lf K W ta) (Lf K W tb) σ H Q := by
  obtain ⟨Z, G, τ, x, q, S, R, hw, c, cx⟩ := w
  refine ⟨Z, G, τ, x, _, S, R, hw, fun d G1 H1 v q1 s1 R1 r1 => ?_, cx⟩
  refine ⟨Z, G1, τ, x, _, S.mv (s1.mv R), R1, q1, fun e G2 H2 u q2 s2 R2 r2 => ?_, cx.step s1⟩
  exact h Z G2 H2 d e v u q Q R2 (r1.mv (s2.mv R1)) r2 q2 (c.step (s1.trans s2))
theorem pd_op {op : Operator} {r : R2} {t : R2D} (ho : OpR X (binaryOp op) r) (h : R2Ok X.K r t) (ha : PEd X W a ta) (hb : PEd X W b tb) : PEd X W (.BinOp a op b pos) (gOp t ta tb) :=
  PEi (pe_op ho ha hb) fun _ _ _ w => lf_op h w
theorem pd_cmp {op : CmpOp} {r : R2} {t : R2D} (ho : OpR X (compareOp op) r) (h : R2Ok X.K r t) (ha : PEd X W a ta) (hb : PEd X W b tb) (hm : behindInMarks op b = false) : PEd X W (.Compare a [op] [b] pos) (gOp t ta tb) :=
  PEi (pe_cmpR ho ha hb hm) fun _ _ _ w => lf_op h w
/-- a value that must be a bool, as a test -/
def gTst (t : TED) : TTD := fun τ G x q => t τ G x fun d G1 => match d with
  | .bl b => q b G1
  | _ => False
theorem lf_tst {K : PySem.W.Frag} {t : TED} {u : TE} (hu : ∀ σ H Q, Lf K W t σ H Q → u σ H Q) {σ : L2.St} {H : Hp} {Q : Bool → Hp → Prop} (w : LfT K W (gTst t) σ H Q) : tTest u σ H Q := by
  obtain ⟨Z, G, τ, x, q, S, R, hw, c, cx⟩ := w
  refine hu _ _ _ ⟨Z, G, τ, x, _, S, R, hw, fun d G1 H1 v q1 s1 R1 r1 => ?_, cx⟩
  cases d with
  | bl b =>
    cases r1
    exact ⟨b, rfl, c b G1 H1 q1 s1 R1⟩
  | _ => exact q1.elim
theorem pd_cmpT {op : CmpOp} {r : R2} {t : R2D} (ho : OpR X (compareOp op) r) (h : R2Ok X.K r t) (ha : PEd X W a ta) (hb : PEd X W b tb) (hm : behindInMarks op b = false) : PTd X W (.Compare a [op] [b] pos) (gTst (gOp t ta tb)) :=
  PTi (pt_cmpR ho ha hb hm) fun _ _ _ w => lf_tst (fun _ _ _ z => lf_op h z) w
theorem pd_val {e : Expr} {t : TED} (h : PEd X W e t) (he : ∀ whole, isTrue e X.env whole = (do let v ← whole; standAt e.pos; holding [v] (truthy v)) := by intro _; rfl) : PTd X W e (gTst t) :=
  PTi (pt_val h he) fun _ _ _ w => lf_tst (fun _ _ _ z => z) w
/-! ### ints, texts -/
def nI (g : Int → Int → D) : R2D := fun x y G q => match x, y with
  | .int i, .int j => q (g i j) G
  | _, _ => False
def nIS (C : Int → Int → Prop) (g : Int → Int → D) : R2D := fun x y G q => match x, y with
  | .int i, .int j => Sd (C i j) (q (g i j) G)
  | _, _ => False
theorem ok_I {K : PySem.W.Frag} {g : Int → Int → V} {g' : Int → Int → D} (e : ∀ i j, CstD (g' i j) (g i j)) : R2Ok K (rI0 g) (nI g') := by
  intro Z G H x y v u q Q R rx ry h c
  cases x <;> try exact (show False from h).elim
  cases y <;> try exact (show False from h).elim
  cases rx
  cases ry
  exact ⟨_, _, rfl, rfl, c _ _ _ _ h (Step.refl _ _) R (e _ _).rl⟩
theorem ok_IS {K : PySem.W.Frag} {C : Int → Int → Prop} {g : Int → Int → V} {g' : Int → Int → D} (e : ∀ i j, CstD (g' i j) (g i j)) : R2Ok K (rI C g) (nIS C g') := by
  intro Z G H x y v u q Q R rx ry h c
  cases x <;> try exact (show False from h).elim
  cases y <;> try exact (show False from h).elim
  cases rx
  cases ry
  obtain ⟨h1, h2⟩ := Sd_e h
  exact ⟨_, _, rfl, rfl, h1, c _ _ _ _ h2 (Step.refl _ _) R (e _ _).rl⟩
abbrev nSub : R2D := nI fun i j => .int (i - j)
abbrev nXor : R2D := nI fun i j => .int (Builtin.bitXor i j)
abbrev nAnd : R2D := nI fun i j => .int (Builtin.bitAnd i j)
abbrev nLt : R2D := nI fun i j => .bl (decide (i < j))
abbrev nLe : R2D := nI fun i j => .bl (decide (i ≤ j))
abbrev nGt : R2D := nI fun i j => .bl (decide (j < i))
abbrev nGe : R2D := nI fun i j => .bl (decide (j ≤ i))
abbrev nDiv : R2D := nIS CDivW fun i j => .int (i / j)
abbrev nMod : R2D := nIS (fun _ j => 0 < j) fun i j => .int (i % j)
abbrev nPow : R2D := nIS CPow fun i j => .int (i ^ j.toNat)
theorem pd_sub (ha : PEd X W a ta) (hb : PEd X W b tb) : PEd X W (.BinOp a .Sub b pos) (gOp nSub ta tb) := pd_op op_sub (ok_I fun _ _ => rfl) ha hb
theorem pd_xor (ha : PEd X W a ta) (hb : PEd X W b tb) : PEd X W (.BinOp a .BitXor b pos) (gOp nXor ta tb) := pd_op op_xor (ok_I fun _ _ => rfl) ha hb
theorem pd_band (ha : PEd X W a ta) (hb : PEd X W b tb) : PEd X W (.BinOp a .BitAnd b pos) (gOp nAnd ta tb) := pd_op op_and (ok_I fun _ _ => rfl) ha hb
theorem pd_fdiv (ha : PEd X W a ta) (hb : PEd X W b tb) : PEd X W (.BinOp a .FloorDiv b pos) (gOp nDiv ta tb) := pd_op op_fdivW (ok_IS fun _ _ => rfl) ha hb
theorem pd_mod (ha : PEd X W a ta) (hb : PEd X W b tb) : PEd X W (.BinOp a .Mod b pos) (gOp nMod ta tb) := pd_op op_mod (ok_IS fun _ _ => rfl) ha hb
theorem pd_pow (ha : PEd X W a ta) (hb : PEd X W b tb) : PEd X W (.BinOp a .Pow b pos) (gOp nPow ta tb) := pd_op op_pow (ok_IS fun _ _ => rfl) ha hb
theorem pd_lt (ha : PEd X W a ta) (hb : PEd X W b tb) : PEd X W (.Compare a [.Lt] [b] pos) (gOp nLt ta tb) := pd_cmp op_lt (ok_I fun _ _ => rfl) ha hb (nomark _)
theorem pd_le (ha : PEd X W a ta) (hb : PEd X W b tb) : PEd X W (.Compare a [.LtE] [b] pos) (gOp nLe ta tb) := pd_cmp op_le (ok_I fun _ _ => rfl) ha hb (nomark _)
theorem pd_gt (ha : PEd X W a ta) (hb : PEd X W b tb) : PEd X W (.Compare a [.Gt] [b] pos) (gOp nGt ta tb) := pd_cmp op_gt (ok_I fun _ _ => rfl) ha hb (nomark _)
theorem pd_ge (ha : PEd X W a ta) (hb : PEd X W b tb) : PEd X W (.Compare a [.GtE] [b] pos) (gOp nGe ta tb) := pd_cmp op_ge (ok_I fun _ _ => rfl) ha hb (nomark _)
theorem pt_lt (ha : PEd X W a ta) (hb : PEd X W b tb) : PTd X W (.Compare a [.Lt] [b] pos) (gTst (gOp nLt ta tb)) := pd_cmpT op_lt (ok_I fun _ _ => rfl) ha hb (nomark _)
theorem pt_le (ha : PEd X W a ta) (hb : PEd X W b tb) : PTd X W (.Compare a [.LtE] [b] pos) (gTst (gOp nLe ta tb)) := pd_cmpT op_le (ok_I fun _ _ => rfl) ha hb (nomark _)
theorem pt_gt (ha : PEd X W a ta) (hb : PEd X W b tb) : PTd X W (.Compare a [.Gt] [b] pos) (gTst (gOp nGt ta tb)) := pd_cmpT op_gt (ok_I fun _ _ => rfl) ha hb (nomark _)
theorem pt_ge (ha : PEd X W a ta) (hb : PEd X W b tb) : PTd X W (.Compare a [.GtE] [b] pos) (gTst (gOp nGe ta tb)) := pd_cmpT op_ge (ok_I fun _ _ => rfl) ha hb (nomark _)
/-- a new list at the level of values -/
theorem new_list {K : PySem.W.Frag} {Z : ZS} {G : GH} {H : Hp} {ds : List D} {xs : List V} {q : QD} {Q : VK} (R : Rel K Z G H) (r : RlA K Z G H ds xs) (h : NewL ds G q) (c : ClE K Z G H q Q) (p : Addr) (hp : H p = none) : Q (.ref p) (upd H p (.lst xs)) := by
  rcases NewL_e h with h | h
  · refine c _ _ _ _ h (step_new R hp) (rel_new R hp) (.lst upd_same (R.fresh hp) (R.freshZ hp) (r.mv ((step_new R hp).mv R)))
  · have rr := r.mv ((step_newG (u := .lst xs) (o := .lst ds) R hp).mv R)
    exact c _ _ _ _ (h p (R.fresh hp)) (step_newG R hp) (rel_newG R hp ⟨xs, upd_same, rr⟩) (.ref p)
theorem new_tup {K : PySem.W.Frag} {Z : ZS} {G : GH} {H : Hp} {ds : List D} {xs : List V} {q : QD} {Q : VK} (R : Rel K Z G H) (r : RlA K Z G H ds xs) (h : q (.tup ds) G) (c : ClE K Z G H q Q) (p : Addr) (hp : H p = none) : Q (.ref p) (upd H p (.tup xs)) :=
  c _ _ _ _ h (step_new R hp) (rel_new R hp) (.tup (SqT.of upd_same) (r.mv ((step_new R hp).mv R)))
/-! ### displays, arguments -/
def gNil : TAD := fun _ G _ q => q [] G
def gCons (t : TED) (r : TAD) : TAD := fun τ G x q => t τ G x fun d G1 => r τ G1 x fun ds G2 => q (d :: ds) G2
theorem pad_nil : PAd X W [] gNil := PAi pa_nil fun σ H Q => by
  rintro ⟨Z, G, τ, x, q, S, R, h, c, _⟩
  exact c _ G H _ h (Step.refl _ _) R .nil
theorem pad_cons {e : Expr} {es : List Expr} {t : TED} {r : TAD} (h1 : PEd X W e t) (h2 : PAd X W es r) (hs : starEach (e :: es) X.env = (false, eval e X.env) :: starEach es X.env := by rfl) : PAd X W (e :: es) (gCons t r) :=
  PAi (pa_cons h1 h2 hs) fun σ H Q => by
    rintro ⟨Z, G, τ, x, q, S, R, h, c, cx⟩
    refine ⟨Z, G, τ, x, _, S, R, h, fun d G1 H1 v q1 s1 R1 r1 => ?_, cx⟩
    refine ⟨Z, G1, τ, x, _, S.mv (s1.mv R), R1, q1, fun ds G2 H2 vs q2 s2 R2 r2 => ?_, cx.step s1⟩
    exact c _ G2 H2 _ q2 (s1.trans s2) R2 (.cons (r1.mv (s2.mv R1)) r2)
def gTup (t : TAD) : TED := fun τ G x q => t τ G x fun ds G1 => Sd (ds.length ≤ sizeLine) (q (.tup ds) G1)
def gLst (t : TAD) : TED := fun τ G x q => t τ G x fun ds G1 => Sd (ds.length ≤ sizeLine) (NewL ds G1 q)
theorem pd_tup {es : List Expr} {t : TAD} {x1} (h : PAd X W es t) : PEd X W (.Tuple es x1 pos) (gTup t) := PEi (pe_tup h) fun σ H Q => by
  rintro ⟨Z, G, τ, x, q, S, R, h, c, cx⟩
  refine ⟨Z, G, τ, x, _, S, R, h, fun ds G1 H1 vs q1 s1 R1 r1 => ?_, cx⟩
  obtain ⟨hl, q1⟩ := Sd_e q1
  exact ⟨by rw [← r1.length]; exact hl, fun p hp => new_tup R1 r1 q1 (c.step s1) p hp⟩
theorem pd_lst {es : List Expr} {t : TAD} (h : PAd X W es t) : PEd X W (.List es pos) (gLst t) := PEi (pe_lst h) fun σ H Q => by
  rintro ⟨Z, G, τ, x, q, S, R, h, c, cx⟩
  refine ⟨Z, G, τ, x, _, S, R, h, fun ds G1 H1 vs q1 s1 R1 r1 => ?_, cx⟩
  obtain ⟨hl, q1⟩ := Sd_e q1
  exact ⟨by rw [← r1.length]; exact hl, fun p hp => new_list R1 r1 q1 (c.step s1) p hp⟩
/-! ### and, or, not, if -/
def gAnd (t u : TTD) : TTD := fun τ G x q => t τ G x fun b G1 => Cond b (u τ G1 x q) (q false G1)
def gOr (t u : TTD) : TTD := fun τ G x q => t τ G x fun b G1 => Cond b (q true G1) (u τ G1 x q)
def gNot (t : TTD) : TTD := fun τ G x q => t τ G x fun b G1 => q (!b) G1
variable {tA tB : TTD} {rest : List Expr}
theorem pwd_and1 (ha : PTd X W a tA) : PWd X W (.BoolOp .And [a] pos) tA := pw_and1 ha
theorem pwd_or1 (ha : PTd X W a tA) : PWd X W (.BoolOp .Or [a] pos) tA := pw_or1 ha
theorem pwd_and (ha : PTd X W a tA) (hb : PWd X W (.BoolOp .And (b :: rest) pos) tB) : PWd X W (.BoolOp .And (a :: b :: rest) pos) (gAnd tA tB) := PWi (pw_and ha hb) fun σ H Q => by
  rintro ⟨Z, G, τ, x, q, S, R, h, c, cx⟩
  refine ⟨Z, G, τ, x, _, S, R, h, fun b G1 H1 q1 s1 R1 => ?_, cx⟩
  have q1 := Cond_e q1
  cases b with
  | true => exact ⟨Z, G1, τ, x, q, S.mv (s1.mv R), R1, q1, c.step s1, cx.step s1⟩
  | false => exact c false G1 H1 q1 s1 R1
theorem pwd_or (ha : PTd X W a tA) (hb : PWd X W (.BoolOp .Or (b :: rest) pos) tB) : PWd X W (.BoolOp .Or (a :: b :: rest) pos) (gOr tA tB) := PWi (pw_or ha hb) fun σ H Q => by
  rintro ⟨Z, G, τ, x, q, S, R, h, c, cx⟩
  refine ⟨Z, G, τ, x, _, S, R, h, fun b G1 H1 q1 s1 R1 => ?_, cx⟩
  have q1 := Cond_e q1
  cases b with
  | false => exact ⟨Z, G1, τ, x, q, S.mv (s1.mv R), R1, q1, c.step s1, cx.step s1⟩
  | true => exact c true G1 H1 q1 s1 R1
theorem ptd_w {t : TTD} (h : PWd X W a t) : PTd X W a t := h.pt
theorem ptd_not (ha : PTd X W a tA) : PTd X W (.UnaryOp .Not a pos) (gNot tA) := PTi (pt_not ha) fun σ H Q => by
  rintro ⟨Z, G, τ, x, q, S, R, h, c, cx⟩
  exact ⟨Z, G, τ, x, _, S, R, h, fun b G1 H1 q1 s1 R1 => c _ G1 H1 q1 s1 R1, cx⟩
/-- as values: bools -/
def gAndV (t u : TED) : TED := fun τ G x q => t τ G x fun d G1 => match d with
  | .bl b => Cond b (u τ G1 x q) (q (.bl false) G1)
  | _ => False
def gOrV (t u : TED) : TED := fun τ G x q => t τ G x fun d G1 => match d with
  | .bl b => Cond b (q (.bl true) G1) (u τ G1 x q)
  | _ => False
def gNotV (t : TED) : TED := fun τ G x q => t τ G x fun d G1 => match d with
  | .bl b => q (.bl (!b)) G1
  | _ => False
theorem pd_one {op} {t : TED} (h : PEd X W a t) : PEd X W (.BoolOp op [a] pos) t := pe_one h
theorem pd_and (ha : PEd X W a ta) (hb : PEd X W (.BoolOp .And (b :: rest) pos) tb) : PEd X W (.BoolOp .And (a :: b :: rest) pos) (gAndV ta tb) := PEi (pe_and ha hb) fun σ H Q => by
  rintro ⟨Z, G, τ, x, q, S, R, h, c, cx⟩
  refine ⟨Z, G, τ, x, _, S, R, h, fun d G1 H1 v q1 s1 R1 r1 => ?_, cx⟩
  cases d with
  | bl k =>
    cases r1
    have q1 := Cond_e q1
    refine ⟨k, rfl, ?_⟩
    cases k with
    | true => exact ⟨Z, G1, τ, x, q, S.mv (s1.mv R), R1, q1, c.step s1, cx.step s1⟩
    | false => exact c _ G1 H1 _ q1 s1 R1 (.bl false)
  | _ => exact (show False from q1).elim
theorem pd_or (ha : PEd X W a ta) (hb : PEd X W (.BoolOp .Or (b :: rest) pos) tb) : PEd X W (.BoolOp .Or (a :: b :: rest) pos) (gOrV ta tb) := PEi (pe_or ha hb) fun σ H Q => by
  rintro ⟨Z, G, τ, x, q, S, R, h, c, cx⟩
  refine ⟨Z, G, τ, x, _, S, R, h, fun d G1 H1 v q1 s1 R1 r1 => ?_, cx⟩
  cases d with
  | bl k =>
    cases r1
    have q1 := Cond_e q1
    refine ⟨k, rfl, ?_⟩
    cases k with
    | false => exact ⟨Z, G1, τ, x, q, S.mv (s1.mv R), R1, q1, c.step s1, cx.step s1⟩
    | true => exact c _ G1 H1 _ q1 s1 R1 (.bl true)
  | _ => exact (show False from q1).elim
theorem pd_not (ha : PEd X W a ta) : PEd X W (.UnaryOp .Not a pos) (gNotV ta) := PEi (pe_not ha) fun σ H Q => by
  rintro ⟨Z, G, τ, x, q, S, R, h, c, cx⟩
  refine ⟨Z, G, τ, x, _, S, R, h, fun d G1 H1 v q1 s1 R1 r1 => ?_, cx⟩
  cases d with
  | bl k =>
    cases r1
    exact ⟨k, rfl, c _ G1 H1 _ q1 s1 R1 (.bl _)⟩
  | _ => exact (show False from q1).elim
def gIfE (t : TTD) (ta tb : TED) : TED := fun τ G x q => t τ G x fun b G1 => Cond b (ta τ G1 x q) (tb τ G1 x q)
theorem pd_ife {c : Expr} (hc : PTd X W c tA) (ha : PEd X W a ta) (hb : PEd X W b tb) : PEd X W (.IfExp c a b pos) (gIfE tA ta tb) := PEi (pe_ifExp hc ha hb) fun σ H Q => by
  rintro ⟨Z, G, τ, x, q, S, R, h, c, cx⟩
  refine ⟨Z, G, τ, x, _, S, R, h, fun b G1 H1 q1 s1 R1 => ?_, cx⟩
  have q1 := Cond_e q1
  cases b with
  | true => exact ⟨Z, G1, τ, x, q, S.mv (s1.mv R), R1, q1, c.step s1, cx.step s1⟩
  | false => exact ⟨Z, G1, τ, x, q, S.mv (s1.mv R), R1, q1, c.step s1, cx.step s1⟩
/-! ### statements -/
variable {st : Stmt} {sts : List Stmt} {t u : TSD}
def gNext : TSD := fun e τ G => e.nx τ G
def gSeq (t u : TSD) : TSD := fun e τ G => t { e with nx := u e } τ G
theorem pssd_nil : PSsd X W [] gNext := PSsi pss_nil fun D σ H => by
  rintro ⟨Z, G, τ, e, S, R, h, c⟩
  exact c.nx τ G H σ h (Step.refl _ _) R S
theorem pssd_cons (h1 : PSd X W st t) (h2 : PSsd X W sts u) : PSsd X W (st :: sts) (gSeq t u) := PSsi (pss_cons h1 h2) fun D σ H => by
  rintro ⟨Z, G, τ, e, S, R, h, c⟩
  refine ⟨Z, G, τ, _, S, R, h, ⟨fun τ1 G1 H1 σ1 q1 s1 R1 S1 => ?_, c.rt, c.bk, c.ct, c.ex⟩⟩
  exact ⟨Z, G1, τ1, e, S1, R1, q1, c.step s1⟩
theorem pssd_one (h1 : PSd X W st t) : PSsd X W [st] t := pss_one h1
def gBreak : TSD := fun e τ G => e.bk τ G
def gCont : TSD := fun e τ G => e.ct τ G
theorem psd_pass : PSd X W (.Pass pos) gNext := PSi ps_pass fun D σ H => by
  rintro ⟨Z, G, τ, e, S, R, h, c⟩
  exact c.nx τ G H σ h (Step.refl _ _) R S
theorem psd_break : PSd X W (.Break pos) gBreak := PSi ps_break fun D σ H => by
  rintro ⟨Z, G, τ, e, S, R, h, c⟩
  exact c.bk τ G H σ h (Step.refl _ _) R S
theorem psd_continue : PSd X W (.Continue pos) gCont := PSi ps_continue fun D σ H => by
  rintro ⟨Z, G, τ, e, S, R, h, c⟩
  exact c.ct τ G H σ h (Step.refl _ _) R S
def xOf (e : EndsD) (τ : SD) : XD := fun C d G => e.ex C d τ G
theorem ClXS.x {K : PySem.W.Frag} {Z : ZS} {G : GH} {H : Hp} {e : EndsD} {τ : SD} {σ : L2.St} (c : ClXS K Z G H e.ex W) (R : Rel K Z G H) (S : StR K Z G H τ σ) : ClX K Z G H (xOf e τ) W σ :=
  fun C d G' H' dct v h s R' r hd => c C d τ G' H' σ dct v h s R' (S.mv (s.mv R)) r hd
def gDrop (t : TED) : TSD := fun e τ G => t τ G (xOf e τ) fun _ G1 => e.nx τ G1
theorem psd_expr {e : Expr} {t : TED} (he : PEd X W e t) (hs : swapsWith e none pos.line X.env = pure false := by rfl) : PSd X W (.Expr e pos) (gDrop t) := PSi (ps_expr he hs) fun D σ H => by
  rintro ⟨Z, G, τ, e, S, R, h, c⟩
  exact ⟨Z, G, τ, _, _, S, R, h, fun d G1 H1 v q1 s1 R1 r1 => c.nx τ G1 H1 σ q1 s1 R1 (S.mv (s1.mv R)), c.ex.x R S⟩
/-- handed back: what the ledger holds may be forgotten; a list or an object of the ledger may be handed back as a value -/
def SubG (G' G : GH) : Prop := ∀ b o, G' b = some o → G b = some o
theorem SubG.refl {G : GH} : SubG G G := fun _ _ h => h
theorem SubG.none {G' G : GH} {b : Addr} (s : SubG G' G) (h : G b = none) : G' b = none := by
  cases e : G' b with
  | none => rfl
  | some o => rw [s b o e] at h; cases h
theorem step_sub {G' G : GH} {H : Hp} (s : SubG G' G) : Step G H G' H := fun b o e g => ⟨e, s.none g⟩
theorem rel_sub {K : PySem.W.Frag} {Z : ZS} {G' G : GH} {H : Hp} (s : SubG G' G) (R : Rel K Z G H) : Rel K Z G' H :=
  ⟨fun a o e => let ⟨z, r⟩ := R.ob a o (s a o e); ⟨z, r.mv ((step_sub s).mv R) rfl⟩, R.hid⟩
theorem subG_del {G : GH} {p : Addr} : SubG (gdel G p) G := fun b o e => by
  by_cases n : b = p
  · rw [n, gdel_same] at e; cases e
  · rw [gdel_ne n] at e; exact e
theorem subG_up {G : GH} {p : Addr} {o : GO} (h : G p = none) : SubG G (gup G p o) := fun b u e => by
  rw [gup_ne (fun z => by rw [z, h] at e; cases e)]
  exact e
theorem SubG.trans {G1 G2 G3 : GH} (a : SubG G1 G2) (b : SubG G2 G3) : SubG G1 G3 := fun x o h => b x o (a x o h)
@[irreducible] def Ret (d : D) (G : GH) (q : QD) : Prop := ∃ G', SubG G' G ∧ (q d G' ∨ (∃ p ds, d = .ref p ∧ G p = some (.lst ds) ∧ G' p = none ∧ q (.lst ds) G') ∨ ∃ p C ks ds, d = .ref p ∧ G p = some (.ins C ks ds) ∧ G' p = none ∧ q (.obj C ks ds) G')
theorem Ret_i {d : D} {G : GH} {q : QD} (h : q d G) : Ret d G q := by unfold Ret; exact ⟨G, SubG.refl, .inl h⟩
theorem Ret_w {d : D} {G : GH} {q : QD} (G' : GH) (s : SubG G' G) (h : q d G') : Ret d G q := by unfold Ret; exact ⟨G', s, .inl h⟩
theorem Ret_l {p : Addr} {ds : List D} {G : GH} {q : QD} (e : G p = some (.lst ds)) (h : q (.lst ds) (gdel G p)) : Ret (.ref p) G q := by unfold Ret; exact ⟨_, subG_del, .inr (.inl ⟨p, ds, rfl, e, gdel_same, h⟩)⟩
theorem Ret_lw {p : Addr} {ds : List D} {G : GH} {q : QD} (G' : GH) (s : SubG G' G) (n : G' p = none) (e : G p = some (.lst ds)) (h : q (.lst ds) G') : Ret (.ref p) G q := by unfold Ret; exact ⟨_, s, .inr (.inl ⟨p, ds, rfl, e, n, h⟩)⟩
theorem Ret_o {p C : Addr} {ks : List Str} {ds : List D} {G : GH} {q : QD} (e : G p = some (.ins C ks ds)) (h : q (.obj C ks ds) (gdel G p)) : Ret (.ref p) G q := by unfold Ret; exact ⟨_, subG_del, .inr (.inr ⟨p, C, ks, ds, rfl, e, gdel_same, h⟩)⟩
theorem Ret_ow {p C : Addr} {ks : List Str} {ds : List D} {G : GH} {q : QD} (G' : GH) (s : SubG G' G) (n : G' p = none) (e : G p = some (.ins C ks ds)) (h : q (.obj C ks ds) G') : Ret (.ref p) G q := by unfold Ret; exact ⟨_, s, .inr (.inr ⟨p, C, ks, ds, rfl, e, n, h⟩)⟩
theorem ret_ok {K : PySem.W.Frag} {Z : ZS} {G : GH} {H : Hp} {d : D} {v : V} {q : QD} {Q : VK} (R : Rel K Z G H) (r : Rl K Z G H d v) (h : Ret d G q) (c : ClE K Z G H q Q) : Q v H := by
  unfold Ret at h
  obtain ⟨G', s, h⟩ := h
  have st := step_sub (H := H) s
  have R' := rel_sub s R
  rcases h with h | ⟨p, ds, rfl, e, n, h⟩ | ⟨p, C, ks, ds, rfl, e, n, h⟩
  · exact c d G' H v h st R' (r.mv (st.mv R))
  · obtain ⟨z, xs, hx, rx⟩ := R.ob p _ e
    cases r
    exact c _ _ _ _ h st R' (.lst hx n z (rx.mv (st.mv R)))
  · obtain ⟨z, dx, xs, hx, hl, rx⟩ := R.ob p _ e
    cases r
    exact c _ _ _ _ h st R' (.obj hx n z hl (rx.mv (st.mv R)))
def gRet (t : TED) : TSD := fun e τ G => t τ G (xOf e τ) fun d G1 => Ret d G1 e.rt
theorem psd_ret {e : Expr} {t : TED} (he : PEd X W e t) : PSd X W (.Return (some e) pos) (gRet t) := PSi (ps_ret he) fun D σ H => by
  rintro ⟨Z, G, τ, e, S, R, h, c⟩
  exact ⟨Z, G, τ, _, _, S, R, h, fun d G1 H1 v q1 s1 R1 r1 => ret_ok R1 r1 q1 (c.rt.step s1), c.ex.x R S⟩
def gRetN : TSD := fun e _ G => e.rt .non G
theorem psd_retN : PSd X W (.Return none pos) gRetN := PSi ps_retN fun D σ H => by
  rintro ⟨Z, G, τ, e, S, R, h, c⟩
  exact c.rt .non G H .non h (Step.refl _ _) R .non
def gIfS (tc : TTD) (t u : TSD) : TSD := fun e τ G => tc τ G (xOf e τ) fun b G1 => Cond b (t e τ G1) (u e τ G1)
theorem psd_if {c : Expr} {p q : List Stmt} {tc : TTD} (hc : PTd X W c tc) (ha : PSsd X W p t) (hb : PSsd X W q u) : PSd X W (.If c p q pos) (gIfS tc t u) := PSi (ps_if hc ha hb) fun D σ H => by
  rintro ⟨Z, G, τ, e, S, R, h, c⟩
  refine ⟨Z, G, τ, _, _, S, R, h, fun b G1 H1 q1 s1 R1 => ?_, c.ex.x R S⟩
  have q1 := Cond_e q1
  cases b with
  | true => exact ⟨Z, G1, τ, e, S.mv (s1.mv R), R1, q1, c.step s1⟩
  | false => exact ⟨Z, G1, τ, e, S.mv (s1.mv R), R1, q1, c.step s1⟩
def gNever : TSD := fun _ _ _ => False
theorem psd_never : PSd X W st gNever := ⟨fun _ _ _ _ _ _ ⟨_, _, _, _, _, _, h, _⟩ => h.elim⟩
theorem pssd_never : PSsd X W sts gNever := ⟨fun _ _ _ _ _ _ ⟨_, _, _, _, _, _, h, _⟩ => h.elim⟩
/-! ### targets -/
abbrev TGD := D → SD → GH → (SD → GH → Prop) → Prop
abbrev TGsD := List D → SD → GH → (SD → GH → Prop) → Prop
def LfG (K : PySem.W.Frag) (t : TGD) : TG := fun v σ H Q => ∃ Z G τ d q, StR K Z G H τ σ ∧ Rel K Z G H ∧ Rl K Z G H d v ∧ t d τ G q ∧ ClS K Z G H q Q
def LfGs (K : PySem.W.Frag) (t : TGsD) : TGs := fun vs σ H Q => ∃ Z G τ ds q, StR K Z G H τ σ ∧ Rel K Z G H ∧ RlA K Z G H ds vs ∧ t ds τ G q ∧ ClS K Z G H q Q
abbrev PGd (X : Cx) (e : Expr) (t : TGD) : Prop := PG X e (LfG X.K t)
abbrev PGsd (X : Cx) (es : List Expr) (t : TGsD) : Prop := PGs X es (LfGs X.K t)
theorem PGi {e : Expr} {t u : TG} (h : PG X e t) (i : ∀ v σ H Q, u v σ H Q → t v σ H Q) : PG X e u := ⟨fun pins s σ H v w Q I r hw => h.run pins s σ H v w Q I r (i _ _ _ _ hw)⟩
theorem PGsi {es : List Expr} {t u : TGs} (h : PGs X es t) (i : ∀ v σ H Q, u v σ H Q → t v σ H Q) : PGs X es u := ⟨fun pins s σ H v w Q I r hw => h.run pins s σ H v w Q I r (i _ _ _ _ hw)⟩
def hName (i : Nat) : TGD := fun d τ G q => q (τ.set i (some d)) G
theorem pgd_name {e : Expr} {i : Nat} (h : PG X e (gName i)) : PGd X e (hName i) := PGi h fun v σ H Q => by
  rintro ⟨Z, G, τ, d, q, S, R, r, h, c⟩
  exact c _ G H _ h (Step.refl _ _) R (S.set i r)
def hNil : TGsD := fun ds τ G q => match ds with
  | [] => q τ G
  | _ => False
def hCons (t : TGD) (u : TGsD) : TGsD := fun ds τ G q => match ds with
  | d :: r => t d τ G fun τ1 G1 => u r τ1 G1 q
  | [] => False
theorem pgsd_nil : PGsd X [] hNil := PGsi pgs_nil fun v σ H Q => by
  rintro ⟨Z, G, τ, ds, q, S, R, r, h, c⟩
  cases r with
  | nil => exact ⟨rfl, c _ G H _ h (Step.refl _ _) R S⟩
  | cons _ _ => exact (show False from h).elim
theorem pgsd_cons {e : Expr} {es : List Expr} {t : TGD} {u : TGsD} (h1 : PGd X e t) (h2 : PGsd X es u) (hs : (assignEach (e :: es) X.env).map (·.2) = assign e X.env :: (assignEach es X.env).map (·.2) := by rfl) : PGsd X (e :: es) (hCons t u) :=
  PGsi (pgs_cons h1 h2 hs) fun v σ H Q => by
    rintro ⟨Z, G, τ, ds, q, S, R, r, h, c⟩
    cases r with
    | nil => exact (show False from h).elim
    | cons r1 r2 =>
      refine ⟨_, _, rfl, Z, G, τ, _, _, S, R, r1, h, fun τ1 G1 H1 σ1 q1 s1 R1 S1 => ?_⟩
      exact ⟨Z, G1, τ1, _, q, S1, R1, r2.mv (s1.mv R), q1, c.step s1⟩
/-- (a, b, ..) = a tuple or a list -/
def hTup (n : Nat) (t : TGsD) : TGD := fun d τ G q => match d with
  | .tup ds => Sd (ds.length = n) (t ds τ G q)
  | .lst ds => Sd (ds.length = n) (t ds τ G q)
  | .ref a => LkL a G fun ds => Sd (ds.length = n) (t ds τ G q)
  | _ => False
/-- a list or a tuple of that length, by the model's value -/
def gSeqT (K : PySem.W.Frag) (n : Nat) (t : TGs) : TG := fun v σ H Q => L2.gTup K n t v σ H Q ∨ gUnl K n t v σ H Q
theorem pg_seq {es : List Expr} {k : Nat} {t : TGs} {n : Nat} (hc : X.calm = true) (h : PGs X es t)
    (hn : (assignEach es X.env).length = n := by rfl) (hst : (assignEach es X.env).findIdx? (·.1) = none := by rfl) : PG X (.Tuple es k pos) (gSeqT X.K n t) :=
  ⟨fun pins s σ H v w Q I r hw => hw.elim (fun z => (pg_tup hc h hn hst).run pins s σ H v w Q I r z) fun z => (pg_unl hc h hn hst).run pins s σ H v w Q I r z⟩
theorem pgd_tup {es : List Expr} {k : Nat} {t : TGsD} {n : Nat} (hc : X.calm = true) (h : PGsd X es t) (hn : (assignEach es X.env).length = n := by rfl) (hst : (assignEach es X.env).findIdx? (·.1) = none := by rfl) :
    PGd X (.Tuple es k pos) (hTup n t) := PGi (pg_seq hc h hn hst) fun v σ H Q => by
  rintro ⟨Z, G, τ, d, q, S, R, r, h, c⟩
  cases d with
  | tup ds =>
    obtain ⟨hl, h⟩ := Sd_e h
    cases r with
    | tup hx rx => exact .inl ⟨_, _, rfl, hx, by rw [← rx.length]; exact hl, Z, G, τ, ds, q, S, R, rx, h, c⟩
  | lst ds =>
    obtain ⟨hl, h⟩ := Sd_e h
    cases r with
    | lst hx _ _ rx => exact .inr ⟨_, _, rfl, SqL.of hx, by rw [← rx.length]; exact hl, Z, G, τ, ds, q, S, R, rx, h, c⟩
  | ref a =>
    obtain ⟨ds, e, h⟩ := LkL_e h
    obtain ⟨hl, h⟩ := Sd_e h
    obtain ⟨_, xs, hx, rx⟩ := R.ob a _ e
    cases r
    exact .inr ⟨_, _, rfl, SqL.of hx, by rw [← rx.length]; exact hl, Z, G, τ, ds, q, S, R, rx, h, c⟩
  | _ => exact (show False from h).elim
/-- target = value -/
def gAsg (t : TED) (g : TGD) : TSD := fun e τ G => t τ G (xOf e τ) fun d G1 => g d τ G1 e.nx
theorem psd_asg {tg e : Expr} {t : TED} {g : TGD} (he : PEd X W e t) (hg : PGd X tg g) (hs : swapsWithSole [tg] e pos.line X.env = pure false := by rfl) (hw : swappedStores [tg] e X.env = pure none := by rfl)
    (h1 : (assignEach [tg] X.env).map (·.2) = [assign tg X.env] := by rfl) : PSd X W (.Assign [tg] e pos) (gAsg t g) := PSi (ps_asg he hg hs hw h1) fun D σ H => by
  rintro ⟨Z, G, τ, e, S, R, h, c⟩
  refine ⟨Z, G, τ, _, _, S, R, h, fun d G1 H1 v q1 s1 R1 r1 => ?_, c.ex.x R S⟩
  exact ⟨Z, G1, τ, d, _, S.mv (s1.mv R), R1, r1, q1, c.nx.step s1⟩
/-- name = value -/
theorem psd_set {tg e : Expr} {t : TED} {i : Nat} (h : PS X (.Assign [tg] e pos) (tAsg (Lf X.K W t) (gName i))) : PSd X W (.Assign [tg] e pos) (gAsg t (hName i)) := PSi h fun D σ H => by
  rintro ⟨Z, G, τ, e, S, R, h, c⟩
  refine ⟨Z, G, τ, _, _, S, R, h, fun d G1 H1 v q1 s1 R1 r1 => ?_, c.ex.x R S⟩
  exact c.nx _ G1 H1 _ q1 s1 R1 ((S.mv (s1.mv R)).set i r1)
end
end N
namespace N
open PySem PySem.Spec PyProof.Rows L2
/-! ### lists as operands -/
def AsL (x : D) (G : GH) (k : List D → Prop) : Prop := match x with
  | .lst ds => k ds
  | .ref a => LkL a G k
  | _ => False
theorem asL_e {K : PySem.W.Frag} {Z : ZS} {G : GH} {H : Hp} {x : D} {v : V} {k : List D → Prop} (R : Rel K Z G H) (r : Rl K Z G H x v) (h : AsL x G k) : ∃ a xs ds, v = .ref a ∧ H a = some (.lst xs) ∧ RlA K Z G H ds xs ∧ k ds := by
  cases x with
  | lst ds => cases r with
    | lst hx _ _ rx => exact ⟨_, _, ds, rfl, hx, rx, h⟩
  | ref a =>
    obtain ⟨ds, e, q⟩ := LkL_e h
    obtain ⟨_, xs, hx, rx⟩ := R.ob a _ e
    cases r
    exact ⟨a, xs, ds, rfl, hx, rx, q⟩
  | _ => exact (show False from h).elim
/-- any sequence that is read: list, tuple, the script -/
def AsQ (x : D) (G : GH) (k : List D → Prop) : Prop := match x with
  | .lst ds => k ds
  | .tup ds => k ds
  | .ro ds => k ds
  | .ref a => LkL a G k
  | _ => False
theorem asQ_e {K : PySem.W.Frag} {Z : ZS} {G : GH} {H : Hp} {x : D} {v : V} {k : List D → Prop} (R : Rel K Z G H) (r : Rl K Z G H x v) (h : AsQ x G k) : ∃ a xs ds, v = .ref a ∧ (SqL K H a xs ∨ SqT K H a xs) ∧ RlA K Z G H ds xs ∧ k ds := by
  cases x with
  | lst ds => cases r with
    | lst hx _ _ rx => exact ⟨_, _, ds, rfl, .inl (SqL.of hx), rx, h⟩
  | tup ds => cases r with
    | tup hx rx => exact ⟨_, _, ds, rfl, .inr hx, rx, h⟩
  | ro ds => cases r with
    | ro hx rx => exact ⟨_, _, ds, rfl, .inl hx.sq, rx, h⟩
  | ref a =>
    obtain ⟨ds, e, q⟩ := LkL_e h
    obtain ⟨_, xs, hx, rx⟩ := R.ob a _ e
    cases r
    exact ⟨a, xs, ds, rfl, .inl (SqL.of hx), rx, q⟩
  | _ => exact (show False from h).elim
/-! ### + -/
def nAdd : R2D := fun x y G q => match x with
  | .int i => (match y with | .int j => q (.int (i + j)) G | _ => False)
  | .str i => (match y with | .str j => Sd (i.length + j.length ≤ sizeLine) (q (.str (i ++ j)) G) | _ => False)
  | .tup xs => (match y with | .tup ys => Sd (xs.length + ys.length ≤ sizeLine) (q (.tup (xs ++ ys)) G) | _ => False)
  | .lst xs => AsL y G fun ys => Sd (xs.length + ys.length ≤ sizeLine) (NewL (xs ++ ys) G q)
  | .ref a => LkL a G fun xs => AsL y G fun ys => Sd (xs.length + ys.length ≤ sizeLine) (NewL (xs ++ ys) G q)
  | _ => False
def rAddA (K : PySem.W.Frag) : R2 := fun x y H Q => rI0 (fun i j => .int (i + j)) x y H Q ∨ (∃ i j, x = .str i ∧ y = .str j ∧ i.length + j.length ≤ sizeLine ∧ Q (.str (i ++ j)) H) ∨ rCat x y H Q ∨ rCatA K x y H Q
theorem op_addA {X : Cx} : OpR X (binaryOp .Add) (rAddA X.K) := op_add.or (op_add_str.or (op_cat.or op_catA))
theorem ok_add {K : PySem.W.Frag} : R2Ok K (rAddA K) nAdd := by
  intro Z G H x y v u q Q R rx ry h c
  have lists : ∀ xs' xs a, H a = some (.lst xs') → RlA K Z G H xs xs' → v = .ref a → (AsL y G fun ys => Sd (xs.length + ys.length ≤ sizeLine) (NewL (xs ++ ys) G q)) → rAddA K v u H Q := by
    intro xs' xs a ha rxs ev h
    obtain ⟨b, ys', ys, eu, hb, rys, h⟩ := asL_e R ry h
    subst ev eu
    obtain ⟨hl, h⟩ := Sd_e h
    exact .inr (.inr (.inl ⟨a, b, xs', ys', rfl, rfl, ha, hb, by rw [← rxs.length, ← rys.length]; exact hl, fun p hp => new_list R (rxs.append rys) h c p hp⟩))
  cases x with
  | int i => cases y with
    | int j => cases rx; cases ry; exact .inl ⟨i, j, rfl, rfl, c _ _ _ _ h (Step.refl _ _) R (.int _)⟩
    | _ => exact (show False from h).elim
  | str i => cases y with
    | str j =>
      cases rx; cases ry
      obtain ⟨hl, h⟩ := Sd_e h
      exact .inr (.inl ⟨i, j, rfl, rfl, hl, c _ _ _ _ h (Step.refl _ _) R (.str _)⟩)
    | _ => exact (show False from h).elim
  | tup xs => cases y with
    | tup ys =>
      obtain ⟨hl, h⟩ := Sd_e h
      cases rx with
      | tup hx rx => cases ry with
        | tup hy ry =>
          refine .inr (.inr (.inr ⟨_, _, _, _, rfl, rfl, hx, hy, by rw [← rx.length, ← ry.length]; exact hl, fun e => ?_, fun _ e => ?_, fun _ _ p hp => new_tup R (rx.append ry) h c p hp⟩))
          · subst e
            cases rx
            exact c _ _ _ _ h (Step.refl _ _) R (.tup hy ry)
          · subst e
            cases ry
            rw [List.append_nil] at h
            exact c _ _ _ _ h (Step.refl _ _) R (.tup hx rx)
    | _ => exact (show False from h).elim
  | lst xs => cases rx with
    | lst hx _ _ rx => exact lists _ xs _ hx rx rfl h
  | ref a =>
    obtain ⟨xs, e, h⟩ := LkL_e h
    obtain ⟨_, xs', hx, rx'⟩ := R.ob a _ e
    cases rx
    exact lists _ xs a hx rx' rfl h
  | _ => exact (show False from h).elim
/-! ### == -/
mutual
inductive Deep (G : GH) : D → PyData → Prop where
  | non : Deep G .non .none
  | bl (b : Bool) : Deep G (.bl b) (.bool b)
  | int (i : Int) : Deep G (.int i) (.int i)
  | str (s : Str) : Deep G (.str s) (.str s)
  | tup {ds : List D} {ps : List PyData} : DeepA G ds ps → Deep G (.tup ds) (.tuple ps)
  | lst {ds : List D} {ps : List PyData} : DeepA G ds ps → Deep G (.lst ds) (.list ps)
  | ref {a : Addr} {ds : List D} {ps : List PyData} : G a = some (.lst ds) → DeepA G ds ps → Deep G (.ref a) (.list ps)
inductive DeepA (G : GH) : List D → List PyData → Prop where
  | nil : DeepA G [] []
  | cons {d : D} {ds : List D} {p : PyData} {ps : List PyData} : Deep G d p → DeepA G ds ps → DeepA G (d :: ds) (p :: ps)
end
section
variable {K : PySem.W.Frag} {Z : ZS} {G : GH} {H : Hp}
mutual
theorem Deep.dp (R : Rel K Z G H) : ∀ {d : D} {p : PyData}, Deep G d p → ∀ {v : V}, Rl K Z G H d v → Dp K H v p
  | _, _, .non, _, .non => .non
  | _, _, .bl b, _, .bl _ => .bl b
  | _, _, .int i, _, .int _ => .int i
  | _, _, .str s, _, .str _ => .str s
  | _, _, .tup t, _, .tup hx rx => .tup hx (DeepA.dp R t rx)
  | _, _, .lst t, _, .lst hx _ _ rx => .lst (SqL.of hx) (DeepA.dp R t rx)
  | _, _, @Deep.ref _ a _ _ e t, _, r => by
    obtain ⟨_, xs, hx, rx⟩ := R.ob a _ e
    cases r
    exact .lst (SqL.of hx) (DeepA.dp R t rx)
theorem DeepA.dp (R : Rel K Z G H) : ∀ {ds : List D} {ps : List PyData}, DeepA G ds ps → ∀ {vs : List V}, RlA K Z G H ds vs → DpAll K H vs ps
  | _, _, .nil, _, .nil => .nil
  | _, _, .cons h t, _, .cons r s => .cons (Deep.dp R h r) (DeepA.dp R t s)
end
end
@[irreducible] def EqD (x y : D) (G : GH) (k : Bool → Prop) : Prop := ∃ d e, Deep G x d ∧ Deep G y e ∧ SeqAt.shaped d = true ∧ SeqAt.shaped e = true ∧ k (PyData.eqv d e)
theorem EqD_i {x y : D} {G : GH} {k : Bool → Prop} {d e : PyData} (h1 : Deep G x d) (h2 : Deep G y e) (s1 : SeqAt.shaped d = true) (s2 : SeqAt.shaped e = true) (h : k (PyData.eqv d e)) : EqD x y G k := by unfold EqD; exact ⟨d, e, h1, h2, s1, s2, h⟩
def EqS (x y : D) (G : GH) (k : Bool → Prop) : Prop := match x with
  | .int i => (match y with | .int j => k (decide (i = j)) | .str _ => k false | .non => k false | _ => EqD x y G k)
  | .str i => (match y with | .str j => k (decide (i = j)) | .int _ => k false | .bl _ => k false | .non => k false | _ => EqD x y G k)
  | .bl i => (match y with | .bl j => k (decide (i = j)) | .str _ => k false | .non => k false | _ => EqD x y G k)
  | .non => (match y with | .non => k true | .int _ => k false | .bl _ => k false | .str _ => k false | _ => EqD x y G k)
  | _ => EqD x y G k
def nEq : R2D := fun x y G q => EqS x y G fun b => q (.bl b) G
def nNe : R2D := fun x y G q => EqS x y G fun b => q (.bl (!b)) G
def rEqA (K : PySem.W.Frag) : R2 := fun x y H Q => rEq x y H Q ∨ rEqD K x y H Q
def rNeA (K : PySem.W.Frag) : R2 := fun x y H Q => rNe x y H Q ∨ rNeD K x y H Q
theorem op_eqA {X : Cx} (hu : X.A.units + 64 < cLine) : OpR X (compareOp .Eq) (rEqA X.K) := op_eq.or (op_eqD hu)
theorem op_neA {X : Cx} (hu : X.A.units + 64 < cLine) : OpR X (compareOp .NotEq) (rNeA X.K) := op_ne.or (op_neD hu)
theorem dec_i {i j : Int} : decide (V.int i = V.int j) = decide (i = j) := decide_eq_decide.mpr ⟨fun z => V.int.inj z, fun z => congrArg V.int z⟩
theorem dec_s {i j : Str} : decide (V.str i = V.str j) = decide (i = j) := decide_eq_decide.mpr ⟨fun z => V.str.inj z, fun z => congrArg V.str z⟩
theorem dec_b {i j : Bool} : decide (V.bl i = V.bl j) = decide (i = j) := decide_eq_decide.mpr ⟨fun z => V.bl.inj z, fun z => congrArg V.bl z⟩
theorem eqs_e {K : PySem.W.Frag} {Z : ZS} {G : GH} {H : Hp} {x y : D} {v u : V} {k : Bool → Prop} (R : Rel K Z G H) (rx : Rl K Z G H x v) (ry : Rl K Z G H y u) (h : EqS x y G k) :
    (scal v u = true ∧ k (decide (v = u))) ∨ ∃ d e, Dp K H v d ∧ Dp K H u e ∧ SeqAt.shaped d = true ∧ SeqAt.shaped e = true ∧ k (PyData.eqv d e) := by
  have deep : EqD x y G k → (scal v u = true ∧ k (decide (v = u))) ∨ ∃ d e, Dp K H v d ∧ Dp K H u e ∧ SeqAt.shaped d = true ∧ SeqAt.shaped e = true ∧ k (PyData.eqv d e) := fun z => by
    unfold EqD at z
    obtain ⟨d, e, h1, h2, s1, s2, q⟩ := z
    exact .inr ⟨d, e, h1.dp R rx, h2.dp R ry, s1, s2, q⟩
  cases x <;> cases y <;> first
    | exact deep h
    | (cases rx; cases ry; refine .inl ⟨rfl, ?_⟩; first
        | exact h
        | (rw [dec_i]; exact h)
        | (rw [dec_s]; exact h)
        | (rw [dec_b]; exact h))
theorem ok_eq {K : PySem.W.Frag} : R2Ok K (rEqA K) nEq := by
  intro Z G H x y v u q Q R rx ry h c
  rcases eqs_e R rx ry h with ⟨h1, h2⟩ | ⟨d, e, h1, h2, s1, s2, h3⟩
  · exact .inl ⟨h1, c _ _ _ _ h2 (Step.refl _ _) R (.bl _)⟩
  · exact .inr ⟨d, e, h1, h2, s1, s2, c _ _ _ _ h3 (Step.refl _ _) R (.bl _)⟩
theorem ok_ne {K : PySem.W.Frag} : R2Ok K (rNeA K) nNe := by
  intro Z G H x y v u q Q R rx ry h c
  rcases eqs_e R rx ry h with ⟨h1, h2⟩ | ⟨d, e, h1, h2, s1, s2, h3⟩
  · exact .inl ⟨h1, c _ _ _ _ h2 (Step.refl _ _) R (.bl _)⟩
  · exact .inr ⟨d, e, h1, h2, s1, s2, c _ _ _ _ h3 (Step.refl _ _) R (.bl _)⟩
/-- is None -/
def isN (d : D) (k : Bool → Prop) : Prop := match d with
  | .non => k true
  | .fn _ => False
  | _ => k false
def nIs : R2D := fun x y G q => match y with
  | .non => isN x fun b => q (.bl b) G
  | _ => False
def nIsNot : R2D := fun x y G q => match y with
  | .non => isN x fun b => q (.bl (!b)) G
  | _ => False
theorem isN_e {K : PySem.W.Frag} {Z : ZS} {G : GH} {H : Hp} {x : D} {v : V} {k : Bool → Prop} (r : Rl K Z G H x v) (h : isN x k) : k (decide (v = .non)) := by
  cases x <;> cases r <;> first
    | exact h
    | exact (show False from h).elim
theorem ok_is {K : PySem.W.Frag} : R2Ok K (fun x y H Q => y = .non ∧ Q (.bl (decide (x = .non))) H) nIs := by
  intro Z G H x y v u q Q R rx ry h c
  cases y <;> first
    | (cases ry; exact ⟨rfl, c _ _ _ _ (isN_e (k := fun b => q (.bl b) G) rx h) (Step.refl _ _) R (.bl _)⟩)
    | exact (show False from h).elim
theorem ok_isNot {K : PySem.W.Frag} : R2Ok K (fun x y H Q => y = .non ∧ Q (.bl (!decide (x = .non))) H) nIsNot := by
  intro Z G H x y v u q Q R rx ry h c
  cases y <;> first
    | (cases ry; exact ⟨rfl, c _ _ _ _ (isN_e (k := fun b => q (.bl (!b)) G) rx h) (Step.refl _ _) R (.bl _)⟩)
    | exact (show False from h).elim
/-! ### in, of flat things -/
def flatD : D → Bool
  | .non => true | .bl _ => true | .int _ => true | .str _ => true | _ => false
def vOf : D → V
  | .non => .non | .bl b => .bl b | .int i => .int i | .str s => .str s | _ => .non
def inD (x : D) (ys : List D) : Bool := ys.any fun y => eqV (vOf y) (vOf x)
section
variable {K : PySem.W.Frag} {Z : ZS} {G : GH} {H : Hp}
theorem flat_rl {d : D} {v : V} (f : flatD d = true) (r : Rl K Z G H d v) : v = vOf d ∧ flatV v = true := by
  cases d <;> first
    | (cases r; exact ⟨rfl, rfl⟩)
    | cases f
theorem flat_rla : ∀ {ds : List D} {vs : List V}, ds.all flatD = true → RlA K Z G H ds vs → vs = ds.map vOf ∧ vs.all flatV = true
  | _, _, _, .nil => ⟨rfl, rfl⟩
  | d :: ds, v :: vs, f, .cons r t => by
    rw [List.all_cons, Bool.and_eq_true] at f
    obtain ⟨e1, f1⟩ := flat_rl f.1 r
    obtain ⟨e2, f2⟩ := flat_rla f.2 t
    exact ⟨by rw [List.map_cons, ← e1, ← e2], by rw [List.all_cons, f1, f2]; rfl⟩
end
def nIn (neg : Bool) : R2D := fun x y G q => AsQ y G fun ys => Sd (flatD x = true ∧ ys.all flatD = true) (q (.bl (if neg then !inD x ys else inD x ys)) G)
theorem ok_in {K : PySem.W.Frag} {neg : Bool} : R2Ok K (rIn K neg) (nIn neg) := by
  intro Z G H x y v u q Q R rx ry h c
  obtain ⟨a, xs, ds, rfl, hs, rd, h⟩ := asQ_e R ry h
  obtain ⟨⟨f1, f2⟩, h⟩ := Sd_e h
  obtain ⟨e1, g1⟩ := flat_rl f1 rx
  obtain ⟨e2, g2⟩ := flat_rla f2 rd
  have e : inV v xs = inD x ds := by
    subst e1 e2
    unfold inV inD
    rw [List.any_map]
    rfl
  exact ⟨a, xs, rfl, hs, g1, g2, by rw [e]; exact c _ _ _ _ h (Step.refl _ _) R (.bl _)⟩
section
variable {X : Cx} {W : WX} {a b : Expr} {ta tb : TED} {pos : Pos}
theorem pd_add (ha : PEd X W a ta) (hb : PEd X W b tb) : PEd X W (.BinOp a .Add b pos) (gOp nAdd ta tb) := pd_op op_addA ok_add ha hb
theorem pd_eq (hu : X.A.units + 64 < cLine) (ha : PEd X W a ta) (hb : PEd X W b tb) : PEd X W (.Compare a [.Eq] [b] pos) (gOp nEq ta tb) := pd_cmp (op_eqA hu) ok_eq ha hb (nomark _)
theorem pd_ne (hu : X.A.units + 64 < cLine) (ha : PEd X W a ta) (hb : PEd X W b tb) : PEd X W (.Compare a [.NotEq] [b] pos) (gOp nNe ta tb) := pd_cmp (op_neA hu) ok_ne ha hb (nomark _)
theorem pd_is (ha : PEd X W a ta) (hb : PEd X W b tb) : PEd X W (.Compare a [.Is] [b] pos) (gOp nIs ta tb) := pd_cmp op_isN ok_is ha hb (nomark _)
theorem pd_isnot (ha : PEd X W a ta) (hb : PEd X W b tb) : PEd X W (.Compare a [.IsNot] [b] pos) (gOp nIsNot ta tb) := pd_cmp op_notN ok_isNot ha hb (nomark _)
theorem pd_in (ha : PEd X W a ta) (hb : PEd X W b tb) (hm : behindInMarks .In b = false := by rfl) : PEd X W (.Compare a [.In] [b] pos) (gOp (nIn false) ta tb) := pd_cmp op_in_seq ok_in ha hb hm
theorem pd_notin (ha : PEd X W a ta) (hb : PEd X W b tb) (hm : behindInMarks .NotIn b = false := by rfl) : PEd X W (.Compare a [.NotIn] [b] pos) (gOp (nIn true) ta tb) := pd_cmp op_notIn_seq ok_in ha hb hm
theorem pt_eq (hu : X.A.units + 64 < cLine) (ha : PEd X W a ta) (hb : PEd X W b tb) : PTd X W (.Compare a [.Eq] [b] pos) (gTst (gOp nEq ta tb)) := pd_cmpT (op_eqA hu) ok_eq ha hb (nomark _)
theorem pt_ne (hu : X.A.units + 64 < cLine) (ha : PEd X W a ta) (hb : PEd X W b tb) : PTd X W (.Compare a [.NotEq] [b] pos) (gTst (gOp nNe ta tb)) := pd_cmpT (op_neA hu) ok_ne ha hb (nomark _)
theorem pt_is (ha : PEd X W a ta) (hb : PEd X W b tb) : PTd X W (.Compare a [.Is] [b] pos) (gTst (gOp nIs ta tb)) := pd_cmpT op_isN ok_is ha hb (nomark _)
theorem pt_isnot (ha : PEd X W a ta) (hb : PEd X W b tb) : PTd X W (.Compare a [.IsNot] [b] pos) (gTst (gOp nIsNot ta tb)) := pd_cmpT op_notN ok_isNot ha hb (nomark _)
theorem pt_in (ha : PEd X W a ta) (hb : PEd X W b tb) (hm : behindInMarks .In b = false := by rfl) : PTd X W (.Compare a [.In] [b] pos) (gTst (gOp (nIn false) ta tb)) := pd_cmpT op_in_seq ok_in ha hb hm
theorem pt_notin (ha : PEd X W a ta) (hb : PEd X W b tb) (hm : behindInMarks .NotIn b = false := by rfl) : PTd X W (.Compare a [.NotIn] [b] pos) (gTst (gOp (nIn true) ta tb)) := pd_cmpT op_notIn_seq ok_in ha hb hm
end
/-! ### * -/
theorem tuple_mul1 (l : Addr) (items : Array Value) (n : Nat) (sl : Array (Option Value)) (dd : Option Addr) (u : Tok) :
    Meets (Builtin.«tuple.__mul__» ⟨[.ref l, .int 1 u], []⟩) (fun _ R s => s.heap.get? l = some { cls := .type "tuple", dict := dd, data := .seq items n, slots := sl } ∧ R (.ok (.ret (Value.ref l))) s) :=
  .of_wp fun prog w A R s h => by
    obtain ⟨hp, g, d, tk, os⟩ := s
    obtain ⟨hl, h⟩ := h
    have f1 := AutoSeq1.idx_int
    wp_walk using wpAny_loadPart' hl
    repeat (first
      | (refine wpAny_ite_false (by decide) ?_; wp_walk using wpAny_loadPart' hl)
      | (refine wpAny_ite_true (by simp) ?_; wp_walk using wpAny_loadPart' hl))
    exact ⟨_, rfl, h⟩
def rRepT1 (K : PySem.W.Frag) : R2 := fun x y H Q => ∃ l xs, x = .ref l ∧ y = .int 1 ∧ SqT K H l xs ∧ Q (.ref l) H
theorem op_repT1 {X : Cx} : OpR X (binaryOp .Mult) (rRepT1 X.K) := by
  intro pins s σ H x y v u Q I rx ry h
  obtain ⟨l, xs, rfl, rfl, hT, q⟩ := h
  cases rx
  obtain ⟨t, rfl⟩ := ry
  obtain ⟨its, r, ⟨⟨cls, dd, data, sl⟩, ho, hc, n, hd⟩, hs⟩ := I.tuple hT
  simp only at hc hd
  subst hc hd
  refine wpAny_binaryOp_repeat_ref (T := "tuple") (U := "int") (by decide) ⟨_, ho, rfl⟩ (fun s' => typeIs_int s' 1 t) noFill_tuple_mul F.fills_int_mul F.slot_int_rmul repeat_tuple F.slot_int_index.lookup
    (call_meets F.slot_int_rmul (typeIs_int s 1 t) F.entry_int_rmul (F.args_int_rmul_2 _ _) (int_rmul_tuple 1 t l its.toArray n dd sl)
      ⟨ho, rfl, ⟨_, ho, rfl⟩, call_meets F.slot_tuple_mul ⟨_, ho, rfl⟩ F.entry_tuple_mul (F.args_tuple_mul_2 _ _) (tuple_mul1 l its.toArray n sl dd t) ⟨ho, ?_⟩⟩)
  exact ⟨.ref l, H, I, rfl, q⟩
def nMul : R2D := fun x y G q => match x with
  | .int i => (match y with | .int j => Sd (CMul i j ∨ CMulW i j) (q (.int (i * j)) G) | _ => False)
  | .tup xs => (match y with | .int k => Sd (xs ≠ [] ∧ 1 ≤ k ∧ k ≤ 1000 ∧ xs.length ≤ 1000) (q (.tup (List.replicate k.toNat xs).flatten) G) | _ => False)
  | .lst xs => (match y with | .int k => Sd (-(2 ^ 63) ≤ k ∧ k < 2 ^ 63 ∧ xs.length * k.toNat ≤ sizeLine) (NewL (List.replicate k.toNat xs).flatten G q) | _ => False)
  | _ => False
def rMulA (K : PySem.W.Frag) : R2 := fun x y H Q => (rI CMul (fun i j => .int (i * j)) x y H Q ∨ rI CMulW (fun i j => .int (i * j)) x y H Q) ∨ rRep x y H Q ∨ rRepT K x y H Q ∨ rRepT1 K x y H Q
theorem op_mulA {X : Cx} : OpR X (binaryOp .Mult) (rMulA X.K) := (op_mul.or op_mulW).or (op_rep.or (op_repT.or op_repT1))
theorem ok_mul {K : PySem.W.Frag} : R2Ok K (rMulA K) nMul := by
  intro Z G H x y v u q Q R rx ry h c
  cases x with
  | int i => cases y with
    | int j =>
      cases rx; cases ry
      obtain ⟨hl, h⟩ := Sd_e h
      rcases hl with hl | hl
      · exact .inl (.inl ⟨i, j, rfl, rfl, hl, c _ _ _ _ h (Step.refl _ _) R (.int _)⟩)
      · exact .inl (.inr ⟨i, j, rfl, rfl, hl, c _ _ _ _ h (Step.refl _ _) R (.int _)⟩)
    | _ => exact (show False from h).elim
  | tup xs => cases y with
    | int k =>
      cases ry
      obtain ⟨⟨h0, h1, h2, h3⟩, h⟩ := Sd_e h
      cases rx with
      | @tup a ys _ hx rx =>
        have hn : ys ≠ [] := fun e => by
          subst e
          cases rx
          exact h0 rfl
        by_cases e : k = 1
        · subst e
          refine .inr (.inr (.inr ⟨_, _, rfl, rfl, hx, ?_⟩))
          have e2 : (List.replicate (1 : Int).toNat xs).flatten = xs := by simp
          rw [e2] at h
          exact c _ _ _ _ h (Step.refl _ _) R (.tup hx rx)
        · exact .inr (.inr (.inl ⟨_, _, _, rfl, rfl, hx, hn, by omega, h2, by rw [← rx.length]; exact h3, fun p hp => new_tup R (rx.rep _) h c p hp⟩))
    | _ => exact (show False from h).elim
  | lst xs => cases y with
    | int k =>
      cases ry
      obtain ⟨⟨h0, h1, h2⟩, h⟩ := Sd_e h
      cases rx with
      | lst hx _ _ rx => exact .inr (.inl ⟨_, _, _, rfl, rfl, hx, h0, h1, by rw [← rx.length]; exact h2, fun p hp => new_list R (rx.rep _) h c p hp⟩)
    | _ => exact (show False from h).elim
  | _ => exact (show False from h).elim
theorem pd_mul {X : Cx} {W : WX} {a b : Expr} {ta tb : TED} {pos : Pos} (ha : PEd X W a ta) (hb : PEd X W b tb) : PEd X W (.BinOp a .Mult b pos) (gOp nMul ta tb) := pd_op op_mulA ok_mul ha hb
/-! ### items, slices -/
@[irreducible] def AtS (s : Str) (i : Int) (k : D → Prop) : Prop := ∃ c, s.length ≤ sizeLine ∧ atI s.cps.toList i = some c ∧ k (.str ⟨#[c]⟩)
theorem AtS_i {s : Str} {i : Int} {k : D → Prop} {c : Nat} (h1 : s.length ≤ sizeLine) (h : atI s.cps.toList i = some c) (q : k (.str ⟨#[c]⟩)) : AtS s i k := by unfold AtS; exact ⟨c, h1, h, q⟩
theorem AtS_e {s : Str} {i : Int} {k : D → Prop} (h : AtS s i k) : ∃ c, s.length ≤ sizeLine ∧ atI s.cps.toList i = some c ∧ k (.str ⟨#[c]⟩) := by unfold AtS at h; exact h
def nIx : R2D := fun x y G q => match y with
  | .int i => (match x with
    | .str s => AtS s i fun d => q d G
    | x => AsQ x G fun ds => AtD ds i fun d => q d G)
  | _ => False
theorem atI_rl {K : PySem.W.Frag} {Z : ZS} {G : GH} {H : Hp} {ds : List D} {vs : List V} {i : Int} {d : D} (r : RlA K Z G H ds vs) (h : atI ds i = some d) : ∃ v, atI vs i = some v ∧ Rl K Z G H d v := by
  unfold atI at h ⊢
  rw [← r.length]
  cases e : ixN ds.length i with
  | none => rw [e] at h; cases h
  | some j =>
    rw [e] at h
    exact r.get h
theorem ok_ix {K : PySem.W.Frag} : R2Ok K (rIx K) nIx := by
  intro Z G H x y v u q Q R rx ry h c
  cases y with
  | int i =>
    cases ry
    have seq : (AsQ x G fun ds => AtD ds i fun d => q d G) → rIx K v (.int i) H Q := fun h => by
      obtain ⟨a, xs, ds, rfl, hs, rd, h⟩ := asQ_e R rx h
      obtain ⟨d, hd, h⟩ := AtD_e h
      obtain ⟨w, hw, rw'⟩ := atI_rl rd hd
      rcases hs with hs | hs
      · exact .inl ⟨a, xs, i, w, rfl, rfl, hs, hw, c _ _ _ _ h (Step.refl _ _) R rw'⟩
      · exact .inr (.inl ⟨a, xs, i, w, rfl, rfl, hs, hw, c _ _ _ _ h (Step.refl _ _) R rw'⟩)
    cases x with
    | str s =>
      cases rx
      obtain ⟨k, hl, hk, h⟩ := AtS_e h
      exact .inr (.inr ⟨s, i, k, rfl, rfl, hl, hk, c _ _ _ _ h (Step.refl _ _) R (.str _)⟩)
    | _ => exact seq h
  | _ => exact (show False from h).elim
theorem pd_ix {X : Cx} {W : WX} {a b : Expr} {ta tb : TED} {pos : Pos} (ha : PEd X W a ta) (hb : PEd X W b tb) (hs : PlainIx b) : PEd X W (.Subscript a b pos) (gOp nIx ta tb) :=
  PEi (pe_ix ix_seq ha hb hs) fun _ _ _ w => lf_op ok_ix w
abbrev TOD := SD → GH → XD → (Option Int → GH → Prop) → Prop
def LfO (K : PySem.W.Frag) (W : WX) (t : TOD) : TO := fun σ H Q => ∃ Z G τ x q, StR K Z G H τ σ ∧ Rel K Z G H ∧ t τ G x q ∧ (∀ o G' H', q o G' → Step G H G' H' → Rel K Z G' H' → Q o H') ∧ ClX K Z G H x W σ
abbrev POd (X : Cx) (W : WX) (e : Option Expr) (t : TOD) : Prop := PO X e (LfO X.K W t)
def gNoP : TOD := fun _ G _ q => q none G
def gPart (t : TED) : TOD := fun τ G x q => t τ G x fun d G1 => match d with
  | .int i => q (some i) G1
  | _ => False
theorem POi {X : Cx} {e : Option Expr} {t u : TO} (h : PO X e t) (i : ∀ σ H Q, u σ H Q → t σ H Q) : PO X e u := ⟨fun pins s σ H Q I hw => h.run pins s σ H Q I (i _ _ _ hw)⟩
theorem pod_none {X : Cx} {W : WX} : POd X W none gNoP := POi po_none fun σ H Q => by
  rintro ⟨Z, G, τ, x, q, S, R, h, c, cx⟩
  exact c _ G H h (Step.refl _ _) R
theorem pod_some {X : Cx} {W : WX} {e : Expr} {t : TED} (h : PEd X W e t) : POd X W (some e) (gPart t) := POi (po_some h) fun σ H Q => by
  rintro ⟨Z, G, τ, x, q, S, R, h, c, cx⟩
  refine ⟨Z, G, τ, x, _, S, R, h, fun d G1 H1 v q1 s1 R1 r1 => ?_, cx⟩
  cases d with
  | int i =>
    cases r1
    exact ⟨i, rfl, c _ G1 H1 q1 s1 R1⟩
  | _ => exact (show False from q1).elim
def cutD (ds : List D) (lo hi : Option Int) : List D := (ds.drop (HT.sIx ds.length 0 lo)).take (HT.sIx ds.length ds.length hi - HT.sIx ds.length 0 lo)
def nSl (x : D) (lo hi : Option Int) (G : GH) (q : QD) : Prop := match x with
  | .tup ds => q (.tup (cutD ds lo hi)) G
  | .str s => Sd (s.length ≤ sizeLine) (q (.str (cutS s lo hi)) G)
  | x => AsL x G fun ds => NewL (cutD ds lo hi) G q
def gSl (t : TED) (tl th : TOD) : TED := fun τ G x q => t τ G x fun d G1 => tl τ G1 x fun lo G2 => th τ G2 x fun hi G3 => nSl d lo hi G3 q
end N
namespace N
open PySem PySem.Spec PyProof.Rows L2
/-! ### slices -/
def rSlB (K : PySem.W.Frag) : V → Option Int → Option Int → Hp → VK → Prop := fun x lo hi H Q => rSlA K x lo hi H Q ∨ rSlL K x lo hi H Q ∨ rSlS x lo hi H Q
theorem sl_all {X : Cx} : SlR X (rSlB X.K) := sl_tupA.or (sl_list.or sl_str)
theorem cut_rl {K : PySem.W.Frag} {Z : ZS} {G : GH} {H : Hp} {ds : List D} {vs : List V} {lo hi : Option Int} (r : RlA K Z G H ds vs) : RlA K Z G H (cutD ds lo hi) (cutV vs lo hi) := by
  unfold cutD cutV
  rw [r.length]
  exact (r.drop _).take _
theorem cutD_all {ds : List D} {lo hi : Option Int} (h : HT.sIx ds.length 0 lo = 0 ∧ HT.sIx ds.length ds.length hi = ds.length) : cutD ds lo hi = ds := by
  unfold cutD
  rw [h.1, h.2]
  simp
theorem sl_ok {K : PySem.W.Frag} {Z : ZS} {G : GH} {H : Hp} {x : D} {v : V} {lo hi : Option Int} {q : QD} {Q : VK} (R : Rel K Z G H) (r : Rl K Z G H x v) (h : nSl x lo hi G q) (c : ClE K Z G H q Q) : rSlB K v lo hi H Q := by
  have seq : (AsL x G fun ds => NewL (cutD ds lo hi) G q) → rSlB K v lo hi H Q := fun h => by
    obtain ⟨a, xs, ds, rfl, hs, rd, h⟩ := asL_e R r h
    exact .inr (.inl ⟨a, xs, rfl, SqL.of hs, fun p hp => new_list R (cut_rl rd) h c p hp⟩)
  cases x with
  | tup ds =>
    cases r with
    | tup hx rx =>
      refine .inl ⟨_, _, rfl, hx, fun e => ?_, fun e p hp => new_tup R (cut_rl rx) h c p hp⟩
      have h' : q (.tup (cutD ds lo hi)) G := h
      rw [cutD_all (by rw [rx.length]; exact e)] at h'
      exact c _ _ _ _ h' (Step.refl _ _) R (.tup hx rx)
  | str s =>
    cases r
    obtain ⟨hl, h⟩ := Sd_e h
    exact .inr (.inr ⟨s, rfl, hl, c _ _ _ _ h (Step.refl _ _) R (.str _)⟩)
  | _ => exact seq h
theorem pd_slice {X : Cx} {W : WX} {e : Expr} {lo hi : Option Expr} {t : TED} {tl th : TOD} {p2 pos : Pos} (he : PEd X W e t) (hl : POd X W lo tl) (hh : POd X W hi th) : PEd X W (.Subscript e (.Slice lo hi none p2) pos) (gSl t tl th) :=
  PEi (pe_slice sl_all he hl hh) fun σ H Q => by
    rintro ⟨Z, G, τ, x, q, S, R, h, c, cx⟩
    refine ⟨Z, G, τ, x, _, S, R, h, fun d G1 H1 v q1 s1 R1 r1 => ?_, cx⟩
    refine ⟨Z, G1, τ, x, _, S.mv (s1.mv R), R1, q1, fun lo G2 H2 q2 s2 R2 => ?_, cx.step s1⟩
    have s12 := s1.trans s2
    refine ⟨Z, G2, τ, x, _, S.mv (s12.mv R), R2, q2, fun hi G3 H3 q3 s3 R3 => ?_, cx.step s12⟩
    exact sl_ok R3 (r1.mv ((s2.trans s3).mv R1)) q3 (c.step (s12.trans s3))
/-! ### calls of built-ins -/
abbrev CAD := List D → GH → QD → Prop
def CAOk (K : PySem.W.Frag) (r : List V → Hp → VK → Prop) (t : CAD) : Prop := ∀ Z G H ds vs q Q, Rel K Z G H → RlA K Z G H ds vs → t ds G q → ClE K Z G H q Q → r vs H Q
def gCB (t : CAD) (ta : TAD) : TED := fun τ G x q => ta τ G x fun ds G1 => t ds G1 q
theorem lf_cb {K : PySem.W.Frag} {W : WX} {r : List V → Hp → VK → Prop} {t : CAD} {ta : TAD} (h : CAOk K r t) {σ : L2.St} {H : Hp} {Q : VK} (w : Lf K W (gCB t ta) σ H Q) : tCB r (LfA K W ta) σ H Q := by
  obtain ⟨Z, G, τ, x, q, S, R, hw, c, cx⟩ := w
  exact ⟨Z, G, τ, x, _, S, R, hw, fun ds G1 H1 vs q1 s1 R1 r1 => h Z G1 H1 ds vs q Q R1 r1 q1 (c.step s1), cx⟩
section
variable {X : Cx} {W : WX} {e : Expr} {es : List Expr} {ta : TAD} {r : List V → Hp → VK → Prop} {t : CAD} {p pos : Pos}
theorem pd_callB {id : String} {x : Str} (hc : CallR X (.builtin id) r) (h : CAOk X.K r t) (hg : Gl X x) (hm : X.mg x = none) (hv : bootBuiltins x = some (.builtin id)) (ha : PAd X W (e :: es) ta) (hn : x ≠ "__name__" := by decide) (hdb : (x == ("__debug__" : Str)) = false := by decide)
    (hs : starEach (e :: es) X.env = (false, eval e X.env) :: starEach es X.env := by rfl) (hpl : (backTo pos (starEach es X.env)).any (·.1) = false := by rfl) : PEd X W (.Call (.Name x p) (e :: es) [] pos) (gCB t ta) :=
  PEi (pe_callB hc hg hm hv ha hn hdb hs hpl) fun _ _ _ w => lf_cb h w
theorem pd_callTy {T : String} {x : Str} (hc : CallR X (.type T) r) (h : CAOk X.K r t) (hg : Gl X x) (hm : X.mg x = none) (hv : bootBuiltins x = some (.type T)) (ha : PAd X W (e :: es) ta) (hn : x ≠ "__name__" := by decide) (hdb : (x == ("__debug__" : Str)) = false := by decide)
    (hs : starEach (e :: es) X.env = (false, eval e X.env) :: starEach es X.env := by rfl) (hpl : (backTo pos (starEach es X.env)).any (·.1) = false := by rfl) : PEd X W (.Call (.Name x p) (e :: es) [] pos) (gCB t ta) :=
  PEi (pe_callTy hc hg hm hv ha hn hdb hs hpl) fun _ _ _ w => lf_cb h w
end
/-! ### the arguments' forms -/
def A1 (ds : List D) (k : D → Prop) : Prop := match ds with
  | [d] => k d
  | _ => False
def A2 (ds : List D) (k : D → D → Prop) : Prop := match ds with
  | [d, e] => k d e
  | _ => False
def A0 (ds : List D) (k : Prop) : Prop := match ds with
  | [] => k
  | _ => False
def I1 (d : D) (k : Int → Prop) : Prop := match d with
  | .int i => k i
  | _ => False
section
variable {K : PySem.W.Frag} {Z : ZS} {G : GH} {H : Hp} {ds : List D} {vs : List V}
theorem A0_e {k : Prop} (r : RlA K Z G H ds vs) (h : A0 ds k) : vs = [] ∧ k := by
  cases r with
  | nil => exact ⟨rfl, h⟩
  | cons _ _ => exact (show False from h).elim
theorem A1_e {k : D → Prop} (r : RlA K Z G H ds vs) (h : A1 ds k) : ∃ d v, ds = [d] ∧ vs = [v] ∧ Rl K Z G H d v ∧ k d := by
  cases r with
  | nil => exact (show False from h).elim
  | cons r1 r2 => cases r2 with
    | nil => exact ⟨_, _, rfl, rfl, r1, h⟩
    | cons _ _ => exact (show False from h).elim
theorem A2_e {k : D → D → Prop} (r : RlA K Z G H ds vs) (h : A2 ds k) : ∃ d e v u, ds = [d, e] ∧ vs = [v, u] ∧ Rl K Z G H d v ∧ Rl K Z G H e u ∧ k d e := by
  cases r with
  | nil => exact (show False from h).elim
  | cons r1 r2 => cases r2 with
    | nil => exact (show False from h).elim
    | cons r2 r3 => cases r3 with
      | nil => exact ⟨_, _, _, _, rfl, rfl, r1, r2, h⟩
      | cons _ _ => exact (show False from h).elim
theorem I1_e {d : D} {v : V} {k : Int → Prop} (r : Rl K Z G H d v) (h : I1 d k) : ∃ i, d = .int i ∧ v = .int i ∧ k i := by
  cases d with
  | int i => cases r; exact ⟨i, rfl, rfl, h⟩
  | _ => exact (show False from h).elim
end
def cLen : CAD := fun ds G q => A1 ds fun x => match x with
  | .str s => Sd (s.length ≤ sizeLine) (q (.int s.length) G)
  | x => AsQ x G fun ds => q (.int ds.length) G
theorem ok_len {K : PySem.W.Frag} : CAOk K (fun xs H Q => ∃ x n, xs = [x] ∧ LenV K x H n ∧ Q (.int n) H) cLen := by
  intro Z G H ds vs q Q R r h c
  obtain ⟨d, v, rfl, rfl, r1, h⟩ := A1_e r h
  have seq : (AsQ d G fun ds => q (.int ds.length) G) → ∃ y n, [v] = [y] ∧ LenV K y H n ∧ Q (.int n) H := fun h => by
    obtain ⟨a, xs, ds, rfl, hs, rd, h⟩ := asQ_e R r1 h
    refine ⟨_, ds.length, rfl, ?_, c _ _ _ _ h (Step.refl _ _) R (.int _)⟩
    rcases hs with hs | hs
    · exact .inl ⟨xs, hs, rd.length⟩
    · exact .inr ⟨xs, hs, rd.length⟩
  cases d with
  | str s =>
    cases r1
    obtain ⟨hl, h⟩ := Sd_e h
    exact ⟨_, s.length, rfl, ⟨hl, rfl⟩, c _ _ _ _ h (Step.refl _ _) R (.int _)⟩
  | _ => exact seq h
def cInt : CAD := fun ds G q => A1 ds fun x => match x with
  | .int i => q (.int i) G
  | .bl b => q (.int (if b then 1 else 0)) G
  | _ => False
theorem ok_int {K : PySem.W.Frag} : CAOk K (fun xs H Q => (∃ i, xs = [.int i] ∧ Q (.int i) H) ∨ ∃ k, xs = [.bl k] ∧ Q (.int (if k then 1 else 0)) H) cInt := by
  intro Z G H ds vs q Q R r h c
  obtain ⟨d, v, rfl, rfl, r1, h⟩ := A1_e r h
  cases d with
  | int i => cases r1; exact .inl ⟨i, rfl, c _ _ _ _ h (Step.refl _ _) R (.int _)⟩
  | bl b => cases r1; exact .inr ⟨b, rfl, c _ _ _ _ h (Step.refl _ _) R (.int _)⟩
  | _ => exact (show False from h).elim
def cMin2 : CAD := fun ds G q => A2 ds fun x y => I1 x fun i => I1 y fun j => q (.int (if j < i then j else i)) G
def cMax2 : CAD := fun ds G q => A2 ds fun x y => I1 x fun i => I1 y fun j => q (.int (if j > i then j else i)) G
theorem ok_min2 {K : PySem.W.Frag} : CAOk K (fun xs H Q => ∃ i j, xs = [.int i, .int j] ∧ Q (.int (if j < i then j else i)) H) cMin2 := by
  intro Z G H ds vs q Q R r h c
  obtain ⟨d, e, v, u, rfl, rfl, r1, r2, h⟩ := A2_e r h
  obtain ⟨i, rfl, rfl, h⟩ := I1_e r1 h
  obtain ⟨j, rfl, rfl, h⟩ := I1_e r2 h
  exact ⟨i, j, rfl, c _ _ _ _ h (Step.refl _ _) R (.int _)⟩
theorem ok_max2 {K : PySem.W.Frag} : CAOk K (fun xs H Q => ∃ i j, xs = [.int i, .int j] ∧ Q (.int (if j > i then j else i)) H) cMax2 := by
  intro Z G H ds vs q Q R r h c
  obtain ⟨d, e, v, u, rfl, rfl, r1, r2, h⟩ := A2_e r h
  obtain ⟨i, rfl, rfl, h⟩ := I1_e r1 h
  obtain ⟨j, rfl, rfl, h⟩ := I1_e r2 h
  exact ⟨i, j, rfl, c _ _ _ _ h (Step.refl _ _) R (.int _)⟩
/-- list(x), tuple(x) of a list or a tuple -/
def cList : CAD := fun ds G q => A1 ds fun x => AsQ x G fun ds => NewL ds G q
def cTuple : CAD := fun ds G q => A1 ds fun x => AsQ x G fun ds => q (.tup ds) G
theorem ok_list {K : PySem.W.Frag} : CAOk K (fun xs H Q => ∃ p ys, xs = [.ref p] ∧ (SqL K H p ys ∨ SqT K H p ys) ∧ ∀ l, H l = none → Q (.ref l) (upd H l (.lst ys))) cList := by
  intro Z G H ds vs q Q R r h c
  obtain ⟨d, v, rfl, rfl, r1, h⟩ := A1_e r h
  obtain ⟨a, xs, ds, rfl, hs, rd, h⟩ := asQ_e R r1 h
  exact ⟨a, xs, rfl, hs, fun p hp => new_list R rd h c p hp⟩
theorem ok_tuple {K : PySem.W.Frag} : CAOk K (fun xs H Q => ∃ p ys, xs = [.ref p] ∧ ((SqL K H p ys ∧ ∀ l, H l = none → Q (.ref l) (upd H l (.tup ys))) ∨ (SqT K H p ys ∧ Q (.ref p) H))) cTuple := by
  intro Z G H ds vs q Q R r h c
  obtain ⟨d, v, rfl, rfl, r1, h⟩ := A1_e r h
  obtain ⟨a, xs, ds, rfl, hs, rd, h⟩ := asQ_e R r1 h
  rcases hs with hs | hs
  · exact ⟨a, xs, rfl, .inl ⟨hs, fun p hp => new_tup R rd h c p hp⟩⟩
  · exact ⟨a, xs, rfl, .inr ⟨hs, c _ _ _ _ h (Step.refl _ _) R (.tup hs rd)⟩⟩
/-- min, max, sum of a list of ints; any, all of a list of bools -/
theorem ints_rl {K : PySem.W.Frag} {Z : ZS} {G : GH} {H : Hp} : ∀ {ns : List Int} {vs : List V}, RlA K Z G H (ns.map D.int) vs → vs = ns.map V.int
  | [], _, .nil => rfl
  | n :: ns, _, .cons r t => by
    cases r
    rw [ints_rl t]
    rfl
theorem bls_rl {K : PySem.W.Frag} {Z : ZS} {G : GH} {H : Hp} : ∀ {ns : List Bool} {vs : List V}, RlA K Z G H (ns.map D.bl) vs → vs = ns.map V.bl
  | [], _, .nil => rfl
  | n :: ns, _, .cons r t => by
    cases r
    rw [bls_rl t]
    rfl
/-- all items are ints, bools -/
def intsD : List D → Option (List Int)
  | [] => some []
  | .int i :: r => (intsD r).map (i :: ·)
  | _ :: _ => none
def blsD : List D → Option (List Bool)
  | [] => some []
  | .bl i :: r => (blsD r).map (i :: ·)
  | _ :: _ => none
@[irreducible] def IntsL (x : D) (G : GH) (k : List Int → Prop) : Prop := AsL x G fun ds => ∃ ns : List Int, ds = ns.map D.int ∧ k ns
@[irreducible] def BlsL (x : D) (G : GH) (k : List Bool → Prop) : Prop := AsL x G fun ds => ∃ ns : List Bool, ds = ns.map D.bl ∧ k ns
theorem IntsL_i {G : GH} {k : List Int → Prop} {ds : List D} (ns : List Int) (e : ds = ns.map D.int) (h : k ns) : IntsL (.lst ds) G k := by unfold IntsL; exact ⟨ns, e, h⟩
theorem IntsL_r {a : Addr} {G : GH} {k : List Int → Prop} {ds : List D} (ns : List Int) (g : G a = some (.lst ds)) (e : ds = ns.map D.int) (h : k ns) : IntsL (.ref a) G k := by unfold IntsL; exact LkL_i g ⟨ns, e, h⟩
theorem BlsL_i {G : GH} {k : List Bool → Prop} {ds : List D} (ns : List Bool) (e : ds = ns.map D.bl) (h : k ns) : BlsL (.lst ds) G k := by unfold BlsL; exact ⟨ns, e, h⟩
theorem intsL_e {K : PySem.W.Frag} {Z : ZS} {G : GH} {H : Hp} {x : D} {v : V} {k : List Int → Prop} (R : Rel K Z G H) (r : Rl K Z G H x v) (h : IntsL x G k) : ∃ a ns, v = .ref a ∧ SqL K H a (ns.map V.int) ∧ k ns := by
  unfold IntsL at h
  obtain ⟨a, xs, ds, rfl, hs, rd, ns, rfl, h⟩ := asL_e R r h
  exact ⟨a, ns, rfl, by rw [← ints_rl rd]; exact SqL.of hs, h⟩
theorem blsL_e {K : PySem.W.Frag} {Z : ZS} {G : GH} {H : Hp} {x : D} {v : V} {k : List Bool → Prop} (R : Rel K Z G H) (r : Rl K Z G H x v) (h : BlsL x G k) : ∃ a ns, v = .ref a ∧ SqL K H a (ns.map V.bl) ∧ k ns := by
  unfold BlsL at h
  obtain ⟨a, xs, ds, rfl, hs, rd, ns, rfl, h⟩ := asL_e R r h
  exact ⟨a, ns, rfl, by rw [← bls_rl rd]; exact SqL.of hs, h⟩
def cSum : CAD := fun ds G q => A1 ds fun x => IntsL x G fun ns => q (.int ns.sum) G
def cMinL : CAD := fun ds G q => A1 ds fun x => IntsL x G fun ns => Sd (0 < ns.length) (∀ m, m ∈ ns → (∀ y, y ∈ ns → m ≤ y) → q (.int m) G)
def cMaxL : CAD := fun ds G q => A1 ds fun x => IntsL x G fun ns => Sd (0 < ns.length) (∀ m, m ∈ ns → (∀ y, y ∈ ns → y ≤ m) → q (.int m) G)
def cAny : CAD := fun ds G q => A1 ds fun x => BlsL x G fun bs => q (.bl (bs.any id)) G
def cAll : CAD := fun ds G q => A1 ds fun x => BlsL x G fun bs => q (.bl (bs.all id)) G
theorem ok_sum {K : PySem.W.Frag} : CAOk K (rSum K) cSum := by
  intro Z G H ds vs q Q R r h c
  obtain ⟨d, v, rfl, rfl, r1, h⟩ := A1_e r h
  obtain ⟨a, ns, rfl, hs, h⟩ := intsL_e R r1 h
  exact ⟨a, ns, rfl, hs, c _ _ _ _ h (Step.refl _ _) R (.int _)⟩
theorem ok_minL {K : PySem.W.Frag} : CAOk K (rMin K) cMinL := by
  intro Z G H ds vs q Q R r h c
  obtain ⟨d, v, rfl, rfl, r1, h⟩ := A1_e r h
  obtain ⟨a, ns, rfl, hs, h⟩ := intsL_e R r1 h
  obtain ⟨h1, h2⟩ := Sd_e h
  exact ⟨a, ns, rfl, hs, h1, fun m m1 m2 => c _ _ _ _ (h2 m m1 m2) (Step.refl _ _) R (.int _)⟩
theorem ok_maxL {K : PySem.W.Frag} : CAOk K (rMax K) cMaxL := by
  intro Z G H ds vs q Q R r h c
  obtain ⟨d, v, rfl, rfl, r1, h⟩ := A1_e r h
  obtain ⟨a, ns, rfl, hs, h⟩ := intsL_e R r1 h
  obtain ⟨h1, h2⟩ := Sd_e h
  exact ⟨a, ns, rfl, hs, h1, fun m m1 m2 => c _ _ _ _ (h2 m m1 m2) (Step.refl _ _) R (.int _)⟩
theorem ok_any {K : PySem.W.Frag} : CAOk K (rAny K) cAny := by
  intro Z G H ds vs q Q R r h c
  obtain ⟨d, v, rfl, rfl, r1, h⟩ := A1_e r h
  obtain ⟨a, ns, rfl, hs, h⟩ := blsL_e R r1 h
  exact ⟨a, ns, rfl, hs, c _ _ _ _ h (Step.refl _ _) R (.bl _)⟩
theorem ok_all {K : PySem.W.Frag} : CAOk K (rAll K) cAll := by
  intro Z G H ds vs q Q R r h c
  obtain ⟨d, v, rfl, rfl, r1, h⟩ := A1_e r h
  obtain ⟨a, ns, rfl, hs, h⟩ := blsL_e R r1 h
  exact ⟨a, ns, rfl, hs, c _ _ _ _ h (Step.refl _ _) R (.bl _)⟩
/-! ### methods of lists -/
@[irreducible] def IsLst (d : D) (G : GH) : Prop := (∃ ds, d = .lst ds) ∨ ∃ a ds, d = .ref a ∧ G a = some (.lst ds)
theorem IsLst_r {a : Addr} {ds : List D} {G : GH} (h : G a = some (.lst ds)) : IsLst (.ref a) G := by unfold IsLst; exact .inr ⟨a, ds, rfl, h⟩
theorem IsLst_v {ds : List D} {G : GH} : IsLst (.lst ds) G := by unfold IsLst; exact .inl ⟨ds, rfl⟩
theorem isLst_ty {K : PySem.W.Frag} {Z : ZS} {G : GH} {H : Hp} {d : D} {v : V} (R : Rel K Z G H) (r : Rl K Z G H d v) (h : IsLst d G) : tyV K "list" v H := by
  unfold IsLst at h
  rcases h with ⟨ds, rfl⟩ | ⟨a, ds, rfl, e⟩
  · cases r with
    | lst hx _ _ _ => exact .inl ⟨rfl, _, SqL.of hx⟩
  · obtain ⟨_, xs, hx, _⟩ := R.ob a _ e
    cases r
    exact .inl ⟨rfl, _, SqL.of hx⟩
abbrev MTD := D → List D → GH → QD → Prop
def MTOk (K : PySem.W.Frag) (r : V → List V → Hp → VK → Prop) (t : MTD) : Prop := ∀ Z G H d ds v vs q Q, Rel K Z G H → Rl K Z G H d v → RlA K Z G H ds vs → t d ds G q → ClE K Z G H q Q → r v vs H Q
def gBL (t : MTD) (to : TED) (ta : TAD) : TED := fun τ G x q => to τ G x fun d G1 => Sd (IsLst d G1) (ta τ G1 x fun ds G2 => t d ds G2 q)
def gBL0 (t : MTD) (to : TED) : TED := fun τ G x q => to τ G x fun d G1 => Sd (IsLst d G1) (t d [] G1 q)
section
variable {X : Cx} {W : WX} {o e : Expr} {es : List Expr} {to : TED} {ta : TAD} {t : MTD} {r : V → List V → Hp → VK → Prop}
theorem lf_bl {K : PySem.W.Frag} (h : MTOk K r t) {σ : L2.St} {H : Hp} {Q : VK} (w : Lf K W (gBL t to ta) σ H Q) : tBM K "list" r (Lf K W to) (LfA K W ta) σ H Q := by
  obtain ⟨Z, G, τ, x, q, S, R, hw, c, cx⟩ := w
  refine ⟨Z, G, τ, x, _, S, R, hw, fun d G1 H1 v q1 s1 R1 r1 => ?_, cx⟩
  obtain ⟨l1, q1⟩ := Sd_e q1
  refine ⟨isLst_ty R1 r1 l1, Z, G1, τ, x, _, S.mv (s1.mv R), R1, q1, fun ds G2 H2 vs q2 s2 R2 r2 => ?_, cx.step s1⟩
  exact h Z G2 H2 d ds v vs q Q R2 (r1.mv (s2.mv R1)) r2 q2 (c.step (s1.trans s2))
theorem lf_bl0 {K : PySem.W.Frag} (h : MTOk K r t) {σ : L2.St} {H : Hp} {Q : VK} (w : Lf K W (gBL0 t to) σ H Q) : tBM0 K "list" r (Lf K W to) σ H Q := by
  obtain ⟨Z, G, τ, x, q, S, R, hw, c, cx⟩ := w
  refine ⟨Z, G, τ, x, _, S, R, hw, fun d G1 H1 v q1 s1 R1 r1 => ?_, cx⟩
  obtain ⟨l1, q1⟩ := Sd_e q1
  exact ⟨isLst_ty R1 r1 l1, h Z G1 H1 d [] v [] q Q R1 r1 .nil q1 (c.step s1)⟩
end
/-- a list of the ledger is changed -/
theorem chg {K : PySem.W.Frag} {Z : ZS} {G : GH} {H : Hp} {a : Addr} {o : GO} {ds : List D} {xs : List V} {d : D} {v : V} {q : QD} {Q : VK} (R : Rel K Z G H) (e : G a = some o) (r : RlA K Z G H ds xs) (rd : Rl K Z G H d v) (h : q d (gup G a (.lst ds))) (c : ClE K Z G H q Q) : Q v (upd H a (.lst xs)) :=
  c _ _ _ _ h (step_set R e) (rel_set R e ⟨xs, upd_same, r.mv (mv_set R e)⟩) (rd.mv (mv_set R e))
/-- the list object of the ledger that a method changes -/
def Mu (d : D) (G : GH) (k : Addr → List D → Prop) : Prop := match d with
  | .ref a => LkL a G fun xs => k a xs
  | _ => False
theorem Mu_e {K : PySem.W.Frag} {Z : ZS} {G : GH} {H : Hp} {d : D} {v : V} {k : Addr → List D → Prop} (R : Rel K Z G H) (r : Rl K Z G H d v) (h : Mu d G k) : ∃ a xs ys, v = .ref a ∧ G a = some (.lst xs) ∧ H a = some (.lst ys) ∧ RlA K Z G H xs ys ∧ k a xs := by
  cases d with
  | ref a =>
    cases r
    obtain ⟨xs, e, h⟩ := LkL_e h
    obtain ⟨_, ys, hx, rx⟩ := R.ob a _ e
    exact ⟨a, xs, ys, rfl, e, hx, rx, h⟩
  | _ => exact (show False from h).elim
def mAppend : MTD := fun d ds G q => A1 ds fun y => Mu d G fun a xs => Sd (xs.length < sizeLine) (q .non (gup G a (.lst (xs ++ [y]))))
theorem ok_append {K : PySem.W.Frag} : MTOk K rAppend mAppend := by
  intro Z G H d ds v vs q Q R r rs h c
  obtain ⟨y, u, rfl, rfl, r1, h⟩ := A1_e rs h
  obtain ⟨a, xs, ys, rfl, e, hx, rx, h⟩ := Mu_e R r h
  obtain ⟨hl, h⟩ := Sd_e h
  exact ⟨a, ys, _, rfl, rfl, hx, by rw [← rx.length]; exact hl, chg R e (rx.append (.cons r1 .nil)) .non h c⟩
def mPop : MTD := fun d ds G q => A0 ds (Mu d G fun a xs => AtD xs (-1) fun y => q y (gup G a (.lst xs.dropLast)))
theorem atI_m1 {α : Type} {xs : List α} {y : α} (h : atI xs (-1) = some y) : xs[xs.length - 1]? = some y := by
  unfold atI ixN at h
  by_cases e : xs.length = 0
  · rw [if_neg (by omega), if_neg (by omega)] at h
    cases h
  · rw [if_neg (by omega), if_pos (by omega)] at h
    have e2 : (-1 + (xs.length : Int)).toNat = xs.length - 1 := by omega
    rw [e2] at h
    exact h
theorem ok_pop {K : PySem.W.Frag} : MTOk K rPop mPop := by
  intro Z G H d ds v vs q Q R r rs h c
  obtain ⟨rfl, h⟩ := A0_e rs h
  obtain ⟨a, xs, ys, rfl, e, hx, rx, h⟩ := Mu_e R r h
  obtain ⟨y, hy, h⟩ := AtD_e h
  obtain ⟨u, hu, ru⟩ := rx.get (atI_m1 hy)
  rw [rx.length] at hu
  exact ⟨a, ys, u, rfl, rfl, hx, hu, chg R e rx.dropLast ru h c⟩
def mPopAt : MTD := fun d ds G q => A1 ds fun x => I1 x fun i => Mu d G fun a xs => Sd (0 ≤ i ∧ i < 2 ^ 62) (AtD xs i fun y => q y (gup G a (.lst (xs.eraseIdx i.toNat))))
theorem atI_pos {α : Type} {xs : List α} {y : α} {i : Int} (h0 : 0 ≤ i) (h : atI xs i = some y) : xs[i.toNat]? = some y ∧ i < xs.length := by
  unfold atI ixN at h
  rw [if_pos h0] at h
  by_cases e : i < xs.length
  · rw [if_pos e] at h
    exact ⟨h, e⟩
  · rw [if_neg e] at h
    cases h
theorem seqIx_pos {n : Nat} {i : Int} (h0 : 0 ≤ i) (h : i < n) : seqIndex? i n = some i.toNat := by
  have e : ixN n i = some i.toNat := by
    unfold ixN
    rw [if_pos h0, if_pos h]
  exact (ixN_seq e).1
theorem ok_popAt {K : PySem.W.Frag} : MTOk K rPopAt mPopAt := by
  intro Z G H d ds v vs q Q R r rs h c
  obtain ⟨x, u, rfl, rfl, r1, h⟩ := A1_e rs h
  obtain ⟨i, rfl, rfl, h⟩ := I1_e r1 h
  obtain ⟨a, xs, ys, rfl, e, hx, rx, h⟩ := Mu_e R r h
  obtain ⟨⟨h0, h1⟩, h⟩ := Sd_e h
  obtain ⟨y, hy, h⟩ := AtD_e h
  obtain ⟨hy1, hy2⟩ := atI_pos h0 hy
  obtain ⟨u, hu, ru⟩ := rx.get hy1
  exact ⟨a, ys, i, i.toNat, u, rfl, rfl, hx, by omega, by omega, seqIx_pos h0 (by rw [← rx.length]; exact hy2), hu, chg R e (rx.eraseIdx _) ru h c⟩
def mInsert : MTD := fun d ds G q => A2 ds fun x y => I1 x fun i => Mu d G fun a xs => Sd (xs.length < sizeLine ∧ 0 ≤ i ∧ i < 2 ^ 63) (q .non (gup G a (.lst (xs.take i.toNat ++ [y] ++ xs.drop i.toNat))))
def rInsert : V → List V → Hp → VK → Prop := fun x vs H Q => ∃ (l : Addr) (xs : List V) (i : Int) (y : V), x = .ref l ∧ vs = [.int i, y] ∧ H l = some (.lst xs) ∧ xs.length < sizeLine ∧ 0 ≤ i ∧ i < 2 ^ 63 ∧
    Q .non (upd H l (.lst (xs.take i.toNat ++ [y] ++ xs.drop i.toNat)))
theorem ok_insert {K : PySem.W.Frag} : MTOk K rInsert mInsert := by
  intro Z G H d ds v vs q Q R r rs h c
  obtain ⟨x, y, u, w, rfl, rfl, r1, r2, h⟩ := A2_e rs h
  obtain ⟨i, rfl, rfl, h⟩ := I1_e r1 h
  obtain ⟨a, xs, ys, rfl, e, hx, rx, h⟩ := Mu_e R r h
  obtain ⟨⟨hl, h0, h1⟩, h⟩ := Sd_e h
  exact ⟨a, ys, i, w, rfl, rfl, hx, by rw [← rx.length]; exact hl, h0, h1, chg R e (((rx.take _).append (.cons r2 .nil)).append (rx.drop _)) .non h c⟩
/-- xs[i] = v -/
abbrev TSetD := D → D → D → GH → (GH → Prop) → Prop
def sSet : TSetD := fun o i v G q => I1 i fun k => Mu o G fun a xs => Sd (0 ≤ k ∧ k < xs.length) (q (gup G a (.lst (xs.set k.toNat v))))
def hSub (to ti : TED) (t : TSetD) : TGD := fun v τ G q => to τ G (fun _ _ _ => False) fun o G1 => ti τ G1 (fun _ _ _ => False) fun i G2 => t o i v G2 fun G3 => q τ G3
theorem pgd_sub {X : Cx} {o i : Expr} {to ti : TED} {pos : Pos} (ho : PEd X (fun _ _ _ _ => False) o to) (hi : PEd X (fun _ _ _ _ => False) i ti)
    (ha : ∀ v, assign (.Subscript o i pos) X.env v = (do
      let ov ← holding [v] (eval o X.env)
      let iv ← holding [v, ov] (eval i X.env)
      standAt pos
      holding [v, ov, iv] (setItem ov iv v)
      release [v, ov, iv] []) := by intro _; rfl) : PGd X (.Subscript o i pos) (hSub to ti sSet) := PGi (pg_sub ho hi set_list ha) fun v σ H Q => by
  rintro ⟨Z, G, τ, d, q, S, R, r, h, c⟩
  refine ⟨Z, G, τ, _, _, S, R, h, fun od G1 H1 ov q1 s1 R1 r1 => ?_, fun _ _ _ _ _ _ z => z.elim⟩
  refine ⟨Z, G1, τ, _, _, S.mv (s1.mv R), R1, q1, fun ix G2 H2 iv q2 s2 R2 r2 => ?_, fun _ _ _ _ _ _ z => z.elim⟩
  have s12 := s1.trans s2
  obtain ⟨k, rfl, rfl, q2⟩ := I1_e r2 q2
  obtain ⟨a, xs, ys, rfl, e, hx, rx, q2⟩ := Mu_e R2 (r1.mv (s2.mv R1)) q2
  obtain ⟨⟨h0, h1⟩, q2⟩ := Sd_e q2
  refine ⟨a, ys, k, k.toNat, rfl, rfl, hx, ?_, ?_⟩
  · unfold ixN
    rw [if_pos h0, if_pos (by rw [← rx.length]; exact h1)]
  · have s3 := step_set (u := .lst (ys.set k.toNat v)) (o' := .lst (xs.set k.toNat d)) R2 e
    exact c _ _ _ _ q2 (s12.trans s3) (rel_set R2 e ⟨_, upd_same, (rx.set (r.mv (s12.mv R)) _).mv (s3.mv R2)⟩) (S.mv ((s12.trans s3).mv R))
section
variable {X : Cx} {W : WX} {o e : Expr} {es : List Expr} {to : TED} {ta : TAD}
end
end N
namespace N
open PySem PySem.Spec PyProof.Rows L2
section
variable {X : Cx} {W : WX} {o e : Expr} {es : List Expr} {to : TED} {ta : TAD} {name : Str} {apos cpos : Pos} {id : String} {r : V → List V → Hp → VK → Prop} {t : MTD}
theorem pd_blm0 (pa : PlainAttrs "list") (slot : Slot "list" name id) (hty : typeOf (.builtin id) = pure (.type "method_descriptor")) (hm : MtR X id r) (ok : MTOk X.K r t) (ho : PEd X W o to)
    (hbase : attributeBase o name X.env (eval o X.env) = eval o X.env := by rfl) (hline : (apos.endLine == cpos.line) = true := by rfl) : PEd X W (.Call (.Attribute o name apos) [] [] cpos) (gBL0 t to) :=
  PEi (pe_bm0 pa slot hty hm ho hbase hline) fun _ _ _ w => lf_bl0 ok w
theorem pd_blm (pa : PlainAttrs "list") (slot : Slot "list" name id) (hty : typeOf (.builtin id) = pure (.type "method_descriptor")) (hm : MtR X id r) (ok : MTOk X.K r t) (ho : PEd X W o to) (ha : PAd X W (e :: es) ta)
    (hbase : attributeBase o name X.env (eval o X.env) = eval o X.env := by rfl)
    (hfew : ((backTo cpos (starEach (e :: es) X.env)).all (fun x => !x.1) && (backToKw cpos (keywordEach [] X.env)).all (fun x => x.1.isSome)
      && decide ((e :: es).length + ([] : List Keyword).length + (if ([] : List Keyword).isEmpty then 0 else 1) < 30)) = true := by rfl)
    (hline : (apos.endLine == cpos.line) = true := by rfl) (hs : starEach (e :: es) X.env = (false, eval e X.env) :: starEach es X.env := by rfl) (hplain : (backTo cpos (starEach es X.env)).any (·.1) = false := by rfl) :
    PEd X W (.Call (.Attribute o name apos) (e :: es) [] cpos) (gBL t to ta) := PEi (pe_bm pa slot hty hm ho ha hbase hfew hline hs hplain) fun _ _ _ w => lf_bl ok w
theorem pd_append (ho : PEd X W o to) (ha : PAd X W [e] ta) (hbase : attributeBase o "append" X.env (eval o X.env) = eval o X.env := by rfl) (hline : (apos.endLine == cpos.line) = true := by rfl)
    (hfew : ((backTo cpos (starEach [e] X.env)).all (fun x => !x.1) && (backToKw cpos (keywordEach [] X.env)).all (fun x => x.1.isSome)
      && decide ([e].length + ([] : List Keyword).length + (if ([] : List Keyword).isEmpty then 0 else 1) < 30)) = true := by rfl) (hs : starEach [e] X.env = (false, eval e X.env) :: starEach [] X.env := by rfl) :
    PEd X W (.Call (.Attribute o "append" apos) [e] [] cpos) (gBL mAppend to ta) := pd_blm PySem.F.plainAttrs_list PySem.F.slot_list_append PySem.F.type_list_append mt_append ok_append ho ha hbase hfew hline hs
theorem pd_pop (ho : PEd X W o to) (hbase : attributeBase o "pop" X.env (eval o X.env) = eval o X.env := by rfl) (hline : (apos.endLine == cpos.line) = true := by rfl) : PEd X W (.Call (.Attribute o "pop" apos) [] [] cpos) (gBL0 mPop to) :=
  pd_blm0 PySem.F.plainAttrs_list PySem.F.slot_list_pop PySem.F.type_list_pop mt_pop ok_pop ho hbase hline
theorem pd_popAt (ho : PEd X W o to) (ha : PAd X W [e] ta) (hbase : attributeBase o "pop" X.env (eval o X.env) = eval o X.env := by rfl) (hline : (apos.endLine == cpos.line) = true := by rfl)
    (hfew : ((backTo cpos (starEach [e] X.env)).all (fun x => !x.1) && (backToKw cpos (keywordEach [] X.env)).all (fun x => x.1.isSome)
      && decide ([e].length + ([] : List Keyword).length + (if ([] : List Keyword).isEmpty then 0 else 1) < 30)) = true := by rfl) (hs : starEach [e] X.env = (false, eval e X.env) :: starEach [] X.env := by rfl) :
    PEd X W (.Call (.Attribute o "pop" apos) [e] [] cpos) (gBL mPopAt to ta) := pd_blm PySem.F.plainAttrs_list PySem.F.slot_list_pop PySem.F.type_list_pop mt_popAt ok_popAt ho ha hbase hfew hline hs
end
/-! ### what is walked -/
abbrev TID := SD → GH → XD → (List D → (GH → Prop) → GH → Prop) → Prop
structure ItOk (J : It) (K : PySem.W.Frag) (ds : List D) (stay : GH → Prop) (Z0 : ZS) (G0 : GH) (H0 : Hp) : Prop where
  go : ∀ Z i G H, i < ds.length → Mv Z0 Z G0 G H0 H → Rel K Z G H → stay G → J.go i H
  yld : ∀ Z i G H x H', i < ds.length → Mv Z0 Z G0 G H0 H → Rel K Z G H → stay G → J.yld i H x H' → ∃ d, ds[i]? = some d ∧ Step G H G H' ∧ Rel K Z G H' ∧ Rl K Z G H' d x
  stop : ∀ Z G H, Mv Z0 Z G0 G H0 H → Rel K Z G H → stay G → J.stop ds.length H
def LfI (K : PySem.W.Frag) (W : WX) (t : TID) : TI := fun σ H R => ∃ Z G τ x q, StR K Z G H τ σ ∧ Rel K Z G H ∧ t τ G x q ∧
  (∀ ds stay G' H' J, q ds stay G' → Step G H G' H' → Rel K Z G' H' → ItOk J K ds stay Z G' H' → R J H') ∧ ClX K Z G H x W σ
abbrev PId (X : Cx) (W : WX) (tg iter : Expr) (t : TID) : Prop := PI X tg iter (LfI X.K W t)
theorem PIi {X : Cx} {tg iter : Expr} {t u : TI} (h : PI X tg iter t) (i : ∀ σ H R, u σ H R → t σ H R) : PI X tg iter u := ⟨fun pins s σ H R I hw => h.run pins s σ H R I (i _ _ _ hw)⟩
section
variable {X : Cx} {W : WX} {tg iter e : Expr} {t : TED} {ta : TAD} {p pos : Pos}
/-- a list, a tuple, the script -/
def iSeq (t : TED) : TID := fun τ G x q => t τ G x fun d G1 => match d with
  | .lst ds => q ds (fun _ => True) G1
  | .ro ds => q ds (fun _ => True) G1
  | .ref a => LkL a G1 fun ds => q ds (fun G => G a = some (.lst ds)) G1
  | _ => False
def iTupD (t : TED) : TID := fun τ G x q => t τ G x fun d G1 => match d with
  | .tup ds => q ds (fun _ => True) G1
  | _ => False
theorem itl_ok {K : PySem.W.Frag} {a : Addr} {ds : List D} {stay : GH → Prop} {Z0 : ZS} {G0 : GH} {H0 : Hp}
    (h : ∀ Z G H, Mv Z0 Z G0 G H0 H → Rel K Z G H → stay G → ∃ xs, SqL K H a xs ∧ RlA K Z G H ds xs) : ItOk (Itl K a) K ds stay Z0 G0 H0 := by
  refine ⟨fun Z i G H hi m R s => ?_, fun Z i G H x H' hi m R s y => ?_, fun Z G H m R s => ?_⟩
  · obtain ⟨xs, h1, h2⟩ := h Z G H m R s
    obtain ⟨v, hv, _⟩ := h2.get (List.getElem?_eq_getElem hi)
    exact ⟨xs, v, h1, hv⟩
  · obtain ⟨xs, h1, h2⟩ := h Z G H m R s
    obtain ⟨e, y⟩ := y
    subst e
    obtain ⟨d, hd, r⟩ := h2.getV (y xs h1)
    exact ⟨d, hd, Step.refl _ _, R, r⟩
  · obtain ⟨xs, h1, h2⟩ := h Z G H m R s
    exact ⟨xs, h1, by rw [h2.length]; exact Nat.le_refl _⟩
theorem itt_ok {K : PySem.W.Frag} {a : Addr} {ds : List D} {stay : GH → Prop} {Z0 : ZS} {G0 : GH} {H0 : Hp}
    (h : ∀ Z G H, Mv Z0 Z G0 G H0 H → Rel K Z G H → stay G → ∃ xs, SqT K H a xs ∧ RlA K Z G H ds xs) : ItOk (Itt K a) K ds stay Z0 G0 H0 := by
  refine ⟨fun Z i G H hi m R s => ?_, fun Z i G H x H' hi m R s y => ?_, fun Z G H m R s => ?_⟩
  · obtain ⟨xs, h1, h2⟩ := h Z G H m R s
    obtain ⟨v, hv, _⟩ := h2.get (List.getElem?_eq_getElem hi)
    exact ⟨xs, v, h1, hv⟩
  · obtain ⟨xs, h1, h2⟩ := h Z G H m R s
    obtain ⟨e, y⟩ := y
    subst e
    obtain ⟨d, hd, r⟩ := h2.getV (y xs h1)
    exact ⟨d, hd, Step.refl _ _, R, r⟩
  · obtain ⟨xs, h1, h2⟩ := h Z G H m R s
    exact ⟨xs, h1, by rw [h2.length]; exact Nat.le_refl _⟩
theorem pid_seq (he : PEd X W e t) : PId X W tg e (iSeq t) := PIi (pi_list he) fun σ H R' => by
  rintro ⟨Z, G, τ, x, q, S, R, h, c, cx⟩
  refine ⟨Z, G, τ, x, _, S, R, h, fun d G1 H1 v q1 s1 R1 r1 => ?_, cx⟩
  cases d with
  | lst ds =>
    cases r1 with
    | @lst a xs _ hx hg hz rx =>
      refine ⟨_, rfl, ⟨_, SqL.of hx⟩, c ds _ G1 H1 _ q1 s1 R1 (itl_ok fun Z G H m R _ => ⟨xs, SqL.of (m.all _ _ hx hg hz).1, rx.mv m⟩)⟩
  | ro ds =>
    cases r1 with
    | @ro a xs _ hx rx => exact ⟨_, rfl, ⟨_, hx.sq⟩, c ds _ G1 H1 _ q1 s1 R1 (itl_ok fun Z G H m R _ => ⟨xs, (hx.mv m.frzs).sq, rx.mv m⟩)⟩
  | ref a =>
    obtain ⟨ds, e, q1⟩ := LkL_e q1
    obtain ⟨_, xs, hx, rx⟩ := R1.ob a _ e
    cases r1
    refine ⟨_, rfl, ⟨_, SqL.of hx⟩, c ds _ G1 H1 _ q1 s1 R1 (itl_ok fun Z G H m R s => ?_)⟩
    obtain ⟨_, ys, hy, ry⟩ := R.ob a _ s
    exact ⟨ys, SqL.of hy, ry⟩
  | _ => exact (show False from q1).elim
theorem pid_tup (he : PEd X W e t) : PId X W tg e (iTupD t) := PIi (pi_tup he) fun σ H R' => by
  rintro ⟨Z, G, τ, x, q, S, R, h, c, cx⟩
  refine ⟨Z, G, τ, x, _, S, R, h, fun d G1 H1 v q1 s1 R1 r1 => ?_, cx⟩
  cases d with
  | tup ds =>
    cases r1 with
    | @tup a xs _ hx rx => exact ⟨_, rfl, ⟨_, hx⟩, c ds _ G1 H1 _ q1 s1 R1 (itt_ok fun Z G H m R _ => ⟨xs, SqT.mv (fun ys => m.tups _ ys) (fun ob w => m.frzs _ ob w) hx, rx.mv m⟩)⟩
  | _ => exact (show False from q1).elim
/-- a text, sign by sign -/
def signs (s : Str) : List D := s.cps.toList.map fun c => .str ⟨#[c]⟩
def iStrD (t : TED) : TID := fun τ G x q => t τ G x fun d G1 => match d with
  | .str s => q (signs s) (fun _ => True) G1
  | _ => False
theorem pid_str (he : PEd X W e t) : PId X W tg e (iStrD t) := PIi (pi_str he) fun σ H R' => by
  rintro ⟨Z, G, τ, x, q, S, R, h, c, cx⟩
  refine ⟨Z, G, τ, x, _, S, R, h, fun d G1 H1 v q1 s1 R1 r1 => ?_, cx⟩
  cases d with
  | str s =>
    cases r1
    have hl : (signs s).length = s.cps.size := by unfold signs; rw [List.length_map, Array.length_toList]
    refine ⟨s, rfl, c _ _ G1 H1 _ q1 s1 R1 ⟨fun Z i G H hi m R _ => ?_, fun Z i G H x H' hi m R _ y => ?_, fun Z G H m R _ => ?_⟩⟩
    · show i < s.cps.size
      rw [← hl]; exact hi
    · obtain ⟨e, k, hk, ev⟩ := y
      subst e ev
      refine ⟨.str ⟨#[k]⟩, ?_, Step.refl _ _, R, .str _⟩
      unfold signs
      rw [List.getElem?_map, Array.getElem?_toList, hk]
      rfl
    · show s.cps.size ≤ _
      rw [hl]; exact Nat.le_refl _
  | _ => exact (show False from q1).elim
/-- range(n), range(a, b) -/
def rngD (lo : Int) (n : Nat) : List D := (List.range n).map fun (i : Nat) => .int (lo + (i : Int))
theorem rng_len {lo : Int} {n : Nat} : (rngD lo n).length = n := by unfold rngD; rw [List.length_map, List.length_range]
theorem rng_at {lo : Int} {n i : Nat} (h : i < n) : (rngD lo n)[i]? = some (.int (lo + (i : Int))) := by
  unfold rngD
  rw [List.getElem?_map, List.getElem?_range h]
  rfl
theorem itr_ok {K : PySem.W.Frag} {lo : Int} {n : Nat} {Z0 : ZS} {G0 : GH} {H0 : Hp} : ItOk (Itr lo n) K (rngD lo n) (fun _ => True) Z0 G0 H0 := by
  refine ⟨fun Z i G H hi m R _ => ?_, fun Z i G H x H' hi m R _ y => ?_, fun Z G H m R _ => ?_⟩
  · rw [rng_len] at hi; exact hi
  · rw [rng_len] at hi
    obtain ⟨e, ev⟩ := y
    subst e ev
    exact ⟨_, rng_at hi, Step.refl _ _, R, .int _⟩
  · rw [rng_len]; exact Nat.le_refl _
def iRng1D (ta : TAD) : TID := fun τ G x q => ta τ G x fun ds G1 => A1 ds fun d => I1 d fun j => Sd (-(2 ^ 62) ≤ j ∧ j < 2 ^ 62) (q (rngD 0 j.toNat) (fun _ => True) G1)
def iRng2D (ta : TAD) : TID := fun τ G x q => ta τ G x fun ds G1 => A2 ds fun d e => I1 d fun i => I1 e fun j => Sd (-(2 ^ 62) ≤ i ∧ i < 2 ^ 62 ∧ -(2 ^ 62) ≤ j ∧ j < 2 ^ 62) (q (rngD i (j - i).toNat) (fun _ => True) G1)
theorem pid_rng1 {a : Expr} (hg : Gl X "range") (hm : X.mg "range" = none) (ha : PAd X W [a] ta) (hs : starEach [a] X.env = [(false, eval a X.env)] := by rfl) : PId X W tg (.Call (.Name "range" p) [a] [] pos) (iRng1D ta) :=
  PIi (pi_range1 hg hm ha hs) fun σ H R' => by
    rintro ⟨Z, G, τ, x, q, S, R, h, c, cx⟩
    refine ⟨Z, G, τ, x, _, S, R, h, fun ds G1 H1 vs q1 s1 R1 r1 => ?_, cx⟩
    obtain ⟨d, v, rfl, rfl, r, q1⟩ := A1_e r1 q1
    obtain ⟨j, rfl, rfl, q1⟩ := I1_e r q1
    obtain ⟨⟨h1, h2⟩, q1⟩ := Sd_e q1
    exact ⟨j, rfl, h1, h2, c _ _ G1 H1 _ q1 s1 R1 itr_ok⟩
theorem pid_rng2 {a b : Expr} (hg : Gl X "range") (hm : X.mg "range" = none) (ha : PAd X W [a, b] ta) (hs : starEach [a, b] X.env = [(false, eval a X.env), (false, eval b X.env)] := by rfl) (hs2 : starEach [b] X.env = [(false, eval b X.env)] := by rfl) :
    PId X W tg (.Call (.Name "range" p) [a, b] [] pos) (iRng2D ta) := PIi (pi_range2 hg hm ha hs hs2) fun σ H R' => by
  rintro ⟨Z, G, τ, x, q, S, R, h, c, cx⟩
  refine ⟨Z, G, τ, x, _, S, R, h, fun ds G1 H1 vs q1 s1 R1 r1 => ?_, cx⟩
  obtain ⟨d, e, v, u, rfl, rfl, r, r', q1⟩ := A2_e r1 q1
  obtain ⟨i, rfl, rfl, q1⟩ := I1_e r q1
  obtain ⟨j, rfl, rfl, q1⟩ := I1_e r' q1
  obtain ⟨hb, q1⟩ := Sd_e q1
  exact ⟨i, j, rfl, hb, c _ _ G1 H1 _ q1 s1 R1 itr_ok⟩
/-- enumerate(list), zip(list, list): new pairs -/
theorem pair_rl {K : PySem.W.Frag} {Z : ZS} {G : GH} {H : Hp} {T : Addr} {d e : D} {v u : V} (R : Rel K Z G H) (hT : H T = none) (r1 : Rl K Z G H d v) (r2 : Rl K Z G H e u) :
    Step G H G (upd H T (.tup [v, u])) ∧ Rel K Z G (upd H T (.tup [v, u])) ∧ Rl K Z G (upd H T (.tup [v, u])) (.tup [d, e]) (.ref T) := by
  have s := step_new (u := HO.tup [v, u]) R hT
  exact ⟨s, rel_new R hT, .tup (SqT.of upd_same) (.cons (r1.mv (s.mv R)) (.cons (r2.mv (s.mv R)) .nil))⟩
def enumD (ds : List D) : List D := (List.range ds.length).zipWith (fun (i : Nat) d => .tup [.int (i : Int), d]) ds
theorem enum_len {ds : List D} : (enumD ds).length = ds.length := by unfold enumD; simp
theorem enum_at {ds : List D} {i : Nat} {d : D} (h : ds[i]? = some d) : (enumD ds)[i]? = some (.tup [.int (i : Int), d]) := by
  have hl := (List.getElem?_eq_some_iff.mp h).1
  unfold enumD
  rw [List.getElem?_zipWith, List.getElem?_range hl, h]
/-- the list that is read at every turn -/
def lstAt (d : D) (G : GH) (k : List D → (GH → Prop) → Prop) : Prop := match d with
  | .lst ds => k ds (fun _ => True)
  | .ro ds => k ds (fun _ => True)
  | .ref a => LkL a G fun ds => k ds fun G => G a = some (.lst ds)
  | _ => False
theorem lstAt_e {K : PySem.W.Frag} {Z : ZS} {G : GH} {H : Hp} {d : D} {v : V} {k : List D → (GH → Prop) → Prop} (R : Rel K Z G H) (r : Rl K Z G H d v) (h : lstAt d G k) :
    ∃ a xs ds stay, v = .ref a ∧ SqL K H a xs ∧ k ds stay ∧ ∀ Z' G' H', Mv Z Z' G G' H H' → Rel K Z' G' H' → stay G' → ∃ xs, SqL K H' a xs ∧ RlA K Z' G' H' ds xs := by
  cases d with
  | lst ds =>
    cases r with
    | @lst a xs _ hx hg hz rx => exact ⟨_, xs, ds, _, rfl, SqL.of hx, h, fun Z' G' H' m _ _ => ⟨xs, SqL.of (m.all _ _ hx hg hz).1, rx.mv m⟩⟩
  | ro ds =>
    cases r with
    | @ro a xs _ hx rx => exact ⟨_, xs, ds, _, rfl, hx.sq, h, fun Z' G' H' m _ _ => ⟨xs, (hx.mv m.frzs).sq, rx.mv m⟩⟩
  | ref a =>
    obtain ⟨ds, e, h⟩ := LkL_e h
    obtain ⟨_, xs, hx, rx⟩ := R.ob a _ e
    cases r
    refine ⟨a, xs, ds, _, rfl, SqL.of hx, h, fun Z' G' H' m R' s => ?_⟩
    obtain ⟨_, ys, hy, ry⟩ := R'.ob a _ s
    exact ⟨ys, SqL.of hy, ry⟩
  | _ => exact (show False from h).elim
def iEnumD (ta : TAD) : TID := fun τ G x q => ta τ G x fun as G1 => A1 as fun d => lstAt d G1 fun ds stay => q (enumD ds) stay G1
theorem pid_enum {e : Expr} {tpos : Pos} {elts : List Expr} {kk : Nat} (hg : Gl X "enumerate") (hm : X.mg "enumerate" = none) (ha : PAd X W [e] ta) (hs : starEach [e] X.env = [(false, eval e X.env)] := by rfl) :
    PId X W (.Tuple elts kk tpos) (.Call (.Name "enumerate" p) [e] [] pos) (iEnumD ta) := PIi (pi_enum hg hm ha hs) fun σ H R' => by
  rintro ⟨Z, G, τ, x, q, S, R, h, c, cx⟩
  refine ⟨Z, G, τ, x, _, S, R, h, fun ds G1 H1 vs q1 s1 R1 r1 => ?_, cx⟩
  obtain ⟨d, v, rfl, rfl, r, q1⟩ := A1_e r1 q1
  obtain ⟨a, xs, ds, stay, rfl, hx, q1, hk⟩ := lstAt_e R1 r q1
  refine ⟨a, xs, rfl, hx, c _ _ G1 H1 _ q1 s1 R1 ⟨fun Z i G H hi m R s => ?_, fun Z i G H x H' hi m R s y => ?_, fun Z G H m R s => ?_⟩⟩
  · rw [enum_len] at hi
    obtain ⟨ys, hy, ry⟩ := hk Z G H m R s
    obtain ⟨w, hw, _⟩ := ry.get (List.getElem?_eq_getElem hi)
    exact ⟨ys, w, hy, hw⟩
  · obtain ⟨ys, hy, ry⟩ := hk Z G H m R s
    obtain ⟨T, w, ev, hT, eH, hw⟩ := y
    subst ev eH
    obtain ⟨d, hd, rd⟩ := ry.getV (hw ys hy)
    obtain ⟨a1, a2, a3⟩ := pair_rl R hT (.int (i : Int)) rd
    exact ⟨_, enum_at hd, a1, a2, a3⟩
  · obtain ⟨ys, hy, ry⟩ := hk Z G H m R s
    exact ⟨ys, hy, by rw [enum_len, ry.length]; exact Nat.le_refl _⟩
def zipD (ds es : List D) : List D := ds.zipWith (fun d e => .tup [d, e]) es
def iZipD (ta : TAD) : TID := fun τ G x q => ta τ G x fun as G1 => A2 as fun d e => lstAt d G1 fun ds st1 => lstAt e G1 fun es st2 => q (zipD ds es) (fun G => st1 G ∧ st2 G) G1
theorem zip_at {ds es : List D} {i : Nat} {d e : D} (h1 : ds[i]? = some d) (h2 : es[i]? = some e) : (zipD ds es)[i]? = some (.tup [d, e]) := by
  unfold zipD
  rw [List.getElem?_zipWith, h1, h2]
theorem pid_zip {e e2 : Expr} {tpos : Pos} {elts : List Expr} {kk : Nat} (hg : Gl X "zip") (hm : X.mg "zip" = none) (ha : PAd X W [e, e2] ta)
    (hs : starEach [e, e2] X.env = (false, eval e X.env) :: starEach [e2] X.env := by rfl) (hpl : (backTo pos (starEach [e2] X.env)).any (·.1) = false := by rfl) :
    PId X W (.Tuple elts kk tpos) (.Call (.Name "zip" p) [e, e2] [] pos) (iZipD ta) := PIi (pi_zip hg hm ha hs hpl) fun σ H R' => by
  rintro ⟨Z, G, τ, x, q, S, R, h, c, cx⟩
  refine ⟨Z, G, τ, x, _, S, R, h, fun ds G1 H1 vs q1 s1 R1 r1 => ?_, cx⟩
  obtain ⟨d, e, v, u, rfl, rfl, r, r', q1⟩ := A2_e r1 q1
  obtain ⟨a, xs, ds, st1, rfl, hx, q1, hk⟩ := lstAt_e R1 r q1
  obtain ⟨b, ys, es, st2, rfl, hy, q1, hk'⟩ := lstAt_e R1 r' q1
  have hl : (zipD ds es).length = min ds.length es.length := by unfold zipD; rw [List.length_zipWith]
  refine ⟨a, b, xs, ys, rfl, hx, hy, c _ _ G1 H1 _ q1 s1 R1 ⟨fun Z i G H hi m R s => ?_, fun Z i G H x H' hi m R s y => ?_, fun Z G H m R s => ?_⟩⟩
  · rw [hl] at hi
    obtain ⟨xs, hx, rx⟩ := hk Z G H m R s.1
    obtain ⟨ys, hy, ry⟩ := hk' Z G H m R s.2
    obtain ⟨w, hw, _⟩ := rx.get (List.getElem?_eq_getElem (show i < ds.length by omega))
    obtain ⟨w', hw', _⟩ := ry.get (List.getElem?_eq_getElem (show i < es.length by omega))
    exact ⟨xs, ys, w, w', hx, hy, hw, hw'⟩
  · obtain ⟨xs, hx, rx⟩ := hk Z G H m R s.1
    obtain ⟨ys, hy, ry⟩ := hk' Z G H m R s.2
    obtain ⟨T, w, w', ev, hT, eH, hw, hw'⟩ := y
    subst ev eH
    obtain ⟨d, hd, rd⟩ := rx.getV (hw xs hx)
    obtain ⟨e, he, re⟩ := ry.getV (hw' ys hy)
    obtain ⟨a1, a2, a3⟩ := pair_rl R hT rd re
    exact ⟨_, zip_at hd he, a1, a2, a3⟩
  · obtain ⟨xs, hx, rx⟩ := hk Z G H m R s.1
    obtain ⟨ys, hy, ry⟩ := hk' Z G H m R s.2
    refine ⟨xs, ys, hx, hy, ?_⟩
    rw [hl, ← rx.length, ← ry.length]
    omega
end
/-! ### for -/
@[irreducible] def ForD (ds : List D) (stay : GH → Prop) (g : TGD) (tb : TSD) (e : EndsD) (τ : SD) (G : GH) : Prop := ∃ P : Nat → SD → GH → Prop, P 0 τ G ∧ (∀ i τ G, i ≤ ds.length → P i τ G → stay G) ∧
  (∀ i d τ G, ds[i]? = some d → P i τ G → g d τ G fun τ2 G2 => tb { e with nx := P (i + 1), ct := P (i + 1), bk := e.nx } τ2 G2) ∧ ∀ τ G, P ds.length τ G → e.nx τ G
theorem ForD_i {ds : List D} {stay : GH → Prop} {g : TGD} {tb : TSD} {e : EndsD} {τ : SD} {G : GH} (P : Nat → SD → GH → Prop) (h0 : P 0 τ G) (hl : ∀ i τ G, i ≤ ds.length → P i τ G → stay G)
    (hs : ∀ i d τ G, ds[i]? = some d → P i τ G → g d τ G fun τ2 G2 => tb { e with nx := P (i + 1), ct := P (i + 1), bk := e.nx } τ2 G2) (hd : ∀ τ G, P ds.length τ G → e.nx τ G) : ForD ds stay g tb e τ G := by
  unfold ForD
  exact ⟨P, h0, hl, hs, hd⟩
def gFor (wi : TID) (g : TGD) (tb : TSD) : TSD := fun e τ G => wi τ G (xOf e τ) fun ds stay G1 => ForD ds stay g tb e τ G1
theorem psd_for {X : Cx} {W : WX} {tg iter : Expr} {body : List Stmt} {wi : TID} {g : TGD} {tb : TSD} {pos : Pos} (hp : PassesOwn (model X.prog X.w) X.A X.env X.xe) (hc : X.calm = true) (hi : PId X W tg iter wi) (hg : PGd X tg g) (hb : PSsd X W body tb)
    (hs : ∀ x, foldedSetIterable iter X.env x = pure x := by intro _; rfl) : PSd X W (.For tg iter body [] pos) (gFor wi g tb) := PSi (ps_for hp hc hi hg hb hs) fun D σ H => by
  rintro ⟨Z, G, τ, e, S, R, h, c⟩
  refine ⟨Z, G, τ, _, _, S, R, h, fun ds stay G1 H1 J q1 s1 R1 it => ?_, c.ex.x R S⟩
  unfold ForD at q1
  obtain ⟨P, h0, hl, hs, hd⟩ := q1
  have c1 := c.step s1
  refine ⟨fun i m σ H => m = ds.length - i ∧ i ≤ ds.length ∧ ∃ G τ, Step G1 H1 G H ∧ StR X.K Z G H τ σ ∧ Rel X.K Z G H ∧ P i τ G, ⟨ds.length, by simp, Nat.zero_le _, G1, τ, Step.refl _ _, S.mv (s1.mv R), R1, h0⟩, ?_⟩
  rintro i m σ H ⟨rfl, hi, G, τ, s2, S2, R2, p⟩
  have m2 := s2.mv R1
  by_cases hlt : i < ds.length
  · refine .inr ⟨it.go Z i G H hlt m2 R2 (hl i τ G hi p), fun σ' H' => ∃ G' τ', Step G1 H1 G' H' ∧ StR X.K Z G' H' τ' σ' ∧ Rel X.K Z G' H' ∧ P (i + 1) τ' G', fun σ' H' ⟨G', τ', z⟩ => ⟨ds.length - (i + 1), by omega, rfl, hlt, G', τ', z⟩, fun x H' y => ?_⟩
    obtain ⟨d, hd', s3, R3, rd⟩ := it.yld Z i G H x H' hlt m2 R2 (hl i τ G hi p) y
    have s23 := s2.trans s3
    refine ⟨Z, G, τ, d, _, S2.mv (s3.mv R2), R3, rd, hs i d τ G hd' p, fun τ4 G4 H4 σ4 q4 s4 R4 S4 => ?_⟩
    have s24 := s23.trans s4
    refine ⟨Z, G4, τ4, _, S4, R4, q4, ?_, (c1.step s24).rt, (c1.step s24).nx, ?_, (c1.step s24).ex⟩
    · exact fun τ5 G5 H5 σ5 q5 s5 R5 S5 => ⟨G5, τ5, s24.trans s5, S5, R5, q5⟩
    · exact fun τ5 G5 H5 σ5 q5 s5 R5 S5 => ⟨G5, τ5, s24.trans s5, S5, R5, q5⟩
  · have e : i = ds.length := by omega
    subst e
    exact .inl ⟨it.stop Z G H m2 R2 (hl _ τ G hi p), c1.nx τ G H σ (hd τ G p) s2 R2 S2⟩
/-! ### while -/
@[irreducible] def WhileD (c : TTD) (tb : TSD) (e : EndsD) (τ : SD) (G : GH) : Prop := ∃ P : Nat → SD → GH → Prop, (∃ m, P m τ G) ∧ ∀ m τ G, P m τ G →
  c τ G (xOf e τ) fun b G1 => Cond b (tb { e with nx := fun τ' G' => ∃ m', m' < m ∧ P m' τ' G', ct := fun τ' G' => ∃ m', m' < m ∧ P m' τ' G', bk := e.nx } τ G1) (e.nx τ G1)
theorem WhileD_i {c : TTD} {tb : TSD} {e : EndsD} {τ : SD} {G : GH} (P : Nat → SD → GH → Prop) (m : Nat) (h0 : P m τ G)
    (hs : ∀ m τ G, P m τ G → c τ G (xOf e τ) fun b G1 => Cond b (tb { e with nx := fun τ' G' => ∃ m', m' < m ∧ P m' τ' G', ct := fun τ' G' => ∃ m', m' < m ∧ P m' τ' G', bk := e.nx } τ G1) (e.nx τ G1)) : WhileD c tb e τ G := by
  unfold WhileD
  exact ⟨P, ⟨m, h0⟩, hs⟩
def gWhile (c : TTD) (tb : TSD) : TSD := fun e τ G => WhileD c tb e τ G
theorem psd_while {X : Cx} {W : WX} {c : Expr} {body : List Stmt} {tc : TTD} {tb : TSD} {pos : Pos} (hp : PassesOwn (model X.prog X.w) X.A X.env X.xe) (hc : PTd X W c tc) (hb : PSsd X W body tb) : PSd X W (.While c body [] pos) (gWhile tc tb) :=
  PSi (ps_while hp hc hb) fun D σ H => by
    rintro ⟨Z, G, τ, e, S, R, h, c⟩
    unfold gWhile WhileD at h
    obtain ⟨P, ⟨m0, h0⟩, hs⟩ := h
    refine ⟨fun m σ H' => ∃ G' τ', Step G H G' H' ∧ StR X.K Z G' H' τ' σ ∧ Rel X.K Z G' H' ∧ P m τ' G', ⟨m0, G, τ, Step.refl _ _, S, R, h0⟩, ?_⟩
    rintro m σ1 H1 ⟨G1, τ1, s1, S1, R1, p⟩
    have c1 := c.step s1
    refine ⟨Z, G1, τ1, _, _, S1, R1, hs m τ1 G1 p, fun b G2 H2 q2 s2 R2 => ?_, c1.ex.x R1 S1⟩
    have q2 := Cond_e q2
    have s12 := s1.trans s2
    have c2 := c1.step s2
    have S2 := S1.mv (s2.mv R1)
    cases b with
    | true =>
      refine ⟨fun σ' H' => ∃ m', m' < m ∧ ∃ G' τ', Step G H G' H' ∧ StR X.K Z G' H' τ' σ' ∧ Rel X.K Z G' H' ∧ P m' τ' G', fun σ' H' ⟨m', l, z⟩ => ⟨m', l, z⟩, ?_⟩
      refine ⟨Z, G2, τ1, _, S2, R2, q2, ?_, c2.rt, c2.nx, ?_, c2.ex⟩
      · rintro τ5 G5 H5 σ5 ⟨m', l, p5⟩ s5 R5 S5
        exact ⟨m', l, G5, τ5, s12.trans s5, S5, R5, p5⟩
      · rintro τ5 G5 H5 σ5 ⟨m', l, p5⟩ s5 R5 S5
        exact ⟨m', l, G5, τ5, s12.trans s5, S5, R5, p5⟩
    | false => exact c2.nx _ _ _ _ q2 (Step.refl _ _) R2 S2
end N
namespace N
open PySem PySem.Spec PyProof.Rows L2
/-! ### list comprehensions -/
def wipeD (τ : SD) : List Nat → SD
  | [] => τ
  | v :: vs => (wipeD τ vs).set v none
theorem wipeD_len (τ : SD) : ∀ vs : List Nat, (wipeD τ vs).length = τ.length
  | [] => rfl
  | v :: vs => by unfold wipeD; rw [List.length_set, wipeD_len τ vs]
theorem wipe_at {σ : L2.St} {j : Nat} : ∀ {vs : List Nat}, (wipe σ vs)[j]? = if j ∈ vs ∧ j < σ.length then some none else σ[j]?
  | [] => by rw [if_neg (by simp)]; rfl
  | v :: vs => by
    unfold wipe
    by_cases e : v = j
    · subst e
      by_cases hl : v < σ.length
      · rw [if_pos ⟨List.mem_cons_self, hl⟩, List.getElem?_set_self (by rw [wipe_length]; exact hl)]
      · rw [if_neg (fun z => hl z.2), List.getElem?_eq_none (by rw [List.length_set, wipe_length]; omega), List.getElem?_eq_none (by omega)]
    · rw [List.getElem?_set_ne e, wipe_at]
      by_cases c : j ∈ vs ∧ j < σ.length
      · rw [if_pos c, if_pos ⟨List.mem_cons_of_mem _ c.1, c.2⟩]
      · rw [if_neg c, if_neg fun z => c ⟨(List.mem_cons.mp z.1).resolve_left (fun q => e q.symm), z.2⟩]
theorem wipeD_at {τ : SD} {j : Nat} {d : D} : ∀ {vs : List Nat}, (wipeD τ vs)[j]? = some (some d) → τ[j]? = some (some d) ∧ j ∉ vs
  | [], h => ⟨h, by simp⟩
  | v :: vs, h => by
    unfold wipeD at h
    by_cases e : v = j
    · subst e
      by_cases hl : v < (wipeD τ vs).length
      · rw [List.getElem?_set_self hl] at h
        cases h
      · rw [List.getElem?_eq_none (by rw [List.length_set]; omega)] at h
        cases h
    · rw [List.getElem?_set_ne e] at h
      obtain ⟨h1, h2⟩ := wipeD_at h
      exact ⟨h1, fun z => h2 ((List.mem_cons.mp z).resolve_left fun q => e q.symm)⟩
theorem wipe_set {σ : L2.St} {i : Nat} {o : Option V} {vs : List Nat} (h : i ∈ vs) : wipe (σ.set i o) vs = wipe σ vs := by
  apply List.ext_getElem?
  intro j
  rw [wipe_at, wipe_at, List.length_set]
  by_cases e : i = j
  · subst e
    by_cases hl : i < σ.length
    · rw [if_pos ⟨h, hl⟩, if_pos ⟨h, hl⟩]
    · rw [if_neg (fun z => hl z.2), if_neg (fun z => hl z.2), List.getElem?_eq_none (by rw [List.length_set]; omega), List.getElem?_eq_none (by omega)]
  · rw [List.getElem?_set_ne e]
theorem wipe_wipe {σ : L2.St} {vs : List Nat} : wipe (wipe σ vs) vs = wipe σ vs := by
  apply List.ext_getElem?
  intro j
  rw [wipe_at, wipe_length]
  by_cases c : j ∈ vs ∧ j < σ.length
  · rw [if_pos c, wipe_at, if_pos c]
  · rw [if_neg c]
theorem StR.wipe {K : PySem.W.Frag} {Z : ZS} {G : GH} {H : Hp} {τ : SD} {σ : L2.St} (S : StR K Z G H τ σ) (vs : List Nat) : StR K Z G H (wipeD τ vs) (L2.wipe σ vs) := by
  refine ⟨by rw [wipe_length, wipeD_len]; exact S.len, fun i d h => ?_⟩
  obtain ⟨h1, h2⟩ := wipeD_at h
  obtain ⟨v, hv, r⟩ := S.val i d h1
  exact ⟨v, by rw [wipe_at, if_neg fun z => h2 z.1]; exact hv, r⟩
/-- a target whose names are all the block's own -/
def GEx (K : PySem.W.Frag) (vs : List Nat) (g : TG) (h : TGD) : Prop := ∀ Z G H τ σ d v q (Q : L2.St → Hp → Prop), StR K Z G H τ σ → Rel K Z G H → Rl K Z G H d v → h d τ G q →
  (∀ τ' σ', q τ' G → StR K Z G H τ' σ' → wipe σ' vs = wipe σ vs → Q σ' H) → g v σ H Q
def GExs (K : PySem.W.Frag) (vs : List Nat) (g : TGs) (h : TGsD) : Prop := ∀ Z G H τ σ ds us q (Q : L2.St → Hp → Prop), StR K Z G H τ σ → Rel K Z G H → RlA K Z G H ds us → h ds τ G q →
  (∀ τ' σ', q τ' G → StR K Z G H τ' σ' → wipe σ' vs = wipe σ vs → Q σ' H) → g us σ H Q
theorem gex_name {K : PySem.W.Frag} {vs : List Nat} {i : Nat} (h : i ∈ vs) : GEx K vs (gName i) (hName i) := by
  intro Z G H τ σ d v q Q S R r hq c
  exact c _ _ hq (S.set i r) (wipe_set h)
theorem gexs_nil {K : PySem.W.Frag} {vs : List Nat} : GExs K vs L2.gNil hNil := by
  intro Z G H τ σ ds us q Q S R r hq c
  cases r with
  | nil => exact ⟨rfl, c _ _ hq S rfl⟩
  | cons _ _ => exact (show False from hq).elim
theorem gexs_cons {K : PySem.W.Frag} {vs : List Nat} {g : TG} {gs : TGs} {h : TGD} {hs : TGsD} (h1 : GEx K vs g h) (h2 : GExs K vs gs hs) : GExs K vs (L2.gCons g gs) (hCons h hs) := by
  intro Z G H τ σ ds us q Q S R r hq c
  cases r with
  | nil => exact (show False from hq).elim
  | cons r1 r2 =>
    refine ⟨_, _, rfl, h1 Z G H τ σ _ _ _ _ S R r1 hq fun τ1 σ1 q1 S1 e1 => ?_⟩
    exact h2 Z G H τ1 σ1 _ _ _ _ S1 R r2 q1 fun τ2 σ2 q2 S2 e2 => c τ2 σ2 q2 S2 (e2.trans e1)
theorem gex_tup {K : PySem.W.Frag} {vs : List Nat} {n : Nat} {gs : TGs} {hs : TGsD} (h : GExs K vs gs hs) : GEx K vs (gSeqT K n gs) (hTup n hs) := by
  intro Z G H τ σ d v q Q S R r hq c
  cases d with
  | tup ds =>
    obtain ⟨hl, hq⟩ := Sd_e hq
    cases r with
    | tup hx rx => exact .inl ⟨_, _, rfl, hx, by rw [← rx.length]; exact hl, h Z G H τ σ _ _ _ _ S R rx hq c⟩
  | lst ds =>
    obtain ⟨hl, hq⟩ := Sd_e hq
    cases r with
    | lst hx _ _ rx => exact .inr ⟨_, _, rfl, SqL.of hx, by rw [← rx.length]; exact hl, h Z G H τ σ _ _ _ _ S R rx hq c⟩
  | ref a =>
    obtain ⟨ds, e, hq⟩ := LkL_e hq
    obtain ⟨hl, hq⟩ := Sd_e hq
    obtain ⟨_, xs, hx, rx⟩ := R.ob a _ e
    cases r
    exact .inr ⟨_, _, rfl, SqL.of hx, by rw [← rx.length]; exact hl, h Z G H τ σ _ _ _ _ S R rx hq c⟩
  | _ => exact (show False from hq).elim
/-- nothing is raised within a block -/
abbrev W0 : WX := fun _ _ _ _ => False
abbrev X0 : XD := fun _ _ _ => False
def gYes : TTD := fun _ G _ q => q true G
@[irreducible] def NewM (ds : List D) (G : GH) (q : QD) : Prop := ∀ p, G p = none → q (.ref p) (gup G p (.lst ds))
theorem NewM_i {ds : List D} {G : GH} {q : QD} (h : ∀ p, G p = none → q (.ref p) (gup G p (.lst ds))) : NewM ds G q := by unfold NewM; exact h
theorem NewM_n {ds : List D} {G : GH} {q : QD} (h : NewM ds G q) : NewL ds G q := by unfold NewM at h; exact NewL_r h
abbrev FinL := List D → GH → QD → Prop
@[irreducible] def LcF (F : FinL) (ds : List D) (stay : GH → Prop) (h : TGD) (tt : TTD) (te : TED) (vs : List Nat) (τ : SD) (G : GH) (q : QD) : Prop := ∃ P : Nat → List D → GH → Prop, P 0 [] G ∧ (∀ i acc G, i ≤ ds.length → P i acc G → stay G) ∧
  (∀ i d acc G, ds[i]? = some d → P i acc G → h d (wipeD τ vs) G fun τ2 _ => tt τ2 G X0 fun b G3 => Cond b (te τ2 G3 X0 fun y G4 => acc.length < sizeLine ∧ P (i + 1) (acc ++ [y]) G4) (P (i + 1) acc G3)) ∧
  ∀ acc G, P ds.length acc G → F acc G q
theorem LcD_i {F : FinL} {ds : List D} {stay : GH → Prop} {h : TGD} {tt : TTD} {te : TED} {vs : List Nat} {τ : SD} {G : GH} {q : QD} (P : Nat → List D → GH → Prop) (h0 : P 0 [] G) (hl : ∀ i acc G, i ≤ ds.length → P i acc G → stay G)
    (hs : ∀ i d acc G, ds[i]? = some d → P i acc G → h d (wipeD τ vs) G fun τ2 _ => tt τ2 G X0 fun b G3 => Cond b (te τ2 G3 X0 fun y G4 => acc.length < sizeLine ∧ P (i + 1) (acc ++ [y]) G4) (P (i + 1) acc G3))
    (hd : ∀ acc G, P ds.length acc G → F acc G q) : LcF F ds stay h tt te vs τ G q := by
  unfold LcF
  exact ⟨P, h0, hl, hs, hd⟩
def gLcF (F : FinL) (wi : TID) (h : TGD) (tt : TTD) (te : TED) (vs : List Nat) : TED := fun τ G x q => wi τ G x fun ds stay G1 => LcF F ds stay h tt te vs τ G1 q
abbrev gLc := gLcF NewL
abbrev gLcM := gLcF NewM
abbrev LcD := LcF NewL
theorem lf_lc {F : FinL} (hF : ∀ {ds G q}, F ds G q → NewL ds G q) {K : PySem.W.Frag} {W : WX} {wi : TID} {g : TG} {h : TGD} {tt : TTD} {te : TED} {vs : List Nat} (ex : GEx K vs g h) {σ : L2.St} {H : Hp} {Q : VK} (w : Lf K W (gLcF F wi h tt te vs) σ H Q) :
    tLc (LfI K W wi) g (LfT K W0 tt) (Lf K W0 te) vs σ H Q := by
  obtain ⟨Z, G, τ, x, q, S, R, hw, c, cx⟩ := w
  refine ⟨Z, G, τ, x, _, S, R, hw, fun ds stay G1 H1 J q1 s1 R1 it => ?_, cx⟩
  unfold LcF at q1
  obtain ⟨P, h0, hl, hs, hd⟩ := q1
  intro D hD
  have c1 := c.step s1
  have S1 := S.mv (s1.mv R)
  have gD := R1.fresh hD
  have zD := R1.freshZ hD
  obtain ⟨Z1, hZ1⟩ : ∃ Z1 : ZS, Z1 = fun b => Z b ∨ b = D := ⟨_, rfl⟩
  have z1 : ∀ b, ¬ Z b → b ≠ D → ¬ Z1 b := fun b hz hb q => by
    rw [hZ1] at q
    exact q.elim hz hb
  have z1D : Z1 D := by rw [hZ1]; exact .inr rfl
  have z1Z : ∀ b, ¬ Z1 b → ¬ Z b := fun b hz q => hz (by rw [hZ1]; exact .inl q)
  have nD : ∀ b, ¬ Z1 b → b ≠ D := fun b hz q => hz (by rw [q]; exact z1D)
  -- from the start to a state of the loop
  have mvs : ∀ {G H}, Step G1 H1 G H → Mv Z Z1 G1 G H1 H := fun {G H} s => ⟨(s.mv R1).tups, (s.mv R1).frzs, fun b o e g z => ⟨(s b o e g).1, (s b o e g).2, z1 b z (ne_of_none e hD)⟩⟩
  have back : ∀ {G H}, Mv Z1 Z G G H H := fun {G H} => ⟨fun _ _ e => e, fun _ _ _ e => e, fun b o e g z => ⟨e, g, z1Z b z⟩⟩
  refine ⟨fun i m H => m = ds.length - i ∧ i ≤ ds.length ∧ ∃ G accD accV, Step G1 H1 G H ∧ Rel K Z1 G H ∧ H D = some (.lst accV) ∧ RlA K Z1 G H accD accV ∧ P i accD G, ⟨ds.length, by simp, Nat.zero_le _, G1, [], [], step_new R1 hD, ?_, upd_same, .nil, h0⟩, ?_⟩
  · refine ⟨fun a o e => ?_, fun z hz => ?_⟩
    · obtain ⟨za, ra⟩ := R1.ob a o e
      have na : a ≠ D := fun q => by rw [q, gD] at e; cases e
      exact ⟨z1 a za na, ra.mv (mvs (step_new R1 hD)) (upd_ne na)⟩
    · rw [hZ1] at hz
      by_cases hb : z = D
      · subst hb
        exact ⟨_, upd_same⟩
      · obtain ⟨o, e⟩ := R1.hid z (hz.resolve_right hb)
        exact ⟨o, by rw [upd_ne hb]; exact e⟩
  rintro i m H ⟨rfl, hi, G, accD, accV, s2, R2, hDl, rA, p⟩
  have outD : ∀ {G H}, Rel K Z1 G H → G D = none := fun {G H} R => by
    cases e : G D with
    | none => rfl
    | some o => exact absurd z1D (R.ob D o e).1
  by_cases hlt : i < ds.length
  · refine .inr ⟨it.go Z1 i G H hlt (mvs s2) R2 (hl i accD G hi p), fun H' => ∃ G' accD' accV', Step G1 H1 G' H' ∧ Rel K Z1 G' H' ∧ H' D = some (.lst accV') ∧ RlA K Z1 G' H' accD' accV' ∧ P (i + 1) accD' G',
      fun H' z => ⟨ds.length - (i + 1), by omega, rfl, hlt, z⟩, fun x H' y => ?_⟩
    obtain ⟨d, hd', s3, R3, rd⟩ := it.yld Z1 i G H x H' hlt (mvs s2) R2 (hl i accD G hi p) y
    have s23 := s2.trans s3
    refine ex Z1 G H' (wipeD τ vs) (wipe σ vs) d x _ _ (StR.wipe (S1.mv (mvs s23)) vs) R3 rd (hs i d accD G hd' p) fun τ2 σ2 q2 S2 ew => ?_
    refine ⟨ew.trans wipe_wipe, ?_⟩
    refine ⟨Z1, G, τ2, X0, _, S2, R3, q2, fun b G4 H4 q4 s4 R4 => ?_, fun _ _ _ _ _ _ z => z.elim⟩
    have q4 := Cond_e q4
    have s34 := s3.trans s4
    have s24 := s23.trans s4
    have hD4 := s34 D _ hDl (outD R2)
    have rA4 := rA.mv (s34.mv R2)
    cases b with
    | true =>
      refine ⟨Z1, G4, τ2, X0, _, S2.mv (s4.mv R3), R4, q4, fun y' G5 H5 w q5 s5 R5 r5 => ?_, fun _ _ _ _ _ _ z => z.elim⟩
      have hD5 := s5 D _ hD4.1 hD4.2
      have rA5 := (rA4.mv (s5.mv R4)).append (.cons r5 .nil)
      have m6 : Mv Z1 Z1 G5 G5 H5 (upd H5 D (.lst (accV ++ [w]))) := ⟨fun b xs e => by rw [upd_ne (ne_of e hD5.1 (by intro z; cases z))]; exact e, fun b ob u e => by rw [upd_ne (ne_of e hD5.1 (by intro z; cases z))]; exact e,
        fun b o e g z => ⟨by rw [upd_ne (nD b z)]; exact e, g, z⟩⟩
      refine ⟨accV, hD5.1, by rw [← rA.length]; exact q5.1, G5, _, _, fun b o e g => ?_, ⟨fun a o e => ?_, fun z hz => ?_⟩, upd_same, rA5.mv m6, q5.2⟩
      · have e5 := (s24.trans s5) b o e g
        rw [upd_ne (ne_of_none e hD)]
        exact e5
      · obtain ⟨za, ra⟩ := R5.ob a o e
        exact ⟨za, ra.mv m6 (upd_ne (nD a za))⟩
      · by_cases hb : z = D
        · subst hb
          exact ⟨_, upd_same⟩
        · obtain ⟨o, e⟩ := R5.hid z hz
          exact ⟨o, by rw [upd_ne hb]; exact e⟩
    | false => exact ⟨G4, accD, accV, s24, R4, hD4.1, rA4, q4⟩
  · have e : i = ds.length := by omega
    subst e
    refine .inl ⟨it.stop Z1 G H (mvs s2) R2 (hl _ accD G hi p), ?_⟩
    have rZ : Rel K Z G H := ⟨fun a o e => ⟨z1Z a (R2.ob a o e).1, (R2.ob a o e).2.mv back rfl⟩, fun z hz => R2.hid z (by rw [hZ1]; exact .inl hz)⟩
    rcases NewL_e (hF (hd accD G p)) with n | n
    · exact c1 _ _ _ _ n s2 rZ (.lst hDl (outD R2) zD (rA.mv back))
    · have mg : Mv Z1 Z G (gup G D (.lst accD)) H H := ⟨fun _ _ e => e, fun _ _ _ e => e, fun b o e g z => ⟨e, by rw [gup_ne (nD b z)]; exact g, z1Z b z⟩⟩
      refine c1 _ _ _ _ (n D (outD R2)) (fun b o e g => ?_) ⟨fun a o e => ?_, rZ.hid⟩ (.ref D)
      · rw [gup_ne (ne_of_none e hD)]
        exact s2 b o e g
      · by_cases na : a = D
        · subst na
          rw [gup_same] at e
          cases e
          exact ⟨zD, accV, hDl, rA.mv mg⟩
        · rw [gup_ne na] at e
          obtain ⟨za, ra⟩ := R2.ob a o e
          exact ⟨z1Z a za, ra.mv mg rfl⟩
structure PTsd (X : Cx) (ifs : List Expr) (t : TTD) : Prop where
  h : PTs X ifs (LfT X.K W0 t)
theorem ptsd_nil {X : Cx} : PTsd X [] gYes := ⟨⟨fun pins s σ H Q I hw => by
  obtain ⟨Z, G, τ, x, q, S, R, h, c, cx⟩ := hw
  exact pts_nil.run pins s σ H Q I (c true G H h (Step.refl _ _) R)⟩⟩
theorem ptsd_one {X : Cx} {c : Expr} {t : TTD} (h : PTd X W0 c t) : PTsd X [c] t := ⟨pts_one h⟩
section
variable {X : Cx} {W : WX} {elt tg iter : Expr} {ifs : List Expr} {scope : Scope} {own : List (Str × Nat)} {pos spos : Pos} {wi : TID} {g : TG} {h : TGD} {tt : TTD} {te : TED}
theorem pd_lcF {F : FinL} (hF : ∀ {ds G q}, F ds G q → NewL ds G q) (hc : X.calm = true) (hN : X.N.Nodup) (hi : PId X W tg iter wi) (ok : BlkOk X.N X.env.scope scope own)
    (hg : ∀ (s : Shared) (H : Hp) (C : Addr) (cl : List (Str × Addr)) (fp : List Addr), PG (X.blk s H scope (compEnvC scope cl C X.env) fp) tg g) (ex : GEx X.K (own.map (·.2)) g h)
    (ht : ∀ (s : Shared) (H : Hp) (C : Addr) (cl : List (Str × Addr)) (fp : List Addr), PTsd (X.blk s H scope (compEnvC scope cl C X.env) fp) ifs tt)
    (he : ∀ (s : Shared) (H : Hp) (C : Addr) (cl : List (Str × Addr)) (fp : List Addr), PEd (X.blk s H scope (compEnvC scope cl C X.env) fp) W0 elt te) (hs : ∀ x, foldedSetIterable iter X.env x = pure x := by intro _; rfl) :
    PEd X W (.ListComp elt [⟨tg, iter, ifs, 0⟩] scope pos) (gLcF F wi h tt te (own.map (·.2))) :=
  PEi (pe_lc hc hN hi ok hg (fun s H C cl fp => (ht s H C cl fp).h) he hs) fun _ _ _ w => lf_lc hF ex w
theorem psd_lcF {F : FinL} (hF : ∀ {ds G q}, F ds G q → NewL ds G q) {i : Nat} {y : Str} {py : Pos} (hc : X.calm = true) (hN : X.N.Nodup) (hy : X.N[i]? = some y) (hyl : X.env.scope.names.lookup y = some .local)
    (hsw : swapsWith (.ListComp elt [⟨tg, iter, ifs, 0⟩] scope pos) (some (.Name y py)) spos.line X.env = pure true) (hi : PId X W tg iter wi) (ok : BlkOk X.N X.env.scope scope own)
    (hg : ∀ (s : Shared) (H : Hp) (C : Addr) (cl : List (Str × Addr)) (fp : List Addr), PG (X.blk s H scope (compEnvC scope cl C X.env) fp) tg g) (ex : GEx X.K (own.map (·.2)) g h)
    (ht : ∀ (s : Shared) (H : Hp) (C : Addr) (cl : List (Str × Addr)) (fp : List Addr), PTsd (X.blk s H scope (compEnvC scope cl C X.env) fp) ifs tt)
    (he : ∀ (s : Shared) (H : Hp) (C : Addr) (cl : List (Str × Addr)) (fp : List Addr), PEd (X.blk s H scope (compEnvC scope cl C X.env) fp) W0 elt te) (hs : ∀ x, foldedSetIterable iter X.env x = pure x := by intro _; rfl) :
    PSd X W (.Assign [.Name y py] (.ListComp elt [⟨tg, iter, ifs, 0⟩] scope pos) spos) (gAsg (gLcF F wi h tt te (own.map (·.2))) (hName i)) :=
  PSi (ps_setLc hc hN hy hyl hsw hi ok hg (fun s H C cl fp => (ht s H C cl fp).h) he hs) fun D σ H => by
    rintro ⟨Z, G, τ, e, S, R, h, c⟩
    refine lf_lc hF ex ⟨Z, G, τ, _, _, S, R, h, fun d G1 H1 v q1 s1 R1 r1 => ?_, c.ex.x R S⟩
    exact c.nx _ G1 H1 _ q1 s1 R1 ((S.mv (s1.mv R)).set i r1)
theorem pd_lc (hc : X.calm = true) (hN : X.N.Nodup) (hi : PId X W tg iter wi) (ok : BlkOk X.N X.env.scope scope own)
    (hg : ∀ (s : Shared) (H : Hp) (C : Addr) (cl : List (Str × Addr)) (fp : List Addr), PG (X.blk s H scope (compEnvC scope cl C X.env) fp) tg g) (ex : GEx X.K (own.map (·.2)) g h)
    (ht : ∀ (s : Shared) (H : Hp) (C : Addr) (cl : List (Str × Addr)) (fp : List Addr), PTsd (X.blk s H scope (compEnvC scope cl C X.env) fp) ifs tt)
    (he : ∀ (s : Shared) (H : Hp) (C : Addr) (cl : List (Str × Addr)) (fp : List Addr), PEd (X.blk s H scope (compEnvC scope cl C X.env) fp) W0 elt te) (hs : ∀ x, foldedSetIterable iter X.env x = pure x := by intro _; rfl) :
    PEd X W (.ListComp elt [⟨tg, iter, ifs, 0⟩] scope pos) (gLcF NewL wi h tt te (own.map (·.2))) := pd_lcF (fun z => z) hc hN hi ok hg ex ht he hs
theorem pd_lcM (hc : X.calm = true) (hN : X.N.Nodup) (hi : PId X W tg iter wi) (ok : BlkOk X.N X.env.scope scope own)
    (hg : ∀ (s : Shared) (H : Hp) (C : Addr) (cl : List (Str × Addr)) (fp : List Addr), PG (X.blk s H scope (compEnvC scope cl C X.env) fp) tg g) (ex : GEx X.K (own.map (·.2)) g h)
    (ht : ∀ (s : Shared) (H : Hp) (C : Addr) (cl : List (Str × Addr)) (fp : List Addr), PTsd (X.blk s H scope (compEnvC scope cl C X.env) fp) ifs tt)
    (he : ∀ (s : Shared) (H : Hp) (C : Addr) (cl : List (Str × Addr)) (fp : List Addr), PEd (X.blk s H scope (compEnvC scope cl C X.env) fp) W0 elt te) (hs : ∀ x, foldedSetIterable iter X.env x = pure x := by intro _; rfl) :
    PEd X W (.ListComp elt [⟨tg, iter, ifs, 0⟩] scope pos) (gLcF NewM wi h tt te (own.map (·.2))) := pd_lcF (fun z => NewM_n z) hc hN hi ok hg ex ht he hs
theorem psd_lc {i : Nat} {y : Str} {py : Pos} (hc : X.calm = true) (hN : X.N.Nodup) (hy : X.N[i]? = some y) (hyl : X.env.scope.names.lookup y = some .local)
    (hsw : swapsWith (.ListComp elt [⟨tg, iter, ifs, 0⟩] scope pos) (some (.Name y py)) spos.line X.env = pure true) (hi : PId X W tg iter wi) (ok : BlkOk X.N X.env.scope scope own)
    (hg : ∀ (s : Shared) (H : Hp) (C : Addr) (cl : List (Str × Addr)) (fp : List Addr), PG (X.blk s H scope (compEnvC scope cl C X.env) fp) tg g) (ex : GEx X.K (own.map (·.2)) g h)
    (ht : ∀ (s : Shared) (H : Hp) (C : Addr) (cl : List (Str × Addr)) (fp : List Addr), PTsd (X.blk s H scope (compEnvC scope cl C X.env) fp) ifs tt)
    (he : ∀ (s : Shared) (H : Hp) (C : Addr) (cl : List (Str × Addr)) (fp : List Addr), PEd (X.blk s H scope (compEnvC scope cl C X.env) fp) W0 elt te) (hs : ∀ x, foldedSetIterable iter X.env x = pure x := by intro _; rfl) :
    PSd X W (.Assign [.Name y py] (.ListComp elt [⟨tg, iter, ifs, 0⟩] scope pos) spos) (gAsg (gLcF NewL wi h tt te (own.map (·.2))) (hName i)) := psd_lcF (fun z => z) hc hN hy hyl hsw hi ok hg ex ht he hs
theorem psd_lcM {i : Nat} {y : Str} {py : Pos} (hc : X.calm = true) (hN : X.N.Nodup) (hy : X.N[i]? = some y) (hyl : X.env.scope.names.lookup y = some .local)
    (hsw : swapsWith (.ListComp elt [⟨tg, iter, ifs, 0⟩] scope pos) (some (.Name y py)) spos.line X.env = pure true) (hi : PId X W tg iter wi) (ok : BlkOk X.N X.env.scope scope own)
    (hg : ∀ (s : Shared) (H : Hp) (C : Addr) (cl : List (Str × Addr)) (fp : List Addr), PG (X.blk s H scope (compEnvC scope cl C X.env) fp) tg g) (ex : GEx X.K (own.map (·.2)) g h)
    (ht : ∀ (s : Shared) (H : Hp) (C : Addr) (cl : List (Str × Addr)) (fp : List Addr), PTsd (X.blk s H scope (compEnvC scope cl C X.env) fp) ifs tt)
    (he : ∀ (s : Shared) (H : Hp) (C : Addr) (cl : List (Str × Addr)) (fp : List Addr), PEd (X.blk s H scope (compEnvC scope cl C X.env) fp) W0 elt te) (hs : ∀ x, foldedSetIterable iter X.env x = pure x := by intro _; rfl) :
    PSd X W (.Assign [.Name y py] (.ListComp elt [⟨tg, iter, ifs, 0⟩] scope pos) spos) (gAsg (gLcF NewM wi h tt te (own.map (·.2))) (hName i)) := psd_lcF (fun z => NewM_n z) hc hN hy hyl hsw hi ok hg ex ht he hs
end
/-- a comprehension that filters and maps, leaving the ledger as it is -/
theorem lc_map {ds : List D} {stay : GH → Prop} {h : TGD} {tt : TTD} {te : TED} {vs : List Nat} {τ : SD} {G : GH} {q : QD} (tgt : D → SD) (b : D → Bool) (f : D → D) (hz : ds.length ≤ 10000000) (hl : stay G)
    (ht : ∀ d ∈ ds, ∀ q : SD → GH → Prop, q (tgt d) G → h d (wipeD τ vs) G q) (h1 : ∀ d ∈ ds, ∀ k : Bool → GH → Prop, k (b d) G → tt (tgt d) G X0 k) (h2 : ∀ d ∈ ds, b d = true → ∀ k : QD, k (f d) G → te (tgt d) G X0 k)
    (hd : NewL ((ds.filter b).map f) G q) : LcD ds stay h tt te vs τ G q := by
  refine LcD_i (fun i acc G' => G' = G ∧ acc = ((ds.take i).filter b).map f) ⟨rfl, by simp⟩ (fun i acc G' _ p => by rw [p.1]; exact hl) (fun i d acc G' hi p => ?_) (fun acc G' p => ?_)
  · obtain ⟨rfl, rfl⟩ := p
    have hmem : d ∈ ds := List.mem_of_getElem? hi
    have hlt := (List.getElem?_eq_some_iff.mp hi).1
    have e : ds.take (i + 1) = ds.take i ++ [d] := by
      rw [List.take_add_one, hi]
      rfl
    refine ht d hmem _ (h1 d hmem _ (Cond_i (fun hb => h2 d hmem hb _ ⟨?_, rfl, ?_⟩) fun hb => ⟨rfl, ?_⟩))
    · have l1 : (((ds.take i).filter b).map f).length ≤ ds.length := by
        rw [List.length_map]
        exact Nat.le_trans (List.length_filter_le _ _) (by rw [List.length_take]; omega)
      exact Nat.lt_of_le_of_lt (Nat.le_trans l1 hz) (by decide)
    · rw [e, List.filter_append, List.map_append]
      simp [hb]
    · rw [e, List.filter_append, List.map_append]
      simp [hb]
  · obtain ⟨rfl, rfl⟩ := p
    rw [List.take_length] at *
    exact hd
end N
namespace N
open PySem PySem.Spec PyProof.Rows L2
/-! ### promises -/
abbrev SpD := List D → GH → QD → XD → Prop
def liftSp (K : PySem.W.Frag) (sp : SpD) : Sp := fun vs H Q E => ∃ Z G ds q x, RlA K Z G H ds vs ∧ Rel K Z G H ∧ sp ds G q x ∧ ClE K Z G H q Q ∧ ClX K Z G H x (fun c d _ H => E c d H) []
theorem ClX.any {K : PySem.W.Frag} {Z : ZS} {G : GH} {H : Hp} {x : XD} {E : XK} {σ σ' : L2.St} (c : ClX K Z G H x (fun c d _ H => E c d H) σ) : ClX K Z G H x (fun c d _ H => E c d H) σ' := c
def A3 (ds : List D) (k : D → D → D → Prop) : Prop := match ds with
  | [a, b, c] => k a b c
  | _ => False
def A4 (ds : List D) (k : D → D → D → D → Prop) : Prop := match ds with
  | [a, b, c, d] => k a b c d
  | _ => False
def A5 (ds : List D) (k : D → D → D → D → D → Prop) : Prop := match ds with
  | [a, b, c, d, e] => k a b c d e
  | _ => False
/-- a promise about so many arguments -/
structure SpN (n : Nat) (sp : SpD) : Prop where
  len : ∀ ds G q x, sp ds G q x → ds.length = n
theorem SpN.lift {n : Nat} {sp : SpD} (h : SpN n sp) {K : PySem.W.Frag} {ps : List Str} (e : ps.length = n) : ∀ vs H Q E, liftSp K sp vs H Q E → vs.length = ps.length := by
  rintro vs H Q E ⟨Z, G, ds, q, x, r, _, hs, _⟩
  rw [← r.length, h.len _ _ _ _ hs, e]
theorem A0_len {ds : List D} {k : Prop} (h : A0 ds k) : ds.length = 0 := by
  match ds, h with
  | [], _ => rfl
theorem A1_len {ds : List D} {k : D → Prop} (h : A1 ds k) : ds.length = 1 := by
  match ds, h with
  | [_], _ => rfl
theorem A2_len {ds : List D} {k : D → D → Prop} (h : A2 ds k) : ds.length = 2 := by
  match ds, h with
  | [_, _], _ => rfl
theorem A3_len {ds : List D} {k : D → D → D → Prop} (h : A3 ds k) : ds.length = 3 := by
  match ds, h with
  | [_, _, _], _ => rfl
theorem A4_len {ds : List D} {k : D → D → D → D → Prop} (h : A4 ds k) : ds.length = 4 := by
  match ds, h with
  | [_, _, _, _], _ => rfl
theorem A5_len {ds : List D} {k : D → D → D → D → D → Prop} (h : A5 ds k) : ds.length = 5 := by
  match ds, h with
  | [_, _, _, _, _], _ => rfl
theorem A0_x {ds : List D} {k : Prop} (h : A0 ds k) : ds = [] ∧ k := by
  match ds, h with
  | [], h => exact ⟨rfl, h⟩
theorem A1_x {ds : List D} {k : D → Prop} (h : A1 ds k) : ∃ a, ds = [a] ∧ k a := by
  match ds, h with
  | [a], h => exact ⟨a, rfl, h⟩
theorem A2_x {ds : List D} {k : D → D → Prop} (h : A2 ds k) : ∃ a b, ds = [a, b] ∧ k a b := by
  match ds, h with
  | [a, b], h => exact ⟨a, b, rfl, h⟩
theorem A3_x {ds : List D} {k : D → D → D → Prop} (h : A3 ds k) : ∃ a b c, ds = [a, b, c] ∧ k a b c := by
  match ds, h with
  | [a, b, c], h => exact ⟨a, b, c, rfl, h⟩
theorem A4_x {ds : List D} {k : D → D → D → D → Prop} (h : A4 ds k) : ∃ a b c d, ds = [a, b, c, d] ∧ k a b c d := by
  match ds, h with
  | [a, b, c, d], h => exact ⟨a, b, c, d, rfl, h⟩
theorem A5_x {ds : List D} {k : D → D → D → D → D → Prop} (h : A5 ds k) : ∃ a b c d e, ds = [a, b, c, d, e] ∧ k a b c d e := by
  match ds, h with
  | [a, b, c, d, e], h => exact ⟨a, b, c, d, e, rfl, h⟩
def startD (N : List Str) (ds : List D) : SD := ds.map some ++ List.replicate (N.length - ds.length) none
theorem start_str {K : PySem.W.Frag} {Z : ZS} {G : GH} {H : Hp} {N : List Str} {ds : List D} {vs : List V} (r : RlA K Z G H ds vs) : StR K Z G H (startD N ds) (L2.start N vs) := by
  have hl := r.length
  unfold startD L2.start
  refine ⟨by simp [hl], fun i d h => ?_⟩
  have hi : i < ds.length := by
    by_cases hi : i < ds.length
    · exact hi
    · rw [List.getElem?_append_right (by simpa using hi), List.getElem?_replicate] at h
      split at h <;> cases h
  rw [List.getElem?_append_left (by simpa using hi), List.getElem?_map] at h
  have h' : ds[i]? = some d := by
    cases e : ds[i]? with
    | none => rw [e] at h; cases h
    | some d' => rw [e] at h; cases h; rfl
  obtain ⟨v, hv, rv⟩ := r.get h'
  refine ⟨v, ?_, rv⟩
  rw [List.getElem?_append_left (by simpa [← hl] using hi), List.getElem?_map, hv]
  rfl
/-- how a def's body starts and ends -/
abbrev dEnds (q : QD) (x : XD) : EndsD := { nx := fun _ G => q .non G, rt := q, ex := fun C d _ G => x C d G }
abbrev WD (E : XK) : WX := fun c d _ H => E c d H
/-- the def's term, from its body's -/
theorem body_of {K : PySem.W.Frag} {t : TSD} {sp : SpD} {N : List Str} {vs : List V} {H : Hp} {Q : VK} {E : XK} (h : liftSp K sp vs H Q E) (pure_ : ∀ ds G q x, sp ds G q x → t (dEnds q x) (startD N ds) G) :
    LfS K (WD E) t { nx := fun _ H' => Q .non H', rt := Q } (L2.start N vs) H := by
  obtain ⟨Z, G, ds, q, x, r, R, hs, c, cx⟩ := h
  refine ⟨Z, G, startD N ds, dEnds q x, start_str r, R, pure_ ds G q x hs, fun τ G' H' σ z s R' _ => c .non G' H' .non z s R' .non, c, ?_, ?_, ?_⟩
  · exact fun _ _ _ _ z => z.elim
  · exact fun _ _ _ _ z => z.elim
  · exact fun C d τ G' H' σ dct v z s R' _ r' hd => cx C d G' H' dct v z s R' r' hd
section
variable {P : Program} {w : World} {K : PySem.W.Frag} {mg : Str → Option Value} {base : Heap} {x qual : Str} {params : Arguments} {body : List Stmt} {scope : Scope} {dvs : List V} {kws : List (Str × V)} {f : Addr} {fd : FuncData}
/-- THE RULE for a def that may raise: A1 the derivation, in its context; then its reading -/
theorem fn_x {N ps : List Str} {k : Nat} {sp : SpD} {t : TSD} {n : Nat} (F : FunD K x qual params body scope dvs kws f fd) (S : FnScope N ps scope) (sn : SpN n sp) (e : ps.length = n)
    (hd : ∀ (cdv : Value) (A : Around) (outer : List Env) (s : Shared) (H : Hp) (E : XK), Room k (A.deeper (envOfC qual scope s.heap.objs.size f cdv)) →
      PSsd (cxOf (L2.CX P w) P w K mg base N qual scope f cdv A outer s H E) (WD E) body t) (pure_ : ∀ ds G q x, sp ds G q x → t (dEnds q x) (startD N ds) G) : FnOk P w K mg base (L2.CX P w) (k + 1) f fd ps (liftSp K sp) :=
  F.ok S (sn.lift e) fun cdv A outer s H vs Q E hr h => ⟨_, hd cdv A outer s H E hr, body_of h pure_⟩
/-- for a def that raises nothing -/
theorem fn_p {N ps : List Str} {k : Nat} {sp : SpD} {t : TSD} {n : Nat} (F : FunD K x qual params body scope dvs kws f fd) (S : FnScope N ps scope) (sn : SpN n sp) (e : ps.length = n)
    (hd : ∀ (cdv : Value) (A : Around) (outer : List Env) (s : Shared) (H : Hp) (E : XK), Room k (A.deeper (envOfC qual scope s.heap.objs.size f cdv)) →
      PSsd (cxOf (L2.CX P w) P w K mg base N qual scope f cdv A outer s H E).nox (WD E) body t) (pure_ : ∀ ds G q x, sp ds G q x → t (dEnds q x) (startD N ds) G) : FnOk P w K mg base (L2.CX P w) (k + 1) f fd ps (liftSp K sp) :=
  F.ok S (sn.lift e) fun cdv A outer s H vs Q E hr h => ⟨_, (hd cdv A outer s H E hr).nox, body_of h pure_⟩
end
/-! ### calls -/
@[irreducible] def Call (sp : SpD) (ds : List D) (G : GH) (q : QD) (x : XD) : Prop := sp ds G q x
theorem Call_i {sp : SpD} {ds : List D} {G : GH} {q : QD} {x : XD} (h : sp ds G q x) : Call sp ds G q x := by unfold Call; exact h
theorem Call_e {sp : SpD} {ds : List D} {G : GH} {q : QD} {x : XD} (h : Call sp ds G q x) : sp ds G q x := by unfold Call at h; exact h
section
variable {X : Cx} {W : WX} {k : Nat} {f C g p : Addr} {fd : FuncData} {ps : List Str} {sp : SpD} {x m fl : Str} {q pos apos pos' : Pos} {e o : Expr} {es : List Expr} {to te : TED} {ta : TAD}
abbrev FnD (X : Cx) (k : Nat) (f : Addr) (fd : FuncData) (ps : List Str) (sp : SpD) : Prop := FnOk X.prog X.w X.K X.mg X.base (L2.CX X.prog X.w) k f fd ps (liftSp X.K sp)
/-- f(..), nothing raised -/
def gCall (sp : SpD) (ta : TAD) : TED := fun τ G x q => ta τ G x fun ds G1 => Call sp ds G1 q X0
/-- f(..), what is raised goes on -/
def gCallX (sp : SpD) (ta : TAD) : TED := fun τ G x q => ta τ G x fun ds G1 => Call sp ds G1 q x
theorem lift_ok {K : PySem.W.Frag} {Z : ZS} {G : GH} {H : Hp} {ds : List D} {vs : List V} {q : QD} {Q : VK} {E : XK} {x : XD} {σ : L2.St} (R : Rel K Z G H) (r : RlA K Z G H ds vs) (h : Call sp ds G q x) (c : ClE K Z G H q Q) (cx : ClX K Z G H x (fun c d _ H => E c d H) σ) : liftSp K sp vs H Q E :=
  ⟨Z, G, ds, q, x, r, R, Call_e h, c, cx.any⟩
theorem lf_call {K : PySem.W.Frag} {σ : L2.St} {H : Hp} {Q : VK} (w : Lf K W (gCall sp ta) σ H Q) : tCall (liftSp K sp) [] E0 (LfA K W ta) σ H Q := by
  obtain ⟨Z, G, τ, x, q, S, R, hw, c, cx⟩ := w
  refine ⟨Z, G, τ, x, _, S, R, hw, fun ds G1 H1 vs q1 s1 R1 r1 => ?_, cx⟩
  show liftSp K sp (vs ++ []) H1 Q E0
  rw [List.append_nil]
  exact lift_ok (σ := []) R1 r1 q1 (c.step s1) fun _ _ _ _ _ _ z => z.elim
theorem pd_call (F : FnD X k f fd ps sp) (hr : Room k X.A) (hg : Gl X x) (hm : X.mg x = some (.ref f)) (hk : PySem.W.keepIn X.K (.ref f) = true) (hb : Binds X.K fd ps []) (ha : PAd X W (e :: es) ta) (hdb : (x == ("__debug__" : Str)) = false := by decide)
    (he : starEach (e :: es) X.env = (false, eval e X.env) :: starEach es X.env := by rfl) (hpl : (backTo pos (starEach es X.env)).any (·.1) = false := by rfl) : PEd X W (.Call (.Name x q) (e :: es) [] pos) (gCall sp ta) :=
  PEi (pe_call F hr hg hm hk hb .nil passL ha hdb he hpl) fun _ _ _ w => lf_call w
theorem pd_call0 (F : FnD X k f fd ps sp) (hr : Room k X.A) (hg : Gl X x) (hm : X.mg x = some (.ref f)) (hk : PySem.W.keepIn X.K (.ref f) = true) (hb : Binds X.K fd ps []) (hdb : (x == ("__debug__" : Str)) = false := by decide) : PEd X W (.Call (.Name x q) [] [] pos) (gCall sp gNil) :=
  PEi (pe_call0 F hr hg hm hk hb .nil passL hdb) fun _ _ _ w => by
    obtain ⟨Z, G, τ, x, q, S, R, hw, c, cx⟩ := w
    exact lift_ok (σ := []) R .nil hw c fun _ _ _ _ _ _ z => z.elim
theorem pd_callX (tk : Takes X W) (F : FnD X k f fd ps sp) (hr : Room k X.A) (hg : Gl X x) (hm : X.mg x = some (.ref f)) (hk : PySem.W.keepIn X.K (.ref f) = true) (hb : Binds X.K fd ps []) (ha : PAd X W (e :: es) ta) (hdb : (x == ("__debug__" : Str)) = false := by decide)
    (he : starEach (e :: es) X.env = (false, eval e X.env) :: starEach es X.env := by rfl) (hpl : (backTo pos (starEach es X.env)).any (·.1) = false := by rfl) : PEd X W (.Call (.Name x q) (e :: es) [] pos) (gCallX sp ta) :=
  PEi (pe_callS F hr hg hm hk hb (fun σ => passAt tk σ) ha hdb he hpl) fun σ H Q w => by
    obtain ⟨Z, G, τ, x, q, S, R, hw, c, cx⟩ := w
    refine ⟨Z, G, τ, x, _, S, R, hw, fun ds G1 H1 vs q1 s1 R1 r1 => ?_, cx⟩
    exact ⟨Z, G1, ds, _, x, r1, R1, Call_e q1, c.step s1, cx.step s1⟩
/-! ### objects -/
@[irreducible] def IsIns (C : Addr) (d : D) (G : GH) (k : List Str → List D → Prop) : Prop := ∃ ks ds, (d = .obj C ks ds ∨ ∃ a, d = .ref a ∧ G a = some (.ins C ks ds)) ∧ k ks ds
theorem IsIns_v {ks : List Str} {ds : List D} {G : GH} {k : List Str → List D → Prop} (h : k ks ds) : IsIns C (.obj C ks ds) G k := by unfold IsIns; exact ⟨ks, ds, .inl rfl, h⟩
theorem IsIns_r {a : Addr} {ks : List Str} {ds : List D} {G : GH} {k : List Str → List D → Prop} (e : G a = some (.ins C ks ds)) (h : k ks ds) : IsIns C (.ref a) G k := by unfold IsIns; exact ⟨ks, ds, .inr ⟨a, rfl, e⟩, h⟩
theorem isIns_e {K : PySem.W.Frag} {Z : ZS} {G : GH} {H : Hp} {d : D} {v : V} {k : List Str → List D → Prop} (R : Rel K Z G H) (r : Rl K Z G H d v) (h : IsIns C d G k) :
    ∃ a dx ks ds xs, v = .ref a ∧ H a = some (.ins C dx (insV ks xs)) ∧ ks.length = xs.length ∧ RlA K Z G H ds xs ∧ k ks ds := by
  unfold IsIns at h
  obtain ⟨ks, ds, rfl | ⟨a, rfl, e⟩, h⟩ := h
  · cases r with
    | obj hx _ _ hl rx => exact ⟨_, _, ks, ds, _, rfl, hx, hl, rx, h⟩
  · obtain ⟨_, dx, xs, hx, hl, rx⟩ := R.ob a _ e
    cases r
    exact ⟨a, dx, ks, ds, xs, rfl, hx, hl, rx, h⟩
theorem lookup_zip {f : Str} : ∀ {ks : List Str} {xs : List V} {i : Nat} {v : V}, ks[i]? = some f → (∀ j, j < i → ks[j]? ≠ some f) → xs[i]? = some v → (insV ks xs).lookup f = some v
  | [], _, _, _, h, _, _ => by simp at h
  | _ :: _, [], _, _, _, _, h => by simp at h
  | k :: ks, y :: xs, 0, v, h, _, hx => by
    have e1 : k = f := Option.some.inj h
    have e2 : y = v := Option.some.inj hx
    subst e1 e2
    simp [insV, List.lookup]
  | k :: ks, y :: xs, i + 1, v, h, n, hx => by
    have nk : k ≠ f := fun e => n 0 (Nat.zero_lt_succ _) (by rw [e]; rfl)
    have ih := lookup_zip (ks := ks) (xs := xs) (i := i) (v := v) (by simpa using h) (fun j hj e => n (j + 1) (Nat.succ_lt_succ hj) (by simpa using e)) (by simpa using hx)
    have e3 : (f == k) = false := by simpa using fun e => nk e.symm
    simp only [insV, List.zip_cons_cons, List.lookup, e3]
    exact ih
theorem lookup_zip_none {f : Str} : ∀ {ks : List Str} {xs : List V}, f ∉ ks → (insV ks xs).lookup f = none
  | [], xs, _ => by cases xs <;> rfl
  | _ :: _, [], _ => rfl
  | k :: ks, y :: xs, h => by
    have e3 : (f == k) = false := by simpa using fun e => h (by rw [e]; exact List.mem_cons_self)
    have ih := lookup_zip_none (ks := ks) (xs := xs) (f := f) fun z => h (List.mem_cons_of_mem _ z)
    simp only [insV, List.zip_cons_cons, List.lookup, e3]
    exact ih
/-- the field f is the i-th of ks -/
def fIx (ks : List Str) (f : Str) (i : Nat) : Bool := decide (ks[i]? = some f) && (List.range i).all fun j => decide (ks[j]? ≠ some f)
theorem fIx_e {ks : List Str} {f : Str} {i : Nat} (h : fIx ks f i = true) : ks[i]? = some f ∧ ∀ j, j < i → ks[j]? ≠ some f := by
  unfold fIx at h
  simp only [Bool.and_eq_true, decide_eq_true_eq, List.all_eq_true, List.mem_range] at h
  exact h
@[irreducible] def Fd (f : Str) (ks : List Str) (ds : List D) (k : D → Prop) : Prop := ∃ i v, fIx ks f i = true ∧ ds[i]? = some v ∧ k v
theorem Fd_i {f : Str} {ks : List Str} {ds : List D} {k : D → Prop} {v : D} (i : Nat) (h1 : fIx ks f i = true) (h2 : ds[i]? = some v) (h : k v) : Fd f ks ds k := by unfold Fd; exact ⟨i, v, h1, h2, h⟩
theorem Fd_e {f : Str} {ks : List Str} {ds : List D} {k : D → Prop} (h : Fd f ks ds k) : ∃ i v, fIx ks f i = true ∧ ds[i]? = some v ∧ k v := by unfold Fd at h; exact h
def gFld (C : Addr) (f : Str) (to : TED) : TED := fun τ G x q => to τ G x fun d G1 => IsIns C d G1 fun ks ds => Fd f ks ds fun v => q v G1
theorem pd_fld (c : Cls X.K C) (n : NoAttr X.K C fl) (he : PEd X W o to) (hb : attributeBase o fl X.env (eval o X.env) = eval o X.env := by rfl) : PEd X W (.Attribute o fl pos) (gFld C fl to) :=
  PEi (pe_fld he hb) fun σ H Q => by
    rintro ⟨Z, G, τ, x, q, S, R, hw, cl, cx⟩
    refine ⟨Z, G, τ, x, _, S, R, hw, fun d G1 H1 v q1 s1 R1 r1 => ?_, cx⟩
    obtain ⟨a, dx, ks, ds, xs, rfl, hx, hl, rx, q1⟩ := isIns_e R1 r1 q1
    obtain ⟨i, u, hi, hu, q1⟩ := Fd_e q1
    obtain ⟨h1, h2⟩ := fIx_e hi
    obtain ⟨y, hy, ry⟩ := rx.get hu
    exact ⟨a, C, dx, _, y, rfl, hx, c, n, lookup_zip h1 h2 hy, cl _ _ _ _ q1 s1 R1 ry⟩
/-- o.f = e -/
def putK (f : Str) : List Str → List Str
  | [] => [f]
  | k :: ks => if k = f then k :: ks else k :: putK f ks
def putX {α : Type} (f : Str) (v : α) : List Str → List α → List α
  | [], _ => [v]
  | k :: ks, [] => [v]
  | k :: ks, x :: xs => if k = f then v :: xs else x :: putX f v ks xs
theorem putF_zip (f : Str) (v : V) : ∀ {ks : List Str} {xs : List V}, ks.length = xs.length → putF f v (insV ks xs) = insV (putK f ks) (putX f v ks xs) ∧ (putK f ks).length = (putX f v ks xs).length
  | [], [], _ => ⟨rfl, rfl⟩
  | k :: ks, x :: xs, h => by
    obtain ⟨h1, h2⟩ := putF_zip f v (ks := ks) (xs := xs) (by simpa using h)
    have hl : ks.length = xs.length := by simpa using h
    by_cases e : k = f
    · constructor
      · show (if k = f then (k, v) :: ks.zip xs else (k, x) :: putF f v (ks.zip xs)) = _
        rw [if_pos e]
        unfold putK putX
        rw [if_pos e, if_pos e]
        rfl
      · unfold putK putX
        rw [if_pos e, if_pos e, List.length_cons, List.length_cons, hl]
    · constructor
      · show (if k = f then (k, v) :: ks.zip xs else (k, x) :: putF f v (ks.zip xs)) = _
        rw [if_neg e]
        unfold putK putX
        rw [if_neg e, if_neg e]
        have h1' : putF f v (ks.zip xs) = insV (putK f ks) (putX f v ks xs) := h1
        rw [h1']
        rfl
      · unfold putK putX
        rw [if_neg e, if_neg e, List.length_cons, List.length_cons, h2]
theorem putX_rl {K : PySem.W.Frag} {Z : ZS} {G : GH} {H : Hp} {f : Str} {d : D} {v : V} (h : Rl K Z G H d v) : ∀ {ks : List Str} {ds : List D} {xs : List V}, ks.length = xs.length → RlA K Z G H ds xs → RlA K Z G H (putX f d ks ds) (putX f v ks xs)
  | [], _, _, _, _ => .cons h .nil
  | k :: ks, _, _, e, .nil => .cons h .nil
  | k :: ks, _, _, e, .cons r t => by
    unfold putX
    by_cases q : k = f
    · rw [if_pos q, if_pos q]
      exact .cons h t
    · rw [if_neg q, if_neg q]
      exact .cons r (putX_rl h (by simpa using e) t)
@[irreducible] def StF (C : Addr) (f : Str) (d v : D) (G : GH) (k : GH → Prop) : Prop := ∃ a ks ds, d = .ref a ∧ G a = some (.ins C ks ds) ∧ ks.length < 1000 ∧ k (gup G a (.ins C (putK f ks) (putX f v ks ds)))
theorem StF_i {f : Str} {a : Addr} {v : D} {G : GH} {k : GH → Prop} {ks : List Str} {ds : List D} (e : G a = some (.ins C ks ds)) (hl : ks.length < 1000) (h : k (gup G a (.ins C (putK f ks) (putX f v ks ds)))) : StF C f (.ref a) v G k := by unfold StF; exact ⟨a, ks, ds, rfl, e, hl, h⟩
def gStF (C : Addr) (f : Str) (to tv : TED) : TSD := fun e τ G => tv τ G (xOf e τ) fun v G1 => to τ G1 (xOf e τ) fun d G2 => StF C f d v G2 fun G3 => e.nx τ G3
theorem psd_fld (c : Cls X.K C) (n : NoAttr X.K C fl) (ho : PEd X W o to) (he : PEd X W e te) (hs : swapsWith e (some (.Attribute o fl pos')) pos.line X.env = pure false := by rfl) : PSd X W (.Assign [.Attribute o fl pos'] e pos) (gStF C fl to te) :=
  PSi (ps_fld ho he hs) fun D' σ H => by
    rintro ⟨Z, G, τ, ed, S, R, h, cd⟩
    refine ⟨Z, G, τ, _, _, S, R, h, fun y G1 H1 yv q1 s1 R1 r1 => ?_, cd.ex.x R S⟩
    have cd1 := cd.step s1
    have S1 := S.mv (s1.mv R)
    refine ⟨Z, G1, τ, _, _, S1, R1, q1, fun d G2 H2 v q2 s2 R2 r2 => ?_, cd1.ex.x R1 S1⟩
    unfold StF at q2
    obtain ⟨a, ks, ds, rfl, ea, hk, q2⟩ := q2
    obtain ⟨_, dx, xs, hx, hl, rx⟩ := R2.ob a _ ea
    cases r2
    obtain ⟨p1, p2⟩ := putF_zip fl yv hl
    refine ⟨a, C, dx, _, rfl, hx, c, n, ?_, ?_⟩
    · unfold insV
      rw [List.length_zip, ← hl]
      omega
    · rw [p1]
      have s3 := step_set (u := .ins C dx (insV (putK fl ks) (putX fl yv ks xs))) (o' := .ins C (putK fl ks) (putX fl y ks ds)) R2 ea
      have rr := (putX_rl (f := fl) (r1.mv (s2.mv R1)) hl rx).mv (s3.mv R2)
      exact (cd1.step s2).nx _ _ _ _ q2 s3 (rel_set R2 ea ⟨dx, _, upd_same, p2, rr⟩) (S1.mv ((s2.trans s3).mv R1))
/-- o.m(..) -/
def gMeth (C : Addr) (m : Str) (sp : SpD) (to : TED) (ta : TAD) : TED := fun τ G x q => to τ G x fun d G1 => Sd (IsIns C d G1 fun ks _ => m ∉ ks) (ta τ G1 x fun ds G2 => Call sp (d :: ds) G2 q X0)
theorem pd_meth {pl : Sem Bool} (c : Cls X.K C) (hm : Meth X.K C m f) (F : FnD X k f fd ps sp) (hr : Room k X.A) (hb : Binds X.K fd ps []) (ho : PEd X W o to) (ha : PAd X W (e :: es) ta)
    (hst : starEach (e :: es) X.env = (false, eval e X.env) :: starEach es X.env := by rfl) (hpl : (backTo pos (starEach es X.env)).any (·.1) = false := by rfl)
    (ht : eval (.Call (.Attribute o m apos) (e :: es) [] pos) X.env = (do
      let ov ← eval o X.env
      standAt apos.atName
      let (f, first) ← holding [ov] (getMethod ov m pl)
      callWith pos f first (backTo pos (starEach (e :: es) X.env)) (backToKw pos (keywordEach [] X.env))) := by rfl) :
    PEd X W (.Call (.Attribute o m apos) (e :: es) [] pos) (gMeth C m sp to ta) := PEi (pe_meth ho c hm F hr hb .nil passL ha hst hpl ht) fun σ H Q => by
  rintro ⟨Z, G, τ, x, q, S, R, hw, cl, cx⟩
  refine ⟨Z, G, τ, x, _, S, R, hw, fun d G1 H1 v q1 s1 R1 r1 => ?_, cx⟩
  obtain ⟨i1, q1⟩ := Sd_e q1
  obtain ⟨a, dx, ks, ds, xs, rfl, hx, hl, rx, nm⟩ := isIns_e R1 r1 i1
  refine ⟨a, dx, _, rfl, hx, lookup_zip_none nm, Z, G1, τ, x, _, S.mv (s1.mv R), R1, q1, fun es G2 H2 vs q2 s2 R2 r2 => ?_, cx.step s1⟩
  show liftSp X.K sp (V.ref a :: (vs ++ [])) H2 Q E0
  rw [List.append_nil]
  exact lift_ok (σ := []) R2 (.cons (r1.mv (s2.mv R1)) r2) q2 (cl.step (s1.trans s2)) fun _ _ _ _ _ _ z => z.elim
def gMeth0 (C : Addr) (m : Str) (sp : SpD) (to : TED) : TED := fun τ G x q => to τ G x fun d G1 => Sd (IsIns C d G1 fun ks _ => m ∉ ks) (Call sp [d] G1 q X0)
theorem pd_meth0 {pl : Sem Bool} (c : Cls X.K C) (hm : Meth X.K C m f) (F : FnD X k f fd ps sp) (hr : Room k X.A) (hb : Binds X.K fd ps []) (ho : PEd X W o to)
    (ht : eval (.Call (.Attribute o m apos) [] [] pos) X.env = (do
      let ov ← eval o X.env
      standAt apos.atName
      let (f, first) ← holding [ov] (getMethod ov m pl)
      callWith pos f first (backTo pos (starEach [] X.env)) (backToKw pos (keywordEach [] X.env))) := by rfl) :
    PEd X W (.Call (.Attribute o m apos) [] [] pos) (gMeth0 C m sp to) := PEi (pe_meth0 ho c hm F hr hb .nil passL ht) fun σ H Q => by
  rintro ⟨Z, G, τ, x, q, S, R, hw, cl, cx⟩
  refine ⟨Z, G, τ, x, _, S, R, hw, fun d G1 H1 v q1 s1 R1 r1 => ?_, cx⟩
  obtain ⟨i1, q1⟩ := Sd_e q1
  obtain ⟨a, dx, ks, ds, xs, rfl, hx, hl, rx, nm⟩ := isIns_e R1 r1 i1
  refine ⟨a, dx, _, rfl, hx, lookup_zip_none nm, ?_⟩
  exact lift_ok (σ := []) R1 (.cons r1 .nil) q1 (cl.step s1) fun _ _ _ _ _ _ z => z.elim
/-- o.p, a property -/
def gProp (C : Addr) (sp : SpD) (to : TED) : TED := fun τ G x q => to τ G x fun d G1 => Sd (IsIns C d G1 fun _ _ => True) (Call sp [d] G1 q X0)
theorem pd_prop {p : Addr} (c : Cls X.K C) (hp : PropOf X.K C fl p g) (F : FnD X k g fd ps sp) (hr : Room (k + 1) X.A) (hb : Binds X.K fd ps []) (ho : PEd X W o to) (hab : attributeBase o fl X.env (eval o X.env) = eval o X.env := by rfl) :
    PEd X W (.Attribute o fl pos) (gProp C sp to) := PEi (pe_prop ho c hp F hr hb .nil passL hab) fun σ H Q => by
  rintro ⟨Z, G, τ, x, q, S, R, hw, cl, cx⟩
  refine ⟨Z, G, τ, x, _, S, R, hw, fun d G1 H1 v q1 s1 R1 r1 => ?_, cx⟩
  obtain ⟨i1, q1⟩ := Sd_e q1
  obtain ⟨a, dx, ks, ds, xs, rfl, hx, hl, rx, _⟩ := isIns_e R1 r1 i1
  refine ⟨a, dx, _, rfl, hx, ?_⟩
  exact lift_ok (σ := []) R1 (.cons r1 .nil) q1 (cl.step s1) fun _ _ _ _ _ _ z => z.elim
/-- C(..): a new object; it may be kept as a value -/
@[irreducible] def NewO (C : Addr) (sp : SpD) (ds : List D) (G : GH) (q : QD) : Prop := ∀ p, G p = none → Call sp (.ref p :: ds) (gup G p (.ins C [] [])) (fun d G2 => d = .non ∧ Ret (.ref p) G2 q) X0
theorem NewO_i {sp : SpD} {ds : List D} {G : GH} {q : QD} (h : ∀ p, G p = none → Call sp (.ref p :: ds) (gup G p (.ins C [] [])) (fun d G2 => d = .non ∧ Ret (.ref p) G2 q) X0) : NewO C sp ds G q := by unfold NewO; exact h
theorem newO_ok {K : PySem.W.Frag} {Z : ZS} {G : GH} {H : Hp} {ds : List D} {vs : List V} {q : QD} {Q : VK} (R : Rel K Z G H) (r : RlA K Z G H ds vs) (h : NewO C sp ds G q) (c : ClE K Z G H q Q) (y dx : Addr) (hy : H y = none) (hdx : H dx = none) (ne : dx ≠ y) :
    liftSp K sp (.ref y :: vs) (upd (upd H dx (.own y)) y (.ins C dx [])) (fun v H2 => v = .non ∧ Q (.ref y) H2) E0 := by
  unfold NewO at h
  have h1 := Call_e (h y (R.fresh hy))
  have sA := step_new (u := .own y) R hdx
  have RA := rel_new (u := .own y) R hdx
  have hy' : upd H dx (.own y) y = none := by rw [upd_ne (Ne.symm ne)]; exact hy
  have sB := step_newG (u := .ins C dx []) (o := .ins C [] []) RA hy'
  have RB := rel_newG (u := .ins C dx []) (o := .ins C [] []) RA hy' ⟨dx, [], upd_same, rfl, .nil⟩
  have sAB := sA.trans sB
  refine ⟨Z, _, _, _, X0, .cons (.ref y) (r.mv (sAB.mv R)), RB, h1, fun d G' H' v hq s' R' r' => ?_, fun _ _ _ _ _ _ z => z.elim⟩
  obtain ⟨rfl, hq⟩ := hq
  cases r'
  exact ⟨rfl, ret_ok R' (.ref y) hq (c.step (sAB.trans s'))⟩
def gMake (C : Addr) (sp : SpD) (ta : TAD) : TED := fun τ G x q => ta τ G x fun ds G1 => NewO C sp ds G1 q
theorem pd_make (M : Mk X.K C f) (F : FnD X k f fd ps sp) (hr : Room (k + 1) X.A) (hg : Gl X x) (hm : X.mg x = some (.ref C)) (hb : Binds X.K fd ps []) (ha : PAd X W (e :: es) ta) (hdb : (x == ("__debug__" : Str)) = false := by decide)
    (he : starEach (e :: es) X.env = (false, eval e X.env) :: starEach es X.env := by rfl) (hpl : (backTo pos (starEach es X.env)).any (·.1) = false := by rfl) : PEd X W (.Call (.Name x q) (e :: es) [] pos) (gMake C sp ta) :=
  PEi (pe_make M F hr hg hm hb .nil passL ha hdb he hpl) fun σ H Q => by
    rintro ⟨Z, G, τ, x, q, S, R, hw, cl, cx⟩
    refine ⟨Z, G, τ, x, _, S, R, hw, fun ds G1 H1 vs q1 s1 R1 r1 => ?_, cx⟩
    intro y dx hy hdx ne
    rw [List.append_nil]
    exact newO_ok R1 r1 q1 (cl.step s1) y dx hy hdx ne
theorem pd_make0 (M : Mk X.K C f) (F : FnD X k f fd ps sp) (hr : Room (k + 1) X.A) (hg : Gl X x) (hm : X.mg x = some (.ref C)) (hb : Binds X.K fd ps []) (hdb : (x == ("__debug__" : Str)) = false := by decide) : PEd X W (.Call (.Name x q) [] [] pos) (gMake C sp gNil) :=
  PEi (pe_make0 M F hr hg hm hb .nil passL hdb) fun σ H Q => by
    rintro ⟨Z, G, τ, x, q, S, R, hw, cl, cx⟩
    intro y dx hy hdx ne
    exact newO_ok R .nil hw cl y dx hy hdx ne
end
end N
namespace N
open PySem PySem.Spec PyProof.Rows L2
theorem PEm {X : Cx} {W : WX} {e : Expr} {t u : TED} (h : PEd X W e t) (i : ∀ τ G x q, u τ G x q → t τ G x q) : PEd X W e u := PEi h fun σ H Q => by
  rintro ⟨Z, G, τ, x, q, S, R, hw, c, cx⟩
  exact ⟨Z, G, τ, x, q, S, R, i _ _ _ _ hw, c, cx⟩
/-! ### isinstance of built-in classes -/
inductive Ty where | bl | int | str | tup | lst
def Ty.nm : Ty → String
  | .bl => "bool" | .int => "int" | .str => "str" | .tup => "tuple" | .lst => "list"
def isT : Option Ty → Ty → Bool
  | some .bl, .bl => true
  | some .bl, .int => true
  | some .int, .int => true
  | some .str, .str => true
  | some .tup, .tup => true
  | some .lst, .lst => true
  | _, _ => false
def onm : Option Ty → String
  | none => "NoneType"
  | some t => t.nm
theorem kit_isT : ∀ (t : Option Ty) (T : Ty), kitB (onm t) T.nm = some (isT t T) := by
  intro t T
  cases t with
  | none => cases T <;> decide +kernel
  | some t => cases t <;> cases T <;> decide +kernel
/-- the built-in class of a value (none: None's) -/
def TyD (d : D) (G : GH) (k : Option Ty → Prop) : Prop := match d with
  | .non => k none
  | .bl _ => k (some .bl)
  | .int _ => k (some .int)
  | .str _ => k (some .str)
  | .tup _ => k (some .tup)
  | .lst _ => k (some .lst)
  | .ro _ => k (some .lst)
  | .ref a => LkL a G fun _ => k (some .lst)
  | _ => False
theorem tyD_e {K : PySem.W.Frag} {Z : ZS} {G : GH} {H : Hp} {d : D} {v : V} {k : Option Ty → Prop} (R : Rel K Z G H) (r : Rl K Z G H d v) (h : TyD d G k) : ∃ t, TyX K H v (.type (onm t)) ∧ k t := by
  cases d with
  | non => cases r; exact ⟨none, .base .non, h⟩
  | bl b => cases r; exact ⟨some .bl, .base (.bl b), h⟩
  | int i => cases r; exact ⟨some .int, .base (.int i), h⟩
  | str s => cases r; exact ⟨some .str, .base (.str s), h⟩
  | tup ds => cases r with
    | tup hx _ =>
      refine ⟨some .tup, ?_, h⟩
      rcases hx with (hx | ⟨o, hx⟩) | ⟨o, its, n, hk, hc, _⟩
      · exact .base (.tup hx)
      · exact .fTuple hx
      · exact .kTuple hk hc
  | lst ds => cases r with
    | lst hx _ _ _ => exact ⟨some .lst, .base (.lst hx), h⟩
  | ro ds => cases r with
    | ro hx _ =>
      refine ⟨some .lst, ?_, h⟩
      rcases hx with ⟨o, hx⟩ | ⟨o, its, n, hk, hc, _⟩
      · exact .base (.frz hx)
      · exact .kList hk hc
  | ref a =>
    obtain ⟨ds, e, h⟩ := LkL_e h
    obtain ⟨_, xs, hx, _⟩ := R.ob a _ e
    cases r
    exact ⟨some .lst, .base (.lst hx), h⟩
  | _ => exact (show False from h).elim
def gIsi (T : Ty) (te : TED) : TED := fun τ G x q => te τ G x fun d G1 => TyD d G1 fun t => q (.bl (isT t T)) G1
def tTys : List Ty → TA
  | [] => tNil
  | t :: ts => tCons (tC (.ty t.nm)) (tTys ts)
def gIsiT (Ts : List Ty) (te : TED) : TED := fun τ G x q => te τ G x fun d G1 => TyD d G1 fun t => q (.bl (Ts.any fun T => isT t T)) G1
theorem tTys_run (σ : L2.St) (H : Hp) (Q : List V → Hp → Prop) : ∀ Ts : List Ty, Q (Ts.map fun t => .ty t.nm) H → tTys Ts σ H Q := by
  intro Ts
  induction Ts generalizing Q with
  | nil => exact fun h => h
  | cons t ts ih => exact fun h => ih (fun xs H => Q (.ty t.nm :: xs) H) h
theorem kitAny_tys {K : PySem.W.Frag} {t : Option Ty} : ∀ Ts : List Ty, PySem.W.kitAny K (.type (onm t)) (Ts.map fun T => .type T.nm) = some (Ts.any fun T => isT t T)
  | [] => kitAny_nil
  | T :: Ts => by
    rw [List.map_cons, List.any_cons]
    refine kitAny_cons (kit_ty (kit_isT t T)) (fun e => ?_) fun e => by rw [e]; rfl
    rw [e, Bool.false_or]
    exact kitAny_tys Ts
theorem cls_tys : ∀ Ts : List Ty, Paired ClsV (Ts.map fun T => V.ty T.nm) (Ts.map fun T => Value.type T.nm)
  | [] => .nil
  | T :: Ts => .cons (.ty _) (cls_tys Ts)
section
variable {X : Cx} {W : WX} {a b e c2 : Expr} {te ta tb : TED} {p pos : Pos}
theorem pd_isi {T : Ty} (hm : X.mg "isinstance" = none) (hg : Gl X "isinstance") (he : PEd X W e te) (hc : PE X c2 (tC (.ty T.nm)))
    (hs : starEach [e, c2] X.env = (false, eval e X.env) :: starEach [c2] X.env := by rfl) (hs2 : starEach [c2] X.env = (false, eval c2 X.env) :: starEach [] X.env := by rfl)
    (hpl : (backTo pos (starEach [c2] X.env)).any (·.1) = false := by rfl) : PEd X W (.Call (.Name "isinstance" p) [e, c2] [] pos) (gIsi T te) :=
  PEi (pe_callB call_isi hg hm (by decide +kernel) (pa_cons he (pa_cons hc pa_nil hs2) hs) (by decide) (by decide) hs hpl) fun σ H Q => by
    rintro ⟨Z, G, τ, x, q, S, R, h, c, cx⟩
    refine ⟨Z, G, τ, x, _, S, R, h, fun d G1 H1 v q1 s1 R1 r1 => ?_, cx⟩
    obtain ⟨t, ht, q1⟩ := tyD_e R1 r1 q1
    exact ⟨v, .ty T.nm, _, _, _, rfl, .ty _, ht, kit_ty (kit_isT t T), c _ _ _ _ q1 s1 R1 (.bl _)⟩
theorem pd_isiT {es : List Expr} {k : Nat} {p2 : Pos} (Ts : List Ty) (hl : Ts.length ≤ 100) (hm : X.mg "isinstance" = none) (hg : Gl X "isinstance") (he : PEd X W e te) (hc : PA X es (tTys Ts))
    (hs : starEach [e, .Tuple es k p2] X.env = (false, eval e X.env) :: starEach [.Tuple es k p2] X.env := by rfl) (hs2 : starEach [.Tuple es k p2] X.env = (false, eval (.Tuple es k p2) X.env) :: starEach [] X.env := by rfl)
    (hpl : (backTo pos (starEach [.Tuple es k p2] X.env)).any (·.1) = false := by rfl) : PEd X W (.Call (.Name "isinstance" p) [e, .Tuple es k p2] [] pos) (gIsiT Ts te) :=
  PEi (pe_callB call_isiT hg hm (by decide +kernel) (pa_cons he (pa_cons (pe_tup hc) pa_nil hs2) hs) (by decide) (by decide) hs hpl) fun σ H Q => by
    rintro ⟨Z, G, τ, x, q, S, R, h, c, cx⟩
    refine ⟨Z, G, τ, x, _, S, R, h, fun d G1 H1 v q1 s1 R1 r1 => ?_, cx⟩
    refine tTys_run σ H1 _ Ts ⟨by rw [List.length_map]; exact Nat.le_trans hl (by decide), fun p hp => ?_⟩
    have s2 := step_new (u := HO.tup (Ts.map fun T => V.ty T.nm)) R1 hp
    obtain ⟨t, ht, q1⟩ := tyD_e (rel_new (u := HO.tup (Ts.map fun T => V.ty T.nm)) R1 hp) (r1.mv (s2.mv R1)) q1
    exact ⟨v, p, _, _, _, _, rfl, upd_same, cls_tys Ts, ht, kitAny_tys Ts, c _ _ _ _ q1 (s1.trans s2) (rel_new R1 hp) (.bl _)⟩
theorem pe_ty {x : Str} {n : String} (hg : Gl X x) (hm : X.mg x = none) (hv : bootBuiltins x = some (.type n)) (hn : x ≠ "__name__" := by decide) (hd : (x == ("__debug__" : Str)) = false := by decide) : PE X (.Name x pos) (tC (.ty n)) := pe_bltn hg hm hv rfl hn hd
/-! ### - of a number, chains -/
def gNeg (t : TED) : TED := fun τ G x q => t τ G x fun d G1 => I1 d fun i => q (.int (-i)) G1
theorem pd_neg (he : PEd X W e te) : PEd X W (.UnaryOp .USub e pos) (gNeg te) := PEi (pe_un un_neg he) fun σ H Q => by
  rintro ⟨Z, G, τ, x, q, S, R, h, c, cx⟩
  refine ⟨Z, G, τ, x, _, S, R, h, fun d G1 H1 v q1 s1 R1 r1 => ?_, cx⟩
  obtain ⟨i, rfl, rfl, q1⟩ := I1_e r1 q1
  exact ⟨i, rfl, c _ _ _ _ q1 s1 R1 (.int _)⟩
/-- a op b op' c -/
def gChain (t t' : R2D) (ta tb tc : TED) : TED := fun τ G x q => ta τ G x fun d G1 => tb τ G1 x fun e G2 => t d e G2 fun z G3 => match z with
  | .bl k => Cond k (tc τ G3 x fun f G4 => t' e f G4 q) (q (.bl false) G3)
  | _ => False
theorem lf_chain {K : PySem.W.Frag} {r r' : R2} {t t' : R2D} {tc : TED} (h : R2Ok K r t) (h' : R2Ok K r' t') {σ : L2.St} {H : Hp} {Q : VK} (w : Lf K W (gChain t t' ta tb tc) σ H Q) : tChain r r' (Lf K W ta) (Lf K W tb) (Lf K W tc) σ H Q := by
  obtain ⟨Z, G, τ, x, q, S, R, hw, c, cx⟩ := w
  refine ⟨Z, G, τ, x, _, S, R, hw, fun d G1 H1 v q1 s1 R1 r1 => ?_, cx⟩
  refine ⟨Z, G1, τ, x, _, S.mv (s1.mv R), R1, q1, fun e G2 H2 u q2 s2 R2 r2 => ?_, cx.step s1⟩
  have s12 := s1.trans s2
  refine h Z G2 H2 d e v u _ _ R2 (r1.mv (s2.mv R1)) r2 q2 fun z G3 H3 w q3 s3 R3 r3 => ?_
  have s13 := s12.trans s3
  cases z with
  | bl k =>
    cases r3
    refine ⟨k, rfl, ?_⟩
    have q3 := Cond_e q3
    cases k with
    | true =>
      refine ⟨Z, G3, τ, x, _, S.mv (s13.mv R), R3, q3, fun f G4 H4 y q4 s4 R4 r4 => ?_, cx.step s13⟩
      exact h' Z G4 H4 e f u y q Q R4 (r2.mv ((s3.trans s4).mv R2)) r4 q4 (c.step (s13.trans s4))
    | false => exact c _ _ _ _ q3 s13 R3 (.bl false)
  | _ => exact (show False from q3).elim
variable {c3 : Expr} {tc : TED}
theorem pd_chain {op op' : CmpOp} {r r' : R2} {t t' : R2D} (ho : OpR X (compareOp op) r) (ho' : OpR X (compareOp op') r') (h : R2Ok X.K r t) (h' : R2Ok X.K r' t') (ha : PEd X W a ta) (hb : PEd X W b tb) (hc : PEd X W c3 tc)
    (hm : lastMarks [op, op'] [b, c3] = false := by with_unfolding_all rfl) : PEd X W (.Compare a [op, op'] [b, c3] pos) (gChain t t' ta tb tc) := PEi (pe_chain ho ho' ha hb hc hm) fun _ _ _ w => lf_chain h h' w
theorem pt_chain {op op' : CmpOp} {r r' : R2} {t t' : R2D} (ho : OpR X (compareOp op) r) (ho' : OpR X (compareOp op') r') (h : R2Ok X.K r t) (h' : R2Ok X.K r' t') (ha : PEd X W a ta) (hb : PEd X W b tb) (hc : PEd X W c3 tc)
    (hm : lastMarks [op, op'] [b, c3] = false := by with_unfolding_all rfl) : PTd X W (.Compare a [op, op'] [b, c3] pos) (gTst (gChain t t' ta tb tc)) := PTi (L2.pt_chain ho ho' ha hb hc hm) fun σ H Q w => lf_tst (fun _ _ _ z => lf_chain h h' z) w
end
end N
namespace N
open PySem PySem.Spec PyProof.Rows L2
/-! ### enumerate(tuple), enumerate(text) -/
theorem meets_enum1 {v : Value} {o : Obj} {H : Heap → Prop} (B : Begins v o H) :
    Meets (Builtin.«enumerate.__new__» ⟨[.type "enumerate", v], []⟩) (fun _ R s => H s.heap ∧
      R (.ok (.ret (.ref (s.heap.push o).objs.size))) { s with heap := (s.heap.push o).push { cls := .type "enumerate", data := .fields #[.none, .bool false, .ref s.heap.objs.size, rawInt 0, .none, .none] } }) :=
  .of_wp fun prog w A R s h => by
    obtain ⟨hp, g, d, tk, os⟩ := s; obtain ⟨h1, h⟩ := h
    have hsub := sub_enumerate
    have q1 : ∀ {A' : Around} {E : Value → Shared → Prop} {Q : Value → Shared → Prop}, Q (.ref hp.objs.size) ⟨hp.push o, g, d, tk, os⟩ → wpAny (model prog w) A' (pyIter v) Q E ⟨hp, g, d, tk, os⟩ :=
      fun q => B.iter prog w _ _ ⟨hp, g, d, tk, os⟩ _ h1 q
    wp_walk using q1
    refine wpAny_stack_any fun st => wpAny_pure ?_
    split
    · rename_i c _ _ _ _ _
      cases (c == Value.type "enumerate")
      · wp_walk using q1
        exact ⟨_, rfl, h⟩
      · wp_walk using q1
        exact ⟨_, rfl, h⟩
    · wp_walk using q1
      exact ⟨_, rfl, h⟩
theorem call_enum1 {prog : Program} {w : World} {A : Around} {E : Value → Shared → Prop} {s : Shared} {v : Value} {o : Obj} {H : Heap → Prop} {Q : Value → Shared → Prop} (B : Begins v o H) (h1 : H s.heap)
    (h : ∀ h', IsEnum h' (s.heap.objs.size + 1) s.heap.objs.size 0 .none → h'.get? s.heap.objs.size = some o → h'.objs.size = s.heap.objs.size + 2 →
      (∀ b o, s.heap.get? b = some o → h'.get? b = some o) → Q (.ref (s.heap.objs.size + 1)) { s with heap := h' }) :
    wpAny (model prog w) A (call (.type "enumerate") [v]) Q E s := by
  refine callType_new F.called_enumerate (by decide) (F.typeCall_enumerate_1 _) (F.newCall_enumerate_1 _) (fun obj => F.args_object_init_2 obj _) F.entry_enumerate_new (meets_enum1 B) ⟨h1, ?_⟩
  have hz : (s.heap.push o).objs.size = s.heap.objs.size + 1 := Heap.size_push ..
  show _ ∧ _
  rw [hz]
  have he : IsEnum ((s.heap.push o).push { cls := .type "enumerate", data := .fields #[.none, .bool false, .ref s.heap.objs.size, rawInt 0, .none, .none] }) (s.heap.objs.size + 1) s.heap.objs.size 0 .none := by
    have := Heap.get?_push_size (s.heap.push o) (o := { cls := .type "enumerate", data := .fields #[.none, .bool false, .ref s.heap.objs.size, rawInt 0, .none, .none] }) rfl
    rw [hz] at this; exact this
  refine ⟨⟨_, he, rfl⟩, h _ he (Heap.get?_push_of_some _ (Heap.get?_push_size _ B.free)) (by rw [Heap.size_push, hz]) fun b o x => Heap.get?_push_of_some _ (Heap.get?_push_of_some _ x)⟩
/-- the tuple at a, each item in a new pair -/
def IteT (K : PySem.W.Frag) (a : Addr) : It :=
  ⟨fun i H => ∃ (xs : List V) (x : V), SqT K H a xs ∧ xs[i]? = some x, fun i H v H' => ∃ T x, v = .ref T ∧ H T = none ∧ H' = upd H T (.tup [.int (i : Nat), x]) ∧ ∀ xs, SqT K H a xs → xs[i]? = some x, fun i H => ∃ xs : List V, SqT K H a xs ∧ xs.length = i⟩
theorem vals_getV : ∀ {xs : List V} {us : List Value} {i : Nat} {u : Value}, Vals xs us → us[i]? = some u → ∃ x, xs[i]? = some x ∧ RelV x u
  | _, _, _, _, .nil, e => by simp at e
  | _, _, 0, _, .cons h _, e => by
    simp at e
    subst e
    exact ⟨_, rfl, h⟩
  | _, _, i + 1, u, .cons _ t, e => by
    obtain ⟨x, h1, h2⟩ := vals_getV (i := i) t (by simpa using e)
    exact ⟨x, by simpa using h1, h2⟩
theorem enum_item {X : Cx} {pins : List (Addr × Obj)} {s : Shared} {σ : L2.St} {H : Hp} {E : Value → Shared → Prop} {elts : List Expr} {kk i n : Nat} {tpos : Pos} {e it : Addr} {fp : List Addr} {Pv : Nat → Value → Prop} {St : Nat → Heap → Prop} {Y : V → Hp → Prop}
    (D : Draws X.prog X.w X.A.in1 it fp n Pv St) (hef : e ∉ fp) (I : Inv X pins σ H s) (hf : ∀ b ∈ [e, it], FpOk X pins H b) (he : ∃ old, IsEnum s.heap e it ((i : Nat) : Int) old) (hit : St i s.heap) (hne : e ≠ it) (hlt : i < n)
    (pv : ∀ u, Pv i u → ∃ x, RelV x u ∧ ∀ T, H T = none → Y (.ref T) (upd H T (.tup [.int (i : Nat), x]))) :
    wpAny (model X.prog X.w) X.A (pyNext (.ref e)) (fun r s1 => ∃ u, r = some u ∧ wpAny (model X.prog X.w) X.A (letOwnedTupleGo (.Tuple elts kk tpos) (.ref e) u) (fun _ s2 => ∃ x H', Inv X pins σ H' s2 ∧ RelV x u ∧ Y x H' ∧ ((∃ old, IsEnum s2.heap e it ((i + 1 : Nat) : Int) old) ∧ St (i + 1) s2.heap) ∧ ∀ b ∈ [e, it], H' b = none) E s1) E s := by
  obtain ⟨old, he⟩ := he
  have hel : e < s.heap.objs.size := Heap.lt_size he
  have hil : it < s.heap.objs.size := by obtain ⟨_, q⟩ := D.live _ _ hit; exact Heap.lt_size q
  refine wpAny_pyNext_enum_itemD D he hit hlt hne hef fun u h' tk hP ho hit' hT hsz hk => ?_
  obtain ⟨x, ru, hY⟩ := pv u hP
  refine ⟨_, rfl, wpAny_letOwnedTupleGo_enum (s := { s with heap := h', toks := tk + 1 }) ho fun h'' he' sb => ?_⟩
  have hT2 : h''.get? s.heap.objs.size = some { cls := .type "tuple", data := .seq #[.int i tk, u] } := (sb.2 _ (Nat.ne_of_gt hel)).trans hT
  have new : ObjOk X.prog X.w (upd H s.heap.objs.size (.tup [.int (i : Nat), x])) h'' s.heap.objs.size (.tup [.int (i : Nat), x]) :=
    ⟨by show 2 ≤ sizeLine; decide, [.int i tk, u], .cons ⟨_, rfl⟩ (.cons ru .nil), ⟨_, hT2, rfl, _, rfl⟩⟩
  have I1 : Inv X pins σ (upd H s.heap.objs.size (.tup [.int (i : Nat), x])) { s with heap := h'', toks := tk + 1 } :=
    I.turnedNew (ch := [e, it]) (fun b ob hb q => (sb.2 b (fun z => hb (by simp [z]))).trans (hk b ob (fun z => hb (by simp [z])) (fun z => hb (by simp [z])) q)) hf (Nat.le_refl _) new
  refine ⟨.ref s.heap.objs.size, _, I1, rfl, hY _ (I.hok.fresh (Nat.le_refl _)), ⟨⟨u, ?_⟩, D.frame _ _ _ hit' fun b hb o q => (sb.2 b fun z => hef (z ▸ hb)).trans q⟩, fun b hb => ?_⟩
  · have e1 : ((i + 1 : Nat) : Int) = (i : Int) + 1 := by omega
    rw [e1]; exact he'
  · have hb' : b < s.heap.objs.size := by
      have e' : b = e ∨ b = it := by simpa using hb
      rcases e' with z | z
      · rw [z]; exact hel
      · rw [z]; exact hil
    rw [upd_ne (Nat.ne_of_lt hb')]
    exact (hf b hb).1
theorem turn_enumT {P : Program} {w : World} {K : PySem.W.Frag} {elts : List Expr} {kk : Nat} {tpos : Pos} (a e it : Addr) :
    Turn P w K (.Tuple elts kk tpos) (IteT K a) [e, it] e (fun i h => (∃ old, IsEnum h e it ((i : Nat) : Int) old) ∧ h.IsTupleIter it a i ∧ e ≠ it ∧ e ≠ a ∧ a ≠ it) where
  mem := by simp
  obj := fun i h st b hb => by
    obtain ⟨⟨old, he⟩, ⟨o, ho, hc, hd⟩, _⟩ := st
    have e' : b = e ∨ b = it := by simpa using hb
    rcases e' with z | z
    · rw [z]; exact ⟨_, he, fun v q => nomatch q⟩
    · rw [z]; exact ⟨o, ho, fun v q => by rw [hd] at q; cases q⟩
  keep := fun i h h' st k => let ⟨⟨old, he⟩, hi, hne⟩ := st; ⟨⟨old, k e (by simp) _ he⟩, hi.at fun o q => k it (by simp) o q, hne⟩
  item := by
    intro X hP hw hK hc i pins s σ H E I hf st hg
    subst hP hw hK
    obtain ⟨he, hit, hne, hea, hai⟩ := st
    obtain ⟨xs, x, hq, hx⟩ := hg
    obtain ⟨its, rv, p, hz⟩ := I.tuple hq
    have D := Draws.tuple (prog := X.prog) (w := X.w) (A := X.A.in1) (I.ok.hd hc) it a hai its.toArray
    refine wpAny_mono (enum_item (elts := elts) (kk := kk) (tpos := tpos) (Y := fun v H' => ∃ T x, v = .ref T ∧ H T = none ∧ H' = upd H T (.tup [.int (i : Nat), x]) ∧ ∀ xs, SqT X.K H a xs → xs[i]? = some x) D (by simp; exact ⟨hne, hea⟩) I hf he ⟨hit, p⟩ hne (by
      have := (List.getElem?_eq_some_iff.mp hx).1
      rw [rv.length] at this
      simpa using this) fun u hu => ?_) ?_ fun _ _ z => z
    · obtain ⟨y, hy, ry⟩ := vals_getV rv (u := u) (by simpa using hu)
      exact ⟨y, ry, fun T hT => ⟨T, y, rfl, hT, rfl, fun ys hy' => by rw [I.tuple_inj hy' hq]; exact hy⟩⟩
    · rintro r s1 ⟨u, rfl, h⟩
      refine ⟨u, rfl, wpAny_mono h ?_ fun _ _ z => z⟩
      rintro _ s2 ⟨x, H', I2, r2, hy, ⟨he2, hit2, _⟩, fp2⟩
      exact ⟨x, H', I2, r2, hy, ⟨he2, hit2, hne, hea, hai⟩, fp2⟩
  done := by
    intro X hP hw hK hc i pins s σ H E I hf st hg
    subst hP hw hK
    obtain ⟨⟨old, he⟩, hit, hne, hea, hai⟩ := st
    obtain ⟨xs, hq, hx⟩ := hg
    obtain ⟨its, rv, p, hz⟩ := I.tuple hq
    obtain ⟨f0, f1, f2, f3, f4, f5⟩ := hf it (by simp)
    have hl := rv.length
    have D := Draws.tuple (prog := X.prog) (w := X.w) (A := X.A.in1) (I.ok.hd hc) it a hai its.toArray
    exact wpAny_pyNext_enum_endD D he (i := ((i : Nat) : Int)) ⟨by rw [List.size_toArray, ← hl, hx]; exact hit, p⟩ fun h' eb => ⟨rfl, I.turned (t' := s.toks) (fun b o hb q => eb b o hb q) f0 f1 f3 f4 f5⟩
  self := fun A i s Q E st h => let ⟨⟨_, he⟩, _⟩ := st; wpAny_pyIter_enum he h
/-- a text, each sign in a new pair -/
def IteS (z : Str) : It :=
  ⟨fun i _ => i < z.cps.size, fun i H v H' => ∃ T c, v = .ref T ∧ H T = none ∧ H' = upd H T (.tup [.int (i : Nat), .str ⟨#[c]⟩]) ∧ z.cps[i]? = some c, fun i _ => i = z.cps.size⟩
theorem turn_enumS {P : Program} {w : World} {K : PySem.W.Frag} {elts : List Expr} {kk : Nat} {tpos : Pos} (z : Str) (t : Tok) (e it : Addr) :
    Turn P w K (.Tuple elts kk tpos) (IteS z) [e, it] e (fun i h => (∃ old, IsEnum h e it ((i : Nat) : Int) old) ∧ h.IsStrIter it (strIterType z) z t i ∧ e ≠ it) where
  mem := by simp
  obj := fun i h st b hb => by
    obtain ⟨⟨old, he⟩, ⟨o, ho, hc, hd⟩, _⟩ := st
    have e' : b = e ∨ b = it := by simpa using hb
    rcases e' with z | z
    · rw [z]; exact ⟨_, he, fun v q => nomatch q⟩
    · rw [z]; exact ⟨o, ho, fun v q => by rw [hd] at q; cases q⟩
  keep := fun i h h' st k => let ⟨⟨old, he⟩, ⟨o, ho, r⟩, hne⟩ := st; ⟨⟨old, k e (by simp) _ he⟩, ⟨o, k it (by simp) _ ho, r⟩, hne⟩
  item := by
    intro X hP hw hK hc i pins s σ H E I hf st hg
    subst hP hw hK
    obtain ⟨he, hit, hne⟩ := st
    have D := Draws.text (prog := X.prog) (w := X.w) (A := X.A.in1) (I.ok.hd hc) it z t
    refine wpAny_mono (enum_item (elts := elts) (kk := kk) (tpos := tpos) (Y := fun v H' => ∃ T c, v = .ref T ∧ H T = none ∧ H' = upd H T (.tup [.int (i : Nat), .str ⟨#[c]⟩]) ∧ z.cps[i]? = some c) D (by simp; exact hne) I hf he hit hne hg fun u hu => ?_) ?_ fun _ _ z => z
    · obtain ⟨c, tu, hc, rfl⟩ := hu
      exact ⟨.str ⟨#[c]⟩, ⟨tu, rfl⟩, fun T hT => ⟨T, c, rfl, hT, rfl, hc⟩⟩
    · rintro r s1 ⟨u, rfl, h⟩
      refine ⟨u, rfl, wpAny_mono h ?_ fun _ _ z => z⟩
      rintro _ s2 ⟨x, H', I2, r2, hy, ⟨he2, hit2⟩, fp2⟩
      exact ⟨x, H', I2, r2, hy, ⟨he2, hit2, hne⟩, fp2⟩
  done := by
    intro X hP hw hK hc i pins s σ H E I hf st hg
    subst hP hw hK
    obtain ⟨⟨old, he⟩, hit, hne⟩ := st
    obtain ⟨f0, f1, f2, f3, f4, f5⟩ := hf it (by simp)
    have hx : i = z.cps.size := hg
    have D := Draws.text (prog := X.prog) (w := X.w) (A := X.A.in1) (I.ok.hd hc) it z t
    exact wpAny_pyNext_enum_endD D he (i := ((i : Nat) : Int)) (by rw [← hx]; exact hit) fun h' eb => ⟨rfl, I.turned (t' := s.toks) (fun b o hb q => eb b o hb q) f0 f1 f3 f4 f5⟩
  self := fun A i s Q E st h => let ⟨⟨_, he⟩, _⟩ := st; wpAny_pyIter_enum he h
def iAnyV (K : PySem.W.Frag) (tl : TE) : TI := fun σ H R => tl σ H fun x H1 => (∃ a, x = .ref a ∧ (∃ xs, SqL K H1 a xs) ∧ R (Itl K a) H1) ∨ (∃ a, x = .ref a ∧ (∃ xs, SqT K H1 a xs) ∧ R (Itt K a) H1) ∨ ∃ z, x = .str z ∧ R (Its z) H1
theorem pi_any {X : Cx} {tg l : Expr} {tl : TE} (hl : PE X l tl) : PI X tg l (iAnyV X.K tl) := by
  refine ⟨fun pins s σ H R I h => ?_⟩
  refine thn (hl.run pins s σ H _ I h) fun v s1 ⟨x, H1, I1, r1, q1⟩ => ?_
  rcases q1 with ⟨a, e, ⟨xs, hq⟩, q⟩ | ⟨a, e, ⟨xs, hq⟩, q⟩ | ⟨z, e, q⟩
  · subst e
    cases r1
    obtain ⟨its, rv, p, hz⟩ := I1.list hq
    refine wpAny_pyIter_list p.isList ?_
    refine ⟨s1.heap.objs.size, [s1.heap.objs.size], _, _, H1, rfl, I1.kept (t' := s1.toks) fun b o e => Heap.get?_push_of_some _ e, turn_list a _, ⟨_, Heap.get?_push_size _ rfl, rfl, rfl⟩, fun b hb => ?_, q⟩
    have e : b = s1.heap.objs.size := by simpa using hb
    subst e
    exact I1.fpOk (Nat.le_refl _) (I1.hok.fresh (Nat.le_refl _))
  · subst e
    cases r1
    obtain ⟨its, rv, p, hz⟩ := I1.tuple hq
    refine wpAny_pyIter_tuple (show s1.heap.IsTuple a its.toArray from p) ?_
    refine ⟨s1.heap.objs.size, [s1.heap.objs.size], _, _, H1, rfl, I1.kept (t' := s1.toks) fun b o e => Heap.get?_push_of_some _ e, turn_tuple a _, ⟨_, Heap.get?_push_size _ rfl, rfl, rfl⟩, fun b hb => ?_, q⟩
    have e : b = s1.heap.objs.size := by simpa using hb
    subst e
    exact I1.fpOk (Nat.le_refl _) (I1.hok.fresh (Nat.le_refl _))
  · subst e
    obtain ⟨t, rfl⟩ := r1
    cases ha : z.cps.all (· < 128)
    · exact wpAny_pyIter_wide ha (pi_one (tk := s1.toks) I1 _ (turn_str _ z t "str_iterator" (.inr rfl)) ⟨_, Heap.get?_push_size _ rfl, rfl, rfl⟩ q)
    · exact wpAny_pyIter_ascii ha (pi_one (tk := s1.toks) I1 _ (turn_str _ z t "str_ascii_iterator" (.inl rfl)) ⟨_, Heap.get?_push_size _ rfl, rfl, rfl⟩ q)
def iEnumV (K : PySem.W.Frag) (ta : TA) : TI := fun σ H R => ta σ H fun vs H1 => (∃ a xs, vs = [.ref a] ∧ SqL K H1 a xs ∧ R (Ite K a) H1) ∨ (∃ a xs, vs = [.ref a] ∧ SqT K H1 a xs ∧ R (IteT K a) H1) ∨ ∃ z, vs = [.str z] ∧ R (IteS z) H1
theorem pi_enumA {X : Cx} {e : Expr} {ta : TA} {p pos tpos : Pos} {elts : List Expr} {kk : Nat} (hg : Gl X "enumerate") (hm : X.mg "enumerate" = none) (ha : PA X [e] ta) (hs : starEach [e] X.env = [(false, eval e X.env)] := by rfl) :
    PI X (.Tuple elts kk tpos) (.Call (.Name "enumerate" p) [e] [] pos) (iEnumV X.K ta) := by
  refine ⟨fun pins s σ H R I h => ?_⟩
  refine Call_ (ld_blt I hg hm boot_enumerate (PyProof.Rows.callWith_type1 (thn (ha.run pos pins s σ H _ I h) fun us s1 ⟨vs, H1, I1, r1, q1⟩ => ?_) hs rfl))
  have fpk : ∀ b ∈ [s1.heap.objs.size + 1, s1.heap.objs.size], FpOk X pins H1 b := fun b hb => by
    have e' : b = s1.heap.objs.size + 1 ∨ b = s1.heap.objs.size := by simpa using hb
    have hle : s1.heap.objs.size ≤ b := by
      rcases e' with z | z
      · rw [z]; exact Nat.le_add_right _ _
      · rw [z]; exact Nat.le_refl _
    exact I1.fpOk hle (I1.hok.fresh hle)
  rcases q1 with ⟨a, xs, ex, hq, q⟩ | ⟨a, xs, ex, hq, q⟩ | ⟨z, ex, q⟩
  · subst ex
    cases r1 with
    | cons r rr =>
      cases rr
      cases r
      obtain ⟨its, rv, p', hz⟩ := I1.list hq
      refine call_enumerate_list p'.isList fun h' he hit hsz hk => wpAny_pyIter_enum he ?_
      have I2 : Inv X pins σ H1 { s1 with heap := h' } := I1.kept (t' := s1.toks) hk
      exact ⟨s1.heap.objs.size + 1, [s1.heap.objs.size + 1, s1.heap.objs.size], _, _, H1, rfl, I2, turn_enum a (s1.heap.objs.size + 1) s1.heap.objs.size, ⟨⟨.none, he⟩, hit, Nat.succ_ne_self _⟩, fpk, q⟩
  · subst ex
    cases r1 with
    | cons r rr =>
      cases rr
      cases r
      obtain ⟨its, rv, p', hz⟩ := I1.tuple hq
      have al : a < s1.heap.objs.size := by obtain ⟨o, ho, _⟩ := (show s1.heap.IsTuple a its.toArray from p'); exact Heap.lt_size ho
      refine call_enum1 (begins_tuple a its.toArray) p' fun h' he hit hsz hk => wpAny_pyIter_enum he ?_
      have I2 : Inv X pins σ H1 { s1 with heap := h' } := I1.kept (t' := s1.toks) hk
      exact ⟨s1.heap.objs.size + 1, [s1.heap.objs.size + 1, s1.heap.objs.size], _, _, H1, rfl, I2, turn_enumT a (s1.heap.objs.size + 1) s1.heap.objs.size, ⟨⟨.none, he⟩, ⟨_, hit, rfl, rfl⟩, Nat.succ_ne_self _, Nat.ne_of_gt (Nat.lt_succ_of_lt al), Nat.ne_of_lt al⟩, fpk, q⟩
  · subst ex
    cases r1 with
    | cons r rr =>
      cases rr
      obtain ⟨t, rfl⟩ := r
      refine call_enum1 (begins_text z t) True.intro fun h' he hit hsz hk => wpAny_pyIter_enum he ?_
      have I2 : Inv X pins σ H1 { s1 with heap := h' } := I1.kept (t' := s1.toks) hk
      exact ⟨s1.heap.objs.size + 1, [s1.heap.objs.size + 1, s1.heap.objs.size], _, _, H1, rfl, I2, turn_enumS z t (s1.heap.objs.size + 1) s1.heap.objs.size, ⟨⟨.none, he⟩, ⟨_, hit, rfl, rfl⟩, Nat.succ_ne_self _⟩, fpk, q⟩
/-- by value: what can be walked, with what must stay -/
def anyAt (d : D) (G : GH) (k : List D → (GH → Prop) → Prop) : Prop := match d with
  | .lst ds => k ds (fun _ => True)
  | .ro ds => k ds (fun _ => True)
  | .tup ds => k ds (fun _ => True)
  | .str z => k (signs z) (fun _ => True)
  | .ref a => LkL a G fun ds => k ds fun G => G a = some (.lst ds)
  | _ => False
def iAny (t : TED) : TID := fun τ G x q => t τ G x fun d G1 => anyAt d G1 fun ds stay => q ds stay G1
theorem its_ok {K : PySem.W.Frag} {z : Str} {Z0 : ZS} {G0 : GH} {H0 : Hp} : ItOk (Its z) K (signs z) (fun _ => True) Z0 G0 H0 := by
  have hl : (signs z).length = z.cps.size := by unfold signs; rw [List.length_map, Array.length_toList]
  refine ⟨fun Z i G H hi m R _ => ?_, fun Z i G H x H' hi m R _ y => ?_, fun Z G H m R _ => ?_⟩
  · show i < z.cps.size
    rw [← hl]; exact hi
  · obtain ⟨e, k, hk, ev⟩ := y
    subst e ev
    refine ⟨.str ⟨#[k]⟩, ?_, Step.refl _ _, R, .str _⟩
    unfold signs
    rw [List.getElem?_map, Array.getElem?_toList, hk]
    rfl
  · show z.cps.size ≤ _
    rw [hl]; exact Nat.le_refl _
section
variable {X : Cx} {W : WX} {tg e : Expr} {t : TED} {ta : TAD} {p pos : Pos}
theorem pid_any (he : PEd X W e t) : PId X W tg e (iAny t) := PIi (pi_any he) fun σ H R' => by
  rintro ⟨Z, G, τ, x, q, S, R, h, c, cx⟩
  refine ⟨Z, G, τ, x, _, S, R, h, fun d G1 H1 v q1 s1 R1 r1 => ?_, cx⟩
  cases d with
  | tup ds =>
    cases r1 with
    | @tup a xs _ hx rx => exact .inr (.inl ⟨_, rfl, ⟨_, hx⟩, c ds _ G1 H1 _ q1 s1 R1 (itt_ok fun Z G H m R _ => ⟨xs, SqT.mv (fun ys => m.tups _ ys) (fun ob w => m.frzs _ ob w) hx, rx.mv m⟩)⟩)
  | str z =>
    cases r1
    exact .inr (.inr ⟨z, rfl, c _ _ G1 H1 _ q1 s1 R1 its_ok⟩)
  | lst ds =>
    cases r1 with
    | @lst a xs _ hx hg hz rx => exact .inl ⟨_, rfl, ⟨_, SqL.of hx⟩, c ds _ G1 H1 _ q1 s1 R1 (itl_ok fun Z G H m R _ => ⟨xs, SqL.of (m.all _ _ hx hg hz).1, rx.mv m⟩)⟩
  | ro ds =>
    cases r1 with
    | @ro a xs _ hx rx => exact .inl ⟨_, rfl, ⟨_, hx.sq⟩, c ds _ G1 H1 _ q1 s1 R1 (itl_ok fun Z G H m R _ => ⟨xs, (hx.mv m.frzs).sq, rx.mv m⟩)⟩
  | ref a =>
    obtain ⟨ds, e, q1⟩ := LkL_e q1
    obtain ⟨_, xs, hx, rx⟩ := R1.ob a _ e
    cases r1
    refine .inl ⟨_, rfl, ⟨_, SqL.of hx⟩, c ds _ G1 H1 _ q1 s1 R1 (itl_ok fun Z G H m R s => ?_)⟩
    obtain ⟨_, ys, hy, ry⟩ := R.ob a _ s
    exact ⟨ys, SqL.of hy, ry⟩
  | _ => exact (show False from q1).elim
def iEnumA (ta : TAD) : TID := fun τ G x q => ta τ G x fun as G1 => A1 as fun d => anyAt d G1 fun ds stay => q (enumD ds) stay G1
theorem iteT_ok {K : PySem.W.Frag} {a : Addr} {ds : List D} {Z0 : ZS} {G0 : GH} {H0 : Hp}
    (h : ∀ Z G H, Mv Z0 Z G0 G H0 H → Rel K Z G H → ∃ xs, SqT K H a xs ∧ RlA K Z G H ds xs) : ItOk (IteT K a) K (enumD ds) (fun _ => True) Z0 G0 H0 := by
  refine ⟨fun Z i G H hi m R s => ?_, fun Z i G H x H' hi m R s y => ?_, fun Z G H m R s => ?_⟩
  · rw [enum_len] at hi
    obtain ⟨ys, hy, ry⟩ := h Z G H m R
    obtain ⟨w, hw, _⟩ := ry.get (List.getElem?_eq_getElem hi)
    exact ⟨ys, w, hy, hw⟩
  · obtain ⟨ys, hy, ry⟩ := h Z G H m R
    obtain ⟨T, w, ev, hT, eH, hw⟩ := y
    subst ev eH
    obtain ⟨d, hd, rd⟩ := ry.getV (hw ys hy)
    obtain ⟨a1, a2, a3⟩ := pair_rl R hT (.int (i : Int)) rd
    exact ⟨_, enum_at hd, a1, a2, a3⟩
  · obtain ⟨ys, hy, ry⟩ := h Z G H m R
    exact ⟨ys, hy, by rw [enum_len, ry.length]⟩
theorem iteL_ok {K : PySem.W.Frag} {a : Addr} {ds : List D} {stay : GH → Prop} {Z0 : ZS} {G0 : GH} {H0 : Hp}
    (hk : ∀ Z G H, Mv Z0 Z G0 G H0 H → Rel K Z G H → stay G → ∃ xs, SqL K H a xs ∧ RlA K Z G H ds xs) : ItOk (Ite K a) K (enumD ds) stay Z0 G0 H0 := by
  refine ⟨fun Z i G H hi m R s => ?_, fun Z i G H x H' hi m R s y => ?_, fun Z G H m R s => ?_⟩
  · rw [enum_len] at hi
    obtain ⟨ys, hy, ry⟩ := hk Z G H m R s
    obtain ⟨w, hw, _⟩ := ry.get (List.getElem?_eq_getElem hi)
    exact ⟨ys, w, hy, hw⟩
  · obtain ⟨ys, hy, ry⟩ := hk Z G H m R s
    obtain ⟨T, w, ev, hT, eH, hw⟩ := y
    subst ev eH
    obtain ⟨d, hd, rd⟩ := ry.getV (hw ys hy)
    obtain ⟨a1, a2, a3⟩ := pair_rl R hT (.int (i : Int)) rd
    exact ⟨_, enum_at hd, a1, a2, a3⟩
  · obtain ⟨ys, hy, ry⟩ := hk Z G H m R s
    exact ⟨ys, hy, by rw [enum_len, ry.length]; exact Nat.le_refl _⟩
theorem iteS_ok {K : PySem.W.Frag} {z : Str} {Z0 : ZS} {G0 : GH} {H0 : Hp} : ItOk (IteS z) K (enumD (signs z)) (fun _ => True) Z0 G0 H0 := by
  have hl : (signs z).length = z.cps.size := by unfold signs; rw [List.length_map, Array.length_toList]
  refine ⟨fun Z i G H hi m R _ => ?_, fun Z i G H x H' hi m R _ y => ?_, fun Z G H m R _ => ?_⟩
  · rw [enum_len, hl] at hi
    exact hi
  · obtain ⟨T, k, ev, hT, eH, hk⟩ := y
    subst ev eH
    have e1 : (signs z)[i]? = some (.str ⟨#[k]⟩) := by
      unfold signs
      rw [List.getElem?_map, Array.getElem?_toList, hk]
      rfl
    obtain ⟨a1, a2, a3⟩ := pair_rl R hT (.int (i : Int)) (Rl.str (K := K) (Z := Z) (G := G) (H := H) ⟨#[k]⟩)
    exact ⟨_, enum_at e1, a1, a2, a3⟩
  · show _ = z.cps.size
    rw [enum_len, hl]
theorem pid_enumA {tpos : Pos} {elts : List Expr} {kk : Nat} (hg : Gl X "enumerate") (hm : X.mg "enumerate" = none) (ha : PAd X W [e] ta) (hs : starEach [e] X.env = [(false, eval e X.env)] := by rfl) :
    PId X W (.Tuple elts kk tpos) (.Call (.Name "enumerate" p) [e] [] pos) (iEnumA ta) := PIi (pi_enumA hg hm ha hs) fun σ H R' => by
  rintro ⟨Z, G, τ, x, q, S, R, h, c, cx⟩
  refine ⟨Z, G, τ, x, _, S, R, h, fun ds G1 H1 vs q1 s1 R1 r1 => ?_, cx⟩
  obtain ⟨d, v, rfl, rfl, r1, q1⟩ := A1_e r1 q1
  cases d with
  | tup ds =>
    cases r1 with
    | @tup a xs _ hx rx => exact .inr (.inl ⟨_, _, rfl, hx, c _ _ G1 H1 _ q1 s1 R1 (iteT_ok fun Z G H m R => ⟨xs, SqT.mv (fun ys => m.tups _ ys) (fun ob w => m.frzs _ ob w) hx, rx.mv m⟩)⟩)
  | str z =>
    cases r1
    exact .inr (.inr ⟨z, rfl, c _ _ G1 H1 _ q1 s1 R1 iteS_ok⟩)
  | lst ds =>
    cases r1 with
    | @lst a xs _ hx hg hz rx => exact .inl ⟨_, _, rfl, SqL.of hx, c _ _ G1 H1 _ q1 s1 R1 (iteL_ok fun Z G H m R _ => ⟨xs, SqL.of (m.all _ _ hx hg hz).1, rx.mv m⟩)⟩
  | ro ds =>
    cases r1 with
    | @ro a xs _ hx rx => exact .inl ⟨_, _, rfl, hx.sq, c _ _ G1 H1 _ q1 s1 R1 (iteL_ok fun Z G H m R _ => ⟨xs, (hx.mv m.frzs).sq, rx.mv m⟩)⟩
  | ref a =>
    obtain ⟨ds, e, q1⟩ := LkL_e q1
    obtain ⟨_, xs, hx, rx⟩ := R1.ob a _ e
    cases r1
    refine .inl ⟨_, _, rfl, SqL.of hx, c _ _ G1 H1 _ q1 s1 R1 (iteL_ok fun Z G H m R s => ?_)⟩
    obtain ⟨_, ys, hy, ry⟩ := R.ob a _ s
    exact ⟨ys, SqL.of hy, ry⟩
  | _ => exact (show False from q1).elim
end
end N
namespace N
open PySem PySem.Spec PyProof.Rows L2
/-! ### min, max of a tuple of ints -/
section
variable {prog : Program} {w : World} {A : Around} {E : Value → Shared → Prop} {s : Shared} {l : Addr} {xs : Array (Int × Tok)} {its : List Value} {ns : List Int} {Q : Value → Shared → Prop}
theorem iter_intTup (hl : s.heap.IsTuple l (intItems xs))
    (h : ∀ s₂ : Shared, s₂ = { s with heap := s.heap.push { cls := .type "tuple_iterator", data := .fields #[.ref l, .int 0 0] } } →
      (s₂.heap.IsTupleIter s.heap.objs.size l 0 ∧ s₂.heap.IsTuple l (intItems xs)) → (∀ b ∈ [s.heap.objs.size, l], b < s₂.heap.objs.size) → l ≠ s.heap.objs.size → Q (.ref s.heap.objs.size) s₂) :
    wpAny (model prog w) A (pyIter (.ref l)) Q E s := by
  have hlt : l < s.heap.objs.size := by obtain ⟨_, e, _⟩ := hl; exact Heap.lt_size e
  refine wpAny_pyIter_tuple hl (h _ rfl ⟨⟨_, Heap.get?_push_size _ rfl, rfl, rfl⟩, hl.at fun o e => Heap.get?_push_of_some _ e⟩ (fun b hb => ?_) (Nat.ne_of_lt hlt))
  show b < (s.heap.push _).objs.size
  rw [Heap.size_push]
  rcases List.mem_cons.mp hb with rfl | hb
  · exact Nat.lt_succ_self _
  · rcases List.mem_cons.mp hb with rfl | hb
    · exact Nat.lt_succ_of_lt hlt
    · cases hb
theorem old_keptT {h' : Heap} (hk : ∀ b o, b ∉ [s.heap.objs.size] → (s.heap.push { cls := .type "tuple_iterator", data := .fields #[.ref l, .int 0 0] }).get? b = some o → h'.get? b = some o) :
    ∀ b o, s.heap.get? b = some o → h'.get? b = some o := fun b o e => by
  refine hk b o (fun hm => ?_) (Heap.get?_push_of_some _ e)
  rcases List.mem_cons.mp hm with e1 | hm
  · exact absurd (e1 ▸ Heap.lt_size e) (Nat.lt_irrefl _)
  · cases hm
theorem max_rawT (hh : A.handled = none) (hl : s.heap.IsTuple l its.toArray) (hi : IntsAre its ns) (hne : 0 < ns.length)
    (h : ∀ h' tk M t', (∀ b o, s.heap.get? b = some o → h'.get? b = some o) → M ∈ ns → (∀ a, a ∈ ns → a ≤ M) → Q (.int M t') { s with heap := h', toks := tk }) : wpAny (model prog w) A (call (.builtin "max") [.ref l]) Q E s := by
  obtain ⟨xs, e⟩ := hi.allInts.items
  have hn : numsOf (intItems xs).toList = ns := by rw [← e]; exact hi.numsOf
  rw [nums_intItems] at hn
  subst hn
  rw [e] at hl
  have hsz : 0 < xs.size := by simpa using hne
  refine call_max_walk (iter_intTup hl fun s₂ e st hfp hlI => ?_)
  subst e
  refine ⟨_, _, _, _, _, _, _, rfl, Walks.tuple (A := A.in1) hh _ l hlI (intItems xs), st, hfp, by simpa [intItems] using hsz, CmpOf.ints_gt (numAt xs) (fun _ _ => intItems_at), fun v h' tk hP hk => ?_⟩
  obtain ⟨t, rfl⟩ := intItems_at (by simpa [intItems] using hP)
  obtain ⟨h1, h2⟩ := argBest_gt (numAt xs) (xs.size - 1)
  have h1' : argBest (fun i j => decide (numAt xs j < numAt xs i)) (xs.size - 1) ≤ xs.size - 1 := h1
  refine h h' tk _ t (old_keptT hk) ?_ fun a ha => ?_
  · rw [numAt_eq]; exact PySem.getD_mem (by rw [List.length_map, Array.length_toList]; omega)
  · obtain ⟨j, hj, rfl⟩ := mem_getD ha
    rw [List.length_map, Array.length_toList] at hj
    rw [← numAt_eq]; exact h2 j (by omega)
theorem min_rawT (hh : A.handled = none) (hl : s.heap.IsTuple l its.toArray) (hi : IntsAre its ns) (hne : 0 < ns.length)
    (h : ∀ h' tk M t', (∀ b o, s.heap.get? b = some o → h'.get? b = some o) → M ∈ ns → (∀ a, a ∈ ns → M ≤ a) → Q (.int M t') { s with heap := h', toks := tk }) : wpAny (model prog w) A (call (.builtin "min") [.ref l]) Q E s := by
  obtain ⟨xs, e⟩ := hi.allInts.items
  have hn : numsOf (intItems xs).toList = ns := by rw [← e]; exact hi.numsOf
  rw [nums_intItems] at hn
  subst hn
  rw [e] at hl
  have hsz : 0 < xs.size := by simpa using hne
  refine call_min_walk (iter_intTup hl fun s₂ e st hfp hlI => ?_)
  subst e
  refine ⟨_, _, _, _, _, _, _, rfl, Walks.tuple (A := A.in1) hh _ l hlI (intItems xs), st, hfp, by simpa [intItems] using hsz, CmpOf.ints_lt (numAt xs) (fun _ _ => intItems_at), fun v h' tk hP hk => ?_⟩
  obtain ⟨t, rfl⟩ := intItems_at (by simpa [intItems] using hP)
  obtain ⟨h1, h2⟩ := argBest_lt (numAt xs) (xs.size - 1)
  refine h h' tk _ t (old_keptT hk) ?_ fun a ha => ?_
  · rw [numAt_eq]; exact PySem.getD_mem (by rw [List.length_map, Array.length_toList]; omega)
  · obtain ⟨j, hj, rfl⟩ := mem_getD ha
    rw [List.length_map, Array.length_toList] at hj
    rw [← numAt_eq]; exact h2 j (by omega)
end
def rMaxT (K : PySem.W.Frag) : List V → Hp → VK → Prop := fun vs H Q => ∃ (a : Addr) (ns : List Int), vs = [V.ref a] ∧ SqT K H a (ns.map V.int) ∧ 0 < ns.length ∧ ∀ m, m ∈ ns → (∀ y, y ∈ ns → y ≤ m) → Q (.int m) H
def rMinT (K : PySem.W.Frag) : List V → Hp → VK → Prop := fun vs H Q => ∃ (a : Addr) (ns : List Int), vs = [V.ref a] ∧ SqT K H a (ns.map V.int) ∧ 0 < ns.length ∧ ∀ m, m ∈ ns → (∀ y, y ∈ ns → m ≤ y) → Q (.int m) H
theorem cr_maxT {X : Cx} (hc : X.calm = true) : CallR X (.builtin "max") (rMaxT X.K) := by
  intro pins s σ H vs us Q I r h
  obtain ⟨a, ns, rfl, hs, hne, q⟩ := h
  obtain ⟨its, rv, hl, _⟩ := I.tuple hs
  rw [Vals.ref1 r]
  exact max_rawT (I.ok.hd hc) hl rv.ints hne fun h' tk m t' hk h1 h2 => ⟨.int _, H, I.kept hk, ⟨_, rfl⟩, q m h1 h2⟩
theorem cr_minT {X : Cx} (hc : X.calm = true) : CallR X (.builtin "min") (rMinT X.K) := by
  intro pins s σ H vs us Q I r h
  obtain ⟨a, ns, rfl, hs, hne, q⟩ := h
  obtain ⟨its, rv, hl, _⟩ := I.tuple hs
  rw [Vals.ref1 r]
  exact min_rawT (I.ok.hd hc) hl rv.ints hne fun h' tk m t' hk h1 h2 => ⟨.int _, H, I.kept hk, ⟨_, rfl⟩, q m h1 h2⟩
theorem callR_or {X : Cx} {f : Value} {r r' : List V → Hp → VK → Prop} (h : CallR X f r) (h' : CallR X f r') : CallR X f (fun xs H Q => r xs H Q ∨ r' xs H Q) := by
  intro pins s σ H vs us Q I rr z
  rcases z with z | z
  · exact h pins s σ H vs us Q I rr z
  · exact h' pins s σ H vs us Q I rr z
/-- min, max: two ints, a list, a tuple of ints -/
@[irreducible] def IntsQ (x : D) (G : GH) (k : List Int → Prop) : Prop := AsQ x G fun ds => ∃ ns : List Int, ds = ns.map D.int ∧ k ns
theorem IntsQ_l {G : GH} {k : List Int → Prop} {ds : List D} (ns : List Int) (e : ds = ns.map D.int) (h : k ns) : IntsQ (.lst ds) G k := by unfold IntsQ; exact ⟨ns, e, h⟩
theorem IntsQ_t {G : GH} {k : List Int → Prop} {ds : List D} (ns : List Int) (e : ds = ns.map D.int) (h : k ns) : IntsQ (.tup ds) G k := by unfold IntsQ; exact ⟨ns, e, h⟩
theorem IntsQ_r {a : Addr} {G : GH} {k : List Int → Prop} {ds : List D} (ns : List Int) (g : G a = some (.lst ds)) (e : ds = ns.map D.int) (h : k ns) : IntsQ (.ref a) G k := by unfold IntsQ; exact LkL_i g ⟨ns, e, h⟩
theorem intsQ_e {K : PySem.W.Frag} {Z : ZS} {G : GH} {H : Hp} {x : D} {v : V} {k : List Int → Prop} (R : Rel K Z G H) (r : Rl K Z G H x v) (h : IntsQ x G k) : ∃ a ns, v = .ref a ∧ (SqL K H a (ns.map V.int) ∨ SqT K H a (ns.map V.int)) ∧ k ns := by
  unfold IntsQ at h
  obtain ⟨a, xs, ds, rfl, hs, rd, ns, rfl, h⟩ := asQ_e R r h
  have e := ints_rl rd
  subst e
  exact ⟨a, ns, rfl, hs, h⟩
def cMin : CAD := fun ds G q => match ds with
  | [x] => IntsQ x G fun ns => Sd (0 < ns.length) (∀ m, m ∈ ns → (∀ y, y ∈ ns → m ≤ y) → q (.int m) G)
  | [x, y] => I1 x fun i => I1 y fun j => q (.int (if j < i then j else i)) G
  | _ => False
def cMax : CAD := fun ds G q => match ds with
  | [x] => IntsQ x G fun ns => Sd (0 < ns.length) (∀ m, m ∈ ns → (∀ y, y ∈ ns → y ≤ m) → q (.int m) G)
  | [x, y] => I1 x fun i => I1 y fun j => q (.int (if j > i then j else i)) G
  | _ => False
def rMinA (K : PySem.W.Frag) : List V → Hp → VK → Prop := fun xs H Q => (∃ i j, xs = [.int i, .int j] ∧ Q (.int (if j < i then j else i)) H) ∨ rMin K xs H Q ∨ rMinT K xs H Q
def rMaxA (K : PySem.W.Frag) : List V → Hp → VK → Prop := fun xs H Q => (∃ i j, xs = [.int i, .int j] ∧ Q (.int (if j > i then j else i)) H) ∨ rMax K xs H Q ∨ rMaxT K xs H Q
theorem call_minA {X : Cx} (hc : X.calm = true) : CallR X (.builtin "min") (rMinA X.K) := callR_or (call_min2 hc) (callR_or (cr_min hc) (cr_minT hc))
theorem call_maxA {X : Cx} (hc : X.calm = true) : CallR X (.builtin "max") (rMaxA X.K) := callR_or (call_max2 hc) (callR_or (cr_max hc) (cr_maxT hc))
theorem ok_minA {K : PySem.W.Frag} : CAOk K (rMinA K) cMin := by
  intro Z G H ds vs q Q R r h c
  match ds, h with
  | [x], h =>
    obtain ⟨d, v, e, rfl, r1, _⟩ := A1_e (k := fun _ => True) r True.intro
    cases e
    obtain ⟨a, ns, rfl, hs, h⟩ := intsQ_e R r1 h
    obtain ⟨h1, h2⟩ := Sd_e h
    rcases hs with hs | hs
    · exact .inr (.inl ⟨a, ns, rfl, hs, h1, fun m m1 m2 => c _ _ _ _ (h2 m m1 m2) (Step.refl _ _) R (.int _)⟩)
    · exact .inr (.inr ⟨a, ns, rfl, hs, h1, fun m m1 m2 => c _ _ _ _ (h2 m m1 m2) (Step.refl _ _) R (.int _)⟩)
  | [x, y], h =>
    obtain ⟨d, e, v, u, e1, rfl, r1, r2, _⟩ := A2_e (k := fun _ _ => True) r True.intro
    cases e1
    obtain ⟨i, rfl, rfl, h⟩ := I1_e r1 h
    obtain ⟨j, rfl, rfl, h⟩ := I1_e r2 h
    exact .inl ⟨i, j, rfl, c _ _ _ _ h (Step.refl _ _) R (.int _)⟩
theorem ok_maxA {K : PySem.W.Frag} : CAOk K (rMaxA K) cMax := by
  intro Z G H ds vs q Q R r h c
  match ds, h with
  | [x], h =>
    obtain ⟨d, v, e, rfl, r1, _⟩ := A1_e (k := fun _ => True) r True.intro
    cases e
    obtain ⟨a, ns, rfl, hs, h⟩ := intsQ_e R r1 h
    obtain ⟨h1, h2⟩ := Sd_e h
    rcases hs with hs | hs
    · exact .inr (.inl ⟨a, ns, rfl, hs, h1, fun m m1 m2 => c _ _ _ _ (h2 m m1 m2) (Step.refl _ _) R (.int _)⟩)
    · exact .inr (.inr ⟨a, ns, rfl, hs, h1, fun m m1 m2 => c _ _ _ _ (h2 m m1 m2) (Step.refl _ _) R (.int _)⟩)
  | [x, y], h =>
    obtain ⟨d, e, v, u, e1, rfl, r1, r2, _⟩ := A2_e (k := fun _ _ => True) r True.intro
    cases e1
    obtain ⟨i, rfl, rfl, h⟩ := I1_e r1 h
    obtain ⟨j, rfl, rfl, h⟩ := I1_e r2 h
    exact .inl ⟨i, j, rfl, c _ _ _ _ h (Step.refl _ _) R (.int _)⟩
/-! ### list.count of an int -/
def mCnt : MTD := fun d ds G q => A1 ds fun x => I1 x fun k => IntsL d G fun ns => q (.int (ns.count k : Nat)) G
theorem ok_count {K : PySem.W.Frag} : MTOk K (rCntI K) mCnt := by
  intro Z G H d ds v vs q Q R r rs h c
  obtain ⟨x, u, rfl, rfl, r1, h⟩ := A1_e rs h
  obtain ⟨k, rfl, rfl, h⟩ := I1_e r1 h
  obtain ⟨a, ns, rfl, hs, h⟩ := intsL_e R r h
  exact ⟨a, ns, k, rfl, rfl, hs, c _ _ _ _ h (Step.refl _ _) R (.int _)⟩
section
variable {X : Cx} {W : WX} {o e : Expr} {to : TED} {ta : TAD} {apos cpos : Pos}
theorem pd_count (ho : PEd X W o to) (ha : PAd X W [e] ta) (hbase : attributeBase o "count" X.env (eval o X.env) = eval o X.env := by rfl) (hline : (apos.endLine == cpos.line) = true := by rfl)
    (hfew : ((backTo cpos (starEach [e] X.env)).all (fun x => !x.1) && (backToKw cpos (keywordEach [] X.env)).all (fun x => x.1.isSome)
      && decide ([e].length + ([] : List Keyword).length + (if ([] : List Keyword).isEmpty then 0 else 1) < 30)) = true := by rfl) (hs : starEach [e] X.env = (false, eval e X.env) :: starEach [] X.env := by rfl) :
    PEd X W (.Call (.Attribute o "count" apos) [e] [] cpos) (gBL mCnt to ta) :=
  pd_blm PySem.F.plainAttrs_list PySem.F.slot_list_count PySem.F.type_list_count mt_lcount ok_count ho ha hbase hfew hline hs
end
/-! ### calls with defaults and keywords -/
def CstA : List D → List V → Prop
  | [], [] => True
  | d :: ds, v :: vs => CstD d v ∧ CstA ds vs
  | _, _ => False
theorem CstA.rl {K : PySem.W.Frag} {Z : ZS} {G : GH} {H : Hp} : ∀ {ds : List D} {vs : List V}, CstA ds vs → RlA K Z G H ds vs
  | [], [], _ => .nil
  | [], _ :: _, h => h.elim
  | _ :: _, [], h => h.elim
  | _ :: _, _ :: _, h => .cons h.1.rl (CstA.rl h.2)
/-- the values in the parameters' order -/
def pk {α : Type} (idx : List Nat) (l : List α) : List α := idx.filterMap fun i => l[i]?
theorem pk_rel {α β : Type} {r : α → β → Prop} {l : List α} {m : List β} (h : ∀ i : Nat, (l[i]? = none ∧ m[i]? = none) ∨ ∃ a b, l[i]? = some a ∧ m[i]? = some b ∧ r a b) : ∀ idx : List Nat, ∃ ps : List (α × β), pk idx l = ps.map (·.1) ∧ pk idx m = ps.map (·.2) ∧ ∀ p ∈ ps, r p.1 p.2
  | [] => ⟨[], rfl, rfl, by simp⟩
  | i :: is => by
    obtain ⟨ps, e1, e2, e3⟩ := pk_rel h is
    rcases h i with ⟨a, b⟩ | ⟨x, y, a, b, c⟩
    · refine ⟨ps, ?_, ?_, e3⟩
      · show (i :: is).filterMap (fun i => l[i]?) = _
        rw [List.filterMap_cons, a]; exact e1
      · show (i :: is).filterMap (fun i => m[i]?) = _
        rw [List.filterMap_cons, b]; exact e2
    · refine ⟨(x, y) :: ps, ?_, ?_, ?_⟩
      · show (i :: is).filterMap (fun i => l[i]?) = _
        rw [List.filterMap_cons, a, List.map_cons, ← e1]; rfl
      · show (i :: is).filterMap (fun i => m[i]?) = _
        rw [List.filterMap_cons, b, List.map_cons, ← e2]; rfl
      · intro p hp
        rcases List.mem_cons.mp hp with rfl | hp
        · exact c
        · exact e3 p hp
theorem vals_map : ∀ {ps : List (V × Value)}, (∀ p ∈ ps, RelV p.1 p.2) → Vals (ps.map (·.1)) (ps.map (·.2))
  | [], _ => .nil
  | p :: ps, h => .cons (h p List.mem_cons_self) (vals_map fun q hq => h q (List.mem_cons_of_mem _ hq))
theorem rla_map {K : PySem.W.Frag} {Z : ZS} {G : GH} {H : Hp} : ∀ {ps : List (D × V)}, (∀ p ∈ ps, Rl K Z G H p.1 p.2) → RlA K Z G H (ps.map (·.1)) (ps.map (·.2))
  | [], _ => .nil
  | p :: ps, h => .cons (h p List.mem_cons_self) (rla_map fun q hq => h q (List.mem_cons_of_mem _ hq))
theorem vals_pk {vs : List V} {us : List Value} (h : Vals vs us) (idx : List Nat) : Vals (pk idx vs) (pk idx us) := by
  obtain ⟨ps, e1, e2, e3⟩ := pk_rel (r := RelV) (l := vs) (m := us) (fun i => by
    cases e : vs[i]? with
    | none =>
      refine .inl ⟨rfl, ?_⟩
      rw [List.getElem?_eq_none_iff] at e ⊢
      rw [← h.length]; exact e
    | some x =>
      obtain ⟨u, hu, r⟩ := h.get e
      exact .inr ⟨x, u, rfl, hu, r⟩) idx
  rw [e1, e2]
  exact vals_map e3
theorem rla_pk {K : PySem.W.Frag} {Z : ZS} {G : GH} {H : Hp} {ds : List D} {vs : List V} (h : RlA K Z G H ds vs) (idx : List Nat) : RlA K Z G H (pk idx ds) (pk idx vs) := by
  obtain ⟨ps, e1, e2, e3⟩ := pk_rel (r := Rl K Z G H) (l := ds) (m := vs) (fun i => by
    cases e : ds[i]? with
    | none =>
      refine .inl ⟨rfl, ?_⟩
      rw [List.getElem?_eq_none_iff] at e ⊢
      rw [← h.length]; exact e
    | some x =>
      obtain ⟨u, hu, r⟩ := h.get e
      exact .inr ⟨x, u, rfl, hu, r⟩) idx
  rw [e1, e2]
  exact rla_map e3
theorem vals_app : ∀ {vs ws : List V} {us zs : List Value}, Vals vs us → Vals ws zs → Vals (vs ++ ws) (us ++ zs)
  | _, _, _, _, .nil, t => t
  | _, _, _, _, .cons h r, t => .cons h (vals_app r t)
section
variable {K : PySem.W.Frag} {x qual : Str} {params : Arguments} {body : List Stmt} {scope : Scope} {f : Addr} {fd : FuncData} {ps : List Str}
/-- f(e, .., k = v, ..) of a def without defaults -/
theorem kbN (F : FunD K x qual params body scope [] [] f fd) (n : Nat) (ks : List Str) (idx : List Nat)
    (h : ∀ (kV doc pm : Value) (an : Option Addr) (cdv ct : Value) (us ws : List Value), us.length = n → ws.length = ks.length →
      bindArgs (PySem.W.fnOf x qual params body scope .none kV doc pm an cdv ct) ⟨us, ks.zip ws⟩ = pure (ps.zip (pk idx (us ++ ws)))) : KBn K fd ps n ks (fun us ws => pk idx (us ++ ws)) (fun vs zs => pk idx (vs ++ zs)) := by
  obtain ⟨oc, od, dV, kV, doc, pm, an, cdv, ct, osl, rfl, lk, hcd, hD, hK⟩ := F.ex
  rcases hD with ⟨_, rfl⟩ | ⟨e, _⟩
  · exact ⟨fun s us ws X l1 l2 => .of_eq (h kV doc pm an cdv ct us ws l1 l2), fun r1 r2 => vals_pk (vals_app r1 r2) idx⟩
  · exact absurd rfl e
end
section
variable {X : Cx} {W : WX} {k n : Nat} {f C : Addr} {fd : FuncData} {ps ks : List Str} {sp : SpD} {x : Str} {p pos kpos : Pos} {e : Expr} {es : List Expr} {kws : List Keyword} {ta tk : TAD} {dfd : List D} {dvs : List V} {dfl : List Value} {nm : Option Str} {te : TED}
abbrev PKd (X : Cx) (W : WX) (kws : List Keyword) (t : TAD) : Prop := PK X kws (LfA X.K W t)
theorem PKi {t u : TA} (h : PK X kws t) (i : ∀ σ H Q, u σ H Q → t σ H Q) : PK X kws u := ⟨fun pos pins s σ H Q I hw => h.run pos pins s σ H Q I (i _ _ _ hw)⟩
theorem pkd_nil : PKd X W [] gNil := PKi pk_nil fun σ H Q => by
  rintro ⟨Z, G, τ, x, q, S, R, h, c, _⟩
  exact c _ G H _ h (Step.refl _ _) R .nil
theorem pkd_cons (h1 : PEd X W e te) (h2 : PKd X W kws tk) : PKd X W (⟨nm, e, kpos⟩ :: kws) (gCons te tk) :=
  PKi (pk_cons h1 h2) fun σ H Q => by
    rintro ⟨Z, G, τ, x, q, S, R, h, c, cx⟩
    refine ⟨Z, G, τ, x, _, S, R, h, fun d G1 H1 v q1 s1 R1 r1 => ?_, cx⟩
    refine ⟨Z, G1, τ, x, _, S.mv (s1.mv R), R1, q1, fun ds G2 H2 vs q2 s2 R2 r2 => ?_, cx.step s1⟩
    exact c _ G2 H2 _ q2 (s1.trans s2) R2 (.cons (r1.mv (s2.mv R1)) r2)
/-- f(e, ..), the last parameters by their defaults -/
def gCallD (sp : SpD) (dfd : List D) (ta : TAD) : TED := fun τ G x q => ta τ G x fun ds G1 => Call sp (ds ++ dfd) G1 q X0
theorem pd_callD (F : FnD X k f fd ps sp) (hr : Room k X.A) (hg : Gl X x) (hm : X.mg x = some (.ref f)) (hk : PySem.W.keepIn X.K (.ref f) = true) (hv : Vals dvs dfl) (hb : Binds X.K fd ps dfl) (hd : CstA dfd dvs) (ha : PAd X W (e :: es) ta) (hdb : (x == ("__debug__" : Str)) = false := by decide)
    (he : starEach (e :: es) X.env = (false, eval e X.env) :: starEach es X.env := by rfl) (hpl : (backTo pos (starEach es X.env)).any (·.1) = false := by rfl) : PEd X W (.Call (.Name x p) (e :: es) [] pos) (gCallD sp dfd ta) :=
  PEi (pe_call F hr hg hm hk hb hv passL ha hdb he hpl) fun σ H Q w => by
    obtain ⟨Z, G, τ, x, q, S, R, hw, c, cx⟩ := w
    refine ⟨Z, G, τ, x, _, S, R, hw, fun ds G1 H1 vs q1 s1 R1 r1 => ?_, cx⟩
    exact lift_ok (σ := []) R1 (r1.append hd.rl) q1 (c.step s1) fun _ _ _ _ _ _ z => z.elim
def gMakeD (C : Addr) (sp : SpD) (dfd : List D) (ta : TAD) : TED := fun τ G x q => ta τ G x fun ds G1 => NewO C sp (ds ++ dfd) G1 q
theorem pd_makeD (M : Mk X.K C f) (F : FnD X k f fd ps sp) (hr : Room (k + 1) X.A) (hg : Gl X x) (hm : X.mg x = some (.ref C)) (hv : Vals dvs dfl) (hb : Binds X.K fd ps dfl) (hd : CstA dfd dvs) (ha : PAd X W (e :: es) ta) (hdb : (x == ("__debug__" : Str)) = false := by decide)
    (he : starEach (e :: es) X.env = (false, eval e X.env) :: starEach es X.env := by rfl) (hpl : (backTo pos (starEach es X.env)).any (·.1) = false := by rfl) : PEd X W (.Call (.Name x p) (e :: es) [] pos) (gMakeD C sp dfd ta) :=
  PEi (pe_make M F hr hg hm hb hv passL ha hdb he hpl) fun σ H Q => by
    rintro ⟨Z, G, τ, x, q, S, R, hw, cl, cx⟩
    refine ⟨Z, G, τ, x, _, S, R, hw, fun ds G1 H1 vs q1 s1 R1 r1 => ?_, cx⟩
    intro y dx hy hdx ne
    exact newO_ok R1 (r1.append hd.rl) q1 (cl.step s1) y dx hy hdx ne
/-- f(k = v, ..), f(e, .., k = v, ..) -/
theorem pe_callK0 {CX : CXT} {sp : Sp} {E : XK} {tk : TA} {g : List Value → List Value → List Value} {gV : List V → List V → List V} (F : FnOk X.prog X.w X.K X.mg X.base CX k f fd ps sp) (hr : Room k X.A) (hg : Gl X x) (hm : X.mg x = some (.ref f)) (hk : PySem.W.keepIn X.K (.ref f) = true) (hb : KBn X.K fd ps 0 ks g gV) (hx : Passes CX X E)
    (hkw : PK X kws tk) (hall : (backToKw pos (keywordEach kws X.env)).all (·.1.isSome) = true := by rfl) (hks : (backToKw pos (keywordEach kws X.env)).filterMap (·.1) = ks := by rfl)
    (hdb : (x == ("__debug__" : Str)) = false := by decide)
    (hpl : ((backTo pos (starEach [] X.env)).any (·.1) || (backToKw pos (keywordEach kws X.env)).any (·.1.isNone)) = false := by rfl) :
    PE X (.Call (.Name x p) [] kws pos) (fun σ H Q => tk σ H fun zs H1 => zs.length = ks.length ∧ sp (gV [] zs) H1 Q E) := by
  refine ⟨fun pins s σ H Q I h => ?_⟩
  refine wpAny_Call_Name_kw (ld_glob I hg hm ?_ hdb)
  refine PySem.W.callWith_KW0 (h₀ := X.base) I.ok.mod.kin hk hall ?_ hpl
  refine thn (hkw.run pos pins s σ H _ I h) fun ws s2 ⟨zs, H2, I2, rz, l2, q2⟩ => ⟨I2.kIn, ?_⟩
  rw [hks]
  exact run_fnN (us := []) (vs := []) F hr hb hx I2 .nil rz rfl l2 q2
def gCallK (sp : SpD) (n m : Nat) (idx : List Nat) (dfd : List D) (ta tk : TAD) : TED := fun τ G x q => ta τ G x fun ds G1 => tk τ G1 x fun es G2 => Sd (ds.length = n ∧ es.length = m) (Call sp (pk idx (ds ++ es ++ dfd)) G2 q X0)
theorem pd_callK0 {idx : List Nat} (F : FnD X k f fd ps sp) (hr : Room k X.A) (hg : Gl X x) (hm : X.mg x = some (.ref f)) (hk : PySem.W.keepIn X.K (.ref f) = true) (hb : KBn X.K fd ps 0 ks (fun us ws => pk idx (us ++ ws)) (fun vs zs => pk idx (vs ++ zs)))
    (hkw : PKd X W kws tk) (hall : (backToKw pos (keywordEach kws X.env)).all (·.1.isSome) = true := by rfl) (hks : (backToKw pos (keywordEach kws X.env)).filterMap (·.1) = ks := by rfl)
    (hdb : (x == ("__debug__" : Str)) = false := by decide)
    (hpl : ((backTo pos (starEach [] X.env)).any (·.1) || (backToKw pos (keywordEach kws X.env)).any (·.1.isNone)) = false := by rfl) : PEd X W (.Call (.Name x p) [] kws pos) (gCallK sp 0 ks.length idx [] gNil tk) :=
  PEi (pe_callK0 F hr hg hm hk hb passL hkw hall hks hdb hpl) fun σ H Q w => by
    obtain ⟨Z, G, τ, x, q, S, R, hw, c, cx⟩ := w
    refine ⟨Z, G, τ, x, _, S, R, hw, fun ds G1 H1 vs q1 s1 R1 r1 => ?_, cx⟩
    obtain ⟨⟨_, hl⟩, q1⟩ := Sd_e q1
    refine ⟨by rw [← r1.length]; exact hl, ?_⟩
    have e : pk idx ([] ++ ds ++ []) = pk idx ([] ++ ds) := by rw [List.append_nil]
    rw [e] at q1
    exact lift_ok (σ := []) R1 (rla_pk r1 idx) q1 (c.step s1) fun _ _ _ _ _ _ z => z.elim
theorem pd_callK {idx : List Nat} (F : FnD X k f fd ps sp) (hr : Room k X.A) (hg : Gl X x) (hm : X.mg x = some (.ref f)) (hk : PySem.W.keepIn X.K (.ref f) = true) (hb : KBn X.K fd ps n ks (fun us ws => pk idx (us ++ ws)) (fun vs zs => pk idx (vs ++ zs)))
    (ha : PAd X W (e :: es) ta) (hkw : PKd X W kws tk) (hall : (backToKw pos (keywordEach kws X.env)).all (·.1.isSome) = true := by rfl) (hks : (backToKw pos (keywordEach kws X.env)).filterMap (·.1) = ks := by rfl)
    (hdb : (x == ("__debug__" : Str)) = false := by decide) (he : starEach (e :: es) X.env = (false, eval e X.env) :: starEach es X.env := by rfl)
    (hpl : ((backTo pos (starEach (e :: es) X.env)).any (·.1) || (backToKw pos (keywordEach kws X.env)).any (·.1.isNone)) = false := by rfl) : PEd X W (.Call (.Name x p) (e :: es) kws pos) (gCallK sp n ks.length idx [] ta tk) :=
  PEi (pe_callN F hr hg hm hk hb passL ha hkw hall hks hdb he hpl) fun σ H Q w => by
    obtain ⟨Z, G, τ, x, q, S, R, hw, c, cx⟩ := w
    refine ⟨Z, G, τ, x, _, S, R, hw, fun ds G1 H1 vs q1 s1 R1 r1 => ?_, cx⟩
    refine ⟨Z, G1, τ, x, _, S.mv (s1.mv R), R1, q1, fun es G2 H2 us q2 s2 R2 r2 => ?_, cx.step s1⟩
    obtain ⟨⟨hl1, hl2⟩, q2⟩ := Sd_e q2
    refine ⟨by rw [← r1.length]; exact hl1, by rw [← r2.length]; exact hl2, ?_⟩
    rw [List.append_nil] at q2
    exact lift_ok (σ := []) R2 (rla_pk ((r1.mv (s2.mv R1)).append r2) idx) q2 (c.step (s1.trans s2)) fun _ _ _ _ _ _ z => z.elim
/-- a name of the module that stands for a tuple of the module, a number, a text -/
theorem pd_glo {d : D} {u : Value} {v : V} (hg : Gl X x) (hm : X.mg x = some u) (r : RelV v u) (hd : ∀ Z G H, Rl X.K Z G H d v) (hdb : (x == ("__debug__" : Str)) = false := by decide) : PEd X W (.Name x pos) (gC d) := PEi (pe_glob hg hm r hdb) fun σ H Q => by
  rintro ⟨Z, G, τ, x, q, S, R, h, c, _⟩
  exact c d G H v h (Step.refl _ _) R (hd Z G H)
end
end N
namespace N
open PySem PySem.Spec PyProof.Rows L2
/-! ### a def that keeps its promise, with all that a caller needs -/
structure Fg (P : Program) (w : World) (K : PySem.W.Frag) (mg : Str → Option Value) (base : Heap) (k : Nat) (f : Addr) (sp : SpD) (dfd : List D) : Prop where
  ex : ∃ (fd : FuncData) (ps : List Str) (dvs : List V) (dfl : List Value), FnOk P w K mg base (L2.CX P w) k f fd ps (liftSp K sp) ∧ PySem.W.keepIn K (.ref f) = true ∧ Vals dvs dfl ∧ Binds K fd ps dfl ∧ CstA dfd dvs
/-- .. called with n values and the keywords ks -/
structure Fk (P : Program) (w : World) (K : PySem.W.Frag) (mg : Str → Option Value) (base : Heap) (k : Nat) (f : Addr) (sp : SpD) (n : Nat) (ks : List Str) (idx : List Nat) : Prop where
  ex : ∃ (fd : FuncData) (ps : List Str), FnOk P w K mg base (L2.CX P w) k f fd ps (liftSp K sp) ∧ PySem.W.keepIn K (.ref f) = true ∧ KBn K fd ps n ks (fun us ws => pk idx (us ++ ws)) (fun vs zs => pk idx (vs ++ zs))
section
variable {P : Program} {w : World} {K : PySem.W.Frag} {mg : Str → Option Value} {base : Heap} {k : Nat} {f : Addr} {fd : FuncData} {ps : List Str} {sp : SpD} {x qual : Str} {params : Arguments} {body : List Stmt} {scope : Scope}
theorem fg_n (F : FunD K x qual params body scope [] [] f fd) (hb : ∀ (kV doc pm : Value) (an : Option Addr) (cdv ct : Value) (us : List Value), us.length = ps.length → bindArgs (PySem.W.fnOf x qual params body scope .none kV doc pm an cdv ct) ⟨us, []⟩ = pure (ps.zip us))
    (ok : FnOk P w K mg base (L2.CX P w) k f fd ps (liftSp K sp)) : Fg P w K mg base k f sp [] := ⟨fd, ps, [], [], ok, F.kp, .nil, F.bindsN hb, True.intro⟩
theorem fg_0 {kws : List (Str × V)} {dfd : List D} (F : FunD K x qual params body scope [] kws f fd) (n : Nat) (hk : kws ≠ []) (hn : n + kws.length = ps.length)
    (h : ∀ (D : Addr) (doc pm : Value) (an : Option Addr) (cdv ct : Value) (us ks : List Value), us.length = n → ks.length = kws.length →
      KwChain D ((kws.map (·.1)).zip ks) (bindArgs (PySem.W.fnOf x qual params body scope .none (.ref D) doc pm an cdv ct) ⟨us, []⟩) (ps.zip (us ++ ks)))
    (hd : CstA dfd (kws.map (·.2))) (ok : FnOk P w K mg base (L2.CX P w) k f fd ps (liftSp K sp)) : Fg P w K mg base k f sp dfd := by
  obtain ⟨ds, hv, hb⟩ := F.binds0 n hk hn h
  exact ⟨fd, ps, _, ds, ok, F.kp, hv, hb, hd⟩
theorem fk_n (F : FunD K x qual params body scope [] [] f fd) (n : Nat) (ks : List Str) (idx : List Nat)
    (h : ∀ (kV doc pm : Value) (an : Option Addr) (cdv ct : Value) (us ws : List Value), us.length = n → ws.length = ks.length →
      bindArgs (PySem.W.fnOf x qual params body scope .none kV doc pm an cdv ct) ⟨us, ks.zip ws⟩ = pure (ps.zip (pk idx (us ++ ws))))
    (ok : FnOk P w K mg base (L2.CX P w) k f fd ps (liftSp K sp)) : Fk P w K mg base k f sp n ks idx := ⟨fd, ps, ok, F.kp, kbN F n ks idx h⟩
theorem Fg.imp {sp' : SpD} {dfd : List D} (F : Fg P w K mg base k f sp dfd) (h : ∀ ds G q x, sp' ds G q x → sp ds G q x) : Fg P w K mg base k f sp' dfd := by
  obtain ⟨fd, ps, dvs, dfl, ok, a, b, c, d⟩ := F.ex
  exact ⟨fd, ps, dvs, dfl, ok.imp fun vs H Q E ⟨Z, G, ds, q, x, r, R, hs, c, cx⟩ => ⟨Z, G, ds, q, x, r, R, h _ _ _ _ hs, c, cx⟩, a, b, c, d⟩
end
section
variable {X : Cx} {W : WX} {k n : Nat} {f C p : Addr} {sp : SpD} {x m fl : Str} {q pos apos : Pos} {e o : Expr} {es : List Expr} {kws : List Keyword} {ta tk : TAD} {to : TED} {dfd : List D} {ks : List Str} {idx : List Nat}
abbrev FgX (X : Cx) (k : Nat) (f : Addr) (sp : SpD) (dfd : List D) : Prop := Fg X.prog X.w X.K X.mg X.base k f sp dfd
theorem pd_cl (F : FgX X k f sp dfd) (hr : Room k X.A) (hg : Gl X x) (hm : X.mg x = some (.ref f)) (ha : PAd X W (e :: es) ta) (hdb : (x == ("__debug__" : Str)) = false := by decide)
    (he : starEach (e :: es) X.env = (false, eval e X.env) :: starEach es X.env := by rfl) (hpl : (backTo pos (starEach es X.env)).any (·.1) = false := by rfl) : PEd X W (.Call (.Name x q) (e :: es) [] pos) (gCallD sp dfd ta) := by
  obtain ⟨fd, ps, dvs, dfl, ok, hk, hv, hb, hd⟩ := F.ex
  exact pd_callD ok hr hg hm hk hv hb hd ha hdb he hpl
theorem pd_cl0 (F : FgX X k f sp dfd) (hr : Room k X.A) (hg : Gl X x) (hm : X.mg x = some (.ref f)) (hdb : (x == ("__debug__" : Str)) = false := by decide) : PEd X W (.Call (.Name x q) [] [] pos) (gCallD sp dfd gNil) := by
  obtain ⟨fd, ps, dvs, dfl, ok, hk, hv, hb, hd⟩ := F.ex
  exact PEi (pe_call0 ok hr hg hm hk hb hv passL hdb) fun σ H Q w => by
    obtain ⟨Z, G, τ, x, q, S, R, hw, c, cx⟩ := w
    exact lift_ok (σ := []) R hd.rl hw c fun _ _ _ _ _ _ z => z.elim
/-- what is raised goes on -/
def gCallDX (sp : SpD) (dfd : List D) (ta : TAD) : TED := fun τ G x q => ta τ G x fun ds G1 => Call sp (ds ++ dfd) G1 q x
theorem pd_clX (tk : Takes X W) (F : FgX X k f sp []) (hr : Room k X.A) (hg : Gl X x) (hm : X.mg x = some (.ref f)) (ha : PAd X W (e :: es) ta) (hdb : (x == ("__debug__" : Str)) = false := by decide)
    (he : starEach (e :: es) X.env = (false, eval e X.env) :: starEach es X.env := by rfl) (hpl : (backTo pos (starEach es X.env)).any (·.1) = false := by rfl) : PEd X W (.Call (.Name x q) (e :: es) [] pos) (gCallDX sp [] ta) := by
  obtain ⟨fd, ps, dvs, dfl, ok, hk, hv, hb, hd⟩ := F.ex
  cases dvs with
  | nil =>
    cases hv
    exact PEm (pd_callX tk ok hr hg hm hk hb ha hdb he hpl) fun τ G x q z => by
      have e : (gCallDX sp [] ta) = gCallX sp ta := by
        unfold gCallDX gCallX
        simp only [List.append_nil]
      rw [e] at z
      exact z
  | cons v vs => exact hd.elim
theorem pd_clK0 (F : Fk X.prog X.w X.K X.mg X.base k f sp 0 ks idx) (hr : Room k X.A) (hg : Gl X x) (hm : X.mg x = some (.ref f)) (hkw : PKd X W kws tk)
    (hall : (backToKw pos (keywordEach kws X.env)).all (·.1.isSome) = true := by rfl) (hks : (backToKw pos (keywordEach kws X.env)).filterMap (·.1) = ks := by rfl)
    (hdb : (x == ("__debug__" : Str)) = false := by decide)
    (hpl : ((backTo pos (starEach [] X.env)).any (·.1) || (backToKw pos (keywordEach kws X.env)).any (·.1.isNone)) = false := by rfl) : PEd X W (.Call (.Name x q) [] kws pos) (gCallK sp 0 ks.length idx [] gNil tk) := by
  obtain ⟨fd, ps, ok, hk, hb⟩ := F.ex
  exact pd_callK0 ok hr hg hm hk hb hkw hall hks hdb hpl
theorem pd_clK (F : Fk X.prog X.w X.K X.mg X.base k f sp n ks idx) (hr : Room k X.A) (hg : Gl X x) (hm : X.mg x = some (.ref f)) (ha : PAd X W (e :: es) ta) (hkw : PKd X W kws tk)
    (hall : (backToKw pos (keywordEach kws X.env)).all (·.1.isSome) = true := by rfl) (hks : (backToKw pos (keywordEach kws X.env)).filterMap (·.1) = ks := by rfl)
    (hdb : (x == ("__debug__" : Str)) = false := by decide) (he : starEach (e :: es) X.env = (false, eval e X.env) :: starEach es X.env := by rfl)
    (hpl : ((backTo pos (starEach (e :: es) X.env)).any (·.1) || (backToKw pos (keywordEach kws X.env)).any (·.1.isNone)) = false := by rfl) : PEd X W (.Call (.Name x q) (e :: es) kws pos) (gCallK sp n ks.length idx [] ta tk) := by
  obtain ⟨fd, ps, ok, hk, hb⟩ := F.ex
  exact pd_callK ok hr hg hm hk hb ha hkw hall hks hdb he hpl
/-- C(e, ..) -/
theorem pd_mk (M : Mk X.K C f) (F : FgX X k f sp dfd) (hr : Room (k + 1) X.A) (hg : Gl X x) (hm : X.mg x = some (.ref C)) (ha : PAd X W (e :: es) ta) (hdb : (x == ("__debug__" : Str)) = false := by decide)
    (he : starEach (e :: es) X.env = (false, eval e X.env) :: starEach es X.env := by rfl) (hpl : (backTo pos (starEach es X.env)).any (·.1) = false := by rfl) : PEd X W (.Call (.Name x q) (e :: es) [] pos) (gMakeD C sp dfd ta) := by
  obtain ⟨fd, ps, dvs, dfl, ok, hk, hv, hb, hd⟩ := F.ex
  exact pd_makeD M ok hr hg hm hv hb hd ha hdb he hpl
/-- o.m(e, ..), o.m() -/
def gMethD (C : Addr) (m : Str) (sp : SpD) (dfd : List D) (to : TED) (ta : TAD) : TED := fun τ G x q => to τ G x fun d G1 => Sd (IsIns C d G1 fun ks _ => m ∉ ks) (ta τ G1 x fun ds G2 => Call sp (d :: (ds ++ dfd)) G2 q X0)
theorem pd_mt {pl : Sem Bool} (c : Cls X.K C) (hm : Meth X.K C m f) (F : FgX X k f sp dfd) (hr : Room k X.A) (ho : PEd X W o to) (ha : PAd X W (e :: es) ta)
    (hst : starEach (e :: es) X.env = (false, eval e X.env) :: starEach es X.env := by rfl) (hpl : (backTo pos (starEach es X.env)).any (·.1) = false := by rfl)
    (ht : eval (.Call (.Attribute o m apos) (e :: es) [] pos) X.env = (do
      let ov ← eval o X.env
      standAt apos.atName
      let (f, first) ← holding [ov] (getMethod ov m pl)
      callWith pos f first (backTo pos (starEach (e :: es) X.env)) (backToKw pos (keywordEach [] X.env))) := by rfl) :
    PEd X W (.Call (.Attribute o m apos) (e :: es) [] pos) (gMethD C m sp dfd to ta) := by
  obtain ⟨fd, ps, dvs, dfl, ok, hk, hv, hb, hd⟩ := F.ex
  refine PEi (pe_meth ho c hm ok hr hb hv passL ha hst hpl ht) fun σ H Q => ?_
  rintro ⟨Z, G, τ, x, q, S, R, hw, cl, cx⟩
  refine ⟨Z, G, τ, x, _, S, R, hw, fun d G1 H1 v q1 s1 R1 r1 => ?_, cx⟩
  obtain ⟨i1, q1⟩ := Sd_e q1
  obtain ⟨a, dx, ks, ds, xs, rfl, hx, hl, rx, nm⟩ := isIns_e R1 r1 i1
  refine ⟨a, dx, _, rfl, hx, lookup_zip_none nm, Z, G1, τ, x, _, S.mv (s1.mv R), R1, q1, fun es G2 H2 vs q2 s2 R2 r2 => ?_, cx.step s1⟩
  exact lift_ok (σ := []) R2 (.cons (r1.mv (s2.mv R1)) (r2.append hd.rl)) q2 (cl.step (s1.trans s2)) fun _ _ _ _ _ _ z => z.elim
theorem pd_mt0 {pl : Sem Bool} (c : Cls X.K C) (hm : Meth X.K C m f) (F : FgX X k f sp dfd) (hr : Room k X.A) (ho : PEd X W o to)
    (ht : eval (.Call (.Attribute o m apos) [] [] pos) X.env = (do
      let ov ← eval o X.env
      standAt apos.atName
      let (f, first) ← holding [ov] (getMethod ov m pl)
      callWith pos f first (backTo pos (starEach [] X.env)) (backToKw pos (keywordEach [] X.env))) := by rfl) :
    PEd X W (.Call (.Attribute o m apos) [] [] pos) (gMethD C m sp dfd to gNil) := by
  obtain ⟨fd, ps, dvs, dfl, ok, hk, hv, hb, hd⟩ := F.ex
  refine PEi (pe_meth0 ho c hm ok hr hb hv passL ht) fun σ H Q => ?_
  rintro ⟨Z, G, τ, x, q, S, R, hw, cl, cx⟩
  refine ⟨Z, G, τ, x, _, S, R, hw, fun d G1 H1 v q1 s1 R1 r1 => ?_, cx⟩
  obtain ⟨i1, q1⟩ := Sd_e q1
  obtain ⟨a, dx, ks, ds, xs, rfl, hx, hl, rx, nm⟩ := isIns_e R1 r1 i1
  refine ⟨a, dx, _, rfl, hx, lookup_zip_none nm, ?_⟩
  exact lift_ok (σ := []) R1 (.cons r1 hd.rl) q1 (cl.step s1) fun _ _ _ _ _ _ z => z.elim
/-- o.p, a property -/
theorem pd_pr (c : Cls X.K C) (hp : PropOf X.K C fl p f) (F : FgX X k f sp []) (hr : Room (k + 1) X.A) (ho : PEd X W o to) (hab : attributeBase o fl X.env (eval o X.env) = eval o X.env := by rfl) : PEd X W (.Attribute o fl pos) (gProp C sp to) := by
  obtain ⟨fd, ps, dvs, dfl, ok, hk, hv, hb, hd⟩ := F.ex
  cases dvs with
  | nil =>
    cases hv
    exact pd_prop c hp ok hr hb ho hab
  | cons v vs => exact hd.elim
end
/-! ### the Hook: any checks of the module's objects, and its defs -/
structure DefN where
  ad : PySem.W.Frag → Addr
  name : Str
  qual : Str
  params : Arguments
  body : List Stmt
  scope : Scope
  dfl : List He.Dv := []
  kwd : List (Str × He.Dv) := []
def fnN (K : PySem.W.Frag) (a : Addr) : He.FnW := match K.lookup a with
  | some ⟨_, _, .func fd, _⟩ => some (fd.name, fd.qualname, fd.params, fd.body, fd.scope, fd.globals, fd.closure, fd.builtins)
  | _ => none
def DefN.val (d : DefN) : He.FnW := some (d.name, d.qual, d.params, .stmts d.body, d.scope, mainGlobals, [], builtinsNs)
def DefN.dvs (K : PySem.W.Frag) (d : DefN) : List V := d.dfl.map (He.Dv.v K)
def DefN.kws (K : PySem.W.Frag) (d : DefN) : List (Str × V) := d.kwd.map fun q => (q.1, q.2.v K)
def DefN.ok (K : PySem.W.Frag) (d : DefN) : Bool := PySem.W.keepIn K (.ref (d.ad K)) && (match K.lookup (d.ad K) with
  | some ⟨_, _, .func fd, _⟩ => PySem.W.codeIn K fd.code d.qual && (He.dflB K fd.defaults (d.dvs K) && He.kwdB K fd.kwdefaults (d.kws K))
  | _ => false)
theorem DefN.funD {K : PySem.W.Frag} {d : DefN} (e : fnN K (d.ad K) = d.val) (c : d.ok K = true) : ∃ fd, FunD K d.name d.qual d.params d.body d.scope (d.dvs K) (d.kws K) (d.ad K) fd := by
  obtain ⟨kp, c2⟩ := He.ba c
  unfold fnN at e
  cases q : K.lookup (d.ad K) with
  | none =>
    rw [q] at c2
    cases c2
  | some o =>
    obtain ⟨oc, od, dt, osl⟩ := o
    rw [q] at c2 e
    cases dt with
    | func fd =>
      obtain ⟨n1, n2, n3, n4, n5, n6, n7, n8, n9, n10, n11, n12, n13, n14, n15⟩ := fd
      have e2 : (some (n1, n2, n3, n4, n5, n6, n7, n15) : He.FnW) = some (d.name, d.qual, d.params, .stmts d.body, d.scope, mainGlobals, [], builtinsNs) := e
      simp only [Option.some.injEq, Prod.mk.injEq] at e2
      obtain ⟨h1, h2, h3, h4, h5, h6, h7, h8⟩ := e2
      subst h1 h2 h3 h4 h5 h6 h7 h8
      have c3 : (PySem.W.codeIn K n13 d.qual && (He.dflB K n8 (d.dvs K) && He.kwdB K n9 (d.kws K))) = true := c2
      obtain ⟨k1, k2⟩ := He.ba c3
      obtain ⟨k3, k4⟩ := He.ba k2
      exact ⟨_, ⟨oc, od, n8, n9, n10, n11, n12, n13, n14, osl, rfl, q, k1, He.dflB_ok k3, He.kwdB_ok k4⟩, kp⟩
    | _ => cases c2
abbrev Ck : Type := PySem.W.Frag → Bool
def obsN (fa : List Ck) (fn : List DefN) (K : PySem.W.Frag) : He.AlD := ((fa.all fun f => f K) && fn.all fun d => d.ok K, fn.map fun d => fnN K (d.ad K))
def valN (fn : List DefN) : He.AlD := (true, fn.map DefN.val)
def SaysN (fa : List Ck) (fn : List DefN) (K : PySem.W.Frag) : Prop := obsN fa fn K = valN fn
def obsNG (n : Nat) (fa : List Ck) (fn : List DefN) (g : Addr → Option Obj) : He.AlD := obsN fa fn (He.frG g (He.asD g n))
def hookN (n : Nat) (fa : List Ck) (fn : List DefN) : PySem.W.Hook where
  α := He.AlD
  obs := fun s => obsNG n fa fn s.heap.get?
  val := fun _ => valN fn
  says := fun _ h => ∃ K : PySem.W.Frag, K.In h ∧ SaysN fa fn K
  of := fun _ _ e => ⟨_, He.frG_in, e⟩
  keeps := fun _ _ _ ⟨K, hK, c⟩ k => ⟨K, PySem.W.Frag.In.keeps hK k, c⟩
theorem obsNG_eq {n : Nat} {fa : List Ck} {fn : List DefN} {g : Addr → Option Obj} {s : Shared} (h : ∀ a, g a = s.heap.get? a) : obsNG n fa fn g = (hookN n fa fn).obs s := by
  have e : g = s.heap.get? := funext h
  rw [e] <;> rfl
/-- what every def's proof leans on -/
structure Ev (fa : List Ck) (fn : List DefN) (K : PySem.W.Frag) (mg : Str → Option Value) : Prop where
  h : ∃ h : Heap, K.In h ∧ h.Ns mainGlobals mg
  c : SaysN fa fn K
section
variable {fa : List Ck} {fn : List DefN} {K : PySem.W.Frag} {mg : Str → Option Value}
theorem Ev.fact (e : Ev fa fn K mg) (i : Nat) {f : Ck} (h : fa[i]? = some f := by rfl) : f K = true := by
  have c1 := (He.ba (show ((fa.all fun f => f K) && fn.all fun d => d.ok K) = true from congrArg (fun z : He.AlD => z.1) e.c)).1
  exact List.all_eq_true.mp c1 f (List.mem_of_getElem? h)
theorem Ev.def_ (e : Ev fa fn K mg) (i : Nat) {d : DefN} (h : fn[i]? = some d := by rfl) : ∃ fd, FunD K d.name d.qual d.params d.body d.scope (d.dvs K) (d.kws K) (d.ad K) fd := by
  have c := e.c
  have c2 := (He.ba (show ((fa.all fun f => f K) && fn.all fun d => d.ok K) = true from congrArg (fun z : He.AlD => z.1) c)).2
  have e : fn.map (fun d => fnN K (d.ad K)) = fn.map DefN.val := congrArg (fun z : He.AlD => z.2) c
  have e2 : (fn.map fun d => fnN K (d.ad K))[i]? = (fn.map DefN.val)[i]? := by rw [e]
  rw [List.getElem?_map, List.getElem?_map, h] at e2
  exact DefN.funD (Option.some.inj e2) (List.all_eq_true.mp c2 d (List.mem_of_getElem? h))
/-- checks -/
abbrev kGlo (x : Str) : Ck := fun K => (He.Fa.glo x).ok K
abbrev kFree (x : Str) : Ck := fun K => (He.Fa.free x).ok K
abbrev kCls (x : Str) : Ck := fun K => (He.Fa.cls x).ok K
abbrev kNoat (x f : Str) : Ck := fun K => (He.Fa.noat x f).ok K
abbrev kMeth (x m : Str) : Ck := fun K => (He.Fa.meth x m).ok K
abbrev kMkr (x : Str) : Ck := fun K => (He.Fa.mkr x).ok K
def paN (K : PySem.W.Frag) (C : Addr) (f : Str) : Addr := match PySem.W.findIn K (.ref C) f with
  | some (some (.ref a)) => a
  | _ => 0
def pgN (K : PySem.W.Frag) (C : Addr) (f : Str) : Addr := match PySem.W.recIn K (paN K C f) "property" with
  | some (.ref g :: _) => g
  | _ => 0
def prB (K : PySem.W.Frag) (C : Addr) (f : Str) : Bool := He.eqO (PySem.W.findIn K (.ref C) f) (some (some (.ref (paN K C f)))) && (He.eqO (PySem.W.specialIn K (.ref (paN K C f)) "__get__") (some (some (.builtin "property.__get__"))) &&
  (decide (PySem.W.takesIn K (.ref (paN K C f)) = some true) && (match PySem.W.recIn K (paN K C f) "property" with
    | some (.ref _ :: _) => true
    | _ => false)))
abbrev kProp (x f : Str) : Ck := fun K => prB K (He.ga K x) f
abbrev kTup (x : Str) (vs : List He.Dv) : Ck := fun K => He.tupB K x vs
theorem prop_ok {C : Addr} {f : Str} (c : prB K C f = true) : PropOf K C f (paN K C f) (pgN K C f) := by
  obtain ⟨c1, c⟩ := He.ba c
  obtain ⟨c2, c⟩ := He.ba c
  obtain ⟨c3, c4⟩ := He.ba c
  refine ⟨He.eqO_ok c1, He.eqO_ok c2, of_decide_eq_true c3, ?_⟩
  unfold pgN
  cases e : PySem.W.recIn K (paN K C f) "property" with
  | none => rw [e] at c4; cases c4
  | some l =>
    rw [e] at c4
    cases l with
    | nil => cases c4
    | cons v r => cases v with
      | ref g => exact ⟨r, rfl⟩
      | _ => cases c4
theorem Ev.glo (e : Ev fa fn K mg) {x : Str} (c : (He.Fa.glo x).ok K = true) : mg x = some (.ref (He.ga K x)) := let ⟨_, X, G⟩ := e.h; He.glo_ok X G c
theorem Ev.free (e : Ev fa fn K mg) {x : Str} (c : (He.Fa.free x).ok K = true) : mg x = none := let ⟨_, X, G⟩ := e.h; He.free_ok X G c
/-- a tuple of the module's, by its items -/
theorem tup_rl {x : Str} {vs : List He.Dv} {ds : List D} (c : He.tupB K x vs = true) (h : CstA ds (vs.map (He.Dv.v K))) (Z : ZS) (G : GH) (H : Hp) : Rl K Z G H (.tup ds) (.ref (He.ga K x)) := .tup (He.tupB_ok c H) h.rl
end
/-! ### the end -/
theorem cx_none {P : Program} {w : World} {outer : List Env} {H : Hp} {s s' : Shared} {u : Value} (h : L2.CX P w outer H s E0 u s') : False := by
  obtain ⟨a, B, H', cls, d, _, _, _, _, _, _, _, z⟩ := h
  exact z
theorem fn_cx0 {P : Program} {w : World} {K : PySem.W.Frag} {mg : Str → Option Value} {base : Heap} {k : Nat} {f : Addr} {fd : FuncData} {ps : List Str} {sp : Sp} (F : FnOk P w K mg base (L2.CX P w) k f fd ps sp) : FnOk P w K mg base CX0 k f fd ps (fun vs H Q _ => sp vs H Q E0) :=
  ⟨fun vs H Q E h => F.len vs H Q E0 h, fun A outer s H args us vs Q E hr he hb hv hs => codeAny_mono (F.run A outer s H args us vs Q E0 hr he hb hv hs) fun r s' z => by
    cases r with
    | error e => exact (cx_none z).elim
    | ok fl => cases fl <;> exact z⟩
end N
namespace N
open PySem PySem.Spec PyProof.Rows L2
theorem PSm {X : Cx} {W : WX} {s : Stmt} {t u : TSD} (h : PSd X W s t) (i : ∀ e τ G, u e τ G → t e τ G) : PSd X W s u := PSi h fun D σ H => by
  rintro ⟨Z, G, τ, e, S, R, h, c⟩
  exact ⟨Z, G, τ, e, S, R, i _ _ _ h, c⟩
/-! ### lists that are changed later: they come as objects of the ledger -/
def gLstM (t : TAD) : TED := fun τ G x q => t τ G x fun ds G1 => Sd (ds.length ≤ sizeLine) (NewM ds G1 q)
section
variable {X : Cx} {W : WX} {es : List Expr} {e a b : Expr} {ta tb : TED} {tA : TAD} {pos p : Pos}
theorem pd_lstM (h : PAd X W es tA) : PEd X W (.List es pos) (gLstM tA) := PEi (pe_lst h) fun σ H Q => by
  rintro ⟨Z, G, τ, x, q, S, R, h, c, cx⟩
  refine ⟨Z, G, τ, x, _, S, R, h, fun ds G1 H1 vs q1 s1 R1 r1 => ?_, cx⟩
  obtain ⟨hl, q1⟩ := Sd_e q1
  exact ⟨by rw [← r1.length]; exact hl, fun p hp => new_list R1 r1 (NewM_n q1) (c.step s1) p hp⟩
def cListM : CAD := fun ds G q => A1 ds fun x => AsQ x G fun ds => NewM ds G q
theorem asQ_m {x : D} {G : GH} {k k' : List D → Prop} (h : AsQ x G k) (i : ∀ ds, k ds → k' ds) : AsQ x G k' := by
  cases x with
  | lst ds => exact i _ h
  | tup ds => exact i _ h
  | ro ds => exact i _ h
  | ref a => obtain ⟨ds, e, h⟩ := LkL_e h; exact LkL_i e (i _ h)
  | _ => exact (show False from h).elim
theorem ok_listM {K : PySem.W.Frag} : CAOk K (fun xs H Q => ∃ p ys, xs = [.ref p] ∧ (SqL K H p ys ∨ SqT K H p ys) ∧ ∀ l, H l = none → Q (.ref l) (upd H l (.lst ys))) cListM := by
  intro Z G H ds vs q Q R r h c
  obtain ⟨d, v, rfl, rfl, r1, h⟩ := A1_e r h
  exact ok_list Z G H [d] [v] q Q R r (show A1 [d] fun x => AsQ x G fun ds => NewL ds G q from asQ_m h fun _ z => NewM_n z) c
def nMulM : R2D := fun x y G q => match x with
  | .lst xs => (match y with | .int k => Sd (-(2 ^ 63) ≤ k ∧ k < 2 ^ 63 ∧ xs.length * k.toNat ≤ sizeLine) (NewM (List.replicate k.toNat xs).flatten G q) | _ => False)
  | _ => False
theorem ok_mulM {K : PySem.W.Frag} : R2Ok K (rMulA K) nMulM := by
  intro Z G H x y v u q Q R rx ry h c
  refine ok_mul Z G H x y v u q Q R rx ry ?_ c
  cases x with
  | lst xs => cases y with
    | int k =>
      obtain ⟨a, h⟩ := Sd_e h
      exact Sd_i a (NewM_n h)
    | _ => exact (show False from h).elim
  | _ => exact (show False from h).elim
theorem pd_mulM (ha : PEd X W a ta) (hb : PEd X W b tb) : PEd X W (.BinOp a .Mult b pos) (gOp nMulM ta tb) := pd_op op_mulA ok_mulM ha hb
end
/-! ### short forms -/
section
variable {X : Cx} {W : WX} {e tg : Expr} {t : TED} {pos p py : Pos} {g : TGD} {h : TGD} {wi : TID} {tt : TTD} {te : TED} {x y : Str}
theorem v_ (i : Nat) (hN : X.N[i]? = some x := by rfl) (hv : Vis X.env.scope x := by first | exact Or.inl rfl | exact Or.inr (Or.inl rfl) | exact Or.inr (Or.inr rfl)) (hd : (x == ("__debug__" : Str)) = false := by decide)
    (hcd : (x == ("__classdict__" : Str)) = false := by decide) : PEd X W (.Name x pos) (gVar i) := pd_var (x := x) (pe_var hN hv hd hcd)
theorem s_ (hN : X.N.Nodup) (i : Nat) (he : PEd X W e t) (hi : X.N[i]? = some x := by rfl) (hx : Loc X.env.scope x := by first | exact Or.inl rfl | exact Or.inr rfl) (hs : swapsWith e (some (.Name x py)) pos.line X.env = pure false := by rfl)
    (hf : X.fn x = true ∨ X.env.scope.names.lookup x = some .local := by first | exact .inl rfl | exact .inr rfl) : PSd X W (.Assign [.Name x py] e pos) (gAsg t (hName i)) := psd_set (ps_set hN hi hx he hs hf)
theorem g_ (hN : X.N.Nodup) (i : Nat) (hi : X.N[i]? = some x := by rfl) (hx : Loc X.env.scope x := by first | exact Or.inl rfl | exact Or.inr rfl)
    (hf : X.fn x = true ∨ X.env.scope.names.lookup x = some .local := by first | exact .inl rfl | exact .inr rfl) : PGd X (.Name x pos) (hName i) := pgd_name (L2.pg_name hN hi hx hf)
/-- within a block: the target's own names -/
theorem gb_ (hN : X.N.Nodup) (i : Nat) (hi : X.N[i]? = some x := by rfl) (hx : Loc X.env.scope x := by first | exact Or.inl rfl | exact Or.inr rfl)
    (hf : X.fn x = true ∨ X.env.scope.names.lookup x = some .local := by first | exact .inl rfl | exact .inr rfl) : PG X (.Name x pos) (gName i) := L2.pg_name hN hi hx hf
theorem ok_lt {K : PySem.W.Frag} : R2Ok K (rI0 fun i j => .bl (decide (i < j))) nLt := ok_I fun _ _ => rfl
theorem ok_le {K : PySem.W.Frag} : R2Ok K (rI0 fun i j => .bl (decide (i ≤ j))) nLe := ok_I fun _ _ => rfl
theorem ok_gt {K : PySem.W.Frag} : R2Ok K (rI0 fun i j => .bl (decide (j < i))) nGt := ok_I fun _ _ => rfl
theorem ok_ge {K : PySem.W.Frag} : R2Ok K (rI0 fun i j => .bl (decide (j ≤ i))) nGe := ok_I fun _ _ => rfl
theorem Ev.r {k : Nat} {A : Around} (r : Room k A) : A.units + 64 < cLine := r.units
theorem bc_ {Nm : List Str} {sc scope : Scope} {own : List (Str × Nat)} (h : blkC Nm sc scope own = true := by kernel_rfl) : BlkOk Nm sc scope own := blkOk_by h
end
/-! ### side conditions -/
theorem or_ll {a b c d : Prop} (h1 : a) (h2 : b) : (c ∨ (a ∧ b)) ∨ d := .inl (.inr ⟨h1, h2⟩)
theorem or_lr {a b c d : Prop} (h1 : a) (h2 : b) : ((a ∧ b) ∨ c) ∨ d := .inl (.inl ⟨h1, h2⟩)
theorem cmulw {i j : Int} (h : decide (i.natAbs.log2 + j.natAbs.log2 < 1000000) = true) : CMulW i j := by
  unfold CMulW
  exact of_decide_eq_true h
/-! ### addresses of the ledger -/
theorem ne_new {G : GH} {a p : Addr} {o : GO} (h : G a = some o) (n : G p = none) : a ≠ p := fun z => by rw [z, n] at h; cases h
theorem ne_new' {G : GH} {a p : Addr} {o : GO} (h : G a = some o) (n : G p = none) : p ≠ a := fun z => by rw [← z, n] at h; cases h
end N
namespace N
open PySem PySem.Spec PyProof.Rows L2
/-! ### what the laws' helpers promise -/
/-- the store of draws stands at a, its two lists at c, l -/
def Sto (a c l : Addr) (G : GH) : Prop := a ≠ c ∧ a ≠ l ∧ c ≠ l ∧ ∃ (cs ls : List Int) (at_ seed k : Int), G a = some (.lst [.ref c, .ref l, .int at_, .int seed, .int k]) ∧ G c = some (.lst (cs.map D.int)) ∧ G l = some (.lst (ls.map D.int)) ∧ cs.length = ls.length ∧ 0 ≤ at_
/-- all but these stay -/
def Sm3 (a c l : Addr) (G G' : GH) : Prop := ∀ b, b ≠ a → b ≠ c → b ≠ l → G' b = G b
def sp__law_mix (K : PySem.W.Frag) : SpD := fun ds G q _ => A2 ds fun a b => I1 a fun _ => I1 b fun _ => ∀ r, q (.int r) G
def sp__law_take (K : PySem.W.Frag) : SpD := fun ds G q _ => A2 ds fun s m => ∃ a c l i, s = .ref a ∧ m = .int i ∧ Sto a c l G ∧ i < 2 ^ 62 ∧ ∀ n G', 0 ≤ n → (n < i ∨ n = 0) → Sto a c l G' → Sm3 a c l G G' → q (.int n) G'
def sp__law_of (K : PySem.W.Frag) : SpD := fun ds G q _ => A2 ds fun s t => ∃ a c l xs, s = .ref a ∧ (t = .tup xs ∨ t = .lst xs) ∧ xs ≠ [] ∧ xs.length < 2 ^ 60 ∧ Sto a c l G ∧ ∀ d G', d ∈ xs → Sto a c l G' → Sm3 a c l G G' → q d G'
def sp__law_store (K : PySem.W.Frag) : SpD := fun ds G q _ => A1 ds fun s => ∃ ns : List Int, s = .ro (ns.map D.int) ∧ ns.length ≤ 1000 ∧ ∀ a c l G', Sto a c l G' → G a = none → G c = none → G l = none → Sm3 a c l G G' → q (.ref a) G'
-- plain data: no objects that change
mutual
def tree : D → Bool
  | .non => true
  | .bl _ => true
  | .int _ => true
  | .str _ => true
  | .tup ds => trees ds
  | .lst ds => trees ds
  | _ => false
def trees : List D → Bool
  | [] => true
  | d :: ds => tree d && trees ds
end
mutual
def nodes : D → Nat
  | .tup ds => 1 + nodesA ds
  | .lst ds => 1 + nodesA ds
  | _ => 1
def nodesA : List D → Nat
  | [] => 0
  | d :: ds => nodes d + nodesA ds
end
/-- the kind of a value: None, a bool, a number, a text, a tuple, a list -/
def kindD : D → Option Ty
  | .non => none
  | .bl _ => some .bl
  | .int _ => some .int
  | .str _ => some .str
  | .tup _ => some .tup
  | _ => some .lst
def marksD (t : Option Ty) : List D := [.bl (match t with | none => true | _ => false), .bl (isT t .bl), .bl (isT t .int), .bl (isT t .str), .bl (isT t .tup), .bl (isT t .lst)]
def sp__law_marks (K : PySem.W.Frag) : SpD := fun ds G q _ => A1 ds fun d => tree d = true ∧ q (.lst (marksD (kindD d))) G
def sp__law_like (K : PySem.W.Frag) : SpD := fun ds G q _ => A2 ds fun a b => a = b ∧ tree a = true ∧ nodes a < 400000 ∧ q (.bl true) G
/-- the law: True at the script -/
def sp_law (K : PySem.W.Frag) : SpD := fun ds G q _ => A1 ds fun s => ∃ ns : List Int, s = .ro (ns.map D.int) ∧ ns.length ≤ 63 ∧ (∀ b, G b = none) ∧ ∀ G', q (.bl true) G'
theorem rla_ints {K : PySem.W.Frag} {Z : ZS} {G : GH} {H : Hp} : ∀ ns : List Int, RlA K Z G H (ns.map D.int) (ns.map V.int)
  | [] => .nil
  | n :: ns => .cons (.int n) (rla_ints ns)
theorem law_in {K : PySem.W.Frag} {H : Hp} {a : Addr} {ns : List Int} (hl : ns.length ≤ 63) (hO : L2.Only H) (hS : SqL K H a (ns.map V.int)) : liftSp K (sp_law K) [.ref a] H (fun v _ => v = .bl true) E0 := by
  have ro : RoL K H a (ns.map V.int) := by
    rcases hS with (h | h) | h
    · rcases hO a with e | ⟨o, xs, e⟩
      · rw [e] at h; cases h
      · rw [e] at h; cases h
    · exact .inl h
    · exact .inr h
  refine ⟨fun _ => False, fun _ => none, [.ro (ns.map D.int)], fun d _ => d = .bl true, X0, .cons (.ro ro (rla_ints ns)) .nil, ⟨fun _ _ h => (nomatch h), fun _ h => h.elim⟩, ⟨ns, rfl, hl, fun _ => rfl, fun _ => rfl⟩, fun d G' H' v hd _ _ r => ?_, fun _ _ _ _ _ _ z => z.elim⟩
  subst hd
  cases r
  rfl
end N
namespace N
open PySem PySem.Spec PyProof.Rows L2
def n__law_mix : List Str := ["number", "turn", "prime", "first", "second"]
def t__law_mix (K : PySem.W.Frag) : TSD :=
    (gSeq (gAsg (gC (.int 2305843009213693951)) (hName 2))
    (gSeq (gAsg (gOp nMod (gCB cInt (gCons (gOp nAdd (gOp nAdd (gOp nMod (gCB cInt (gCons (gVar 0) gNil)) (gVar 2)) (gOp nMul (gCB cInt (gCons (gVar 1) gNil)) (gC (.int 1442695040888963407)))) (gC (.int 88172645463325252))) gNil)) (gVar 2)) (hName 3))
    (gSeq (gAsg (gOp nMod (gCB cInt (gCons (gOp nMul (gCB cInt (gCons (gOp nXor (gVar 3) (gOp nDiv (gVar 3) (gC (.int 1073741824)))) gNil)) (gC (.int 6364136223846793005))) gNil)) (gVar 2)) (hName 3))
    (gSeq (gAsg (gOp nMod (gCB cInt (gCons (gOp nMul (gCB cInt (gCons (gOp nXor (gVar 3) (gOp nDiv (gVar 3) (gC (.int 134217728)))) gNil)) (gC (.int 3935559000370003845))) gNil)) (gVar 2)) (hName 4))
    (gRet (gOp nXor (gVar 4) (gOp nDiv (gVar 4) (gC (.int 4294967296)))))))))
def n__law_store : List Str := ["script", "wide", "cells", "lefts", "seed", "at", "cell", "small"]
def t__law_store (K : PySem.W.Frag) : TSD :=
    (gSeq (gAsg (gOp nMul (gOp nMul (gOp nMul (gOp nPow (gC (.int 10)) (gC (.int 60))) (gOp nPow (gC (.int 10)) (gC (.int 60)))) (gOp nPow (gC (.int 10)) (gC (.int 60)))) (gOp nPow (gC (.int 10)) (gC (.int 60)))) (hName 1))
    (gSeq (gAsg (gLstM gNil) (hName 2))
    (gSeq (gAsg (gLstM gNil) (hName 3))
    (gSeq (gAsg (gC (.int 88172645463325252)) (hName 4))
    (gSeq (gFor (iRng1D (gCons (gCB cMin (gCons (gCB cLen (gCons (gVar 0) gNil)) (gCons (gC (.int 63)) gNil))) gNil)) (hName 5)
    (gSeq (gAsg (gCB cInt (gCons (gOp nIx (gVar 0) (gVar 5)) gNil)) (hName 6))
    (gSeq (gAsg (gOp nMod (gCB cInt (gCons (gVar 6) gNil)) (gC (.int 2305843009213693951))) (hName 7))
    (gSeq (gAsg (gCallD (sp__law_mix K) [] (gCons (gOp nAdd (gVar 4) (gVar 7)) (gCons (gOp nAdd (gVar 5) (gC (.int 1))) gNil))) (hName 4))
    (gIfS (gTst (gOp nLt (gVar 6) (gOp nPow (gC (.int 10)) (gC (.int 18)))))
    (gSeq (gDrop (gBL mAppend (gVar 2) (gCons (gCallD (sp__law_mix K) [] (gCons (gVar 7) (gCons (gOp nAdd (gVar 5) (gC (.int 1))) gNil))) gNil)))
    (gDrop (gBL mAppend (gVar 3) (gCons (gC (.int 6)) gNil))))
    (gIfS (gTst (gOp nGt (gOp nMod (gCB cInt (gCons (gVar 6) gNil)) (gVar 1)) (gC (.int 0))))
    (gSeq (gDrop (gBL mAppend (gVar 2) (gCons (gOp nMod (gCB cInt (gCons (gVar 6) gNil)) (gVar 1)) gNil)))
    (gDrop (gBL mAppend (gVar 3) (gCons (gC (.int 0)) gNil))))
    gNext))))))
    (gRet (gLstM (gCons (gVar 2) (gCons (gVar 3) (gCons (gC (.int 0)) (gCons (gVar 4) (gCons (gC (.int 0)) gNil))))))))))))
def n__law_take : List Str := ["store", "many", "cells", "lefts", "at", "rest"]
def t__law_take (K : PySem.W.Frag) : TSD :=
    (gSeq (gIfS (gTst (gOp nLe (gVar 1) (gC (.int 1))))
    (gRet (gC (.int 0)))
    gNext)
    (gSeq (gAsg (gOp nIx (gVar 0) (gC (.int 0))) (hName 2))
    (gSeq (gAsg (gOp nIx (gVar 0) (gC (.int 1))) (hName 3))
    (gSeq (gAsg (gOp nIx (gVar 0) (gC (.int 2))) (hName 4))
    (gSeq (gIfS (gTst (gOp nGe (gVar 4) (gCB cLen (gCons (gVar 2) gNil))))
    (gSeq (gAsg (gOp nAdd (gOp nIx (gVar 0) (gC (.int 4))) (gC (.int 1))) (hSub (gVar 0) (gC (.int 4)) sSet))
    (gRet (gOp nMod (gCB cInt (gCons (gCallD (sp__law_mix K) [] (gCons (gOp nIx (gVar 0) (gC (.int 3))) (gCons (gOp nIx (gVar 0) (gC (.int 4))) gNil))) gNil)) (gVar 1))))
    gNext)
    (gSeq (gIfS (gTst (gOp nEq (gOp nIx (gVar 3) (gVar 4)) (gC (.int 0))))
    (gSeq (gAsg (gCB cInt (gCons (gOp nIx (gVar 2) (gVar 4)) gNil)) (hName 5))
    (gSeq (gAsg (gOp nDiv (gVar 5) (gVar 1)) (hSub (gVar 2) (gVar 4) sSet))
    (gSeq (gIfS (gTst (gOp nLt (gVar 5) (gVar 1)))
    (gAsg (gOp nAdd (gVar 4) (gC (.int 1))) (hSub (gVar 0) (gC (.int 2)) sSet))
    gNext)
    (gRet (gOp nMod (gCB cInt (gCons (gVar 5) gNil)) (gVar 1))))))
    gNext)
    (gSeq (gAsg (gOp nSub (gOp nIx (gVar 3) (gVar 4)) (gC (.int 1))) (hSub (gVar 3) (gVar 4) sSet))
    (gSeq (gIfS (gTst (gOp nEq (gOp nIx (gVar 3) (gVar 4)) (gC (.int 0))))
    (gAsg (gOp nAdd (gVar 4) (gC (.int 1))) (hSub (gVar 0) (gC (.int 2)) sSet))
    gNext)
    (gRet (gOp nMod (gCB cInt (gCons (gCallD (sp__law_mix K) [] (gCons (gOp nIx (gVar 2) (gVar 4)) (gCons (gOp nIx (gVar 3) (gVar 4)) gNil))) gNil)) (gVar 1)))))))))))
def n__law_of : List Str := ["store", "things"]
def t__law_of (K : PySem.W.Frag) : TSD :=
    (gRet (gOp nIx (gVar 1) (gCallD (sp__law_take K) [] (gCons (gVar 0) (gCons (gCB cLen (gCons (gVar 1) gNil)) gNil)))))
def n__law_marks : List Str := ["value"]
def t__law_marks (K : PySem.W.Frag) : TSD :=
    (gRet (gLst (gCons (gOp nIs (gVar 0) (gC .non)) (gCons (gIsi .bl (gVar 0)) (gCons (gIsi .int (gVar 0)) (gCons (gIsi .str (gVar 0)) (gCons (gIsi .tup (gVar 0)) (gCons (gIsi .lst (gVar 0)) gNil))))))))
def n__law_like : List Str := ["answer", "due", "pairs", "turn", "here", "plan", "at"]
def t__law_like (K : PySem.W.Frag) : TSD :=
    (gSeq (gAsg (gLstM (gCons (gTup (gCons (gVar 0) (gCons (gVar 1) gNil))) gNil)) (hName 2))
    (gSeq (gFor (iRng1D (gCons (gC (.int 400000)) gNil)) (hName 3)
    (gSeq (gIfS (gTst (gOp nEq (gCB cLen (gCons (gVar 2) gNil)) (gC (.int 0))))
    (gRet (gC (.bl true)))
    gNext)
    (gSeq (gAsg (gBL0 mPop (gVar 2)) (hTup 2 (hCons (hName 4) (hCons (hName 5) hNil))))
    (gSeq (gIfS (gTst (gOp nNe (gCallD (sp__law_marks K) [] (gCons (gVar 4) gNil)) (gCallD (sp__law_marks K) [] (gCons (gVar 5) gNil))))
    (gRet (gC (.bl false)))
    gNext)
    (gIfS (gTst (gIsiT [.tup, .lst] (gVar 5)))
    (gSeq (gIfS (gTst (gOp nNe (gCB cLen (gCons (gVar 4) gNil)) (gCB cLen (gCons (gVar 5) gNil))))
    (gRet (gC (.bl false)))
    gNext)
    (gFor (iRng1D (gCons (gCB cLen (gCons (gVar 5) gNil)) gNil)) (hName 6)
    (gDrop (gBL mAppend (gVar 2) (gCons (gTup (gCons (gOp nIx (gVar 4) (gVar 6)) (gCons (gOp nIx (gVar 5) (gVar 6)) gNil))) gNil)))))
    (gIfS (gTst (gOp nNe (gVar 4) (gVar 5)))
    (gRet (gC (.bl false)))
    gNext))))))
    (gRet (gC (.bl false)))))
end N
namespace N
open PySem PySem.Spec PyProof.Rows L2
local macro_rules
  | `(tactic| walk_at "nl") => `(tactic| first
    | with_reducible assumption
    | exact gup_same
    | (refine (gup_ne (by with_reducible assumption)).trans ?_; walk_at "nl")
    | (refine (gup_ne (Ne.symm (by with_reducible assumption))).trans ?_; walk_at "nl"))
local macro_rules
  | `(tactic| walk_at "ns") => `(tactic| first
    | with_reducible assumption
    | omega
    | exact Eq.refl _
    | (apply Nat.le_of_ble_eq_true; exact Eq.refl _)
    | exact And.intro (by decide +kernel) (by decide +kernel)
    | exact or_ll (by decide +kernel) (by decide +kernel)
    | exact or_lr (by decide +kernel) (by decide +kernel)
    | exact Or.inr (cmulw (by decide +kernel))
    | exact IsLst_r (by walk_at "nl")
    | exact IsLst_v
    | exact IsIns_v True.intro
    | exact IsIns_v (by decide +kernel)
    | (apply of_decide_eq_true; decide +kernel)
    | (simp; done)
    | (simp; omega))
local macro_rules
  | `(tactic| walk_at "n0") => `(tactic| first
    | refine Sd_i (by walk_at "ns") ?_
    | refine Cond_t (Eq.refl _) ?_
    | refine Cond_f (Eq.refl _) ?_
    | refine Cond_t (by with_reducible assumption) ?_
    | refine Cond_f (by with_reducible assumption) ?_
    | refine NewL_v ?_
    | refine LkL_i (by walk_at "nl") ?_
    | refine AtD_i (Eq.refl _) ?_
    | refine IsIns_v ?_
    | refine IsIns_r (by walk_at "nl") ?_
    | refine StF_i (by walk_at "nl") (by walk_at "ns") ?_
    | refine Fd_i 0 (by decide +kernel) (Eq.refl _) ?_
    | refine Fd_i 1 (by decide +kernel) (Eq.refl _) ?_
    | refine Fd_i 2 (by decide +kernel) (Eq.refl _) ?_
    | refine Fd_i 3 (by decide +kernel) (Eq.refl _) ?_
    | refine Fd_i 4 (by decide +kernel) (Eq.refl _) ?_
    | refine IntsQ_t _ (Eq.refl _) ?_
    | refine IntsQ_l _ (Eq.refl _) ?_
    | refine IntsL_i _ (Eq.refl _) ?_
    | refine BlsL_i _ (Eq.refl _) ?_
    | refine Ret_i (d := .int _) ?_
    | refine Ret_i (d := .bl _) ?_
    | refine Ret_i (d := .tup _) ?_
    | refine Ret_i (d := .lst _) ?_
    | refine Ret_i (d := .str _) ?_
    | refine Ret_i (d := .non) ?_)
local macro_rules
  | `(tactic| walk_at "n1") => `(tactic| first
    | walk_at "n0"
    | refine Call_i ?_)
local macro_rules
  | `(tactic| walk_at "nc") => `(tactic| (
      repeat (conv => whnf
              walk_at "n0")
      try (conv => whnf)))
local macro_rules
  | `(tactic| walk_at "nw") => `(tactic| (
      repeat (conv => whnf
              walk_at "n1")
      try (conv => whnf)))
theorem I1_x {d : D} {k : Int → Prop} (h : I1 d k) : ∃ i, d = .int i ∧ k i := by
  cases d <;> first | exact ⟨_, rfl, h⟩ | exact (show False from h).elim
theorem pu__law_mix (K : PySem.W.Frag) (ds : List D) (G : GH) (q : QD) (x : XD) (h : sp__law_mix K ds G q x) : t__law_mix K (dEnds q x) (startD n__law_mix ds) G := by
  obtain ⟨a, b, rfl, h⟩ := A2_x h
  obtain ⟨i, rfl, h⟩ := I1_x h
  obtain ⟨j, rfl, h⟩ := I1_x h
  walk_at "nw"
  exact h _
theorem atI_in {α : Type} {xs : List α} {i : Int} (h0 : 0 ≤ i) (h1 : i < xs.length) : ∃ x, atI xs i = some x ∧ xs[i.toNat]? = some x := by
  unfold atI ixN
  rw [if_pos h0, if_pos h1]
  have h2 : i.toNat < xs.length := by omega
  exact ⟨xs[i.toNat], List.getElem?_eq_getElem h2, List.getElem?_eq_getElem h2⟩
theorem atI_int {cs : List Int} {i : Int} (h0 : 0 ≤ i) (h1 : i < cs.length) : ∃ v, atI (cs.map D.int) i = some (.int v) ∧ cs[i.toNat]? = some v := by
  obtain ⟨x, e1, e2⟩ := atI_in (xs := cs.map D.int) h0 (by rw [List.length_map]; exact h1)
  rw [List.getElem?_map] at e2
  cases e : cs[i.toNat]? with
  | none => rw [e] at e2; cases e2
  | some v =>
    rw [e] at e2
    cases e2
    exact ⟨v, e1, rfl⟩
theorem set_ints {cs : List Int} {n : Nat} {v : Int} : (cs.map D.int).set n (.int v) = (cs.set n v).map D.int := by rw [List.map_set]
theorem cdivw {w i : Int} (h : 0 < i) (hi : i < 2 ^ 62) : CDivW w i := by
  refine ⟨h, ?_⟩
  have h1 : i.natAbs < 2 ^ 62 := by omega
  have h2 : i.natAbs ≠ 0 := by omega
  have := (Nat.log2_lt h2).mpr h1
  omega
theorem pu__law_take (K : PySem.W.Frag) (ds : List D) (G : GH) (q : QD) (x : XD) (h : sp__law_take K ds G q x) : t__law_take K (dEnds q x) (startD n__law_take ds) G := by
  obtain ⟨s, m, rfl, a, c, l, i, rfl, rfl, ⟨nac, nal, ncl, cs, ls, at_, seed, k, ha, hc, hl, hlen, h0⟩, hi, h⟩ := A2_x h
  walk_at "nw"
  refine Cond_i (fun hb => ?_) (fun hb => ?_)
  · walk_at "nw"
    exact h 0 G (by omega) (.inr rfl) ⟨nac, nal, ncl, cs, ls, at_, seed, k, ha, hc, hl, hlen, h0⟩ fun _ _ _ _ => rfl
  have hb := of_decide_eq_false hb
  walk_at "nw"
  refine Cond_i (fun hd => ?_) (fun hd => ?_)
  · walk_at "nw"
    intro r
    walk_at "nw"
    refine h _ _ (Int.emod_nonneg _ (by omega)) (.inl (Int.emod_lt_of_pos _ (by omega))) ⟨nac, nal, ncl, cs, ls, at_, seed, k + 1, gup_same, ?_, ?_, hlen, h0⟩ fun b h1 _ _ => gup_ne h1
    · exact (gup_ne (Ne.symm nac)).trans hc
    · exact (gup_ne (Ne.symm nal)).trans hl
  have hd := of_decide_eq_false hd
  rw [List.length_map] at hd
  obtain ⟨v, hv, _⟩ := atI_int (cs := ls) h0 (by omega)
  obtain ⟨w, hw, _⟩ := atI_int (cs := cs) h0 (by omega)
  have hdv : CDivW w i := cdivw (by omega) hi
  have hsx : 0 ≤ at_ ∧ at_ < ((List.map D.int cs).length : Int) := by rw [List.length_map]; omega
  have hsy : 0 ≤ at_ ∧ at_ < ((List.map D.int ls).length : Int) := by rw [List.length_map]; omega
  walk_at "nw"
  refine AtD_i hv ?_
  walk_at "nw"
  refine Cond_i (fun he => ?_) (fun he => ?_)
  · walk_at "nw"
    refine AtD_i hw ?_
    walk_at "nw"
    refine Cond_i (fun hf => ?_) (fun hf => ?_)
    · walk_at "nw"
      refine h _ _ (Int.emod_nonneg _ (by omega)) (.inl (Int.emod_lt_of_pos _ (by omega))) ⟨nac, nal, ncl, cs.set at_.toNat (w / i), ls, at_ + 1, seed, k, gup_same, ?_, ?_, by rw [List.length_set]; exact hlen, by omega⟩ fun b h1 h2 _ => (gup_ne h1).trans (gup_ne h2)
      · rw [gup_ne (Ne.symm nac), gup_same, set_ints]
      · rw [gup_ne (Ne.symm nal), gup_ne (Ne.symm ncl)]; exact hl
    · walk_at "nw"
      refine h _ _ (Int.emod_nonneg _ (by omega)) (.inl (Int.emod_lt_of_pos _ (by omega))) ⟨nac, nal, ncl, cs.set at_.toNat (w / i), ls, at_, seed, k, ?_, ?_, ?_, by rw [List.length_set]; exact hlen, by omega⟩ fun b h1 h2 _ => gup_ne h2
      · rw [gup_ne nac]; exact ha
      · rw [gup_same, set_ints]
      · rw [gup_ne (Ne.symm ncl)]; exact hl
  · walk_at "nw"
    have e1 : (List.map D.int ls).set at_.toNat (D.int (v - 1)) = (ls.set at_.toNat (v - 1)).map D.int := set_ints
    obtain ⟨u, hu, _⟩ := atI_int (cs := ls.set at_.toNat (v - 1)) h0 (by rw [List.length_set]; omega)
    rw [← e1] at hu
    refine AtD_i hv ?_
    walk_at "nw"
    refine AtD_i hu ?_
    walk_at "nw"
    refine Cond_i (fun hf => ?_) (fun hf => ?_)
    · walk_at "nw"
      refine AtD_i hw ?_
      walk_at "nw"
      refine AtD_i hu ?_
      walk_at "nw"
      intro r
      walk_at "nw"
      refine h _ _ (Int.emod_nonneg _ (by omega)) (.inl (Int.emod_lt_of_pos _ (by omega))) ⟨nac, nal, ncl, cs, ls.set at_.toNat (v - 1), at_ + 1, seed, k, gup_same, ?_, ?_, by rw [List.length_set]; exact hlen, by omega⟩ fun b h1 _ h3 => (gup_ne h1).trans (gup_ne h3)
      · rw [gup_ne (Ne.symm nac), gup_ne ncl]; exact hc
      · rw [gup_ne (Ne.symm nal), gup_same, ← e1]
    · walk_at "nw"
      refine AtD_i hw ?_
      walk_at "nw"
      refine AtD_i hu ?_
      walk_at "nw"
      intro r
      walk_at "nw"
      refine h _ _ (Int.emod_nonneg _ (by omega)) (.inl (Int.emod_lt_of_pos _ (by omega))) ⟨nac, nal, ncl, cs, ls.set at_.toNat (v - 1), at_, seed, k, ?_, ?_, ?_, by rw [List.length_set]; exact hlen, by omega⟩ fun b h1 _ h3 => gup_ne h3
      · rw [gup_ne nal]; exact ha
      · rw [gup_ne ncl]; exact hc
      · rw [gup_same, ← e1]
/-- how a caller goes on behind _law_take -/
theorem take_c {K : PySem.W.Frag} {a c l : Addr} {i : Int} {G : GH} {q : QD} {x : XD} (hS : Sto a c l G) (hi : i < 2 ^ 62) (h : ∀ n G', 0 ≤ n → (n < i ∨ n = 0) → Sto a c l G' → Sm3 a c l G G' → q (.int n) G') : Call (sp__law_take K) [.ref a, .int i] G q x :=
  Call_i ⟨a, c, l, i, rfl, rfl, hS, hi, h⟩
theorem pu__law_of (K : PySem.W.Frag) (ds : List D) (G : GH) (q : QD) (x : XD) (h : sp__law_of K ds G q x) : t__law_of K (dEnds q x) (startD n__law_of ds) G := by
  obtain ⟨s, t, rfl, a, c, l, xs, rfl, ht, hne, hl, hS, h⟩ := A2_x h
  have hpos : 0 < xs.length := List.length_pos_iff.mpr hne
  have fin : ∀ (n : Int) G', 0 ≤ n → (n < xs.length ∨ n = 0) → Sto a c l G' → Sm3 a c l G G' → AtD xs n fun d => Ret d G' q := fun n G' h0 h1 hS' hF => by
    obtain ⟨d, hd, hx⟩ := atI_in (xs := xs) h0 (by omega)
    exact AtD_i hd (Ret_i (h d G' (List.mem_of_getElem? hx) hS' hF))
  rcases ht with rfl | rfl
  · conv => whnf
    exact take_c hS (by omega) fin
  · conv => whnf
    exact take_c hS (by omega) fin
theorem of_c {K : PySem.W.Frag} {a c l : Addr} {xs : List D} {G : GH} {q : QD} {x : XD} (hS : Sto a c l G) (hne : xs ≠ []) (hl : xs.length < 2 ^ 60) (h : ∀ d G', d ∈ xs → Sto a c l G' → Sm3 a c l G G' → q d G') : Call (sp__law_of K) [.ref a, .tup xs] G q x :=
  Call_i ⟨a, c, l, xs, rfl, .inl rfl, hne, hl, hS, h⟩
theorem pu__law_marks (K : PySem.W.Frag) (ds : List D) (G : GH) (q : QD) (x : XD) (h : sp__law_marks K ds G q x) : t__law_marks K (dEnds q x) (startD n__law_marks ds) G := by
  obtain ⟨d, rfl, ht, h⟩ := A1_x h
  cases d with
  | ro _ => simp [tree] at ht
  | obj _ _ _ => simp [tree] at ht
  | ref _ => simp [tree] at ht
  | fn _ => simp [tree] at ht
  | _ =>
    walk_at "nw"
    exact h
theorem nodesA_app : ∀ xs ys : List D, nodesA (xs ++ ys) = nodesA xs + nodesA ys
  | [], ys => by simp [nodesA]
  | x :: xs, ys => by
    rw [List.cons_append]
    show nodes x + nodesA (xs ++ ys) = nodes x + nodesA xs + nodesA ys
    rw [nodesA_app xs ys]
    omega
theorem nodes_pos (d : D) : 1 ≤ nodes d := by cases d <;> simp [nodes]
theorem len_nodes : ∀ xs : List D, xs.length ≤ nodesA xs
  | [] => Nat.zero_le _
  | x :: xs => by
    have h1 := nodes_pos x
    have h2 := len_nodes xs
    show xs.length + 1 ≤ nodes x + nodesA xs
    omega
theorem trees_mem : ∀ {xs : List D}, trees xs = true → ∀ t ∈ xs, tree t = true
  | [], _, t, h => by cases h
  | x :: xs, h, t, m => by
    unfold trees at h
    rw [Bool.and_eq_true] at h
    rcases List.mem_cons.mp m with rfl | m
    · exact h.1
    · exact trees_mem h.2 t m
theorem marks_eq {t : Option Ty} {G : GH} {k : Bool → Prop} (h : k true) : EqD (.lst (marksD t)) (.lst (marksD t)) G k := by
  have e : PyData.eqv (.list ((marksD t).map fun d => match d with | .bl b => .bool b | _ => .none)) (.list ((marksD t).map fun d => match d with | .bl b => .bool b | _ => .none)) = true := by
    cases t with
    | none => decide +kernel
    | some T => cases T <;> decide +kernel
  refine EqD_i (d := .list ((marksD t).map fun d => match d with | .bl b => .bool b | _ => .none)) (e := .list ((marksD t).map fun d => match d with | .bl b => .bool b | _ => .none)) ?_ ?_ rfl rfl (by rw [e]; exact h) <;>
    exact .lst (.cons (.bl _) (.cons (.bl _) (.cons (.bl _) (.cons (.bl _) (.cons (.bl _) (.cons (.bl _) .nil))))))
theorem atI_last {α : Type} {xs : List α} {y : α} : atI (xs ++ [y]) (-1) = some y := by
  unfold atI ixN
  rw [List.length_append, List.length_singleton, if_neg (by omega), if_pos (by omega)]
  have e : (-1 + ((xs.length + 1 : Nat) : Int)).toNat = xs.length := by omega
  rw [e]
  simp
theorem like_end {G : GH} {p : Addr} {q : QD} {o : GO} (hp : G p = none) (h : q (.bl true) G) : Ret (.bl true) (gup G p o) q := Ret_w G (subG_up hp) h
abbrev dup2 (t : D) : D := .tup [t, t]
theorem pu__law_like (K : PySem.W.Frag) (ds : List D) (G : GH) (q : QD) (x : XD) (h : sp__law_like K ds G q x) : t__law_like K (dEnds q x) (startD n__law_like ds) G := by
  obtain ⟨a, b, rfl, rfl, ht, hn, h⟩ := A2_x h
  walk_at "nw"
  refine NewM_i fun p hp => ?_
  walk_at "nw"
  refine ForD_i (fun i τ G' => ∃ st : List D, (∀ t ∈ st, tree t = true) ∧ i + nodesA st ≤ nodes a ∧ G' = gup G p (.lst (st.map dup2)) ∧ ∃ o3 o4 o5 o6, τ = [some a, some a, some (.ref p), o3, o4, o5, o6])
    ⟨[a], by simpa using ht, by simp [nodesA], rfl, _, _, _, _, rfl⟩ (fun _ _ _ _ _ => True.intro) ?_ ?_
  · rintro i d τ G' hd ⟨st, hst, hs, rfl, o3, o4, o5, o6, rfl⟩
    walk_at "nw"
    rcases List.eq_nil_or_concat st with rfl | ⟨st', t, rfl⟩
    · refine Cond_t rfl ?_
      conv => whnf
      exact like_end hp h
    · rw [List.concat_eq_append] at *
      have htt : tree t = true := hst t (by simp)
      have hst' : ∀ u ∈ st', tree u = true := fun u m => hst u (by simp [m])
      rw [nodesA_app] at hs
      have hs1 : i + (nodesA st' + nodes t) ≤ nodes a := by simpa [nodesA] using hs
      refine Cond_f (by simp; omega) ?_
      walk_at "nw"
      refine AtD_i (by rw [List.map_append]; exact atI_last) ?_
      walk_at "nw"
      refine ⟨htt, ?_⟩
      walk_at "nw"
      refine ⟨htt, ?_⟩
      walk_at "nw"
      refine marks_eq ?_
      walk_at "nw"
      have leaf : nodes t = 1 → (∃ st : List D, (∀ t ∈ st, tree t = true) ∧ i + 1 + nodesA st ≤ nodes a ∧ gup (gup G p (.lst (List.map dup2 (st' ++ [t])))) p (.lst (List.map dup2 (st' ++ [t])).dropLast) = gup G p (.lst (st.map dup2)) ∧
          ∃ p3 p4 p5 p6, [some a, some a, some (.ref p), some d, some t, some t, o6] = [some a, some a, some (.ref p), p3, p4, p5, p6]) := fun e1 =>
        ⟨st', hst', by omega, by rw [gup_gup, List.map_append]; simp, _, _, _, _, rfl⟩
      cases t with
      | tup xs | lst xs =>
        have hx : trees xs = true := htt
        have hz : nodesA xs + 1 ≤ nodes a := by have : nodes a ≥ i + (nodesA st' + (1 + nodesA xs)) := hs1; omega
        have hlx : xs.length ≤ nodesA xs := len_nodes xs
        walk_at "nw"
        refine Cond_f (by simp) ?_
        walk_at "nw"
        refine ForD_i (fun j τ G' => G' = gup G p (.lst (List.map dup2 (st' ++ xs.take j))) ∧ ∃ p6, τ = [some a, some a, some (.ref p), some d, some _, some _, p6]) ⟨?_, _, rfl⟩ (fun _ _ _ _ _ => True.intro) ?_ ?_
        · rw [gup_gup, List.map_append]; simp
        · rintro j dj τ G' hj ⟨rfl, p6, rfl⟩
          have hj' := (List.getElem?_eq_some_iff.mp hj).1
          rw [rng_len] at hj'
          have hjx : j < xs.length := by omega
          rw [rng_at (by omega)] at hj
          cases hj
          obtain ⟨y, hy, hy2⟩ := atI_in (xs := xs) (i := 0 + (j : Int)) (by omega) (by omega)
          have hl2 : (List.map dup2 (st' ++ xs.take j)).length < sizeLine := by
            rw [List.length_map, List.length_append, List.length_take]
            have := len_nodes st'
            have := PySem.sizeLine_eq
            omega
          walk_at "nw"
          refine AtD_i hy ?_
          walk_at "nw"
          refine AtD_i hy ?_
          walk_at "nw"
          refine ⟨?_, _, rfl⟩
          have e0 : (0 + (j : Int)).toNat = j := by omega
          rw [e0] at hy2
          rw [gup_gup, List.take_add_one, hy2]
          simp
        · rintro τ G' ⟨rfl, p6, rfl⟩
          refine ⟨st' ++ xs, ?_, ?_, ?_, _, _, _, _, rfl⟩
          · intro u hu
            rcases List.mem_append.mp hu with hu | hu
            · exact hst' u hu
            · exact trees_mem hx u hu
          · rw [nodesA_app]
            have : i + (nodesA st' + (1 + nodesA xs)) ≤ nodes a := hs1
            omega
          · rw [rng_len]
            have e0 : ((xs.length : Int)).toNat = xs.length := by omega
            rw [e0, List.take_length]
      | ro _ => simp [tree] at htt
      | obj _ _ _ => simp [tree] at htt
      | ref _ => simp [tree] at htt
      | fn _ => simp [tree] at htt
      | _ =>
        walk_at "nw"
        first
          | exact leaf rfl
          | (refine Cond_f (by simp) ?_
             conv => whnf
             exact leaf rfl)
  · rintro τ G' ⟨st, hst, hs, _⟩
    rw [rng_len] at hs
    omega
theorem pu__law_store (K : PySem.W.Frag) (ds : List D) (G : GH) (q : QD) (x : XD) (h : sp__law_store K ds G q x) : t__law_store K (dEnds q x) (startD n__law_store ds) G := by
  obtain ⟨s, rfl, ns, rfl, hns, h⟩ := A1_x h
  walk_at "nw"
  refine NewM_i fun c hc => ?_
  walk_at "nw"
  refine NewM_i fun l hl => ?_
  have ncl : l ≠ c := fun z => by rw [z, gup_same] at hl; cases hl
  have hl0 : G l = none := by rw [gup_ne ncl] at hl; exact hl
  have hb : -(2 ^ 62) ≤ (if (63 : Int) < ((List.map D.int ns).length : Int) then 63 else ((List.map D.int ns).length : Int)) ∧ (if (63 : Int) < ((List.map D.int ns).length : Int) then 63 else ((List.map D.int ns).length : Int)) < 2 ^ 62 := by
    split <;> omega
  walk_at "nw"
  generalize hw : ((10 : Int) ^ (60 : Int).toNat * 10 ^ (60 : Int).toNat * 10 ^ (60 : Int).toNat * 10 ^ (60 : Int).toNat) = wide
  refine ForD_i (fun i τ G' => ∃ cs ls sd o5 o6 o7, G' c = some (.lst (List.map D.int cs)) ∧ G' l = some (.lst (List.map D.int ls)) ∧ (∀ b, b ≠ c → b ≠ l → G' b = G b) ∧ cs.length = ls.length ∧ cs.length ≤ i ∧
      τ = [some (.ro (List.map D.int ns)), some (.int wide), some (.ref c), some (.ref l), some (.int sd), o5, o6, o7])
    ⟨[], [], _, none, none, none, (gup_ne (Ne.symm ncl)).trans gup_same, gup_same, fun b h1 h2 => (gup_ne h2).trans (gup_ne h1), rfl, Nat.le_refl _, by rw [← hw]; rfl⟩ (fun _ _ _ _ _ => True.intro) ?_ ?_
  · rintro i d τ G' hd ⟨cs, ls, sd, o5, o6, o7, gc, gl, gf, hlen, hle, rfl⟩
    have hi := (List.getElem?_eq_some_iff.mp hd).1
    rw [rng_len] at hi
    rw [rng_at hi] at hd
    cases hd
    have hin : 0 + (i : Int) < ns.length := by
      rw [List.length_map] at hi
      split at hi <;> omega
    have hlt : i < 63 := by split at hi <;> omega
    obtain ⟨v, hv, _⟩ := atI_int (cs := ns) (i := 0 + (i : Int)) (by omega) hin
    have hs1 : (List.map D.int cs).length < sizeLine := by
      have := PySem.sizeLine_eq
      rw [List.length_map]; omega
    have hs2 : (List.map D.int ls).length < sizeLine := by
      have := PySem.sizeLine_eq
      rw [List.length_map]; omega
    have keep : ∀ (u w sd : Int) (p5 p6 p7 : Option D), ∃ cs' ls' sd' o5 o6 o7, gup (gup G' c (.lst (List.map D.int cs ++ [D.int u]))) l (.lst (List.map D.int ls ++ [D.int w])) c = some (.lst (List.map D.int cs')) ∧
        gup (gup G' c (.lst (List.map D.int cs ++ [D.int u]))) l (.lst (List.map D.int ls ++ [D.int w])) l = some (.lst (List.map D.int ls')) ∧
        (∀ b, b ≠ c → b ≠ l → gup (gup G' c (.lst (List.map D.int cs ++ [D.int u]))) l (.lst (List.map D.int ls ++ [D.int w])) b = G b) ∧ cs'.length = ls'.length ∧ cs'.length ≤ i + 1 ∧
        [some (.ro (List.map D.int ns)), some (.int wide), some (.ref c), some (.ref l), some (.int sd), p5, p6, p7] = [some (.ro (List.map D.int ns)), some (.int wide), some (.ref c), some (.ref l), some (.int sd'), o5, o6, o7] := fun u w sd p5 p6 p7 =>
      ⟨cs ++ [u], ls ++ [w], sd, p5, p6, p7, by rw [gup_ne (Ne.symm ncl), gup_same]; simp, by rw [gup_same]; simp, fun b h1 h2 => (gup_ne h2).trans ((gup_ne h1).trans (gf b h1 h2)), by simp [hlen], by simp; omega, rfl⟩
    have hwp : 0 < wide ∧ wide.natAbs.log2 < 9000 := by rw [← hw]; exact ⟨by decide +kernel, by decide +kernel⟩
    walk_at "nw"
    refine AtD_i hv ?_
    walk_at "nw"
    intro r1
    walk_at "nw"
    refine Cond_i (fun hb => ?_) (fun hb => ?_)
    · walk_at "nw"
      intro r2
      walk_at "nw"
      exact keep r2 6 r1 _ _ _
    · walk_at "nw"
      refine Cond_i (fun hb => ?_) (fun hb => ?_)
      · walk_at "nw"
        exact keep (v % wide) 0 r1 _ _ _
      · conv => whnf
        exact ⟨cs, ls, r1, _, _, _, gc, gl, gf, hlen, by omega, rfl⟩
  · rintro τ G' ⟨cs, ls, sd, o5, o6, o7, gc, gl, gf, hlen, hle, rfl⟩
    walk_at "nw"
    refine NewM_i fun a ha => ?_
    conv => whnf
    have nac : a ≠ c := ne_new' gc ha
    have nal : a ≠ l := ne_new' gl ha
    refine Ret_i (h a c l _ ⟨nac, nal, Ne.symm ncl, cs, ls, 0, sd, 0, gup_same, (gup_ne (Ne.symm nac)).trans gc, (gup_ne (Ne.symm nal)).trans gl, hlen, Int.le_refl _⟩ ?_ hc hl0 fun b h1 h2 h3 => (gup_ne h1).trans (gf b h2 h3))
    rw [← gf a nac nal]; exact ha
/-- a comprehension over encoded things, the ledger as it is -/
theorem lc_enc {F : FinL} {α : Type} {xs : List α} {stay : GH → Prop} {h : TGD} {tt : TTD} {te : TED} {vs : List Nat} {τ : SD} {G : GH} {q : QD} (enc : α → D) (p : α → Bool) (f : α → D) (hz : xs.length ≤ 10000000) (hl : stay G)
    (hs : ∀ a ∈ xs, ∀ (A : QD) (B : GH → Prop), (p a = true → A (f a) G) → (p a = false → B G) → h (enc a) (wipeD τ vs) G fun τ2 _ => tt τ2 G X0 fun b G3 => Cond b (te τ2 G3 X0 A) (B G3))
    (hd : F ((xs.filter p).map f) G q) : LcF F (xs.map enc) stay h tt te vs τ G q := by
  refine LcD_i (fun i acc G' => G' = G ∧ acc = ((xs.take i).filter p).map f) ⟨rfl, by simp⟩ (fun i acc G' _ z => by rw [z.1]; exact hl) (fun i d acc G' hi z => ?_) (fun acc G' z => ?_)
  · obtain ⟨rfl, rfl⟩ := z
    rw [List.getElem?_map] at hi
    cases ha : xs[i]? with
    | none => rw [ha] at hi; cases hi
    | some a =>
      rw [ha] at hi
      cases hi
      have hlt := (List.getElem?_eq_some_iff.mp ha).1
      have e : xs.take (i + 1) = xs.take i ++ [a] := by
        rw [List.take_add_one, ha]
        rfl
      refine hs a (List.mem_of_getElem? ha) _ _ (fun hb => ⟨?_, rfl, ?_⟩) fun hb => ⟨rfl, ?_⟩
      · have l1 : (((xs.take i).filter p).map f).length ≤ xs.length := by
          rw [List.length_map]
          exact Nat.le_trans (List.length_filter_le _ _) (by rw [List.length_take]; omega)
        exact Nat.lt_of_le_of_lt (Nat.le_trans l1 hz) (by decide)
      · rw [e, List.filter_append, List.map_append]
        simp [hb]
      · rw [e, List.filter_append, List.map_append]
        simp [hb]
  · obtain ⟨rfl, rfl⟩ := z
    rw [List.length_map, List.take_length]
    exact hd
theorem cut_take {ds : List D} {k : Nat} (h : k ≤ ds.length) : cutD ds none (some (k : Int)) = ds.take k := by
  unfold cutD
  rw [HT.sIx_nat, HT.sIx_none, List.drop_zero, Nat.sub_zero, Nat.min_eq_left h]
theorem cut_drop {ds : List D} {k : Nat} (h : k ≤ ds.length) : cutD ds (some (k : Int)) none = ds.drop k := by
  unfold cutD
  rw [HT.sIx_nat, HT.sIx_none, Nat.min_eq_left h, List.take_of_length_le]
  rw [List.length_drop]; exact Nat.le_refl _
theorem cut_tail {d : D} {ds : List D} : cutD (d :: ds) (some 1) none = ds := by
  have := cut_drop (ds := d :: ds) (k := 1) (by simp)
  simpa using this
theorem sz_le {n : Nat} (h : n ≤ 10000000) : n ≤ sizeLine := by rw [PySem.sizeLine_eq]; omega
end N
namespace N
open PySem PySem.Spec PyProof.Rows L2
/-! ### what the defs promise, as data -/
def pr (p : Int × Int) : D := .tup [.int p.1, .int p.2]
def prs (l : List (Int × Int)) : List D := l.map pr
abbrev inI (l : List Int) : List D := l.map D.int
def mx (i j : Int) : Int := if j > i then j else i
def mn (ns : List Int) : Int := (ns.min?).getD 0
def cntB (es : List (Int × Int)) (m : Int) : Nat := (es.filter fun e => decide (e.2 ≤ m)).length
def putB (es : List (Int × Int)) (i m : Int) : List (Int × Int) := es.take (cntB es m) ++ [(i, m)] ++ es.drop (cntB es m)
def nmD (b : Bool) : D := .str (bif b then "due" else "fair")
structure Wld where
  due : Bool
  ns : List Int
  line : List (Int × Int)
  lasts : List Int
  clock : Int
def nOf (ns : List Int) (i : Int) : Int := ns.getD i.toNat 0
def leftW (w : Wld) (e : Int × Int) : Int := mx (nOf w.ns e.1 - (w.clock - e.2)) (mn w.ns)
def wD (w : Wld) : D := .lst [nmD w.due, .tup (inI w.ns), .lst (prs w.line), .lst (inI w.lasts), .int w.clock]
def NsOk (ns : List Int) : Prop := 1 ≤ ns.length ∧ ns.length ≤ 6 ∧ ∀ n ∈ ns, 1 ≤ n ∧ n ≤ 9
structure WOk (w : Wld) : Prop where
  ns : NsOk w.ns
  it : ∀ e ∈ w.line, 0 ≤ e.1 ∧ e.1 < w.ns.length
  ll : w.lasts.length = w.ns.length
  sz : w.line.length ≤ 10000
  so : w.due = false → w.line.Pairwise (fun a b => a.2 ≤ b.2) ∧ ∀ e ∈ w.line, w.clock ≤ e.2
/-- a state: its entries, the last tags -/
abbrev Ste := List (Int × Int) × List Int
def stE (due : Bool) (s : Ste) : D := bif due then .tup (prs s.1) else .tup [.tup (prs s.1), .tup (inI s.2)]
def stW (w : Wld) : Ste := bif w.due then (w.line.map fun e => (e.1, leftW w e), []) else (w.line.map fun e => (e.1, e.2 - w.clock), w.lasts.map fun l => mx (l - w.clock) 0)
def setL (ls : List Int) (i : Int) (t : Int) : List Int := ls.take i.toNat ++ [t] ++ ls.drop (i.toNat + 1)
def comeS (due : Bool) (ns : List Int) (s : Ste) (i : Int) : Ste := bif due then (putB s.1 i (nOf ns i), s.2) else (putB s.1 i (nOf s.2 i + nOf ns i), setL s.2 i (nOf s.2 i + nOf ns i))
def callS (due : Bool) (ns : List Int) (s : Ste) : Ste := bif due then (s.1.tail.map fun e => (e.1, mx (e.2 - 1) (mn ns)), s.2) else
  (s.1.tail.map fun e => (e.1, e.2 - (s.1.headD (0, 0)).2), s.2.map fun l => mx (l - (s.1.headD (0, 0)).2) 0)
def comeW (w : Wld) (i : Int) : Wld := bif w.due then ⟨w.due, w.ns, (w.line.take (w.line.filter fun e => decide (leftW w e ≤ nOf w.ns i)).length ++ [(i, w.clock)]) ++ w.line.drop (w.line.filter fun e => decide (leftW w e ≤ nOf w.ns i)).length, w.lasts, w.clock⟩
  else ⟨w.due, w.ns, putB w.line i (mx (nOf w.lasts i) w.clock + nOf w.ns i), setL w.lasts i (mx (nOf w.lasts i) w.clock + nOf w.ns i), w.clock⟩
def callW (w : Wld) : Wld := bif w.due then ⟨w.due, w.ns, w.line.tail, w.lasts, w.clock + 1⟩ else ⟨w.due, w.ns, w.line.tail, w.lasts, (w.line.headD (0, 0)).2⟩
def dueW (w : Wld) (i : Int) : D := if i < 0 then .tup [.int (w.line.headD (0, 0)).1, stE w.due (stW (callW w))] else stE w.due (stW (comeW w i))
def aftW (w : Wld) (i : Int) : Wld := if i < 0 then callW w else comeW w i
def polD (K : PySem.W.Frag) (due : Bool) (ns : List Int) : D := .obj (He.ga K "Policy") ["policy_name", "policy_numbers", "policy_quantum"] [nmD due, .tup (inI ns), .non]
def ItOkW (w : Wld) (i : Int) : Prop := (i = -1 ∧ w.line ≠ []) ∨ (0 ≤ i ∧ i < w.ns.length)
def sp_bounded (K : PySem.W.Frag) : SpD := fun ds G q _ => A3 ds fun v l h => I1 v fun i => I1 l fun a => I1 h fun b => a ≤ i ∧ i ≤ b ∧ q (.bl true) G
def sp_check_name (K : PySem.W.Frag) : SpD := fun ds G q _ => A1 ds fun n => ∃ b, n = nmD b ∧ q .non G
def sp_has_numbers (K : PySem.W.Frag) : SpD := fun ds G q _ => A1 ds fun n => ∃ b, n = nmD b ∧ q (.bl true) G
def sp_Policy____init__ (K : PySem.W.Frag) : SpD := fun ds G q _ => A4 ds fun s n u k => ∃ a b ns, s = .ref a ∧ n = nmD b ∧ u = .tup (inI ns) ∧ k = .non ∧ NsOk ns ∧ G a = some (.ins (He.ga K "Policy") [] []) ∧
  q .non (gup G a (.ins (He.ga K "Policy") ["policy_name", "policy_numbers", "policy_quantum"] [nmD b, .tup (inI ns), .non]))
def sp_Policy__name (K : PySem.W.Frag) : SpD := fun ds G q _ => A1 ds fun s => ∃ b ns, s = polD K b ns ∧ q (nmD b) G
def sp_Policy__numbers (K : PySem.W.Frag) : SpD := fun ds G q _ => A1 ds fun s => ∃ b ns, s = polD K b ns ∧ q (.tup (inI ns)) G
def sp_Policy__quantum (K : PySem.W.Frag) : SpD := fun ds G q _ => A1 ds fun s => ∃ b ns, s = polD K b ns ∧ q .non G
def sp_Policy__many (K : PySem.W.Frag) : SpD := fun ds G q _ => A1 ds fun s => ∃ b ns, s = polD K b ns ∧ q (.int ns.length) G
def sp_Policy__start (K : PySem.W.Frag) : SpD := fun ds G q _ => A1 ds fun s => ∃ b ns, s = polD K b ns ∧ NsOk ns ∧ q (stE b ([], bif b then [] else List.replicate ns.length 0)) G
def sp_put_behind (K : PySem.W.Frag) : SpD := fun ds G q _ => A3 ds fun e i m => ∃ es a b, e = .tup (prs es) ∧ i = .int a ∧ m = .int b ∧ es.length ≤ 10000 ∧ q (.tup (prs (putB es a b))) G
def sp_due_come (K : PySem.W.Frag) : SpD := fun ds G q _ => A3 ds fun n s i => ∃ ns es a, n = .tup (inI ns) ∧ s = .tup (prs es) ∧ i = .int a ∧ 0 ≤ a ∧ a < ns.length ∧ es.length ≤ 10000 ∧ q (.tup (prs (putB es a (nOf ns a)))) G
def sp_due_call (K : PySem.W.Frag) : SpD := fun ds G q _ => A2 ds fun n s => ∃ ns e es, n = .tup (inI ns) ∧ s = .tup (prs (e :: es)) ∧ ns ≠ [] ∧ es.length ≤ 10000 ∧ q (.tup [.int e.1, .tup (prs (es.map fun e => (e.1, mx (e.2 - 1) (mn ns))))]) G
def sp_fair_come (K : PySem.W.Frag) : SpD := fun ds G q _ => A3 ds fun n s i => ∃ ns es ls a, n = .tup (inI ns) ∧ s = .tup [.tup (prs es), .tup (inI ls)] ∧ i = .int a ∧ 0 ≤ a ∧ a < ns.length ∧ ls.length = ns.length ∧ ls.length ≤ 6 ∧ es.length ≤ 10000 ∧
  q (.tup [.tup (prs (putB es a (nOf ls a + nOf ns a))), .tup (inI (setL ls a (nOf ls a + nOf ns a)))]) G
def sp_fair_call (K : PySem.W.Frag) : SpD := fun ds G q _ => A1 ds fun s => ∃ e es ls, s = .tup [.tup (prs (e :: es)), .tup (inI ls)] ∧ es.length ≤ 10000 ∧ ls.length ≤ 6 ∧
  q (.tup [.int e.1, .tup [.tup (prs (es.map fun d => (d.1, d.2 - e.2))), .tup (inI (ls.map fun l => mx (l - e.2) 0))]]) G
/-- a coming, a calling of either policy -/
def StOk (b : Bool) (ns : List Int) (s : Ste) : Prop := NsOk ns ∧ s.1.length ≤ 10000 ∧ (b = false → s.2.length = ns.length)
def sp_Policy__come (K : PySem.W.Frag) : SpD := fun ds G q _ => A4 ds fun p s c i => ∃ b ns st a, p = polD K b ns ∧ s = stE b st ∧ i = .int a ∧ StOk b ns st ∧ 0 ≤ a ∧ a < ns.length ∧ q (stE b (comeS b ns st a)) G
def sp_credit_call (K : PySem.W.Frag) : SpD := fun ds G q _ => A3 ds fun p s c => ∃ b ns st, p = polD K b ns ∧ s = stE b st ∧ StOk b ns st ∧ st.1 ≠ [] ∧ q (.tup [.int (st.1.headD (0, 0)).1, stE b (callS b ns st)]) G
def sp_Policy__call (K : PySem.W.Frag) : SpD := fun ds G q _ => A3 ds fun p s c => ∃ b ns st cs, p = polD K b ns ∧ s = stE b st ∧ c = .tup (inI cs) ∧ cs.length ≤ 6 ∧ (∃ k ∈ cs, k ≠ 0) ∧ StOk b ns st ∧ st.1 ≠ [] ∧ q (.tup [.int (st.1.headD (0, 0)).1, stE b (callS b ns st)]) G
def sp__law_left (K : PySem.W.Frag) : SpD := fun ds G q _ => A2 ds fun w e => ∃ u d, w = wD u ∧ e = pr d ∧ NsOk u.ns ∧ 0 ≤ d.1 ∧ d.1 < u.ns.length ∧ q (.int (leftW u d)) G
def sp__law_state (K : PySem.W.Frag) : SpD := fun ds G q _ => A1 ds fun w => ∃ u, w = wD u ∧ WOk u ∧ q (stE u.due (stW u)) G
def sp__law_behind_come (K : PySem.W.Frag) : SpD := fun ds G q _ => A2 ds fun w i => ∃ u a, w = wD u ∧ i = .int a ∧ WOk u ∧ 0 ≤ a ∧ a < u.ns.length ∧ q (wD (comeW u a)) G
def sp__law_behind_call (K : PySem.W.Frag) : SpD := fun ds G q _ => A1 ds fun w => ∃ u, w = wD u ∧ WOk u ∧ u.line ≠ [] ∧ q (wD (callW u)) G
def toldD (b : Bool) (ns : List Int) (st : Ste) (i : Int) : D := if i < 0 then .tup [.int (st.1.headD (0, 0)).1, stE b (callS b ns st)] else stE b (comeS b ns st i)
def sp__law_told (K : PySem.W.Frag) : SpD := fun ds G q _ => A4 ds fun n u s i => ∃ b ns st a, n = nmD b ∧ u = .tup (inI ns) ∧ s = stE b st ∧ i = .int a ∧ StOk b ns st ∧ ((a < 0 ∧ st.1 ≠ []) ∨ (0 ≤ a ∧ a < ns.length)) ∧ q (toldD b ns st a) G
def sp__law_told_by_name (K : PySem.W.Frag) : SpD := sp__law_told K
def sp__law_step_right (K : PySem.W.Frag) : SpD := fun ds G q _ => A4 ds fun p w i d => ∃ u a, p = polD K u.due u.ns ∧ w = wD u ∧ i = .int a ∧ d = dueW u a ∧ WOk u ∧ u.line.length < 9999 ∧ ItOkW u a ∧ q (.bl true) G
def sp__law_event (K : PySem.W.Frag) : SpD := fun ds G q _ => A4 ds fun p w i k => ∃ u a b, p = polD K u.due u.ns ∧ w = wD u ∧ i = .int a ∧ k = .bl b ∧ WOk u ∧ u.line.length < 9999 ∧ ItOkW u a ∧
  q (.lst [wD (aftW u a), .bl true, .lst [nmD u.due, .tup (inI u.ns), stE u.due (stW u), .int a, dueW u a]]) G
def sp__law_start_right (K : PySem.W.Frag) : SpD := fun ds G q _ => A2 ds fun p w => ∃ b ns, p = polD K b ns ∧ NsOk ns ∧ w = wD ⟨b, ns, [], List.replicate ns.length 0, 0⟩ ∧ q (.bl true) G
def sp__law_item_drawn (K : PySem.W.Frag) : SpD := fun ds G q _ => A3 ds fun s w r => ∃ a c l u k, s = .ref a ∧ w = wD u ∧ r = .int k ∧ Sto a c l G ∧ WOk u ∧ k < 2 ^ 60 ∧ ∀ n G', ItOkW u n → Sto a c l G' → Sm3 a c l G G' → q (.int n) G'
def sp__law_world (K : PySem.W.Frag) : SpD := fun ds G q _ => A2 ds fun s n => ∃ a c l b, s = .ref a ∧ n = nmD b ∧ Sto a c l G ∧ ∀ ns G', NsOk ns → Sto a c l G' → Sm3 a c l G G' → q (wD ⟨b, ns, [], List.replicate ns.length 0, 0⟩) G'
end N
namespace Hd
open PySem PySem.Spec PyProof.Rows L2 N
def top (i : Nat) : Stmt := PySem.Challenge.pw_nonepassed_k14_due_and_fair_step_by_step.main.body.getD i (.Pass ⟨0, 0, 0, 0⟩)
abbrev s_bounded : Stmt := (top 18)
def d_bounded : DefN := ⟨fun K => He.fAd K ("bounded", none), "bounded", "bounded", defArgs s_bounded, defBody s_bounded, defScope s_bounded, [], []⟩
abbrev s_check_name : Stmt := (top 19)
def d_check_name : DefN := ⟨fun K => He.fAd K ("check_name", none), "check_name", "check_name", defArgs s_check_name, defBody s_check_name, defScope s_check_name, [], []⟩
abbrev s_has_numbers : Stmt := (top 20)
def d_has_numbers : DefN := ⟨fun K => He.fAd K ("has_numbers", none), "has_numbers", "has_numbers", defArgs s_has_numbers, defBody s_has_numbers, defScope s_has_numbers, [], []⟩
abbrev s_Policy____init__ : Stmt := (inClass (top 29) 0)
def d_Policy____init__ : DefN := ⟨fun K => He.fAd K ("Policy", some "__init__"), "__init__", "Policy.__init__", defArgs s_Policy____init__, defBody s_Policy____init__, defScope s_Policy____init__, [], [("quantum", .non)]⟩
abbrev s__law_behind_call : Stmt := (top 41)
def d__law_behind_call : DefN := ⟨fun K => He.fAd K ("_law_behind_call", none), "_law_behind_call", "_law_behind_call", defArgs s__law_behind_call, defBody s__law_behind_call, defScope s__law_behind_call, [], []⟩
abbrev s__law_left : Stmt := (top 38)
def d__law_left : DefN := ⟨fun K => He.fAd K ("_law_left", none), "_law_left", "_law_left", defArgs s__law_left, defBody s__law_left, defScope s__law_left, [], []⟩
abbrev s__law_behind_come : Stmt := (top 40)
def d__law_behind_come : DefN := ⟨fun K => He.fAd K ("_law_behind_come", none), "_law_behind_come", "_law_behind_come", defArgs s__law_behind_come, defBody s__law_behind_come, defScope s__law_behind_come, [], []⟩
abbrev s__law_state : Stmt := (top 39)
def d__law_state : DefN := ⟨fun K => He.fAd K ("_law_state", none), "_law_state", "_law_state", defArgs s__law_state, defBody s__law_state, defScope s__law_state, [], []⟩
abbrev s_Policy__name : Stmt := (inClass (top 29) 1)
def d_Policy__name : DefN := ⟨fun K => pgN K (He.ga K "Policy") "name", "name", "Policy.name", defArgs s_Policy__name, defBody s_Policy__name, defScope s_Policy__name, [], []⟩
abbrev s_Policy__numbers : Stmt := (inClass (top 29) 2)
def d_Policy__numbers : DefN := ⟨fun K => pgN K (He.ga K "Policy") "numbers", "numbers", "Policy.numbers", defArgs s_Policy__numbers, defBody s_Policy__numbers, defScope s_Policy__numbers, [], []⟩
abbrev s_due_call : Stmt := (top 3)
def d_due_call : DefN := ⟨fun K => He.fAd K ("due_call", none), "due_call", "due_call", defArgs s_due_call, defBody s_due_call, defScope s_due_call, [], []⟩
abbrev s_fair_call : Stmt := (top 5)
def d_fair_call : DefN := ⟨fun K => He.fAd K ("fair_call", none), "fair_call", "fair_call", defArgs s_fair_call, defBody s_fair_call, defScope s_fair_call, [], []⟩
abbrev s_credit_call : Stmt := (top 28)
def d_credit_call : DefN := ⟨fun K => He.fAd K ("credit_call", none), "credit_call", "credit_call", defArgs s_credit_call, defBody s_credit_call, defScope s_credit_call, [], []⟩
abbrev s_Policy__call : Stmt := (inClass (top 29) 7)
def d_Policy__call : DefN := ⟨fun K => He.fAd K ("Policy", some "call"), "call", "Policy.call", defArgs s_Policy__call, defBody s_Policy__call, defScope s_Policy__call, [], []⟩
abbrev s_Policy__many : Stmt := (inClass (top 29) 4)
def d_Policy__many : DefN := ⟨fun K => pgN K (He.ga K "Policy") "many", "many", "Policy.many", defArgs s_Policy__many, defBody s_Policy__many, defScope s_Policy__many, [], []⟩
abbrev s_put_behind : Stmt := (top 1)
def d_put_behind : DefN := ⟨fun K => He.fAd K ("put_behind", none), "put_behind", "put_behind", defArgs s_put_behind, defBody s_put_behind, defScope s_put_behind, [], []⟩
abbrev s_due_come : Stmt := (top 2)
def d_due_come : DefN := ⟨fun K => He.fAd K ("due_come", none), "due_come", "due_come", defArgs s_due_come, defBody s_due_come, defScope s_due_come, [], []⟩
abbrev s_fair_come : Stmt := (top 4)
def d_fair_come : DefN := ⟨fun K => He.fAd K ("fair_come", none), "fair_come", "fair_come", defArgs s_fair_come, defBody s_fair_come, defScope s_fair_come, [], []⟩
abbrev s_Policy__come : Stmt := (inClass (top 29) 6)
def d_Policy__come : DefN := ⟨fun K => He.fAd K ("Policy", some "come"), "come", "Policy.come", defArgs s_Policy__come, defBody s_Policy__come, defScope s_Policy__come, [], []⟩
abbrev s__law_marks : Stmt := (top 35)
def d__law_marks : DefN := ⟨fun K => He.fAd K ("_law_marks", none), "_law_marks", "_law_marks", defArgs s__law_marks, defBody s__law_marks, defScope s__law_marks, [], []⟩
abbrev s__law_like : Stmt := (top 36)
def d__law_like : DefN := ⟨fun K => He.fAd K ("_law_like", none), "_law_like", "_law_like", defArgs s__law_like, defBody s__law_like, defScope s__law_like, [], []⟩
abbrev s__law_told : Stmt := (top 42)
def d__law_told : DefN := ⟨fun K => He.fAd K ("_law_told", none), "_law_told", "_law_told", defArgs s__law_told, defBody s__law_told, defScope s__law_told, [], []⟩
abbrev s__law_step_right : Stmt := (top 44)
def d__law_step_right : DefN := ⟨fun K => He.fAd K ("_law_step_right", none), "_law_step_right", "_law_step_right", defArgs s__law_step_right, defBody s__law_step_right, defScope s__law_step_right, [], []⟩
abbrev s__law_event : Stmt := (top 45)
def d__law_event : DefN := ⟨fun K => He.fAd K ("_law_event", none), "_law_event", "_law_event", defArgs s__law_event, defBody s__law_event, defScope s__law_event, [], []⟩
abbrev s__law_mix : Stmt := (top 31)
def d__law_mix : DefN := ⟨fun K => He.fAd K ("_law_mix", none), "_law_mix", "_law_mix", defArgs s__law_mix, defBody s__law_mix, defScope s__law_mix, [], []⟩
abbrev s__law_take : Stmt := (top 33)
def d__law_take : DefN := ⟨fun K => He.fAd K ("_law_take", none), "_law_take", "_law_take", defArgs s__law_take, defBody s__law_take, defScope s__law_take, [], []⟩
abbrev s__law_item_drawn : Stmt := (top 47)
def d__law_item_drawn : DefN := ⟨fun K => He.fAd K ("_law_item_drawn", none), "_law_item_drawn", "_law_item_drawn", defArgs s__law_item_drawn, defBody s__law_item_drawn, defScope s__law_item_drawn, [], []⟩
abbrev s__law_of : Stmt := (top 34)
def d__law_of : DefN := ⟨fun K => He.fAd K ("_law_of", none), "_law_of", "_law_of", defArgs s__law_of, defBody s__law_of, defScope s__law_of, [], []⟩
abbrev s_Policy__quantum : Stmt := (inClass (top 29) 3)
def d_Policy__quantum : DefN := ⟨fun K => pgN K (He.ga K "Policy") "quantum", "quantum", "Policy.quantum", defArgs s_Policy__quantum, defBody s_Policy__quantum, defScope s_Policy__quantum, [], []⟩
abbrev s_Policy__start : Stmt := (inClass (top 29) 5)
def d_Policy__start : DefN := ⟨fun K => He.fAd K ("Policy", some "start"), "start", "Policy.start", defArgs s_Policy__start, defBody s_Policy__start, defScope s_Policy__start, [], []⟩
abbrev s__law_start_right : Stmt := (top 46)
def d__law_start_right : DefN := ⟨fun K => He.fAd K ("_law_start_right", none), "_law_start_right", "_law_start_right", defArgs s__law_start_right, defBody s__law_start_right, defScope s__law_start_right, [], []⟩
abbrev s__law_store : Stmt := (top 32)
def d__law_store : DefN := ⟨fun K => He.fAd K ("_law_store", none), "_law_store", "_law_store", defArgs s__law_store, defBody s__law_store, defScope s__law_store, [], []⟩
abbrev s__law_told_by_name : Stmt := (top 43)
def d__law_told_by_name : DefN := ⟨fun K => He.fAd K ("_law_told_by_name", none), "_law_told_by_name", "_law_told_by_name", defArgs s__law_told_by_name, defBody s__law_told_by_name, defScope s__law_told_by_name, [], []⟩
abbrev s__law_world : Stmt := (top 37)
def d__law_world : DefN := ⟨fun K => He.fAd K ("_law_world", none), "_law_world", "_law_world", defArgs s__law_world, defBody s__law_world, defScope s__law_world, [], []⟩
abbrev s_law : Stmt := (top 48)
def d_law : DefN := ⟨fun K => He.fAd K ("law", none), "law", "law", defArgs s_law, defBody s_law, defScope s_law, [], []⟩
def fn : List DefN := [d_bounded, d_check_name, d_has_numbers, d_Policy____init__, d__law_behind_call, d__law_left, d__law_behind_come, d__law_state, d_Policy__name, d_Policy__numbers, d_due_call, d_fair_call, d_credit_call, d_Policy__call, d_Policy__many, d_put_behind, d_due_come, d_fair_come, d_Policy__come, d__law_marks, d__law_like, d__law_told, d__law_step_right, d__law_event, d__law_mix, d__law_take, d__law_item_drawn, d__law_of, d_Policy__quantum, d_Policy__start, d__law_start_right, d__law_store, d__law_told_by_name, d__law_world, d_law]
def fa0 : List Ck := [kGlo "_law_store", kGlo "_law_of", kGlo "_law_world", kMkr "Policy", kGlo "Policy", kFree "range", kGlo "_law_start_right", kGlo "_law_take", kGlo "_law_item_drawn", kGlo "_law_event", kFree "len", kGlo "_law_told_by_name", kGlo "_law_like", kGlo "due_call", kGlo "due_come", kGlo "fair_call", kGlo "fair_come", kGlo "put_behind", kFree "tuple", kFree "max", kFree "min", kGlo "_law_marks", kFree "isinstance", kFree "list", kFree "str"]
def fa1 : List Ck := [kFree "int", kFree "bool", kGlo "_law_state", kGlo "_law_behind_call", kGlo "_law_behind_come", kGlo "_law_step_right", kGlo "_law_told", kCls "Policy", kMeth "Policy" "call", kMeth "Policy" "come", kProp "Policy" "many", kGlo "bounded", kNoat "Policy" "policy_name", kNoat "Policy" "policy_numbers", kFree "all", kGlo "credit_call", kProp "Policy" "name", kProp "Policy" "numbers", kGlo "_law_left", kGlo "_law_mix", kMeth "Policy" "start", kProp "Policy" "quantum", kNoat "Policy" "policy_quantum", kGlo "check_name", kGlo "has_numbers"]
def fa2 : List Ck := [kFree "enumerate", kTup "NUMBERED" [.str "turns", .str "due", .str "fair", .str "deficit", .str "age"], kGlo "NUMBERED", kTup "NAMES" [.str "first", .str "fifo", .str "last", .str "most", .str "few", .str "turns", .str "stay", .str "due", .str "fair", .str "deficit", .str "age"], kGlo "NAMES", kGlo "law"]
abbrev fa : List Ck := fa0 ++ fa1 ++ fa2
def nm0 : List Str := ["put_behind", "due_come", "due_call", "fair_come", "fair_call", "deficit_come", "deficit_call", "age_call", "NonePassedError", "BadNumber", "BadName", "BadPolicy", "Empty", "NAMES", "NUMBERED", "bounded", "check_name", "has_numbers", "least_waiting", "most_waiting", "fewest_waiting", "next_waiting", "turns_call", "stay_call", "count_call", "credit_call", "Policy", "_law_mix", "_law_store", "_law_take"]
def nm1 : List Str := ["_law_of", "_law_marks", "_law_like", "_law_world", "_law_left", "_law_state", "_law_behind_come", "_law_behind_call", "_law_told", "_law_told_by_name", "_law_step_right", "_law_event", "_law_start_right", "_law_item_drawn"]
abbrev nms : List Str := nm0 ++ nm1
abbrev R : PySem.W.OpenRow := PySem.W.OpenLaw.row PySem.Challenge.rw_nonepassed_k14_due_and_fair_step_by_step
abbrev hk : PySem.W.Hook := hookN 6 fa fn
def ob (s : PySem.W.SharedT) : He.AlD := obsNG 6 fa fn (HandSHeadRun.getT s)
theorem ob_eq (s : PySem.W.SharedT) : ob s = hk.obs s.abs := obsNG_eq (HandSHeadRun.getT_eq s)
theorem run (w : World) : HandSHeadRun.RunEq R (PySem.W.view R.prog [48]) hk ob 30000 nms w := by
  intro os
  kernel_rfl
section
variable {K : PySem.W.Frag} {mg : Str → Option Value}
theorem fg__law_store (c : Ev fa fn K mg) : mg "_law_store" = some (.ref (He.ga K "_law_store")) := c.glo (c.fact 0 (f := kGlo "_law_store") rfl)
theorem fg__law_of (c : Ev fa fn K mg) : mg "_law_of" = some (.ref (He.ga K "_law_of")) := c.glo (c.fact 1 (f := kGlo "_law_of") rfl)
theorem fg__law_world (c : Ev fa fn K mg) : mg "_law_world" = some (.ref (He.ga K "_law_world")) := c.glo (c.fact 2 (f := kGlo "_law_world") rfl)
theorem fk_Policy (c : Ev fa fn K mg) : Mk K (He.ga K "Policy") (He.ma K (He.ga K "Policy") "__init__") := He.mkr_ok (c.fact 3 (f := kMkr "Policy") rfl)
theorem fg_Policy (c : Ev fa fn K mg) : mg "Policy" = some (.ref (He.ga K "Policy")) := c.glo (c.fact 4 (f := kGlo "Policy") rfl)
theorem fb_range (c : Ev fa fn K mg) : mg "range" = none := c.free (c.fact 5 (f := kFree "range") rfl)
theorem fg__law_start_right (c : Ev fa fn K mg) : mg "_law_start_right" = some (.ref (He.ga K "_law_start_right")) := c.glo (c.fact 6 (f := kGlo "_law_start_right") rfl)
theorem fg__law_take (c : Ev fa fn K mg) : mg "_law_take" = some (.ref (He.ga K "_law_take")) := c.glo (c.fact 7 (f := kGlo "_law_take") rfl)
theorem fg__law_item_drawn (c : Ev fa fn K mg) : mg "_law_item_drawn" = some (.ref (He.ga K "_law_item_drawn")) := c.glo (c.fact 8 (f := kGlo "_law_item_drawn") rfl)
theorem fg__law_event (c : Ev fa fn K mg) : mg "_law_event" = some (.ref (He.ga K "_law_event")) := c.glo (c.fact 9 (f := kGlo "_law_event") rfl)
theorem fb_len (c : Ev fa fn K mg) : mg "len" = none := c.free (c.fact 10 (f := kFree "len") rfl)
theorem fg__law_told_by_name (c : Ev fa fn K mg) : mg "_law_told_by_name" = some (.ref (He.ga K "_law_told_by_name")) := c.glo (c.fact 11 (f := kGlo "_law_told_by_name") rfl)
theorem fg__law_like (c : Ev fa fn K mg) : mg "_law_like" = some (.ref (He.ga K "_law_like")) := c.glo (c.fact 12 (f := kGlo "_law_like") rfl)
theorem fg_due_call (c : Ev fa fn K mg) : mg "due_call" = some (.ref (He.ga K "due_call")) := c.glo (c.fact 13 (f := kGlo "due_call") rfl)
theorem fg_due_come (c : Ev fa fn K mg) : mg "due_come" = some (.ref (He.ga K "due_come")) := c.glo (c.fact 14 (f := kGlo "due_come") rfl)
theorem fg_fair_call (c : Ev fa fn K mg) : mg "fair_call" = some (.ref (He.ga K "fair_call")) := c.glo (c.fact 15 (f := kGlo "fair_call") rfl)
theorem fg_fair_come (c : Ev fa fn K mg) : mg "fair_come" = some (.ref (He.ga K "fair_come")) := c.glo (c.fact 16 (f := kGlo "fair_come") rfl)
theorem fg_put_behind (c : Ev fa fn K mg) : mg "put_behind" = some (.ref (He.ga K "put_behind")) := c.glo (c.fact 17 (f := kGlo "put_behind") rfl)
theorem fb_tuple (c : Ev fa fn K mg) : mg "tuple" = none := c.free (c.fact 18 (f := kFree "tuple") rfl)
theorem fb_max (c : Ev fa fn K mg) : mg "max" = none := c.free (c.fact 19 (f := kFree "max") rfl)
theorem fb_min (c : Ev fa fn K mg) : mg "min" = none := c.free (c.fact 20 (f := kFree "min") rfl)
theorem fg__law_marks (c : Ev fa fn K mg) : mg "_law_marks" = some (.ref (He.ga K "_law_marks")) := c.glo (c.fact 21 (f := kGlo "_law_marks") rfl)
theorem fb_isinstance (c : Ev fa fn K mg) : mg "isinstance" = none := c.free (c.fact 22 (f := kFree "isinstance") rfl)
theorem fb_list (c : Ev fa fn K mg) : mg "list" = none := c.free (c.fact 23 (f := kFree "list") rfl)
theorem fb_str (c : Ev fa fn K mg) : mg "str" = none := c.free (c.fact 24 (f := kFree "str") rfl)
theorem fb_int (c : Ev fa fn K mg) : mg "int" = none := c.free (c.fact 25 (f := kFree "int") rfl)
theorem fb_bool (c : Ev fa fn K mg) : mg "bool" = none := c.free (c.fact 26 (f := kFree "bool") rfl)
theorem fg__law_state (c : Ev fa fn K mg) : mg "_law_state" = some (.ref (He.ga K "_law_state")) := c.glo (c.fact 27 (f := kGlo "_law_state") rfl)
theorem fg__law_behind_call (c : Ev fa fn K mg) : mg "_law_behind_call" = some (.ref (He.ga K "_law_behind_call")) := c.glo (c.fact 28 (f := kGlo "_law_behind_call") rfl)
theorem fg__law_behind_come (c : Ev fa fn K mg) : mg "_law_behind_come" = some (.ref (He.ga K "_law_behind_come")) := c.glo (c.fact 29 (f := kGlo "_law_behind_come") rfl)
theorem fg__law_step_right (c : Ev fa fn K mg) : mg "_law_step_right" = some (.ref (He.ga K "_law_step_right")) := c.glo (c.fact 30 (f := kGlo "_law_step_right") rfl)
theorem fg__law_told (c : Ev fa fn K mg) : mg "_law_told" = some (.ref (He.ga K "_law_told")) := c.glo (c.fact 31 (f := kGlo "_law_told") rfl)
theorem fc_Policy (c : Ev fa fn K mg) : Cls K (He.ga K "Policy") := He.cls_ok (c.fact 32 (f := kCls "Policy") rfl)
theorem fm_Policy__call (c : Ev fa fn K mg) : Meth K (He.ga K "Policy") "call" (He.ma K (He.ga K "Policy") "call") := He.meth_ok (c.fact 33 (f := kMeth "Policy" "call") rfl)
theorem fm_Policy__come (c : Ev fa fn K mg) : Meth K (He.ga K "Policy") "come" (He.ma K (He.ga K "Policy") "come") := He.meth_ok (c.fact 34 (f := kMeth "Policy" "come") rfl)
theorem fp_Policy__many (c : Ev fa fn K mg) : PropOf K (He.ga K "Policy") "many" (paN K (He.ga K "Policy") "many") (pgN K (He.ga K "Policy") "many") := prop_ok (c.fact 35 (f := kProp "Policy" "many") rfl)
theorem fg_bounded (c : Ev fa fn K mg) : mg "bounded" = some (.ref (He.ga K "bounded")) := c.glo (c.fact 36 (f := kGlo "bounded") rfl)
theorem fn_Policy__policy_name (c : Ev fa fn K mg) : NoAttr K (He.ga K "Policy") "policy_name" := He.noat_ok (c.fact 37 (f := kNoat "Policy" "policy_name") rfl)
theorem fn_Policy__policy_numbers (c : Ev fa fn K mg) : NoAttr K (He.ga K "Policy") "policy_numbers" := He.noat_ok (c.fact 38 (f := kNoat "Policy" "policy_numbers") rfl)
theorem fb_all (c : Ev fa fn K mg) : mg "all" = none := c.free (c.fact 39 (f := kFree "all") rfl)
theorem fg_credit_call (c : Ev fa fn K mg) : mg "credit_call" = some (.ref (He.ga K "credit_call")) := c.glo (c.fact 40 (f := kGlo "credit_call") rfl)
theorem fp_Policy__name (c : Ev fa fn K mg) : PropOf K (He.ga K "Policy") "name" (paN K (He.ga K "Policy") "name") (pgN K (He.ga K "Policy") "name") := prop_ok (c.fact 41 (f := kProp "Policy" "name") rfl)
theorem fp_Policy__numbers (c : Ev fa fn K mg) : PropOf K (He.ga K "Policy") "numbers" (paN K (He.ga K "Policy") "numbers") (pgN K (He.ga K "Policy") "numbers") := prop_ok (c.fact 42 (f := kProp "Policy" "numbers") rfl)
theorem fg__law_left (c : Ev fa fn K mg) : mg "_law_left" = some (.ref (He.ga K "_law_left")) := c.glo (c.fact 43 (f := kGlo "_law_left") rfl)
theorem fg__law_mix (c : Ev fa fn K mg) : mg "_law_mix" = some (.ref (He.ga K "_law_mix")) := c.glo (c.fact 44 (f := kGlo "_law_mix") rfl)
theorem fm_Policy__start (c : Ev fa fn K mg) : Meth K (He.ga K "Policy") "start" (He.ma K (He.ga K "Policy") "start") := He.meth_ok (c.fact 45 (f := kMeth "Policy" "start") rfl)
theorem fp_Policy__quantum (c : Ev fa fn K mg) : PropOf K (He.ga K "Policy") "quantum" (paN K (He.ga K "Policy") "quantum") (pgN K (He.ga K "Policy") "quantum") := prop_ok (c.fact 46 (f := kProp "Policy" "quantum") rfl)
theorem fn_Policy__policy_quantum (c : Ev fa fn K mg) : NoAttr K (He.ga K "Policy") "policy_quantum" := He.noat_ok (c.fact 47 (f := kNoat "Policy" "policy_quantum") rfl)
theorem fg_check_name (c : Ev fa fn K mg) : mg "check_name" = some (.ref (He.ga K "check_name")) := c.glo (c.fact 48 (f := kGlo "check_name") rfl)
theorem fg_has_numbers (c : Ev fa fn K mg) : mg "has_numbers" = some (.ref (He.ga K "has_numbers")) := c.glo (c.fact 49 (f := kGlo "has_numbers") rfl)
theorem fb_enumerate (c : Ev fa fn K mg) : mg "enumerate" = none := c.free (c.fact 50 (f := kFree "enumerate") rfl)
theorem ft_NUMBERED (c : Ev fa fn K mg) : He.tupB K "NUMBERED" [.str "turns", .str "due", .str "fair", .str "deficit", .str "age"] = true := c.fact 51 (f := kTup "NUMBERED" [.str "turns", .str "due", .str "fair", .str "deficit", .str "age"]) rfl
theorem fg_NUMBERED (c : Ev fa fn K mg) : mg "NUMBERED" = some (.ref (He.ga K "NUMBERED")) := c.glo (c.fact 52 (f := kGlo "NUMBERED") rfl)
theorem ft_NAMES (c : Ev fa fn K mg) : He.tupB K "NAMES" [.str "first", .str "fifo", .str "last", .str "most", .str "few", .str "turns", .str "stay", .str "due", .str "fair", .str "deficit", .str "age"] = true := c.fact 53 (f := kTup "NAMES" [.str "first", .str "fifo", .str "last", .str "most", .str "few", .str "turns", .str "stay", .str "due", .str "fair", .str "deficit", .str "age"]) rfl
theorem fg_NAMES (c : Ev fa fn K mg) : mg "NAMES" = some (.ref (He.ga K "NAMES")) := c.glo (c.fact 54 (f := kGlo "NAMES") rfl)
theorem fg_law (c : Ev fa fn K mg) : mg "law" = some (.ref (He.ga K "law")) := c.glo (c.fact 55 (f := kGlo "law") rfl)
end
end Hd
namespace N
open PySem PySem.Spec PyProof.Rows L2
def n_bounded : List Str := ["value", "low", "high"]
def t_bounded (K : PySem.W.Frag) : TSD :=
    (gSeq (gIfS (gOr (gNot (gTst (gIsi .int (gVar 0)))) (gTst (gIsi .bl (gVar 0))))
    (gRet (gC (.bl false)))
    gNext)
    (gRet (gChain nLe nLe (gVar 1) (gVar 0) (gVar 2))))
def n_check_name : List Str := ["name"]
def t_check_name (K : PySem.W.Frag) : TSD :=
    (gIfS (gTst (gOp (nIn true) (gVar 0) (gC (.tup [.str "first", .str "fifo", .str "last", .str "most", .str "few", .str "turns", .str "stay", .str "due", .str "fair", .str "deficit", .str "age"]))))
    gNever
    gNext)
def n_has_numbers : List Str := ["name"]
def t_has_numbers (K : PySem.W.Frag) : TSD :=
    (gSeq (gDrop (gCallD (sp_check_name K) [] (gCons (gVar 0) gNil)))
    (gRet (gOp (nIn false) (gVar 0) (gC (.tup [.str "turns", .str "due", .str "fair", .str "deficit", .str "age"])))))
def n_Policy____init__ : List Str := ["self", "name", "numbers", "quantum", "greatest", "at", "number"]
def t_Policy____init__ (K : PySem.W.Frag) : TSD :=
    (gSeq (gDrop (gCallD (sp_check_name K) [] (gCons (gVar 1) gNil)))
    (gSeq (gIfS (gOr (gNot (gTst (gIsi .tup (gVar 2)))) (gNot (gTst (gChain nLe nLe (gC (.int 1)) (gCB cLen (gCons (gVar 2) gNil)) (gC (.int 6))))))
    gNever
    gNext)
    (gSeq (gAsg (gIfE (gTst (gCallD (sp_has_numbers K) [] (gCons (gVar 1) gNil))) (gC (.int 9)) (gC (.int 1))) (hName 4))
    (gSeq (gFor (iEnumA (gCons (gVar 2) gNil)) (hTup 2 (hCons (hName 5) (hCons (hName 6) hNil)))
    (gIfS (gNot (gTst (gCallD (sp_bounded K) [] (gCons (gVar 6) (gCons (gC (.int 1)) (gCons (gVar 4) gNil))))))
    gNever
    gNext))
    (gSeq (gIfS (gTst (gOp nEq (gVar 1) (gC (.str "deficit"))))
    gNever
    (gIfS (gTst (gOp nIsNot (gVar 3) (gC .non)))
    gNever
    gNext))
    (gSeq (gStF (He.ga K "Policy") "policy_name" (gVar 0) (gVar 1))
    (gSeq (gStF (He.ga K "Policy") "policy_numbers" (gVar 0) (gVar 2))
    (gStF (He.ga K "Policy") "policy_quantum" (gVar 0) (gVar 3)))))))))
def n__law_behind_call : List Str := ["world", "name", "numbers", "line", "lasts", "clock"]
def t__law_behind_call (K : PySem.W.Frag) : TSD :=
    (gSeq (gAsg (gVar 0) (hTup 5 (hCons (hName 1) (hCons (hName 2) (hCons (hName 3) (hCons (hName 4) (hCons (hName 5) hNil)))))))
    (gSeq (gIfS (gTst (gOp nEq (gVar 1) (gC (.str "due"))))
    (gRet (gLst (gCons (gVar 1) (gCons (gVar 2) (gCons (gSl (gVar 3) (gPart (gC (.int 1))) gNoP) (gCons (gVar 4) (gCons (gOp nAdd (gVar 5) (gC (.int 1))) gNil)))))))
    gNext)
    (gRet (gLst (gCons (gVar 1) (gCons (gVar 2) (gCons (gSl (gVar 3) (gPart (gC (.int 1))) gNoP) (gCons (gVar 4) (gCons (gOp nIx (gOp nIx (gVar 3) (gC (.int 0))) (gC (.int 1))) gNil)))))))))
def n__law_left : List Str := ["world", "entry"]
def t__law_left (K : PySem.W.Frag) : TSD :=
    (gRet (gCB cMax (gCons (gOp nSub (gOp nIx (gOp nIx (gVar 0) (gC (.int 1))) (gOp nIx (gVar 1) (gC (.int 0)))) (gOp nSub (gOp nIx (gVar 0) (gC (.int 4))) (gOp nIx (gVar 1) (gC (.int 1))))) (gCons (gCB cMin (gCons (gOp nIx (gVar 0) (gC (.int 1))) gNil)) gNil))))
def n__law_behind_come : List Str := ["world", "item", "name", "numbers", "line", "lasts", "clock", "place", "tag", "after", "entry"]
def t__law_behind_come (K : PySem.W.Frag) : TSD :=
    (gSeq (gAsg (gVar 0) (hTup 5 (hCons (hName 2) (hCons (hName 3) (hCons (hName 4) (hCons (hName 5) (hCons (hName 6) hNil)))))))
    (gSeq (gIfS (gTst (gOp nEq (gVar 2) (gC (.str "due"))))
    (gSeq (gAsg (gCB cLen (gCons (gLc (iAny (gVar 4)) (hName 10) (gTst (gOp nLe (gCallD (sp__law_left K) [] (gCons (gVar 0) (gCons (gVar 10) gNil))) (gOp nIx (gVar 3) (gVar 1)))) (gVar 10) [10]) gNil)) (hName 7))
    (gRet (gLst (gCons (gVar 2) (gCons (gVar 3) (gCons (gOp nAdd (gOp nAdd (gSl (gVar 4) gNoP (gPart (gVar 7))) (gLst (gCons (gTup (gCons (gVar 1) (gCons (gVar 6) gNil))) gNil))) (gSl (gVar 4) (gPart (gVar 7)) gNoP)) (gCons (gVar 5) (gCons (gVar 6) gNil))))))))
    gNext)
    (gSeq (gAsg (gOp nAdd (gCB cMax (gCons (gOp nIx (gVar 5) (gVar 1)) (gCons (gVar 6) gNil))) (gOp nIx (gVar 3) (gVar 1))) (hName 8))
    (gSeq (gAsg (gCB cLen (gCons (gLc (iAny (gVar 4)) (hName 10) (gTst (gOp nLe (gOp nIx (gVar 10) (gC (.int 1))) (gVar 8))) (gVar 10) [10]) gNil)) (hName 7))
    (gSeq (gAsg (gOp nAdd (gOp nAdd (gSl (gVar 5) gNoP (gPart (gVar 1))) (gLst (gCons (gVar 8) gNil))) (gSl (gVar 5) (gPart (gOp nAdd (gVar 1) (gC (.int 1)))) gNoP)) (hName 9))
    (gRet (gLst (gCons (gVar 2) (gCons (gVar 3) (gCons (gOp nAdd (gOp nAdd (gSl (gVar 4) gNoP (gPart (gVar 7))) (gLst (gCons (gTup (gCons (gVar 1) (gCons (gVar 8) gNil))) gNil))) (gSl (gVar 4) (gPart (gVar 7)) gNoP)) (gCons (gVar 9) (gCons (gVar 6) gNil))))))))))))
def n__law_state : List Str := ["world", "name", "numbers", "line", "lasts", "clock", "tags", "entry", "last"]
def t__law_state (K : PySem.W.Frag) : TSD :=
    (gSeq (gAsg (gVar 0) (hTup 5 (hCons (hName 1) (hCons (hName 2) (hCons (hName 3) (hCons (hName 4) (hCons (hName 5) hNil)))))))
    (gSeq (gIfS (gTst (gOp nEq (gVar 1) (gC (.str "due"))))
    (gRet (gCB cTuple (gCons (gLc (iAny (gVar 3)) (hName 7) gYes (gTup (gCons (gOp nIx (gVar 7) (gC (.int 0))) (gCons (gCallD (sp__law_left K) [] (gCons (gVar 0) (gCons (gVar 7) gNil))) gNil))) [7]) gNil)))
    gNext)
    (gSeq (gAsg (gCB cTuple (gCons (gLc (iAny (gVar 3)) (hName 7) gYes (gTup (gCons (gOp nIx (gVar 7) (gC (.int 0))) (gCons (gOp nSub (gOp nIx (gVar 7) (gC (.int 1))) (gVar 5)) gNil))) [7]) gNil)) (hName 6))
    (gRet (gTup (gCons (gVar 6) (gCons (gCB cTuple (gCons (gLc (iAny (gVar 4)) (hName 8) gYes (gCB cMax (gCons (gOp nSub (gVar 8) (gVar 5)) (gCons (gC (.int 0)) gNil))) [8]) gNil)) gNil)))))))
def n_Policy__name : List Str := ["self"]
def t_Policy__name (K : PySem.W.Frag) : TSD :=
    (gRet (gFld (He.ga K "Policy") "policy_name" (gVar 0)))
def n_Policy__numbers : List Str := ["self"]
def t_Policy__numbers (K : PySem.W.Frag) : TSD :=
    (gRet (gFld (He.ga K "Policy") "policy_numbers" (gVar 0)))
def n_due_call : List Str := ["numbers", "state", "least", "behind", "item", "left"]
def t_due_call (K : PySem.W.Frag) : TSD :=
    (gSeq (gAsg (gCB cMin (gCons (gVar 0) gNil)) (hName 2))
    (gSeq (gAsg (gLc (iAny (gSl (gVar 1) (gPart (gC (.int 1))) gNoP)) (hTup 2 (hCons (hName 4) (hCons (hName 5) hNil))) gYes (gTup (gCons (gVar 4) (gCons (gCB cMax (gCons (gOp nSub (gVar 5) (gC (.int 1))) (gCons (gVar 2) gNil))) gNil))) [4, 5]) (hName 3))
    (gRet (gTup (gCons (gOp nIx (gOp nIx (gVar 1) (gC (.int 0))) (gC (.int 0))) (gCons (gCB cTuple (gCons (gVar 3) gNil)) gNil))))))
def n_fair_call : List Str := ["state", "entries", "lasts", "called", "taken", "behind", "item", "tag", "last"]
def t_fair_call (K : PySem.W.Frag) : TSD :=
    (gSeq (gAsg (gVar 0) (hTup 2 (hCons (hName 1) (hCons (hName 2) hNil))))
    (gSeq (gAsg (gOp nIx (gVar 1) (gC (.int 0))) (hTup 2 (hCons (hName 3) (hCons (hName 4) hNil))))
    (gSeq (gAsg (gLc (iAny (gSl (gVar 1) (gPart (gC (.int 1))) gNoP)) (hTup 2 (hCons (hName 6) (hCons (hName 7) hNil))) gYes (gTup (gCons (gVar 6) (gCons (gOp nSub (gVar 7) (gVar 4)) gNil))) [6, 7]) (hName 5))
    (gRet (gTup (gCons (gVar 3) (gCons (gTup (gCons (gCB cTuple (gCons (gVar 5) gNil)) (gCons (gCB cTuple (gCons (gLc (iAny (gVar 2)) (hName 8) gYes (gCB cMax (gCons (gOp nSub (gVar 8) (gVar 4)) (gCons (gC (.int 0)) gNil))) [8]) gNil)) gNil))) gNil)))))))
def n_credit_call : List Str := ["policy", "state", "counts"]
def t_credit_call (K : PySem.W.Frag) : TSD :=
    (gSeq (gIfS (gTst (gOp nEq (gProp (He.ga K "Policy") (sp_Policy__name K) (gVar 0)) (gC (.str "due"))))
    (gRet (gCallD (sp_due_call K) [] (gCons (gProp (He.ga K "Policy") (sp_Policy__numbers K) (gVar 0)) (gCons (gVar 1) gNil))))
    gNext)
    (gSeq (gIfS (gTst (gOp nEq (gProp (He.ga K "Policy") (sp_Policy__name K) (gVar 0)) (gC (.str "fair"))))
    (gRet (gCallD (sp_fair_call K) [] (gCons (gVar 1) gNil)))
    gNext)
    gNever))
def n_Policy__call : List Str := ["self", "state", "counts", "many"]
def t_Policy__call (K : PySem.W.Frag) : TSD :=
    (gSeq (gIfS (gTst (gCB cAll (gCons (gLc (iAny (gVar 2)) (hName 3) gYes (gOp nEq (gVar 3) (gC (.int 0))) [3]) gNil)))
    gNever
    gNext)
    (gSeq (gIfS (gTst (gOp (nIn false) (gFld (He.ga K "Policy") "policy_name" (gVar 0)) (gTup (gCons (gC (.str "first")) (gCons (gC (.str "most")) (gCons (gC (.str "few")) gNil))))))
    gNever
    gNext)
    (gSeq (gIfS (gTst (gOp (nIn false) (gFld (He.ga K "Policy") "policy_name" (gVar 0)) (gTup (gCons (gC (.str "fifo")) (gCons (gC (.str "last")) gNil)))))
    gNever
    gNext)
    (gSeq (gIfS (gTst (gOp nEq (gFld (He.ga K "Policy") "policy_name" (gVar 0)) (gC (.str "turns"))))
    gNever
    gNext)
    (gSeq (gIfS (gTst (gOp nEq (gFld (He.ga K "Policy") "policy_name" (gVar 0)) (gC (.str "stay"))))
    gNever
    gNext)
    (gRet (gCallD (sp_credit_call K) [] (gCons (gVar 0) (gCons (gVar 1) (gCons (gVar 2) gNil))))))))))
def n_Policy__many : List Str := ["self"]
def t_Policy__many (K : PySem.W.Frag) : TSD :=
    (gRet (gCB cLen (gCons (gFld (He.ga K "Policy") "policy_numbers" (gVar 0)) gNil)))
def n_put_behind : List Str := ["entries", "item", "mark", "at", "one"]
def t_put_behind (K : PySem.W.Frag) : TSD :=
    (gSeq (gAsg (gCB cLen (gCons (gLc (iAny (gVar 0)) (hName 4) (gTst (gOp nLe (gOp nIx (gVar 4) (gC (.int 1))) (gVar 2))) (gVar 4) [4]) gNil)) (hName 3))
    (gRet (gOp nAdd (gOp nAdd (gSl (gVar 0) gNoP (gPart (gVar 3))) (gTup (gCons (gTup (gCons (gVar 1) (gCons (gVar 2) gNil))) gNil))) (gSl (gVar 0) (gPart (gVar 3)) gNoP))))
def n_due_come : List Str := ["numbers", "state", "item"]
def t_due_come (K : PySem.W.Frag) : TSD :=
    (gRet (gCallD (sp_put_behind K) [] (gCons (gVar 1) (gCons (gVar 2) (gCons (gOp nIx (gVar 0) (gVar 2)) gNil)))))
def n_fair_come : List Str := ["numbers", "state", "item", "entries", "lasts", "tag"]
def t_fair_come (K : PySem.W.Frag) : TSD :=
    (gSeq (gAsg (gVar 1) (hTup 2 (hCons (hName 3) (hCons (hName 4) hNil))))
    (gSeq (gAsg (gOp nAdd (gOp nIx (gVar 4) (gVar 2)) (gOp nIx (gVar 0) (gVar 2))) (hName 5))
    (gRet (gTup (gCons (gCallD (sp_put_behind K) [] (gCons (gVar 3) (gCons (gVar 2) (gCons (gVar 5) gNil)))) (gCons (gOp nAdd (gOp nAdd (gSl (gVar 4) gNoP (gPart (gVar 2))) (gTup (gCons (gVar 5) gNil))) (gSl (gVar 4) (gPart (gOp nAdd (gVar 2) (gC (.int 1)))) gNoP)) gNil))))))
def n_Policy__come : List Str := ["self", "state", "counts", "item"]
def t_Policy__come (K : PySem.W.Frag) : TSD :=
    (gSeq (gIfS (gNot (gTst (gCallD (sp_bounded K) [] (gCons (gVar 3) (gCons (gC (.int 0)) (gCons (gOp nSub (gProp (He.ga K "Policy") (sp_Policy__many K) (gVar 0)) (gC (.int 1))) gNil))))))
    gNever
    gNext)
    (gSeq (gIfS (gTst (gOp nEq (gFld (He.ga K "Policy") "policy_name" (gVar 0)) (gC (.str "fifo"))))
    gNever
    gNext)
    (gSeq (gIfS (gTst (gOp nEq (gFld (He.ga K "Policy") "policy_name" (gVar 0)) (gC (.str "last"))))
    gNever
    gNext)
    (gSeq (gIfS (gTst (gOp nEq (gFld (He.ga K "Policy") "policy_name" (gVar 0)) (gC (.str "due"))))
    (gRet (gCallD (sp_due_come K) [] (gCons (gFld (He.ga K "Policy") "policy_numbers" (gVar 0)) (gCons (gVar 1) (gCons (gVar 3) gNil)))))
    gNext)
    (gSeq (gIfS (gTst (gOp nEq (gFld (He.ga K "Policy") "policy_name" (gVar 0)) (gC (.str "fair"))))
    (gRet (gCallD (sp_fair_come K) [] (gCons (gFld (He.ga K "Policy") "policy_numbers" (gVar 0)) (gCons (gVar 1) (gCons (gVar 3) gNil)))))
    gNext)
    (gSeq (gIfS (gTst (gOp nEq (gFld (He.ga K "Policy") "policy_name" (gVar 0)) (gC (.str "deficit"))))
    gNever
    gNext)
    gNever))))))
def n__law_told : List Str := ["name", "numbers", "state", "item"]
def t__law_told (K : PySem.W.Frag) : TSD :=
    (gSeq (gIfS (gAnd (gTst (gOp nEq (gVar 0) (gC (.str "due")))) (gTst (gOp nLt (gVar 3) (gC (.int 0)))))
    (gRet (gCallD (sp_due_call K) [] (gCons (gVar 1) (gCons (gVar 2) gNil))))
    gNext)
    (gSeq (gIfS (gTst (gOp nEq (gVar 0) (gC (.str "due"))))
    (gRet (gCallD (sp_due_come K) [] (gCons (gVar 1) (gCons (gVar 2) (gCons (gVar 3) gNil)))))
    gNext)
    (gSeq (gIfS (gTst (gOp nLt (gVar 3) (gC (.int 0))))
    (gRet (gCallD (sp_fair_call K) [] (gCons (gVar 2) gNil)))
    gNext)
    (gRet (gCallD (sp_fair_come K) [] (gCons (gVar 1) (gCons (gVar 2) (gCons (gVar 3) gNil))))))))
def n__law_step_right : List Str := ["policy", "world", "item", "due", "name", "numbers", "line", "lasts", "clock", "state", "items", "counts", "entry", "one"]
def t__law_step_right (K : PySem.W.Frag) : TSD :=
    (gSeq (gAsg (gVar 1) (hTup 5 (hCons (hName 4) (hCons (hName 5) (hCons (hName 6) (hCons (hName 7) (hCons (hName 8) hNil)))))))
    (gSeq (gAsg (gCallD (sp__law_state K) [] (gCons (gVar 1) gNil)) (hName 9))
    (gSeq (gIfS (gNot (gTst (gCallD (sp__law_like K) [] (gCons (gCallD (sp__law_told K) [] (gCons (gVar 4) (gCons (gVar 5) (gCons (gVar 9) (gCons (gVar 2) gNil))))) (gCons (gVar 3) gNil)))))
    (gRet (gC (.bl false)))
    gNext)
    (gSeq (gAsg (gLc (iAny (gVar 6)) (hName 12) gYes (gOp nIx (gVar 12) (gC (.int 0))) [12]) (hName 10))
    (gSeq (gAsg (gCB cTuple (gCons (gLc (iRng1D (gCons (gCB cLen (gCons (gVar 5) gNil)) gNil)) (hName 13) gYes (gBL mCnt (gVar 10) (gCons (gVar 13) gNil)) [13]) gNil)) (hName 11))
    (gSeq (gIfS (gTst (gOp nLt (gVar 2) (gC (.int 0))))
    (gRet (gCallD (sp__law_like K) [] (gCons (gMethD (He.ga K "Policy") "call" (sp_Policy__call K) [] (gVar 0) (gCons (gVar 9) (gCons (gVar 11) gNil))) (gCons (gVar 3) gNil))))
    gNext)
    (gRet (gCallD (sp__law_like K) [] (gCons (gMethD (He.ga K "Policy") "come" (sp_Policy__come K) [] (gVar 0) (gCons (gVar 9) (gCons (gVar 11) (gCons (gVar 2) gNil)))) (gCons (gVar 3) gNil))))))))))
def n__law_event : List Str := ["policy", "world", "item", "ask", "state", "after", "due", "good"]
def t__law_event (K : PySem.W.Frag) : TSD :=
    (gSeq (gAsg (gCallD (sp__law_state K) [] (gCons (gVar 1) gNil)) (hName 4))
    (gSeq (gIfS (gTst (gOp nLt (gVar 2) (gC (.int 0))))
    (gSeq (gAsg (gCallD (sp__law_behind_call K) [] (gCons (gVar 1) gNil)) (hName 5))
    (gAsg (gTup (gCons (gOp nIx (gOp nIx (gOp nIx (gVar 1) (gC (.int 2))) (gC (.int 0))) (gC (.int 0))) (gCons (gCallD (sp__law_state K) [] (gCons (gVar 5) gNil)) gNil))) (hName 6)))
    (gSeq (gAsg (gCallD (sp__law_behind_come K) [] (gCons (gVar 1) (gCons (gVar 2) gNil))) (hName 5))
    (gAsg (gCallD (sp__law_state K) [] (gCons (gVar 5) gNil)) (hName 6))))
    (gSeq (gAsg (gOrV (gNotV (gVar 3)) (gCallD (sp__law_step_right K) [] (gCons (gVar 0) (gCons (gVar 1) (gCons (gVar 2) (gCons (gVar 6) gNil)))))) (hName 7))
    (gRet (gLst (gCons (gVar 5) (gCons (gVar 7) (gCons (gLst (gCons (gOp nIx (gVar 1) (gC (.int 0))) (gCons (gOp nIx (gVar 1) (gC (.int 1))) (gCons (gVar 4) (gCons (gVar 2) (gCons (gVar 6) gNil)))))) gNil))))))))
def n__law_item_drawn : List Str := ["store", "world", "rare"]
def t__law_item_drawn (K : PySem.W.Frag) : TSD :=
    (gSeq (gIfS (gAnd (gTst (gOp nGt (gCB cLen (gCons (gOp nIx (gVar 1) (gC (.int 2))) gNil)) (gC (.int 0)))) (gTst (gOp nLt (gCallD (sp__law_take K) [] (gCons (gVar 0) (gCons (gVar 2) gNil))) (gC (.int 2)))))
    (gRet (gNeg (gC (.int 1))))
    gNext)
    (gRet (gCallD (sp__law_take K) [] (gCons (gVar 0) (gCons (gCB cLen (gCons (gOp nIx (gVar 1) (gC (.int 1))) gNil)) gNil)))))
def n_Policy__quantum : List Str := ["self"]
def t_Policy__quantum (K : PySem.W.Frag) : TSD :=
    (gRet (gFld (He.ga K "Policy") "policy_quantum" (gVar 0)))
def n_Policy__start : List Str := ["self", "last"]
def t_Policy__start (K : PySem.W.Frag) : TSD :=
    (gSeq (gAsg (gOp nSub (gProp (He.ga K "Policy") (sp_Policy__many K) (gVar 0)) (gC (.int 1))) (hName 1))
    (gSeq (gIfS (gTst (gOp nEq (gFld (He.ga K "Policy") "policy_name" (gVar 0)) (gC (.str "turns"))))
    gNever
    gNext)
    (gSeq (gIfS (gTst (gOp nEq (gFld (He.ga K "Policy") "policy_name" (gVar 0)) (gC (.str "stay"))))
    gNever
    gNext)
    (gSeq (gIfS (gTst (gOp nEq (gFld (He.ga K "Policy") "policy_name" (gVar 0)) (gC (.str "fair"))))
    (gRet (gTup (gCons (gTup gNil) (gCons (gOp nMul (gTup (gCons (gC (.int 0)) gNil)) (gProp (He.ga K "Policy") (sp_Policy__many K) (gVar 0))) gNil))))
    gNext)
    (gSeq (gIfS (gTst (gOp nEq (gFld (He.ga K "Policy") "policy_name" (gVar 0)) (gC (.str "deficit"))))
    gNever
    gNext)
    (gSeq (gIfS (gTst (gOp nEq (gFld (He.ga K "Policy") "policy_name" (gVar 0)) (gC (.str "age"))))
    gNever
    gNext)
    (gRet (gTup gNil))))))))
def n__law_start_right : List Str := ["policy", "world", "name", "numbers", "line", "lasts", "clock", "parts"]
def t__law_start_right (K : PySem.W.Frag) : TSD :=
    (gSeq (gAsg (gVar 1) (hTup 5 (hCons (hName 2) (hCons (hName 3) (hCons (hName 4) (hCons (hName 5) (hCons (hName 6) hNil)))))))
    (gSeq (gAsg (gLst (gCons (gProp (He.ga K "Policy") (sp_Policy__name K) (gVar 0)) (gCons (gProp (He.ga K "Policy") (sp_Policy__numbers K) (gVar 0)) (gCons (gProp (He.ga K "Policy") (sp_Policy__quantum K) (gVar 0)) (gCons (gProp (He.ga K "Policy") (sp_Policy__many K) (gVar 0)) (gCons (gMethD (He.ga K "Policy") "start" (sp_Policy__start K) [] (gVar 0) gNil) gNil)))))) (hName 7))
    (gRet (gCallD (sp__law_like K) [] (gCons (gVar 7) (gCons (gLst (gCons (gVar 2) (gCons (gVar 3) (gCons (gC .non) (gCons (gCB cLen (gCons (gVar 3) gNil)) (gCons (gCallD (sp__law_state K) [] (gCons (gVar 1) gNil)) gNil)))))) gNil))))))
def n__law_told_by_name : List Str := ["name", "numbers", "state", "item"]
def t__law_told_by_name (K : PySem.W.Frag) : TSD :=
    (gSeq (gIfS (gAnd (gTst (gOp nEq (gVar 0) (gC (.str "due")))) (gTst (gOp nLt (gVar 3) (gC (.int 0)))))
    (gRet (gCallK (sp_due_call K) 0 2 [0, 1] [] gNil (gCons (gVar 1) (gCons (gVar 2) gNil))))
    gNext)
    (gSeq (gIfS (gTst (gOp nEq (gVar 0) (gC (.str "due"))))
    (gRet (gCallK (sp_due_come K) 0 3 [0, 1, 2] [] gNil (gCons (gVar 1) (gCons (gVar 2) (gCons (gVar 3) gNil)))))
    gNext)
    (gSeq (gIfS (gTst (gOp nLt (gVar 3) (gC (.int 0))))
    (gRet (gCallK (sp_fair_call K) 0 1 [0] [] gNil (gCons (gVar 2) gNil)))
    gNext)
    (gRet (gCallK (sp_fair_come K) 0 3 [0, 1, 2] [] gNil (gCons (gVar 1) (gCons (gVar 2) (gCons (gVar 3) gNil))))))))
def n__law_world : List Str := ["store", "name", "m", "numbers", "turn"]
def t__law_world (K : PySem.W.Frag) : TSD :=
    (gSeq (gAsg (gOp nAdd (gC (.int 1)) (gCallD (sp__law_take K) [] (gCons (gVar 0) (gCons (gC (.int 6)) gNil)))) (hName 2))
    (gSeq (gAsg (gCB cTuple (gCons (gLc (iRng1D (gCons (gVar 2) gNil)) (hName 4) gYes (gOp nAdd (gC (.int 1)) (gCallD (sp__law_take K) [] (gCons (gVar 0) (gCons (gC (.int 9)) gNil)))) [4]) gNil)) (hName 3))
    (gSeq (gIfS (gTst (gOp nEq (gCallD (sp__law_take K) [] (gCons (gVar 0) (gCons (gC (.int 6)) gNil))) (gC (.int 0))))
    (gAsg (gOp nMul (gTup (gCons (gCallD (sp__law_of K) [] (gCons (gVar 0) (gCons (gTup (gCons (gC (.int 1)) (gCons (gC (.int 9)) (gCons (gOp nIx (gVar 3) (gC (.int 0))) gNil)))) gNil))) gNil)) (gVar 2)) (hName 3))
    gNext)
    (gRet (gLst (gCons (gVar 1) (gCons (gVar 3) (gCons (gLst gNil) (gCons (gOp nMul (gLst (gCons (gC (.int 0)) gNil)) (gVar 2)) (gCons (gC (.int 0)) gNil))))))))))
def n_law : List Str := ["script", "store", "worlds", "policies", "at", "events", "firsts", "rare", "turn", "ask", "after", "good", "step", "size", "name", "numbers", "state", "item", "due", "world"]
def t_law (K : PySem.W.Frag) : TSD :=
    (gSeq (gAsg (gCallD (sp__law_store K) [] (gCons (gVar 0) gNil)) (hName 1))
    (gSeq (gAsg (gLcM (iAny (gTup (gCons (gC (.str "due")) (gCons (gC (.str "fair")) (gCons (gCallD (sp__law_of K) [] (gCons (gVar 1) (gCons (gTup (gCons (gC (.str "due")) (gCons (gC (.str "fair")) gNil))) gNil))) gNil))))) (hName 14) gYes (gCallD (sp__law_world K) [] (gCons (gVar 1) (gCons (gVar 14) gNil))) [14]) (hName 2))
    (gSeq (gAsg (gLc (iAny (gVar 2)) (hName 19) gYes (gMakeD (He.ga K "Policy") (sp_Policy____init__ K) [.non] (gCons (gOp nIx (gVar 19) (gC (.int 0))) (gCons (gOp nIx (gVar 19) (gC (.int 1))) gNil))) [19]) (hName 3))
    (gSeq (gFor (iRng1D (gCons (gC (.int 3)) gNil)) (hName 4)
    (gIfS (gNot (gTst (gCallD (sp__law_start_right K) [] (gCons (gOp nIx (gVar 3) (gVar 4)) (gCons (gOp nIx (gVar 2) (gVar 4)) gNil)))))
    (gRet (gC (.bl false)))
    gNext))
    (gSeq (gAsg (gCallD (sp__law_of K) [] (gCons (gVar 1) (gCons (gOp nAdd (gOp nMul (gTup (gCons (gC (.int 18)) gNil)) (gC (.int 9))) (gTup (gCons (gC (.int 200)) gNil))) gNil))) (hName 5))
    (gSeq (gAsg (gLstM gNil) (hName 6))
    (gSeq (gAsg (gOp nAdd (gC (.int 5)) (gOp nDiv (gVar 5) (gC (.int 15)))) (hName 7))
    (gSeq (gFor (iRng1D (gCons (gVar 5) gNil)) (hName 8)
    (gSeq (gAsg (gCallD (sp__law_take K) [] (gCons (gVar 1) (gCons (gC (.int 3)) gNil))) (hName 4))
    (gSeq (gAsg (gOrV (gOp nLt (gVar 5) (gC (.int 20))) (gOrV (gOp nGt (gVar 8) (gOp nSub (gVar 5) (gC (.int 9)))) (gOp nEq (gCallD (sp__law_take K) [] (gCons (gVar 1) (gCons (gC (.int 12)) gNil))) (gC (.int 0))))) (hName 9))
    (gSeq (gAsg (gCallD (sp__law_event K) [] (gCons (gOp nIx (gVar 3) (gVar 4)) (gCons (gOp nIx (gVar 2) (gVar 4)) (gCons (gCallD (sp__law_item_drawn K) [] (gCons (gVar 1) (gCons (gOp nIx (gVar 2) (gVar 4)) (gCons (gVar 7) gNil)))) (gCons (gVar 9) gNil))))) (hTup 3 (hCons (hName 10) (hCons (hName 11) (hCons (hName 12) hNil)))))
    (gSeq (gAsg (gVar 10) (hSub (gVar 2) (gVar 4) sSet))
    (gSeq (gIfS (gNot (gTst (gVar 11)))
    (gRet (gC (.bl false)))
    gNext)
    (gIfS (gTst (gOp nLt (gCB cLen (gCons (gVar 6) gNil)) (gC (.int 9))))
    (gDrop (gBL mAppend (gVar 6) (gCons (gVar 12) gNil)))
    gNext)))))))
    (gSeq (gFor (iRng1D (gCons (gC (.int 3)) gNil)) (hName 4)
    (gSeq (gAsg (gCB cLen (gCons (gOp nIx (gOp nIx (gVar 2) (gVar 4)) (gC (.int 2))) gNil)) (hName 13))
    (gFor (iRng1D (gCons (gVar 13) gNil)) (hName 8)
    (gSeq (gAsg (gOrV (gOp nLt (gOp nSub (gVar 13) (gVar 8)) (gC (.int 9))) (gOp nEq (gCallD (sp__law_take K) [] (gCons (gVar 1) (gCons (gC (.int 12)) gNil))) (gC (.int 0)))) (hName 9))
    (gSeq (gAsg (gCallD (sp__law_event K) [] (gCons (gOp nIx (gVar 3) (gVar 4)) (gCons (gOp nIx (gVar 2) (gVar 4)) (gCons (gNeg (gC (.int 1))) (gCons (gVar 9) gNil))))) (hTup 3 (hCons (hName 10) (hCons (hName 11) (hCons (hName 12) hNil)))))
    (gSeq (gAsg (gVar 10) (hSub (gVar 2) (gVar 4) sSet))
    (gIfS (gNot (gTst (gVar 11)))
    (gRet (gC (.bl false)))
    gNext)))))))
    (gSeq (gFor (iAny (gVar 6)) (hTup 5 (hCons (hName 14) (hCons (hName 15) (hCons (hName 16) (hCons (hName 17) (hCons (hName 18) hNil))))))
    (gIfS (gNot (gTst (gCallD (sp__law_like K) [] (gCons (gCallD (sp__law_told_by_name K) [] (gCons (gVar 14) (gCons (gVar 15) (gCons (gVar 16) (gCons (gVar 17) gNil))))) (gCons (gVar 18) gNil)))))
    (gRet (gC (.bl false)))
    gNext))
    (gRet (gC (.bl true)))))))))))))
end N
namespace N
open PySem PySem.Spec PyProof.Rows L2
local macro_rules
  | `(tactic| walk_at "nl") => `(tactic| first
    | with_reducible assumption
    | exact gup_same
    | (refine (gup_ne (by with_reducible assumption)).trans ?_; walk_at "nl")
    | (refine (gup_ne (Ne.symm (by with_reducible assumption))).trans ?_; walk_at "nl"))
local macro_rules
  | `(tactic| walk_at "ns") => `(tactic| first
    | with_reducible assumption
    | omega
    | exact Eq.refl _
    | (apply Nat.le_of_ble_eq_true; exact Eq.refl _)
    | exact And.intro (by decide +kernel) (by decide +kernel)
    | exact or_ll (by decide +kernel) (by decide +kernel)
    | exact or_lr (by decide +kernel) (by decide +kernel)
    | exact Or.inr (cmulw (by decide +kernel))
    | exact IsLst_r (by walk_at "nl")
    | exact IsLst_v
    | exact IsIns_v True.intro
    | exact IsIns_v (by decide +kernel)
    | (apply of_decide_eq_true; decide +kernel)
    | (simp; done)
    | (simp; omega))
local macro_rules
  | `(tactic| walk_at "n0") => `(tactic| first
    | refine Sd_i (by walk_at "ns") ?_
    | refine Cond_t (Eq.refl _) ?_
    | refine Cond_f (Eq.refl _) ?_
    | refine Cond_t (by with_reducible assumption) ?_
    | refine Cond_f (by with_reducible assumption) ?_
    | refine NewL_v ?_
    | refine LkL_i (by walk_at "nl") ?_
    | refine AtD_i (Eq.refl _) ?_
    | refine IsIns_v ?_
    | refine IsIns_r (by walk_at "nl") ?_
    | refine StF_i (by walk_at "nl") (by walk_at "ns") ?_
    | refine Fd_i 0 (by decide +kernel) (Eq.refl _) ?_
    | refine Fd_i 1 (by decide +kernel) (Eq.refl _) ?_
    | refine Fd_i 2 (by decide +kernel) (Eq.refl _) ?_
    | refine Fd_i 3 (by decide +kernel) (Eq.refl _) ?_
    | refine Fd_i 4 (by decide +kernel) (Eq.refl _) ?_
    | refine IntsQ_t _ (Eq.refl _) ?_
    | refine IntsQ_l _ (Eq.refl _) ?_
    | refine IntsL_i _ (Eq.refl _) ?_
    | refine BlsL_i _ (Eq.refl _) ?_
    | refine Ret_i (d := .int _) ?_
    | refine Ret_i (d := .bl _) ?_
    | refine Ret_i (d := .tup _) ?_
    | refine Ret_i (d := .lst _) ?_
    | refine Ret_i (d := .str _) ?_
    | refine Ret_i (d := .non) ?_)
local macro_rules
  | `(tactic| walk_at "n1") => `(tactic| first
    | walk_at "n0"
    | refine Call_i ?_)
local macro_rules
  | `(tactic| walk_at "nc") => `(tactic| (
      repeat (conv => whnf
              walk_at "n0")
      try (conv => whnf)))
local macro_rules
  | `(tactic| walk_at "nw") => `(tactic| (
      repeat (conv => whnf
              walk_at "n1")
      try (conv => whnf)))
theorem pu_bounded (K : PySem.W.Frag) (ds : List D) (G : GH) (q : QD) (x : XD) (h : sp_bounded K ds G q x) : t_bounded K (dEnds q x) (startD n_bounded ds) G := by
  replace h := A3_x h
  obtain ⟨v, l, u, rfl, h⟩ := h
  replace h := I1_x h
  obtain ⟨i, rfl, h⟩ := h
  replace h := I1_x h
  obtain ⟨a, rfl, h⟩ := h
  replace h := I1_x h
  obtain ⟨b, rfl, h1, h2, h⟩ := h
  walk_at "nw"
  refine Cond_t (decide_eq_true h1) ?_
  walk_at "nw"
  rw [decide_eq_true h2]
  exact h
theorem pu_check_name (K : PySem.W.Frag) (ds : List D) (G : GH) (q : QD) (x : XD) (h : sp_check_name K ds G q x) : t_check_name K (dEnds q x) (startD n_check_name ds) G := by
  replace h := A1_x h
  obtain ⟨n, rfl, b, rfl, h⟩ := h
  cases b
  · walk_at "nw"
    exact h
  · walk_at "nw"
    exact h
theorem pu_has_numbers (K : PySem.W.Frag) (ds : List D) (G : GH) (q : QD) (x : XD) (h : sp_has_numbers K ds G q x) : t_has_numbers K (dEnds q x) (startD n_has_numbers ds) G := by
  replace h := A1_x h
  obtain ⟨n, rfl, b, rfl, h⟩ := h
  cases b
  · walk_at "nw"
    refine ⟨false, rfl, ?_⟩
    walk_at "nw"
    exact h
  · walk_at "nw"
    refine ⟨true, rfl, ?_⟩
    walk_at "nw"
    exact h
theorem pu_Policy__name (K : PySem.W.Frag) (ds : List D) (G : GH) (q : QD) (x : XD) (h : sp_Policy__name K ds G q x) : t_Policy__name K (dEnds q x) (startD n_Policy__name ds) G := by
  replace h := A1_x h
  obtain ⟨n, rfl, b, ns, rfl, h⟩ := h
  walk_at "nw"
  exact h
theorem pu_Policy__numbers (K : PySem.W.Frag) (ds : List D) (G : GH) (q : QD) (x : XD) (h : sp_Policy__numbers K ds G q x) : t_Policy__numbers K (dEnds q x) (startD n_Policy__numbers ds) G := by
  replace h := A1_x h
  obtain ⟨n, rfl, b, ns, rfl, h⟩ := h
  walk_at "nw"
  exact h
theorem pu_Policy__quantum (K : PySem.W.Frag) (ds : List D) (G : GH) (q : QD) (x : XD) (h : sp_Policy__quantum K ds G q x) : t_Policy__quantum K (dEnds q x) (startD n_Policy__quantum ds) G := by
  replace h := A1_x h
  obtain ⟨n, rfl, b, ns, rfl, h⟩ := h
  walk_at "nw"
  exact h
theorem pu_Policy__many (K : PySem.W.Frag) (ds : List D) (G : GH) (q : QD) (x : XD) (h : sp_Policy__many K ds G q x) : t_Policy__many K (dEnds q x) (startD n_Policy__many ds) G := by
  replace h := A1_x h
  obtain ⟨n, rfl, b, ns, rfl, h⟩ := h
  walk_at "nw"
  rw [List.length_map]
  exact h
theorem rep_flat {n : Nat} : (List.replicate n [D.int 0]).flatten = inI (List.replicate n 0) := by
  induction n with
  | zero => rfl
  | succ n ih => rw [List.replicate_succ, List.flatten_cons, ih, List.replicate_succ]; rfl
theorem pu_Policy__start (K : PySem.W.Frag) (ds : List D) (G : GH) (q : QD) (x : XD) (h : sp_Policy__start K ds G q x) : t_Policy__start K (dEnds q x) (startD n_Policy__start ds) G := by
  replace h := A1_x h
  obtain ⟨n, rfl, b, ns, rfl, ⟨h1, h2, h3⟩, h⟩ := h
  cases b
  · walk_at "nw"
    refine ⟨false, ns, rfl, ?_⟩
    walk_at "nw"
    refine ⟨false, ns, rfl, ?_⟩
    walk_at "nw"
    rw [Int.toNat_natCast, rep_flat]
    exact h
  · walk_at "nw"
    refine ⟨true, ns, rfl, ?_⟩
    walk_at "nw"
    exact h
theorem cntB_le (es : List (Int × Int)) (m : Int) : cntB es m ≤ es.length := List.length_filter_le _ _
theorem pu_put_behind (K : PySem.W.Frag) (ds : List D) (G : GH) (q : QD) (x : XD) (h : sp_put_behind K ds G q x) : t_put_behind K (dEnds q x) (startD n_put_behind ds) G := by
  replace h := A3_x h
  obtain ⟨e, i, m, rfl, es, a, b, rfl, rfl, rfl, hz, h⟩ := h
  walk_at "nw"
  refine lc_enc (xs := es) pr (fun e => decide (e.2 ≤ b)) pr (by omega) True.intro (fun e _ A B hA hB => ?_) ?_
  · walk_at "nw"
    exact Cond_i hA hB
  have hk := cntB_le es b
  have hl : ((es.filter fun e => decide (e.2 ≤ b)).map pr).length = cntB es b := List.length_map ..
  have hk2 : cntB es b ≤ (prs es).length := by unfold prs; rw [List.length_map]; exact hk
  walk_at "nw"
  rw [hl, cut_take hk2]
  have el : (prs es).length = es.length := List.length_map ..
  refine Sd_i (sz_le (by rw [List.length_take]; show _ + 1 ≤ _; omega)) ?_
  walk_at "nw"
  rw [cut_drop hk2]
  refine Sd_i (sz_le (by rw [List.length_append, List.length_take, List.length_drop]; show _ + 1 + _ ≤ _; omega)) ?_
  walk_at "nw"
  have e2 : prs (putB es a b) = List.take (cntB es b) (prs es) ++ [D.tup [D.int a, D.int b]] ++ List.drop (cntB es b) (prs es) := by
    unfold prs putB
    rw [List.map_append, List.map_append, List.map_take, List.map_drop]
    rfl
  rw [← e2]
  exact h
theorem atI_nOf {ns : List Int} {a : Int} (h0 : 0 ≤ a) (h1 : a < ns.length) : atI (inI ns) a = some (.int (nOf ns a)) := by
  obtain ⟨v, hv, hv2⟩ := atI_int h0 h1
  rw [hv]
  unfold nOf
  rw [List.getD_eq_getElem?_getD, hv2]
  rfl
theorem at0 {α : Type} {d : α} {ds : List α} : atI (d :: ds) 0 = some d := by
  unfold atI ixN
  rw [if_pos (by omega), if_pos (by simp)]
  rfl
theorem mn_eq {ns : List Int} {m : Int} (h1 : m ∈ ns) (h2 : ∀ y ∈ ns, m ≤ y) : m = mn ns := by
  have : ns.min? = some m := List.min?_eq_some_iff.mpr ⟨h1, h2⟩
  unfold mn
  rw [this]
  rfl
theorem mn_le {ns : List Int} {n : Int} (h : n ∈ ns) : mn ns ≤ n ∧ mn ns ∈ ns := by
  unfold mn
  cases e : ns.min? with
  | none => rw [List.min?_eq_none_iff] at e; subst e; cases h
  | some m =>
    obtain ⟨a, b⟩ := List.min?_eq_some_iff.mp e
    exact ⟨b n h, a⟩
theorem flt {α : Type} {xs : List α} : (xs.filter fun _ => true) = xs := by simp
theorem cut_prs {e : Int × Int} {es : List (Int × Int)} : cutD (prs (e :: es)) (some 1) none = prs es := cut_tail
theorem pu_due_come (K : PySem.W.Frag) (ds : List D) (G : GH) (q : QD) (x : XD) (h : sp_due_come K ds G q x) : t_due_come K (dEnds q x) (startD n_due_come ds) G := by
  replace h := A3_x h
  obtain ⟨n, s, i, rfl, ns, es, a, rfl, rfl, rfl, h0, h1, hz, h⟩ := h
  walk_at "nw"
  refine AtD_i (atI_nOf h0 h1) ?_
  walk_at "nw"
  refine ⟨es, a, _, rfl, rfl, rfl, hz, ?_⟩
  walk_at "nw"
  exact h
theorem pu_due_call (K : PySem.W.Frag) (ds : List D) (G : GH) (q : QD) (x : XD) (h : sp_due_call K ds G q x) : t_due_call K (dEnds q x) (startD n_due_call ds) G := by
  replace h := A2_x h
  obtain ⟨n, s, rfl, ns, e, es, rfl, rfl, hne, hz, h⟩ := h
  have hp : 0 < ns.length := List.length_pos_iff.mpr hne
  walk_at "nw"
  intro m m1 m2
  have hm := mn_eq m1 m2
  subst hm
  walk_at "nw"
  rw [cut_prs]
  refine lc_enc (xs := es) pr (fun _ => true) (fun d => pr (d.1, mx (d.2 - 1) (mn ns))) (by omega) True.intro (fun e _ A B hA hB => ?_) ?_
  · walk_at "nw"
    exact hA rfl
  walk_at "nw"
  refine AtD_i at0 ?_
  walk_at "nw"
  rw [flt]
  have e1 : List.map (fun d => pr (d.1, mx (d.2 - 1) (mn ns))) es = prs (es.map fun e => (e.1, mx (e.2 - 1) (mn ns))) := by unfold prs; rw [List.map_map]; rfl
  rw [e1]
  exact h
theorem cut_drop1 {ds : List D} {k : Nat} (h : k + 1 ≤ ds.length) : cutD ds (some ((k : Int) + 1)) none = ds.drop (k + 1) := cut_drop (k := k + 1) h
theorem pu_fair_come (K : PySem.W.Frag) (ds : List D) (G : GH) (q : QD) (x : XD) (h : sp_fair_come K ds G q x) : t_fair_come K (dEnds q x) (startD n_fair_come ds) G := by
  replace h := A3_x h
  obtain ⟨n, s, i, rfl, ns, es, ls, a, rfl, rfl, rfl, h0, h1, hl, hl6, hz, h⟩ := h
  obtain ⟨k, rfl⟩ := Int.eq_ofNat_of_zero_le h0
  have el : (inI ls).length = ls.length := List.length_map ..
  walk_at "nw"
  refine AtD_i (atI_nOf h0 (by omega)) ?_
  walk_at "nw"
  refine AtD_i (atI_nOf h0 h1) ?_
  walk_at "nw"
  refine ⟨es, k, _, rfl, rfl, rfl, hz, ?_⟩
  walk_at "nw"
  rw [cut_take (by omega)]
  refine Sd_i (sz_le (by rw [List.length_take]; show _ + 1 ≤ _; omega)) ?_
  walk_at "nw"
  rw [cut_drop1 (by omega)]
  refine Sd_i (sz_le (by rw [List.length_append, List.length_take, List.length_drop]; show _ + 1 + _ ≤ _; omega)) ?_
  walk_at "nw"
  have e2 : inI (setL ls k (nOf ls k + nOf ns k)) = List.take k (inI ls) ++ [D.int (nOf ls k + nOf ns k)] ++ List.drop (k + 1) (inI ls) := by
    unfold setL
    show List.map D.int _ = _
    rw [List.map_append, List.map_append, List.map_take, List.map_drop]
    rfl
  rw [← e2]
  exact h
theorem pu_fair_call (K : PySem.W.Frag) (ds : List D) (G : GH) (q : QD) (x : XD) (h : sp_fair_call K ds G q x) : t_fair_call K (dEnds q x) (startD n_fair_call ds) G := by
  replace h := A1_x h
  obtain ⟨s, rfl, e, es, ls, rfl, hz, hl, h⟩ := h
  walk_at "nw"
  refine AtD_i at0 ?_
  walk_at "nw"
  rw [cut_prs]
  refine lc_enc (xs := es) pr (fun _ => true) (fun d => pr (d.1, d.2 - e.2)) (by omega) True.intro (fun e _ A B hA hB => ?_) ?_
  · walk_at "nw"
    exact hA rfl
  walk_at "nw"
  refine lc_enc (xs := ls) D.int (fun _ => true) (fun l => .int (mx (l - e.2) 0)) (by omega) True.intro (fun e _ A B hA hB => ?_) ?_
  · walk_at "nw"
    exact hA rfl
  walk_at "nw"
  rw [flt, flt]
  have e1 : List.map (fun d => pr (d.1, d.2 - e.2)) es = prs (es.map fun d => (d.1, d.2 - e.2)) := by unfold prs; rw [List.map_map]; rfl
  have e2 : List.map (fun l => D.int (mx (l - e.2) 0)) ls = inI (ls.map fun l => mx (l - e.2) 0) := by show _ = List.map D.int _; rw [List.map_map]; rfl
  rw [e1, e2]
  exact h
theorem ste_t {b : Bool} {st : Ste} (h : b = true) : stE b st = .tup (prs st.1) := by subst h; rfl
theorem pu_Policy__come (K : PySem.W.Frag) (ds : List D) (G : GH) (q : QD) (x : XD) (h : sp_Policy__come K ds G q x) : t_Policy__come K (dEnds q x) (startD n_Policy__come ds) G := by
  replace h := A4_x h
  obtain ⟨p, s, c, i, rfl, b, ns, st, a, rfl, rfl, rfl, ⟨⟨n1, n2, n3⟩, hz, hl⟩, h0, h1, h⟩ := h
  walk_at "nw"
  refine ⟨b, ns, rfl, ?_⟩
  walk_at "nw"
  refine ⟨h0, by omega, ?_⟩
  cases b
  · walk_at "nw"
    refine ⟨ns, st.1, st.2, a, rfl, rfl, rfl, h0, h1, hl rfl, by rw [hl rfl]; exact n2, hz, ?_⟩
    walk_at "nw"
    exact h
  · walk_at "nw"
    refine ⟨ns, st.1, a, rfl, rfl, rfl, h0, h1, hz, ?_⟩
    walk_at "nw"
    exact h
theorem pu_credit_call (K : PySem.W.Frag) (ds : List D) (G : GH) (q : QD) (x : XD) (h : sp_credit_call K ds G q x) : t_credit_call K (dEnds q x) (startD n_credit_call ds) G := by
  replace h := A3_x h
  obtain ⟨p, s, c, rfl, b, ns, ⟨es, ls⟩, rfl, rfl, ⟨⟨n1, n2, n3⟩, hz, hl⟩, hne, h⟩ := h
  cases es with
  | nil => exact absurd rfl hne
  | cons e es =>
    have hz' : es.length ≤ 10000 := by
      have : es.length + 1 ≤ 10000 := hz
      omega
    have hnn : ns ≠ [] := by intro z; subst z; simp at n1
    walk_at "nw"
    refine ⟨b, ns, rfl, ?_⟩
    cases b
    · walk_at "nw"
      refine ⟨false, ns, rfl, ?_⟩
      walk_at "nw"
      refine ⟨e, es, ls, rfl, hz', ?_, ?_⟩
      · have : ls.length = ns.length := hl rfl
        omega
      walk_at "nw"
      exact h
    · walk_at "nw"
      refine ⟨true, ns, rfl, ?_⟩
      walk_at "nw"
      refine ⟨ns, e, es, rfl, rfl, hnn, hz', ?_⟩
      walk_at "nw"
      exact h
end N
namespace N
open PySem PySem.Spec PyProof.Rows L2
local macro_rules
  | `(tactic| walk_at "nl") => `(tactic| first
    | with_reducible assumption
    | exact gup_same
    | (refine (gup_ne (by with_reducible assumption)).trans ?_; walk_at "nl")
    | (refine (gup_ne (Ne.symm (by with_reducible assumption))).trans ?_; walk_at "nl"))
local macro_rules
  | `(tactic| walk_at "ns") => `(tactic| first
    | with_reducible assumption
    | omega
    | exact Eq.refl _
    | (apply Nat.le_of_ble_eq_true; exact Eq.refl _)
    | exact And.intro (by decide +kernel) (by decide +kernel)
    | exact or_ll (by decide +kernel) (by decide +kernel)
    | exact or_lr (by decide +kernel) (by decide +kernel)
    | exact Or.inr (cmulw (by decide +kernel))
    | exact IsLst_r (by walk_at "nl")
    | exact IsLst_v
    | exact IsIns_v True.intro
    | exact IsIns_v (by decide +kernel)
    | (apply of_decide_eq_true; decide +kernel)
    | (simp; done)
    | (simp; omega))
local macro_rules
  | `(tactic| walk_at "n0") => `(tactic| first
    | refine Sd_i (by walk_at "ns") ?_
    | refine Cond_t (Eq.refl _) ?_
    | refine Cond_f (Eq.refl _) ?_
    | refine Cond_t (by with_reducible assumption) ?_
    | refine Cond_f (by with_reducible assumption) ?_
    | refine NewL_v ?_
    | refine LkL_i (by walk_at "nl") ?_
    | refine AtD_i (Eq.refl _) ?_
    | refine IsIns_v ?_
    | refine IsIns_r (by walk_at "nl") ?_
    | refine StF_i (by walk_at "nl") (by walk_at "ns") ?_
    | refine Fd_i 0 (by decide +kernel) (Eq.refl _) ?_
    | refine Fd_i 1 (by decide +kernel) (Eq.refl _) ?_
    | refine Fd_i 2 (by decide +kernel) (Eq.refl _) ?_
    | refine Fd_i 3 (by decide +kernel) (Eq.refl _) ?_
    | refine Fd_i 4 (by decide +kernel) (Eq.refl _) ?_
    | refine IntsQ_t _ (Eq.refl _) ?_
    | refine IntsQ_l _ (Eq.refl _) ?_
    | refine IntsL_i _ (Eq.refl _) ?_
    | refine BlsL_i _ (Eq.refl _) ?_
    | refine Ret_i (d := .int _) ?_
    | refine Ret_i (d := .bl _) ?_
    | refine Ret_i (d := .tup _) ?_
    | refine Ret_i (d := .lst _) ?_
    | refine Ret_i (d := .str _) ?_
    | refine Ret_i (d := .non) ?_)
local macro_rules
  | `(tactic| walk_at "n1") => `(tactic| first
    | walk_at "n0"
    | refine Call_i ?_)
local macro_rules
  | `(tactic| walk_at "nc") => `(tactic| (
      repeat (conv => whnf
              walk_at "n0")
      try (conv => whnf)))
local macro_rules
  | `(tactic| walk_at "nw") => `(tactic| (
      repeat (conv => whnf
              walk_at "n1")
      try (conv => whnf)))
theorem pu_Policy__call (K : PySem.W.Frag) (ds : List D) (G : GH) (q : QD) (x : XD) (h : sp_Policy__call K ds G q x) : t_Policy__call K (dEnds q x) (startD n_Policy__call ds) G := by
  replace h := A3_x h
  obtain ⟨p, s, c, rfl, b, ns, st, cs, rfl, rfl, rfl, hc6, ⟨k, hk, hk0⟩, hst, hne, h⟩ := h
  walk_at "nw"
  refine lc_enc (xs := cs) D.int (fun _ => true) (fun l => .bl (decide (l = 0))) (by omega) True.intro (fun e _ A B hA hB => ?_) ?_
  · walk_at "nw"
    exact hA rfl
  rw [flt]
  walk_at "nw"
  refine BlsL_i (cs.map fun l => decide (l = 0)) (by rw [List.map_map]; rfl) ?_
  have e1 : (cs.map fun l => decide (l = 0)).all id = false := by
    rw [List.all_eq_false]
    exact ⟨false, List.mem_map.mpr ⟨k, hk, by simp [hk0]⟩, by simp⟩
  rw [e1]
  walk_at "nw"
  cases b
  · walk_at "nw"
    refine ⟨false, ns, st, rfl, rfl, hst, hne, ?_⟩
    walk_at "nw"
    exact h
  · walk_at "nw"
    refine ⟨true, ns, st, rfl, rfl, hst, hne, ?_⟩
    walk_at "nw"
    exact h
theorem pu_Policy____init__ (K : PySem.W.Frag) (ds : List D) (G : GH) (q : QD) (x : XD) (h : sp_Policy____init__ K ds G q x) : t_Policy____init__ K (dEnds q x) (startD n_Policy____init__ ds) G := by
  replace h := A4_x h
  obtain ⟨s, n, u, k, rfl, a, b, ns, rfl, rfl, rfl, rfl, ⟨n1, n2, n3⟩, ha, h⟩ := h
  walk_at "nw"
  refine ⟨b, rfl, ?_⟩
  walk_at "nw"
  have el : (inI ns).length = ns.length := List.length_map ..
  refine Cond_t (decide_eq_true (by omega)) ?_
  walk_at "nw"
  rw [decide_eq_true (show ((inI ns).length : Int) ≤ 6 by omega)]
  walk_at "nw"
  refine ⟨b, rfl, ?_⟩
  walk_at "nw"
  refine ForD_i (fun i τ G' => G' = G ∧ ∃ o5 o6, τ = [some (.ref a), some (nmD b), some (.tup (inI ns)), some .non, some (.int 9), o5, o6]) ⟨rfl, _, _, rfl⟩ (fun _ _ _ _ _ => True.intro) ?_ ?_
  · rintro i d τ G' hd ⟨rfl, o5, o6, rfl⟩
    have hi := (List.getElem?_eq_some_iff.mp hd).1
    rw [enum_len, el] at hi
    have hn : (inI ns)[i]? = some (.int ns[i]) := by
      show (List.map D.int ns)[i]? = _
      rw [List.getElem?_map, List.getElem?_eq_getElem hi]
      rfl
    rw [enum_at hn] at hd
    cases hd
    obtain ⟨h1, h2⟩ := n3 _ (List.getElem_mem hi)
    walk_at "nw"
    refine ⟨h1, h2, ?_⟩
    walk_at "nw"
    exact ⟨rfl, _, _, rfl⟩
  · rintro τ G' ⟨rfl, o5, o6, rfl⟩
    cases b
    · walk_at "nw"
      rw [gup_gup, gup_gup]
      exact h
    · walk_at "nw"
      rw [gup_gup, gup_gup]
      exact h
theorem pu__law_left (K : PySem.W.Frag) (ds : List D) (G : GH) (q : QD) (x : XD) (h : sp__law_left K ds G q x) : t__law_left K (dEnds q x) (startD n__law_left ds) G := by
  replace h := A2_x h
  obtain ⟨w, e, rfl, u, d, rfl, rfl, ⟨n1, n2, n3⟩, h0, h1, h⟩ := h
  walk_at "nw"
  refine AtD_i (atI_nOf h0 h1) ?_
  walk_at "nw"
  intro m m1 m2
  have hm := mn_eq m1 m2
  subst hm
  walk_at "nw"
  exact h
theorem pu__law_state (K : PySem.W.Frag) (ds : List D) (G : GH) (q : QD) (x : XD) (h : sp__law_state K ds G q x) : t__law_state K (dEnds q x) (startD n__law_state ds) G := by
  replace h := A1_x h
  obtain ⟨w, rfl, ⟨due, ns, line, lasts, clock⟩, rfl, ok, h⟩ := h
  have hsz : line.length ≤ 10000 := ok.sz
  have hll : lasts.length = ns.length := ok.ll
  have hn6 : ns.length ≤ 6 := ok.ns.2.1
  cases due
  · walk_at "nw"
    refine lc_enc (xs := line) pr (fun _ => true) (fun d => pr (d.1, d.2 - clock)) (by omega) True.intro (fun e _ A B hA hB => ?_) ?_
    · walk_at "nw"
      exact hA rfl
    rw [flt]
    walk_at "nw"
    refine lc_enc (xs := lasts) D.int (fun _ => true) (fun l => .int (mx (l - clock) 0)) (by omega) True.intro (fun e _ A B hA hB => ?_) ?_
    · walk_at "nw"
      exact hA rfl
    rw [flt]
    walk_at "nw"
    have e1 : List.map (fun d => pr (d.1, d.2 - clock)) line = prs (line.map fun d => (d.1, d.2 - clock)) := by unfold prs; rw [List.map_map]; rfl
    have e2 : List.map (fun l => D.int (mx (l - clock) 0)) lasts = inI (lasts.map fun l => mx (l - clock) 0) := by show _ = List.map D.int _; rw [List.map_map]; rfl
    rw [e1, e2]
    exact h
  · walk_at "nw"
    refine lc_enc (xs := line) pr (fun _ => true) (fun d => pr (d.1, leftW ⟨true, ns, line, lasts, clock⟩ d)) (by omega) True.intro (fun e he A B hA hB => ?_) ?_
    · walk_at "nw"
      refine ⟨⟨true, ns, line, lasts, clock⟩, e, rfl, rfl, ok.ns, (ok.it e he).1, (ok.it e he).2, ?_⟩
      walk_at "nw"
      exact hA rfl
    rw [flt]
    walk_at "nw"
    have e1 : List.map (fun d => pr (d.1, leftW ⟨true, ns, line, lasts, clock⟩ d)) line = prs (line.map fun d => (d.1, leftW ⟨true, ns, line, lasts, clock⟩ d)) := by unfold prs; rw [List.map_map]; rfl
    rw [e1]
    exact h
theorem pu__law_behind_call (K : PySem.W.Frag) (ds : List D) (G : GH) (q : QD) (x : XD) (h : sp__law_behind_call K ds G q x) : t__law_behind_call K (dEnds q x) (startD n__law_behind_call ds) G := by
  replace h := A1_x h
  obtain ⟨w, rfl, ⟨due, ns, line, lasts, clock⟩, rfl, ok, hne, h⟩ := h
  cases line with
  | nil => exact absurd rfl hne
  | cons e line =>
    cases due
    · walk_at "nw"
      refine AtD_i at0 ?_
      walk_at "nw"
      rw [cut_prs]
      exact h
    · walk_at "nw"
      rw [cut_prs]
      exact h
theorem pu__law_told (K : PySem.W.Frag) (ds : List D) (G : GH) (q : QD) (x : XD) (h : sp__law_told K ds G q x) : t__law_told K (dEnds q x) (startD n__law_told ds) G := by
  replace h := A4_x h
  obtain ⟨n, u, s, i, rfl, b, ns, ⟨es, ls⟩, a, rfl, rfl, rfl, rfl, ⟨⟨n1, n2, n3⟩, hz, hl⟩, hi, h⟩ := h
  have hnn : ns ≠ [] := by intro z; subst z; simp at n1
  rcases hi with ⟨h0, hne⟩ | ⟨h0, h1⟩
  · cases es with
    | nil => exact absurd rfl hne
    | cons e es =>
      have hz' : es.length ≤ 10000 := by
        have : es.length + 1 ≤ 10000 := hz
        omega
      have hd : decide (a < 0) = true := decide_eq_true h0
      unfold toldD at h
      rw [if_pos h0] at h
      cases b
      · walk_at "nw"
        refine ⟨e, es, ls, rfl, hz', ?_, ?_⟩
        · have : ls.length = ns.length := hl rfl
          omega
        walk_at "nw"
        exact h
      · walk_at "nw"
        refine ⟨ns, e, es, rfl, rfl, hnn, hz', ?_⟩
        walk_at "nw"
        exact h
  · have hd : decide (a < 0) = false := decide_eq_false (by omega)
    unfold toldD at h
    rw [if_neg (by omega)] at h
    cases b
    · have hl' : ls.length = ns.length := hl rfl
      walk_at "nw"
      refine ⟨ns, es, ls, a, rfl, rfl, rfl, h0, h1, hl', by omega, hz, ?_⟩
      walk_at "nw"
      exact h
    · walk_at "nw"
      refine ⟨ns, es, a, rfl, rfl, rfl, h0, h1, hz, ?_⟩
      walk_at "nw"
      exact h
theorem pu__law_told_by_name (K : PySem.W.Frag) (ds : List D) (G : GH) (q : QD) (x : XD) (h : sp__law_told_by_name K ds G q x) : t__law_told_by_name K (dEnds q x) (startD n__law_told_by_name ds) G := by
  replace h := A4_x h
  obtain ⟨n, u, s, i, rfl, b, ns, ⟨es, ls⟩, a, rfl, rfl, rfl, rfl, ⟨⟨n1, n2, n3⟩, hz, hl⟩, hi, h⟩ := h
  have hnn : ns ≠ [] := by intro z; subst z; simp at n1
  rcases hi with ⟨h0, hne⟩ | ⟨h0, h1⟩
  · cases es with
    | nil => exact absurd rfl hne
    | cons e es =>
      have hz' : es.length ≤ 10000 := by
        have : es.length + 1 ≤ 10000 := hz
        omega
      have hd : decide (a < 0) = true := decide_eq_true h0
      unfold toldD at h
      rw [if_pos h0] at h
      cases b
      · walk_at "nw"
        refine ⟨e, es, ls, rfl, hz', ?_, ?_⟩
        · have : ls.length = ns.length := hl rfl
          omega
        walk_at "nw"
        exact h
      · walk_at "nw"
        refine ⟨ns, e, es, rfl, rfl, hnn, hz', ?_⟩
        walk_at "nw"
        exact h
  · have hd : decide (a < 0) = false := decide_eq_false (by omega)
    unfold toldD at h
    rw [if_neg (by omega)] at h
    cases b
    · have hl' : ls.length = ns.length := hl rfl
      walk_at "nw"
      refine ⟨ns, es, ls, a, rfl, rfl, rfl, h0, h1, hl', by omega, hz, ?_⟩
      walk_at "nw"
      exact h
    · walk_at "nw"
      refine ⟨ns, es, a, rfl, rfl, rfl, h0, h1, hz, ?_⟩
      walk_at "nw"
      exact h
end N
namespace N
open PySem PySem.Spec PyProof.Rows L2
local macro_rules
  | `(tactic| walk_at "nl") => `(tactic| first
    | with_reducible assumption
    | exact gup_same
    | (refine (gup_ne (by with_reducible assumption)).trans ?_; walk_at "nl")
    | (refine (gup_ne (Ne.symm (by with_reducible assumption))).trans ?_; walk_at "nl"))
local macro_rules
  | `(tactic| walk_at "ns") => `(tactic| first
    | with_reducible assumption
    | omega
    | exact Eq.refl _
    | (apply Nat.le_of_ble_eq_true; exact Eq.refl _)
    | exact And.intro (by decide +kernel) (by decide +kernel)
    | exact or_ll (by decide +kernel) (by decide +kernel)
    | exact or_lr (by decide +kernel) (by decide +kernel)
    | exact Or.inr (cmulw (by decide +kernel))
    | exact IsLst_r (by walk_at "nl")
    | exact IsLst_v
    | exact IsIns_v True.intro
    | exact IsIns_v (by decide +kernel)
    | (apply of_decide_eq_true; decide +kernel)
    | (simp; done)
    | (simp; omega))
local macro_rules
  | `(tactic| walk_at "n0") => `(tactic| first
    | refine Sd_i (by walk_at "ns") ?_
    | refine Cond_t (Eq.refl _) ?_
    | refine Cond_f (Eq.refl _) ?_
    | refine Cond_t (by with_reducible assumption) ?_
    | refine Cond_f (by with_reducible assumption) ?_
    | refine NewL_v ?_
    | refine LkL_i (by walk_at "nl") ?_
    | refine AtD_i (Eq.refl _) ?_
    | refine IsIns_v ?_
    | refine IsIns_r (by walk_at "nl") ?_
    | refine StF_i (by walk_at "nl") (by walk_at "ns") ?_
    | refine Fd_i 0 (by decide +kernel) (Eq.refl _) ?_
    | refine Fd_i 1 (by decide +kernel) (Eq.refl _) ?_
    | refine Fd_i 2 (by decide +kernel) (Eq.refl _) ?_
    | refine Fd_i 3 (by decide +kernel) (Eq.refl _) ?_
    | refine Fd_i 4 (by decide +kernel) (Eq.refl _) ?_
    | refine IntsQ_t _ (Eq.refl _) ?_
    | refine IntsQ_l _ (Eq.refl _) ?_
    | refine IntsL_i _ (Eq.refl _) ?_
    | refine BlsL_i _ (Eq.refl _) ?_
    | refine Ret_i (d := .int _) ?_
    | refine Ret_i (d := .bl _) ?_
    | refine Ret_i (d := .tup _) ?_
    | refine Ret_i (d := .lst _) ?_
    | refine Ret_i (d := .str _) ?_
    | refine Ret_i (d := .non) ?_)
local macro_rules
  | `(tactic| walk_at "n1") => `(tactic| first
    | walk_at "n0"
    | refine Call_i ?_)
local macro_rules
  | `(tactic| walk_at "nc") => `(tactic| (
      repeat (conv => whnf
              walk_at "n0")
      try (conv => whnf)))
local macro_rules
  | `(tactic| walk_at "nw") => `(tactic| (
      repeat (conv => whnf
              walk_at "n1")
      try (conv => whnf)))
/-! ### the plain law -/
theorem mx_call (x m : Int) : mx (mx x m - 1) m = mx (x - 1) m := by
  unfold mx
  split <;> split <;> (try split) <;> omega
theorem nOf_mem {ns : List Int} {i : Int} (h0 : 0 ≤ i) (h1 : i < ns.length) : nOf ns i ∈ ns := by
  have hl : i.toNat < ns.length := by omega
  unfold nOf
  rw [List.getD_eq_getElem?_getD, List.getElem?_eq_getElem hl]
  exact List.getElem_mem hl
theorem nOf_map {ns : List Int} {i : Int} {f : Int → Int} (h0 : 0 ≤ i) (h1 : i < ns.length) : nOf (ns.map f) i = f (nOf ns i) := by
  have hl : i.toNat < ns.length := by omega
  unfold nOf
  rw [List.getD_eq_getElem?_getD, List.getD_eq_getElem?_getD, List.getElem?_map, List.getElem?_eq_getElem hl]
  rfl
theorem call_eq {u : Wld} (ok : WOk u) (hne : u.line ≠ []) : callS u.due u.ns (stW u) = stW (callW u) ∧ ((stW u).1.headD (0, 0)).1 = (u.line.headD (0, 0)).1 ∧ (stW u).1 ≠ [] := by
  obtain ⟨due, ns, line, lasts, clock⟩ := u
  cases line with
  | nil => exact absurd rfl hne
  | cons e line =>
    cases due
    · have hc : clock ≤ e.2 := (ok.so rfl).2 e List.mem_cons_self
      refine ⟨?_, rfl, by simp [stW]⟩
      show ((line.map fun e => (e.1, e.2 - clock)).map fun d => (d.1, d.2 - (e.2 - clock)), (lasts.map fun l => mx (l - clock) 0).map fun l => mx (l - (e.2 - clock)) 0) = (line.map fun d => (d.1, d.2 - e.2), lasts.map fun l => mx (l - e.2) 0)
      rw [List.map_map, List.map_map]
      congr 1
      · apply List.map_congr_left
        intro d _
        show (d.1, d.2 - clock - (e.2 - clock)) = (d.1, d.2 - e.2)
        congr 1
        omega
      · apply List.map_congr_left
        intro l _
        show mx (mx (l - clock) 0 - (e.2 - clock)) 0 = mx (l - e.2) 0
        unfold mx
        split <;> split <;> split <;> omega
    · refine ⟨?_, rfl, by simp [stW]⟩
      show ((line.map fun d => (d.1, leftW ⟨true, ns, e :: line, lasts, clock⟩ d)).map fun d => (d.1, mx (d.2 - 1) (mn ns)), []) = (line.map fun d => (d.1, leftW ⟨true, ns, line, lasts, clock + 1⟩ d), [])
      rw [List.map_map]
      congr 1
      apply List.map_congr_left
      intro d _
      show (d.1, mx (mx (nOf ns d.1 - (clock - d.2)) (mn ns) - 1) (mn ns)) = (d.1, mx (nOf ns d.1 - (clock + 1 - d.2)) (mn ns))
      rw [mx_call]
      congr 2
      omega
theorem come_eq {u : Wld} (ok : WOk u) {i : Int} (h0 : 0 ≤ i) (h1 : i < u.ns.length) : comeS u.due u.ns (stW u) i = stW (comeW u i) := by
  obtain ⟨due, ns, line, lasts, clock⟩ := u
  have hm := nOf_mem h0 h1
  have hn := ok.ns.2.2 _ hm
  cases due
  · have hl : i < lasts.length := by have : lasts.length = ns.length := ok.ll; rw [this]; exact h1
    have e1 : nOf (lasts.map fun l => mx (l - clock) 0) i = mx (nOf lasts i - clock) 0 := nOf_map h0 hl
    have e2 : mx (nOf lasts i - clock) 0 + nOf ns i = mx (nOf lasts i) clock + nOf ns i - clock := by
      unfold mx
      split <;> split <;> omega
    have e3 : 0 < mx (nOf lasts i) clock + nOf ns i - clock := by
      have : 1 ≤ nOf ns i := hn.1
      unfold mx
      split <;> omega
    generalize ht : mx (nOf lasts i) clock + nOf ns i = tag at e2 e3
    have e4 : cntB (line.map fun e => (e.1, e.2 - clock)) (tag - clock) = cntB line tag := by
      unfold cntB
      rw [List.filter_map, List.length_map]
      congr 2
      funext d
      show decide (d.2 - clock ≤ tag - clock) = decide (d.2 ≤ tag)
      congr 1
      simp
    show (putB (line.map fun e => (e.1, e.2 - clock)) i (nOf (lasts.map fun l => mx (l - clock) 0) i + nOf ns i), setL (lasts.map fun l => mx (l - clock) 0) i (nOf (lasts.map fun l => mx (l - clock) 0) i + nOf ns i)) =
      ((putB line i (mx (nOf lasts i) clock + nOf ns i)).map fun e => (e.1, e.2 - clock), (setL lasts i (mx (nOf lasts i) clock + nOf ns i)).map fun l => mx (l - clock) 0)
    rw [e1, e2, ht]
    congr 1
    · unfold putB
      rw [e4, List.map_append, List.map_append, List.map_take, List.map_drop]
      rfl
    · unfold setL
      rw [List.map_append, List.map_append, List.map_take, List.map_drop]
      congr 2
      show [tag - clock] = [mx (tag - clock) 0]
      unfold mx
      rw [if_neg (by omega)]
  · have hmn : mn ns ≤ nOf ns i := (mn_le hm).1
    have e4 : cntB (line.map fun e => (e.1, leftW ⟨true, ns, line, lasts, clock⟩ e)) (nOf ns i) = (line.filter fun e => decide (leftW ⟨true, ns, line, lasts, clock⟩ e ≤ nOf ns i)).length := by
      unfold cntB
      rw [List.filter_map, List.length_map]
      rfl
    show (putB (line.map fun e => (e.1, leftW ⟨true, ns, line, lasts, clock⟩ e)) i (nOf ns i), []) = (((line.take (line.filter fun e => decide (leftW ⟨true, ns, line, lasts, clock⟩ e ≤ nOf ns i)).length ++ [(i, clock)]) ++
      line.drop (line.filter fun e => decide (leftW ⟨true, ns, line, lasts, clock⟩ e ≤ nOf ns i)).length).map fun e => (e.1, leftW ⟨true, ns, line, lasts, clock⟩ e), [])
    congr 1
    unfold putB
    rw [e4, List.map_append, List.map_append, List.map_take, List.map_drop]
    congr 2
    show [(i, nOf ns i)] = [(i, mx (nOf ns i - (clock - clock)) (mn ns))]
    unfold mx
    rw [if_neg (by omega)]
    congr 2
    omega
theorem srt_put {l : List (Int × Int)} {m : Int} (h : l.Pairwise (fun a b => a.2 ≤ b.2)) : (∀ e ∈ l.take (cntB l m), e.2 ≤ m) ∧ ∀ e ∈ l.drop (cntB l m), m < e.2 := by
  induction l with
  | nil => simp [cntB]
  | cons e r ih =>
    rw [List.pairwise_cons] at h
    by_cases c : e.2 ≤ m
    · have e1 : cntB (e :: r) m = cntB r m + 1 := by
        unfold cntB
        rw [List.filter_cons, if_pos (by simpa using c), List.length_cons]
      rw [e1, List.take_succ_cons, List.drop_succ_cons]
      obtain ⟨i1, i2⟩ := ih h.2
      refine ⟨fun d hd => ?_, i2⟩
      rcases List.mem_cons.mp hd with rfl | hd
      · exact c
      · exact i1 d hd
    · have e2 : (e :: r).filter (fun e => decide (e.2 ≤ m)) = [] := by
        rw [List.filter_eq_nil_iff]
        intro d hd
        rcases List.mem_cons.mp hd with rfl | hd
        · simpa using c
        · have := h.1 d hd
          simp
          omega
      have e1 : cntB (e :: r) m = 0 := by unfold cntB; rw [e2]; rfl
      rw [e1]
      refine ⟨by simp, fun d hd => ?_⟩
      rw [List.drop_zero] at hd
      rcases List.mem_cons.mp hd with rfl | hd
      · omega
      · have := h.1 d hd
        omega
theorem putB_len (es : List (Int × Int)) (i m : Int) : (putB es i m).length = es.length + 1 := by
  have := cntB_le es m
  unfold putB
  rw [List.length_append, List.length_append, List.length_take, List.length_drop, List.length_singleton]
  omega
theorem putB_mem {es : List (Int × Int)} {i m : Int} {d : Int × Int} (h : d ∈ putB es i m) : d ∈ es ∨ d = (i, m) := by
  unfold putB at h
  rcases List.mem_append.mp h with h | h
  · rcases List.mem_append.mp h with h | h
    · exact .inl (List.mem_of_mem_take h)
    · exact .inr (List.mem_singleton.mp h)
  · exact .inl (List.mem_of_mem_drop h)
theorem setL_len {ls : List Int} {i t : Int} (h0 : 0 ≤ i) (h1 : i < ls.length) : (setL ls i t).length = ls.length := by
  unfold setL
  rw [List.length_append, List.length_append, List.length_take, List.length_drop, List.length_singleton]
  omega
theorem come_ok {u : Wld} (ok : WOk u) {i : Int} (h0 : 0 ≤ i) (h1 : i < u.ns.length) (hz : u.line.length < 9999) : WOk (comeW u i) ∧ (comeW u i).line.length = u.line.length + 1 ∧ (comeW u i).due = u.due ∧ (comeW u i).ns = u.ns := by
  obtain ⟨due, ns, line, lasts, clock⟩ := u
  have hz' : line.length < 9999 := hz
  cases due
  · have hl : i < lasts.length := by have : lasts.length = ns.length := ok.ll; rw [this]; exact h1
    have hn := ok.ns.2.2 _ (nOf_mem h0 h1)
    have hn1 : 1 ≤ nOf ns i := hn.1
    have ht : clock ≤ mx (nOf lasts i) clock + nOf ns i := by unfold mx; split <;> omega
    obtain ⟨s1, s2⟩ := ok.so rfl
    refine ⟨⟨ok.ns, fun e he => ?_, ?_, ?_, fun _ => ⟨?_, fun e he => ?_⟩⟩, putB_len _ _ _, rfl, rfl⟩
    · rcases putB_mem he with he | rfl
      · exact ok.it e he
      · exact ⟨h0, h1⟩
    · show (setL lasts i _).length = ns.length
      rw [setL_len h0 hl]; exact ok.ll
    · show (putB line i _).length ≤ 10000
      rw [putB_len]; omega
    · show (putB line i (mx (nOf lasts i) clock + nOf ns i)).Pairwise _
      obtain ⟨p1, p2⟩ := srt_put (m := mx (nOf lasts i) clock + nOf ns i) s1
      unfold putB
      rw [List.append_assoc, List.pairwise_append]
      refine ⟨s1.sublist (List.take_sublist _ _), ?_, fun x hx y hy => ?_⟩
      · rw [List.singleton_append, List.pairwise_cons]
        exact ⟨fun y hy => Int.le_of_lt (p2 y hy), s1.sublist (List.drop_sublist _ _)⟩
      · rw [List.singleton_append] at hy
        rcases List.mem_cons.mp hy with rfl | hy
        · exact p1 x hx
        · exact Int.le_trans (p1 x hx) (Int.le_of_lt (p2 y hy))
    · rcases putB_mem he with he | rfl
      · exact s2 e he
      · exact ht
  · generalize hk : (line.filter fun e => decide (leftW ⟨true, ns, line, lasts, clock⟩ e ≤ nOf ns i)).length = k
    have hkl : k ≤ line.length := by rw [← hk]; exact List.length_filter_le _ _
    have hlen : (line.take k ++ [(i, clock)] ++ line.drop k).length = line.length + 1 := by
      rw [List.length_append, List.length_append, List.length_take, List.length_drop, List.length_singleton]
      omega
    have eq : comeW ⟨true, ns, line, lasts, clock⟩ i = ⟨true, ns, line.take k ++ [(i, clock)] ++ line.drop k, lasts, clock⟩ := by rw [← hk]; rfl
    rw [eq]
    refine ⟨⟨ok.ns, fun e he => ?_, ok.ll, ?_, fun z => by cases z⟩, hlen, rfl, rfl⟩
    · rcases List.mem_append.mp he with he | he
      · rcases List.mem_append.mp he with he | he
        · exact ok.it e (List.mem_of_mem_take he)
        · rw [List.mem_singleton.mp he]; exact ⟨h0, h1⟩
      · exact ok.it e (List.mem_of_mem_drop he)
    · show (line.take k ++ [(i, clock)] ++ line.drop k).length ≤ 10000
      rw [hlen]; omega
theorem call_ok {u : Wld} (ok : WOk u) (hne : u.line ≠ []) : WOk (callW u) ∧ (callW u).line.length + 1 = u.line.length ∧ (callW u).due = u.due ∧ (callW u).ns = u.ns := by
  obtain ⟨due, ns, line, lasts, clock⟩ := u
  cases line with
  | nil => exact absurd rfl hne
  | cons e line =>
    have hz : line.length + 1 ≤ 10000 := ok.sz
    cases due
    · obtain ⟨s1, s2⟩ := ok.so rfl
      rw [List.pairwise_cons] at s1
      exact ⟨⟨ok.ns, fun d hd => ok.it d (List.mem_cons_of_mem _ hd), ok.ll, by show line.length ≤ 10000; omega, fun _ => ⟨s1.2, fun d hd => s1.1 d hd⟩⟩, rfl, rfl, rfl⟩
    · exact ⟨⟨ok.ns, fun d hd => ok.it d (List.mem_cons_of_mem _ hd), ok.ll, by show line.length ≤ 10000; omega, fun z => by cases z⟩, rfl, rfl, rfl⟩
theorem told_eq {u : Wld} {a : Int} (ok : WOk u) (hi : ItOkW u a) : toldD u.due u.ns (stW u) a = dueW u a := by
  unfold toldD dueW
  rcases hi with ⟨rfl, hne⟩ | ⟨h0, h1⟩
  · obtain ⟨e1, e2, _⟩ := call_eq ok hne
    rw [if_pos (by omega), if_pos (by omega), e1, e2]
  · rw [if_neg (by omega), if_neg (by omega), come_eq ok h0 h1]
theorem st_ok {u : Wld} (ok : WOk u) : StOk u.due u.ns (stW u) := by
  obtain ⟨due, ns, line, lasts, clock⟩ := u
  have hz : line.length ≤ 10000 := ok.sz
  have hl : lasts.length = ns.length := ok.ll
  cases due
  · exact ⟨ok.ns, by show (line.map _).length ≤ _; rw [List.length_map]; exact hz, fun _ => by show (lasts.map _).length = _; rw [List.length_map]; exact hl⟩
  · exact ⟨ok.ns, by show (line.map _).length ≤ _; rw [List.length_map]; exact hz, fun z => by cases z⟩
theorem trees_inI : ∀ ls : List Int, trees (inI ls) = true ∧ nodesA (inI ls) = ls.length
  | [] => ⟨rfl, rfl⟩
  | l :: ls => by
    obtain ⟨a, b⟩ := trees_inI ls
    refine ⟨?_, ?_⟩
    · show (true && trees (inI ls)) = true
      rw [a]; rfl
    · show 1 + nodesA (inI ls) = ls.length + 1
      omega
theorem trees_prs : ∀ ls : List (Int × Int), trees (prs ls) = true ∧ nodesA (prs ls) = 3 * ls.length
  | [] => ⟨rfl, rfl⟩
  | l :: ls => by
    obtain ⟨a, b⟩ := trees_prs ls
    refine ⟨?_, ?_⟩
    · show (true && trees (prs ls)) = true
      rw [a]; rfl
    · show (1 + (1 + (1 + 0))) + nodesA (prs ls) = 3 * (ls.length + 1)
      omega
theorem tree_st (b : Bool) (st : Ste) : tree (stE b st) = true ∧ nodes (stE b st) ≤ 3 + 3 * st.1.length + st.2.length := by
  obtain ⟨a1, a2⟩ := trees_prs st.1
  obtain ⟨b1, b2⟩ := trees_inI st.2
  cases b
  · refine ⟨?_, ?_⟩
    · show (trees (prs st.1) && (trees (inI st.2) && true)) = true
      rw [a1, b1]; rfl
    · show 1 + ((1 + nodesA (prs st.1)) + ((1 + nodesA (inI st.2)) + 0)) ≤ _
      omega
  · refine ⟨a1, ?_⟩
    show 1 + nodesA (prs st.1) ≤ _
    omega
theorem stW_len {u : Wld} (ok : WOk u) : (stW u).1.length = u.line.length ∧ (stW u).2.length ≤ 6 := by
  obtain ⟨due, ns, line, lasts, clock⟩ := u
  have hl : lasts.length = ns.length := ok.ll
  have := ok.ns.2.1
  cases due
  · exact ⟨by show (line.map _).length = _; rw [List.length_map], by show (lasts.map _).length ≤ _; rw [List.length_map, hl]; exact this⟩
  · exact ⟨by show (line.map _).length = _; rw [List.length_map], by show 0 ≤ 6; omega⟩
theorem aft_ok {u : Wld} {a : Int} (ok : WOk u) (hi : ItOkW u a) (hz : u.line.length < 9999) : WOk (aftW u a) ∧ (aftW u a).line.length ≤ u.line.length + 1 ∧ (aftW u a).due = u.due ∧ (aftW u a).ns = u.ns ∧ (a < 0 → (aftW u a).line.length + 1 = u.line.length) := by
  unfold aftW
  rcases hi with ⟨rfl, hne⟩ | ⟨h0, h1⟩
  · rw [if_pos (by omega)]
    obtain ⟨p1, p2, p3, p4⟩ := call_ok ok hne
    exact ⟨p1, by omega, p3, p4, fun _ => p2⟩
  · rw [if_neg (by omega)]
    obtain ⟨p1, p2, p3, p4⟩ := come_ok ok h0 h1 hz
    exact ⟨p1, by omega, p3, p4, fun z => by omega⟩
theorem tree_due {u : Wld} {a : Int} (ok : WOk u) (hi : ItOkW u a) (hz : u.line.length < 9999) : tree (dueW u a) = true ∧ nodes (dueW u a) < 400000 := by
  unfold dueW
  rcases hi with ⟨rfl, hne⟩ | ⟨h0, h1⟩
  · rw [if_pos (by omega)]
    obtain ⟨p1, p2, p3, p4⟩ := call_ok ok hne
    obtain ⟨l1, l2⟩ := stW_len p1
    obtain ⟨t1, t2⟩ := tree_st u.due (stW (callW u))
    refine ⟨?_, ?_⟩
    · show (true && (tree (stE u.due (stW (callW u))) && true)) = true
      rw [t1]; rfl
    · show 1 + (1 + (nodes (stE u.due (stW (callW u))) + 0)) < 400000
      omega
  · rw [if_neg (by omega)]
    obtain ⟨p1, p2, p3, p4⟩ := come_ok ok h0 h1 hz
    obtain ⟨l1, l2⟩ := stW_len p1
    obtain ⟨t1, t2⟩ := tree_st u.due (stW (comeW u a))
    exact ⟨t1, by omega⟩
end N
namespace N
open PySem PySem.Spec PyProof.Rows L2
local macro_rules
  | `(tactic| walk_at "nl") => `(tactic| first
    | with_reducible assumption
    | exact gup_same
    | (refine (gup_ne (by with_reducible assumption)).trans ?_; walk_at "nl")
    | (refine (gup_ne (Ne.symm (by with_reducible assumption))).trans ?_; walk_at "nl"))
local macro_rules
  | `(tactic| walk_at "ns") => `(tactic| first
    | with_reducible assumption
    | omega
    | exact Eq.refl _
    | (apply Nat.le_of_ble_eq_true; exact Eq.refl _)
    | exact And.intro (by decide +kernel) (by decide +kernel)
    | exact or_ll (by decide +kernel) (by decide +kernel)
    | exact or_lr (by decide +kernel) (by decide +kernel)
    | exact Or.inr (cmulw (by decide +kernel))
    | exact IsLst_r (by walk_at "nl")
    | exact IsLst_v
    | exact IsIns_v True.intro
    | exact IsIns_v (by decide +kernel)
    | (apply of_decide_eq_true; decide +kernel)
    | (simp; done)
    | (simp; omega))
local macro_rules
  | `(tactic| walk_at "n0") => `(tactic| first
    | refine Sd_i (by walk_at "ns") ?_
    | refine Cond_t (Eq.refl _) ?_
    | refine Cond_f (Eq.refl _) ?_
    | refine Cond_t (by with_reducible assumption) ?_
    | refine Cond_f (by with_reducible assumption) ?_
    | refine NewL_v ?_
    | refine LkL_i (by walk_at "nl") ?_
    | refine AtD_i (Eq.refl _) ?_
    | refine IsIns_v ?_
    | refine IsIns_r (by walk_at "nl") ?_
    | refine StF_i (by walk_at "nl") (by walk_at "ns") ?_
    | refine Fd_i 0 (by decide +kernel) (Eq.refl _) ?_
    | refine Fd_i 1 (by decide +kernel) (Eq.refl _) ?_
    | refine Fd_i 2 (by decide +kernel) (Eq.refl _) ?_
    | refine Fd_i 3 (by decide +kernel) (Eq.refl _) ?_
    | refine Fd_i 4 (by decide +kernel) (Eq.refl _) ?_
    | refine IntsQ_t _ (Eq.refl _) ?_
    | refine IntsQ_l _ (Eq.refl _) ?_
    | refine IntsL_i _ (Eq.refl _) ?_
    | refine BlsL_i _ (Eq.refl _) ?_
    | refine Ret_i (d := .int _) ?_
    | refine Ret_i (d := .bl _) ?_
    | refine Ret_i (d := .tup _) ?_
    | refine Ret_i (d := .lst _) ?_
    | refine Ret_i (d := .str _) ?_
    | refine Ret_i (d := .non) ?_)
local macro_rules
  | `(tactic| walk_at "n1") => `(tactic| first
    | walk_at "n0"
    | refine Call_i ?_)
local macro_rules
  | `(tactic| walk_at "nc") => `(tactic| (
      repeat (conv => whnf
              walk_at "n0")
      try (conv => whnf)))
local macro_rules
  | `(tactic| walk_at "nw") => `(tactic| (
      repeat (conv => whnf
              walk_at "n1")
      try (conv => whnf)))
theorem pu__law_behind_come (K : PySem.W.Frag) (ds : List D) (G : GH) (q : QD) (x : XD) (h : sp__law_behind_come K ds G q x) : t__law_behind_come K (dEnds q x) (startD n__law_behind_come ds) G := by
  replace h := A2_x h
  obtain ⟨w, i, rfl, ⟨due, ns, line, lasts, clock⟩, a, rfl, rfl, ok, h0, h1, h⟩ := h
  have hz : line.length ≤ 10000 := ok.sz
  have hll : lasts.length = ns.length := ok.ll
  have hn6 : ns.length ≤ 6 := ok.ns.2.1
  have el : (prs line).length = line.length := List.length_map ..
  have hb : a < (ns.length : Int) := h1
  obtain ⟨k, rfl⟩ := Int.eq_ofNat_of_zero_le h0
  have ew : ∀ due, wD ⟨due, ns, line, lasts, clock⟩ = .lst [nmD due, .tup (inI ns), .lst (prs line), .lst (inI lasts), .int clock] := fun _ => rfl
  have e5 : (inI lasts).length = lasts.length := List.length_map ..
  cases due
  · rw [ew]
    walk_at "nw"
    refine AtD_i (atI_nOf h0 (by omega)) ?_
    walk_at "nw"
    refine AtD_i (atI_nOf h0 hb) ?_
    walk_at "nw"
    have h : q (wD ⟨false, ns, putB line k (mx (nOf lasts k) clock + nOf ns k), setL lasts k (mx (nOf lasts k) clock + nOf ns k), clock⟩) G := h
    generalize ht : mx (nOf lasts k) clock + nOf ns k = tag at *
    have ht2 : (if clock > nOf lasts k then clock else nOf lasts k) + nOf ns k = tag := ht
    rw [ht2]
    refine lc_enc (xs := line) pr (fun e => decide (e.2 ≤ tag)) pr (by omega) True.intro (fun e _ A B hA hB => ?_) ?_
    · walk_at "nw"
      exact Cond_i hA hB
    have hl : ((line.filter fun e => decide (e.2 ≤ tag)).map pr).length = cntB line tag := List.length_map ..
    have hk := cntB_le line tag
    have hk2 : cntB line tag ≤ (prs line).length := by omega
    walk_at "nw"
    rw [hl, cut_take (by omega)]
    refine Sd_i (sz_le (by rw [List.length_take]; show _ + 1 ≤ _; omega)) ?_
    walk_at "nw"
    rw [cut_drop1 (by omega)]
    refine Sd_i (sz_le (by rw [List.length_append, List.length_take, List.length_drop]; show _ + 1 + _ ≤ _; omega)) ?_
    walk_at "nw"
    rw [cut_take hk2]
    refine Sd_i (sz_le (by rw [List.length_take]; show _ + 1 ≤ _; omega)) ?_
    walk_at "nw"
    rw [cut_drop hk2]
    refine Sd_i (sz_le (by rw [List.length_append, List.length_take, List.length_drop]; show _ + 1 + _ ≤ _; omega)) ?_
    walk_at "nw"
    have e2 : prs (putB line k tag) = List.take (cntB line tag) (prs line) ++ [D.tup [D.int k, D.int tag]] ++ List.drop (cntB line tag) (prs line) := by
      unfold prs putB
      rw [List.map_append, List.map_append, List.map_take, List.map_drop]
      rfl
    have e3 : inI (setL lasts k tag) = List.take k (inI lasts) ++ [D.int tag] ++ List.drop (k + 1) (inI lasts) := by
      unfold setL
      show List.map D.int _ = _
      rw [List.map_append, List.map_append, List.map_take, List.map_drop]
      rfl
    rw [← e2, ← e3]
    exact h
  · rw [ew]
    walk_at "nw"
    refine lc_enc (xs := line) pr (fun e => decide (leftW ⟨true, ns, line, lasts, clock⟩ e ≤ nOf ns k)) pr (by omega) True.intro (fun e he A B hA hB => ?_) ?_
    · walk_at "nw"
      refine ⟨⟨true, ns, line, lasts, clock⟩, e, rfl, rfl, ok.ns, (ok.it e he).1, (ok.it e he).2, ?_⟩
      walk_at "nw"
      refine AtD_i (atI_nOf h0 hb) ?_
      walk_at "nw"
      exact Cond_i hA hB
    have h : q (wD ⟨true, ns, line.take (line.filter fun e => decide (leftW ⟨true, ns, line, lasts, clock⟩ e ≤ nOf ns k)).length ++ [((k : Int), clock)] ++ line.drop (line.filter fun e => decide (leftW ⟨true, ns, line, lasts, clock⟩ e ≤ nOf ns k)).length, lasts, clock⟩) G := h
    have hl : ((line.filter fun e => decide (leftW ⟨true, ns, line, lasts, clock⟩ e ≤ nOf ns k)).map pr).length = (line.filter fun e => decide (leftW ⟨true, ns, line, lasts, clock⟩ e ≤ nOf ns k)).length := List.length_map ..
    have hkl : (line.filter fun e => decide (leftW ⟨true, ns, line, lasts, clock⟩ e ≤ nOf ns k)).length ≤ line.length := List.length_filter_le _ _
    walk_at "nw"
    rw [hl]
    generalize (line.filter fun e => decide (leftW ⟨true, ns, line, lasts, clock⟩ e ≤ nOf ns k)).length = j at *
    have hk2 : j ≤ (prs line).length := by omega
    rw [cut_take hk2]
    refine Sd_i (sz_le (by rw [List.length_take]; show _ + 1 ≤ _; omega)) ?_
    walk_at "nw"
    rw [cut_drop hk2]
    refine Sd_i (sz_le (by rw [List.length_append, List.length_take, List.length_drop]; show _ + 1 + _ ≤ _; omega)) ?_
    walk_at "nw"
    have e2 : prs (line.take j ++ [((k : Int), clock)] ++ line.drop j) = List.take j (prs line) ++ [D.tup [D.int k, D.int clock]] ++ List.drop j (prs line) := by
      unfold prs
      rw [List.map_append, List.map_append, List.map_take, List.map_drop]
      rfl
    rw [← e2]
    exact h
theorem pu__law_step_right (K : PySem.W.Frag) (ds : List D) (G : GH) (q : QD) (x : XD) (h : sp__law_step_right K ds G q x) : t__law_step_right K (dEnds q x) (startD n__law_step_right ds) G := by
  replace h := A4_x h
  obtain ⟨p, w, i, d, rfl, u, a, rfl, rfl, rfl, rfl, ok, hz, hi, h⟩ := h
  have hn6 : u.ns.length ≤ 6 := ok.ns.2.1
  have hso := st_ok ok
  have hia : (a < 0 ∧ (stW u).1 ≠ []) ∨ (0 ≤ a ∧ a < u.ns.length) := by
    rcases hi with ⟨rfl, hne⟩ | hi
    · exact .inl ⟨by omega, (call_eq ok hne).2.2⟩
    · exact .inr hi
  walk_at "nw"
  refine ⟨u, rfl, ok, ?_⟩
  walk_at "nw"
  refine ⟨u.due, u.ns, stW u, a, rfl, rfl, rfl, rfl, hso, hia, ?_⟩
  walk_at "nw"
  obtain ⟨t1, t2⟩ := tree_due ok hi hz
  rw [told_eq ok hi]
  refine ⟨rfl, t1, t2, ?_⟩
  walk_at "nw"
  refine lc_enc (xs := u.line) pr (fun _ => true) (fun e => .int e.1) (by omega) True.intro (fun e _ A B hA hB => ?_) ?_
  · walk_at "nw"
    exact hA rfl
  rw [flt]
  walk_at "nw"
  refine lc_enc (xs := List.range ((inI u.ns).length : Int).toNat) (fun (j : Nat) => .int (0 + (j : Int))) (fun _ => true) (fun j => .int (((u.line.map (·.1)).count (0 + (j : Int)) : Nat))) (by rw [List.length_range, List.length_map]; omega) True.intro (fun j _ A B hA hB => ?_) ?_
  · walk_at "nw"
    refine IntsL_i (u.line.map (·.1)) (by rw [List.map_map]; rfl) ?_
    walk_at "nw"
    exact hA rfl
  rw [flt]
  have ec : ((List.range ((inI u.ns).length : Int).toNat).map fun (j : Nat) => D.int (((u.line.map (·.1)).count (0 + (j : Int)) : Nat))) = inI ((List.range u.ns.length).map fun (j : Nat) => (((u.line.map (·.1)).count (0 + (j : Int)) : Nat) : Int)) := by
    show _ = List.map D.int _
    rw [List.map_map]
    have e0 : ((inI u.ns).length : Int).toNat = u.ns.length := by
      rw [Int.toNat_natCast]; exact List.length_map ..
    rw [e0]
    rfl
  walk_at "nw"
  rw [ec]
  rcases hi with ⟨rfl, hne⟩ | ⟨h0, h1⟩
  · obtain ⟨c1, c2, c3⟩ := call_eq ok hne
    walk_at "nw"
    refine ⟨u.due, u.ns, stW u, _, rfl, rfl, rfl, ?_, ?_, hso, c3, ?_⟩
    · rw [List.length_map, List.length_range]; exact hn6
    · cases hl : u.line with
      | nil => exact absurd hl hne
      | cons e r =>
        obtain ⟨i0, i1⟩ := ok.it e (by rw [hl]; exact List.mem_cons_self)
        refine ⟨_, List.mem_map.mpr ⟨e.1.toNat, List.mem_range.mpr (by omega), rfl⟩, ?_⟩
        have e3 : (0 + ((e.1.toNat : Nat) : Int)) = e.1 := by omega
        rw [e3, List.map_cons, List.count_cons_self]
        omega
    walk_at "nw"
    have e4 : D.tup [.int ((stW u).1.headD (0, 0)).1, stE u.due (callS u.due u.ns (stW u))] = dueW u (-1) := by
      rw [c1, c2]; rfl
    rw [e4]
    refine ⟨rfl, t1, t2, ?_⟩
    walk_at "nw"
    exact h
  · refine Cond_f (decide_eq_false (by omega)) ?_
    walk_at "nw"
    refine ⟨u.due, u.ns, stW u, a, rfl, rfl, rfl, hso, h0, h1, ?_⟩
    walk_at "nw"
    have e4 : stE u.due (comeS u.due u.ns (stW u) a) = dueW u a := by
      unfold dueW
      rw [if_neg (by omega), come_eq ok h0 h1]
    rw [e4]
    refine ⟨rfl, t1, t2, ?_⟩
    walk_at "nw"
    exact h
theorem pu__law_event (K : PySem.W.Frag) (ds : List D) (G : GH) (q : QD) (x : XD) (h : sp__law_event K ds G q x) : t__law_event K (dEnds q x) (startD n__law_event ds) G := by
  replace h := A4_x h
  obtain ⟨p, w, i, k, rfl, u, a, b, rfl, rfl, rfl, rfl, ok, hz, hi, h⟩ := h
  walk_at "nw"
  refine ⟨u, rfl, ok, ?_⟩
  walk_at "nw"
  rcases hi with ⟨rfl, hne⟩ | ⟨h0, h1⟩
  · obtain ⟨p1, p2, p3, p4⟩ := call_ok ok hne
    walk_at "nw"
    refine ⟨u, rfl, ok, hne, ?_⟩
    walk_at "nw"
    cases hl : u.line with
    | nil => exact absurd hl hne
    | cons e r =>
      refine AtD_i (d := pr e) at0 ?_
      walk_at "nw"
      refine ⟨callW u, rfl, p1, ?_⟩
      walk_at "nw"
      have hd : D.tup [.int e.1, stE (callW u).due (stW (callW u))] = dueW u (-1) := by
        unfold dueW
        rw [if_pos (by omega), hl, p3]
        rfl
      rw [hd]
      have h' : q (.lst [wD (callW u), .bl true, .lst [nmD u.due, .tup (inI u.ns), stE u.due (stW u), .int (-1), dueW u (-1)]]) G := h
      cases b
      · walk_at "nw"
        exact h'
      · walk_at "nw"
        refine ⟨u, -1, rfl, rfl, rfl, rfl, ok, hz, .inl ⟨rfl, hne⟩, ?_⟩
        walk_at "nw"
        exact h'
  · obtain ⟨p1, p2, p3, p4⟩ := come_ok ok h0 h1 hz
    refine Cond_f (decide_eq_false (by omega)) ?_
    walk_at "nw"
    refine ⟨u, a, rfl, rfl, ok, h0, h1, ?_⟩
    walk_at "nw"
    refine ⟨comeW u a, rfl, p1, ?_⟩
    walk_at "nw"
    have hd : stE (comeW u a).due (stW (comeW u a)) = dueW u a := by
      unfold dueW
      rw [if_neg (by omega), p3]
    rw [hd]
    have ha : aftW u a = comeW u a := by unfold aftW; rw [if_neg (by omega)]
    rw [ha] at h
    cases b
    · walk_at "nw"
      exact h
    · walk_at "nw"
      refine ⟨u, a, rfl, rfl, rfl, rfl, ok, hz, .inr ⟨h0, h1⟩, ?_⟩
      walk_at "nw"
      exact h
theorem start_ok (b : Bool) {ns : List Int} (hns : NsOk ns) : WOk ⟨b, ns, [], List.replicate ns.length 0, 0⟩ :=
  ⟨hns, fun e he => (nomatch he), List.length_replicate, Nat.zero_le _, fun _ => ⟨List.Pairwise.nil, fun e he => (nomatch he)⟩⟩
theorem pu__law_start_right (K : PySem.W.Frag) (ds : List D) (G : GH) (q : QD) (x : XD) (h : sp__law_start_right K ds G q x) : t__law_start_right K (dEnds q x) (startD n__law_start_right ds) G := by
  replace h := A2_x h
  obtain ⟨p, w, rfl, b, ns, rfl, hns, rfl, h⟩ := h
  walk_at "nw"
  refine ⟨b, ns, rfl, ?_⟩
  walk_at "nw"
  refine ⟨b, ns, rfl, ?_⟩
  walk_at "nw"
  refine ⟨b, ns, rfl, ?_⟩
  walk_at "nw"
  refine ⟨b, ns, rfl, ?_⟩
  walk_at "nw"
  refine ⟨b, ns, rfl, hns, ?_⟩
  walk_at "nw"
  have ok : WOk ⟨b, ns, [], List.replicate ns.length 0, 0⟩ := start_ok b hns
  refine ⟨⟨b, ns, [], List.replicate ns.length 0, 0⟩, rfl, ok, ?_⟩
  have e1 : stE b (stW ⟨b, ns, [], List.replicate ns.length 0, 0⟩) = stE b ([], bif b then [] else List.replicate ns.length 0) := by
    cases b
    · show D.tup [.tup [], .tup (inI ((List.replicate ns.length 0).map fun l => mx (l - 0) 0))] = D.tup [.tup [], .tup (inI (List.replicate ns.length 0))]
      rw [List.map_replicate]
      rfl
    · rfl
  have el : (inI ns).length = ns.length := List.length_map ..
  obtain ⟨t1, t2⟩ := tree_st b ([], bif b then [] else List.replicate ns.length 0)
  obtain ⟨t3, t4⟩ := trees_inI ns
  have hn6 : ns.length ≤ 6 := hns.2.1
  have ht : tree (.lst [nmD b, .tup (inI ns), .non, .int ns.length, stE b ([], bif b then [] else List.replicate ns.length 0)]) = true := by
    show (true && (trees (inI ns) && (true && (true && (tree (stE b ([], bif b then [] else List.replicate ns.length 0)) && true))))) = true
    rw [t1, t3]; rfl
  have hn : nodes (.lst [nmD b, .tup (inI ns), .non, .int ns.length, stE b ([], bif b then [] else List.replicate ns.length 0)]) < 400000 := by
    show 1 + (1 + ((1 + nodesA (inI ns)) + (1 + (1 + (nodes (stE b ([], bif b then [] else List.replicate ns.length 0)) + 0))))) < 400000
    have hr : (bif b then [] else List.replicate ns.length (0 : Int)).length ≤ 6 := by
      cases b
      · show (List.replicate ns.length (0 : Int)).length ≤ 6
        rw [List.length_replicate]; exact hn6
      · show 0 ≤ 6; omega
    have t2' : nodes (stE b ([], bif b then [] else List.replicate ns.length 0)) ≤ 3 + 3 * 0 + (bif b then [] else List.replicate ns.length (0 : Int)).length := t2
    omega
  walk_at "nc"
  refine Call_i ?_
  show D.lst _ = D.lst _ ∧ _
  refine ⟨?_, ht, hn, ?_⟩
  · show D.lst [nmD b, .tup (inI ns), .non, .int ns.length, stE b ([], bif b then [] else List.replicate ns.length 0)] = D.lst [nmD b, .tup (inI ns), .non, .int (inI ns).length, stE b (stW ⟨b, ns, [], List.replicate ns.length 0, 0⟩)]
    rw [e1, el]
  walk_at "nw"
  exact h
theorem pu__law_item_drawn (K : PySem.W.Frag) (ds : List D) (G : GH) (q : QD) (x : XD) (h : sp__law_item_drawn K ds G q x) : t__law_item_drawn K (dEnds q x) (startD n__law_item_drawn ds) G := by
  replace h := A3_x h
  obtain ⟨s, w, r, rfl, a, c, l, u, k, rfl, rfl, rfl, hS, ok, hk, h⟩ := h
  have hn1 : 1 ≤ u.ns.length := ok.ns.1
  have hn6 : u.ns.length ≤ 6 := ok.ns.2.1
  have last : ∀ G', Sto a c l G' → Sm3 a c l G G' → Call (sp__law_take K) [.ref a, .int (inI u.ns).length] G' (fun d G1 => Ret d G1 q) X0 := fun G' hS' hF =>
    take_c hS' (by rw [List.length_map]; omega) fun n G2 n0 n1 hS2 hF2 => Ret_i (h n G2 (.inr ⟨n0, by rw [List.length_map] at n1; omega⟩) hS2 fun b h1 h2 h3 => (hF2 b h1 h2 h3).trans (hF b h1 h2 h3))
  have fin : ∀ G', Sto a c l G' → Sm3 a c l G G' → gRet (gCallD (sp__law_take K) [] (gCons (gVar 0) (gCons (gCB cLen (gCons (gOp nIx (gVar 1) (gC (.int 1))) gNil)) gNil))) (dEnds q x) (startD n__law_item_drawn [.ref a, wD u, .int k]) G' := fun G' hS' hF => by
    walk_at "nc"
    exact last G' hS' hF
  walk_at "nc"
  refine Cond_i (fun hb => ?_) (fun hb => ?_)
  · walk_at "nc"
    refine take_c hS (by omega) fun n G2 n0 n1 hS2 hF2 => ?_
    walk_at "nc"
    refine Cond_i (fun hb2 => ?_) (fun hb2 => ?_)
    · walk_at "nc"
      refine h (-1) G2 (.inl ⟨rfl, ?_⟩) hS2 hF2
      intro z
      rw [z] at hb
      simp [prs] at hb
    · exact fin G2 hS2 hF2
  · refine Cond_f rfl ?_
    exact fin G hS fun _ _ _ _ => rfl
theorem Sm3.trans {a c l : Addr} {G1 G2 G3 : GH} (h : Sm3 a c l G1 G2) (h' : Sm3 a c l G2 G3) : Sm3 a c l G1 G3 := fun b h1 h2 h3 => (h' b h1 h2 h3).trans (h b h1 h2 h3)
theorem rep_flat' {n : Nat} {v : Int} : (List.replicate n [D.int v]).flatten = inI (List.replicate n v) := by
  induction n with
  | zero => rfl
  | succ n ih => rw [List.replicate_succ, List.flatten_cons, ih, List.replicate_succ]; rfl
theorem pu__law_world (K : PySem.W.Frag) (ds : List D) (G : GH) (q : QD) (x : XD) (h : sp__law_world K ds G q x) : t__law_world K (dEnds q x) (startD n__law_world ds) G := by
  replace h := A2_x h
  obtain ⟨s, n, rfl, a, c, l, b, rfl, rfl, hS, h⟩ := h
  walk_at "nc"
  refine take_c hS (by omega) fun n G2 n0 n1 hS2 hF2 => ?_
  walk_at "nc"
  refine LcD_i (fun i acc G' => Sto a c l G' ∧ Sm3 a c l G G' ∧ ∃ ns : List Int, acc = inI ns ∧ ns.length = i ∧ ∀ m ∈ ns, 1 ≤ m ∧ m ≤ 9) ⟨hS2, hF2, [], rfl, rfl, by simp⟩ (fun _ _ _ _ _ => True.intro) ?_ ?_
  · rintro i d acc G' hd ⟨hS3, hF3, ns, rfl, hl, hns⟩
    have hi := (List.getElem?_eq_some_iff.mp hd).1
    rw [rng_len] at hi
    walk_at "nc"
    refine take_c hS3 (by omega) fun r G3 r0 r1 hS4 hF4 => ?_
    walk_at "nc"
    refine ⟨by rw [List.length_map, PySem.sizeLine_eq]; omega, hS4, hF3.trans hF4, ns ++ [1 + r], by simp, by simp [hl], fun m hm => ?_⟩
    rcases List.mem_append.mp hm with hm | hm
    · exact hns m hm
    · rw [List.mem_singleton.mp hm]; omega
  · rintro acc G' ⟨hS3, hF3, ns, rfl, hl, hns⟩
    rw [rng_len] at hl
    have hnk : NsOk ns := ⟨by omega, by omega, hns⟩
    have hl1 : (1 + n).toNat = ns.length := hl.symm
    have fin : ∀ ms G2 τ, NsOk ms → ms.length = ns.length → Sto a c l G2 → Sm3 a c l G G2 → τ = [some (.ref a), some (nmD b), some (.int (1 + n)), some (.tup (inI ms)), none] →
        gRet (gLst (gCons (gVar 1) (gCons (gVar 3) (gCons (gLst gNil) (gCons (gOp nMul (gLst (gCons (gC (.int 0)) gNil)) (gVar 2)) (gCons (gC (.int 0)) gNil)))))) (dEnds q x) τ G2 := fun ms G2 τ ok e hS hF et => by
      subst et
      walk_at "nc"
      refine Sd_i ⟨by omega, by omega, sz_le (by show 1 * _ ≤ _; omega)⟩ ?_
      walk_at "nc"
      rw [hl1, rep_flat', ← e]
      exact h ms G2 ok hS hF
    walk_at "nc"
    refine take_c hS3 (by omega) fun r G3 r0 r1 hS4 hF4 => ?_
    walk_at "nc"
    refine Cond_i (fun hb => ?_) (fun hb => ?_)
    · have hp : 0 < ns.length := by omega
      cases ns with
      | nil => simp at hp
      | cons n1 nr =>
        have hv1 := hns n1 List.mem_cons_self
        walk_at "nc"
        refine AtD_i (d := .int n1) at0 ?_
        walk_at "nc"
        refine of_c hS4 (by simp) (by show 3 < _; decide) fun d G4 hd hS5 hF5 => ?_
        obtain ⟨v, rfl, hv⟩ : ∃ v, d = .int v ∧ 1 ≤ v ∧ v ≤ 9 := by
          rcases List.mem_cons.mp hd with rfl | hd
          · exact ⟨1, rfl, by omega⟩
          rcases List.mem_cons.mp hd with rfl | hd
          · exact ⟨9, rfl, by omega⟩
          rw [List.mem_singleton.mp hd]
          exact ⟨n1, rfl, hv1⟩
        walk_at "nc"
        refine Sd_i ⟨by omega, by omega, sz_le (by show 1 * _ ≤ _; omega)⟩ ?_
        walk_at "nc"
        have hv2 := h (List.replicate (1 + n).toNat v) G4 ⟨by rw [List.length_replicate]; omega, by rw [List.length_replicate]; omega, fun m hm => by rw [(List.mem_replicate.mp hm).2]; exact hv⟩ hS5 ((hF3.trans hF4).trans hF5)
        rw [List.length_replicate] at hv2
        rw [rep_flat', rep_flat']
        exact hv2
    · exact fin ns G3 _ hnk rfl hS4 (hF3.trans hF4) rfl
end N
namespace N
open PySem PySem.Spec PyProof.Rows L2
local macro_rules
  | `(tactic| walk_at "nl") => `(tactic| first
    | with_reducible assumption
    | exact gup_same
    | (refine (gup_ne (by with_reducible assumption)).trans ?_; walk_at "nl")
    | (refine (gup_ne (Ne.symm (by with_reducible assumption))).trans ?_; walk_at "nl"))
local macro_rules
  | `(tactic| walk_at "ns") => `(tactic| first
    | with_reducible assumption
    | omega
    | exact Eq.refl _
    | (apply Nat.le_of_ble_eq_true; exact Eq.refl _)
    | exact And.intro (by decide +kernel) (by decide +kernel)
    | exact or_ll (by decide +kernel) (by decide +kernel)
    | exact or_lr (by decide +kernel) (by decide +kernel)
    | exact Or.inr (cmulw (by decide +kernel))
    | exact IsLst_r (by walk_at "nl")
    | exact IsLst_v
    | exact IsIns_v True.intro
    | exact IsIns_v (by decide +kernel)
    | (apply of_decide_eq_true; decide +kernel)
    | (simp; done)
    | (simp; omega))
local macro_rules
  | `(tactic| walk_at "n0") => `(tactic| first
    | refine Sd_i (by walk_at "ns") ?_
    | refine Cond_t (Eq.refl _) ?_
    | refine Cond_f (Eq.refl _) ?_
    | refine Cond_t (by with_reducible assumption) ?_
    | refine Cond_f (by with_reducible assumption) ?_
    | refine NewL_v ?_
    | refine LkL_i (by walk_at "nl") ?_
    | refine AtD_i (Eq.refl _) ?_
    | refine IsIns_v ?_
    | refine IsIns_r (by walk_at "nl") ?_
    | refine StF_i (by walk_at "nl") (by walk_at "ns") ?_
    | refine Fd_i 0 (by decide +kernel) (Eq.refl _) ?_
    | refine Fd_i 1 (by decide +kernel) (Eq.refl _) ?_
    | refine Fd_i 2 (by decide +kernel) (Eq.refl _) ?_
    | refine Fd_i 3 (by decide +kernel) (Eq.refl _) ?_
    | refine Fd_i 4 (by decide +kernel) (Eq.refl _) ?_
    | refine IntsQ_t _ (Eq.refl _) ?_
    | refine IntsQ_l _ (Eq.refl _) ?_
    | refine IntsL_i _ (Eq.refl _) ?_
    | refine BlsL_i _ (Eq.refl _) ?_
    | refine Ret_i (d := .int _) ?_
    | refine Ret_i (d := .bl _) ?_
    | refine Ret_i (d := .tup _) ?_
    | refine Ret_i (d := .lst _) ?_
    | refine Ret_i (d := .str _) ?_
    | refine Ret_i (d := .non) ?_)
local macro_rules
  | `(tactic| walk_at "n1") => `(tactic| first
    | walk_at "n0"
    | refine Call_i ?_)
local macro_rules
  | `(tactic| walk_at "nc") => `(tactic| (
      repeat (conv => whnf
              walk_at "n0")
      try (conv => whnf)))
local macro_rules
  | `(tactic| walk_at "nw") => `(tactic| (
      repeat (conv => whnf
              walk_at "n1")
      try (conv => whnf)))
def w0 (b : Bool) (ns : List Int) : Wld := ⟨b, ns, [], List.replicate ns.length 0, 0⟩
def polW (K : PySem.W.Frag) (u : Wld) : D := polD K u.due u.ns
def stepD (s : Wld × Int) : D := .lst [nmD s.1.due, .tup (inI s.1.ns), stE s.1.due (stW s.1), .int s.2, dueW s.1 s.2]
structure LI (K : PySem.W.Frag) (a c l w f : Addr) (pols : List D) (us : List Wld) (ss : List (Wld × Int)) (G : GH) : Prop where
  st : Sto a c l G
  gw : G w = some (.lst (us.map wD))
  gf : G f = some (.lst (ss.map stepD))
  n3 : us.length = 3
  po : pols = us.map (polW K)
  ok : ∀ u ∈ us, WOk u
  so : ∀ s ∈ ss, WOk s.1 ∧ s.1.line.length < 9999 ∧ ItOkW s.1 s.2
  s9 : ss.length ≤ 9
  d1 : w ≠ a ∧ w ≠ c ∧ w ≠ l ∧ f ≠ a ∧ f ≠ c ∧ f ≠ l ∧ w ≠ f
theorem LI.sm {K : PySem.W.Frag} {a c l w f : Addr} {pols : List D} {us : List Wld} {ss : List (Wld × Int)} {G G' : GH} (h : LI K a c l w f pols us ss G) (hS : Sto a c l G') (hF : Sm3 a c l G G') : LI K a c l w f pols us ss G' :=
  let ⟨d1, d2, d3, d4, d5, d6, d7⟩ := h.d1
  ⟨hS, (hF w d1 d2 d3).trans h.gw, (hF f d4 d5 d6).trans h.gf, h.n3, h.po, h.ok, h.so, h.s9, h.d1⟩
theorem at_map {α : Type} {xs : List α} (e : α → D) {i : Int} (h0 : 0 ≤ i) (h1 : i < xs.length) : ∃ x, xs[i.toNat]? = some x ∧ x ∈ xs ∧ ∀ e : α → D, atI (xs.map e) i = some (e x) := by
  have hl : i.toNat < xs.length := by omega
  refine ⟨xs[i.toNat], List.getElem?_eq_getElem hl, List.getElem_mem hl, fun e => ?_⟩
  unfold atI ixN
  rw [if_pos h0, if_pos (by rw [List.length_map]; exact h1)]
  show (xs.map e)[i.toNat]? = _
  rw [List.getElem?_map, List.getElem?_eq_getElem hl]
  rfl
theorem sto_up {a c l p : Addr} {o : GO} {G : GH} (h : Sto a c l G) (h1 : p ≠ a) (h2 : p ≠ c) (h3 : p ≠ l) : Sto a c l (gup G p o) := by
  obtain ⟨n1, n2, n3, cs, ls, at_, seed, k, e1, e2, e3, r⟩ := h
  exact ⟨n1, n2, n3, cs, ls, at_, seed, k, (gup_ne (Ne.symm h1)).trans e1, (gup_ne (Ne.symm h2)).trans e2, (gup_ne (Ne.symm h3)).trans e3, r⟩
/-- a step taken: the world is replaced -/
theorem LI.step {K : PySem.W.Frag} {a c l w f : Addr} {pols : List D} {us : List Wld} {ss : List (Wld × Int)} {G : GH} {n : Nat} {u v : Wld} (h : LI K a c l w f pols us ss G) (hu : us[n]? = some u) (hv : WOk v) (e1 : v.due = u.due) (e2 : v.ns = u.ns) :
    LI K a c l w f pols (us.set n v) ss (gup G w (.lst ((us.map wD).set n (wD v)))) := by
  obtain ⟨d1, d2, d3, d4, d5, d6, d7⟩ := h.d1
  refine ⟨sto_up h.st d1 d2 d3, ?_, (gup_ne (Ne.symm d7)).trans h.gf, by rw [List.length_set]; exact h.n3, ?_, fun x hx => ?_, h.so, h.s9, h.d1⟩
  · rw [gup_same, List.map_set]
  · rw [h.po, List.map_set]
    apply List.ext_getElem?
    intro j
    by_cases hj : n = j
    · subst hj
      rw [List.getElem?_map, hu]
      have hl := (List.getElem?_eq_some_iff.mp hu).1
      rw [List.getElem?_set_self (by rw [List.length_map]; exact hl)]
      show some (polD K u.due u.ns) = some (polD K v.due v.ns)
      rw [e1, e2]
    · rw [List.getElem?_set_ne hj]
  · rcases List.mem_or_eq_of_mem_set hx with hx | rfl
    · exact h.ok x hx
    · exact hv
theorem LI.push {K : PySem.W.Frag} {a c l w f : Addr} {pols : List D} {us : List Wld} {ss : List (Wld × Int)} {G : GH} (h : LI K a c l w f pols us ss G) (s : Wld × Int) (hs : WOk s.1 ∧ s.1.line.length < 9999 ∧ ItOkW s.1 s.2) (h9 : ss.length < 9) :
    LI K a c l w f pols us (ss ++ [s]) (gup G f (.lst (ss.map stepD ++ [stepD s]))) := by
  obtain ⟨d1, d2, d3, d4, d5, d6, d7⟩ := h.d1
  refine ⟨sto_up h.st d4 d5 d6, (gup_ne d7).trans h.gw, ?_, h.n3, h.po, h.ok, fun x hx => ?_, by rw [List.length_append]; show ss.length + 1 ≤ 9; omega, h.d1⟩
  · rw [gup_same, List.map_append]; rfl
  · rcases List.mem_append.mp hx with hx | hx
    · exact h.so x hx
    · rw [List.mem_singleton.mp hx]; exact hs
theorem pu_law (K : PySem.W.Frag) (ds : List D) (G : GH) (q : QD) (x : XD) (h : sp_law K ds G q x) : t_law K (dEnds q x) (startD n_law ds) G := by
  replace h := A1_x h
  obtain ⟨s, rfl, ns, rfl, hl, hG, h⟩ := h
  walk_at "nc"
  refine Call_i ⟨ns, rfl, by omega, fun a c l G1 hS1 ga gc gl hF1 => ?_⟩
  walk_at "nc"
  refine of_c hS1 (by simp) (by show 2 < _; decide) fun d G2 hd hS2 hF2 => ?_
  obtain ⟨b3, rfl⟩ : ∃ b, d = nmD b := by
    rcases List.mem_cons.mp hd with rfl | hd
    · exact ⟨true, rfl⟩
    · rw [List.mem_singleton.mp hd]; exact ⟨false, rfl⟩
  walk_at "nc"
  refine LcD_i (fun i acc G' => Sto a c l G' ∧ Sm3 a c l G G' ∧ ∃ us : List Wld, acc = us.map wD ∧ us.length = i ∧ ∀ u ∈ us, ∃ b ns, NsOk ns ∧ u = w0 b ns) ⟨hS2, hF1.trans hF2, [], rfl, rfl, by simp⟩ (fun _ _ _ _ _ => True.intro) ?_ ?_
  · rintro i d acc G' hd ⟨hS3, hF3, us, rfl, hl, hus⟩
    have hi := (List.getElem?_eq_some_iff.mp hd).1
    obtain ⟨b, rfl⟩ : ∃ b, d = nmD b := by
      rcases List.mem_cons.mp (List.mem_of_getElem? hd) with rfl | hd
      · exact ⟨true, rfl⟩
      rcases List.mem_cons.mp hd with rfl | hd
      · exact ⟨false, rfl⟩
      rw [List.mem_singleton.mp hd]
      exact ⟨b3, rfl⟩
    walk_at "nc"
    refine Call_i ⟨a, c, l, b, rfl, rfl, hS3, fun ms G4 hms hS4 hF4 => ?_⟩
    walk_at "nc"
    refine ⟨?_, hS4, hF3.trans hF4, us ++ [w0 b ms], by rw [List.map_append]; rfl, by simp [hl], fun u hu => ?_⟩
    · rw [List.length_map, hl, PySem.sizeLine_eq]
      have : i < 3 := hi
      omega
    · rcases List.mem_append.mp hu with hu | hu
      · exact hus u hu
      · rw [List.mem_singleton.mp hu]; exact ⟨b, ms, hms, rfl⟩
  · rintro acc G' ⟨hS3, hF3, us, rfl, hl3, hus⟩
    have hl3 : us.length = 3 := hl3
    refine NewM_i fun w hw => ?_
    have wa : w ≠ a := by intro z; rw [z] at hw; obtain ⟨_, _, _, _, _, _, _, _, e, _⟩ := hS3; rw [e] at hw; cases hw
    have wc : w ≠ c := by intro z; rw [z] at hw; obtain ⟨_, _, _, _, _, _, _, _, _, e, _⟩ := hS3; rw [e] at hw; cases hw
    have wl : w ≠ l := by intro z; rw [z] at hw; obtain ⟨_, _, _, _, _, _, _, _, _, _, e, _⟩ := hS3; rw [e] at hw; cases hw
    have hS5 : Sto a c l (gup G' w (.lst (us.map wD))) := sto_up hS3 wa wc wl
    have gw : gup G' w (.lst (us.map wD)) w = some (.lst (us.map wD)) := gup_same
    generalize hG5 : gup G' w (.lst (us.map wD)) = G5 at hS5 gw
    walk_at "nc"
    refine lc_enc (xs := us) wD (fun _ => true) (polW K) (by omega) gw (fun u hu A B hA hB => ?_) ?_
    · obtain ⟨b, ms, hms, rfl⟩ := hus u hu
      walk_at "nc"
      refine NewO_i fun p hp => ?_
      refine Call_i ⟨p, b, ms, rfl, rfl, rfl, rfl, hms, gup_same, rfl, ?_⟩
      refine Ret_ow G5 (by rw [gup_gup]; exact subG_up hp) hp gup_same ?_
      exact hA rfl
    rw [flt]
    walk_at "nc"
    refine ForD_i (fun i τ G' => G' = G5 ∧ ∃ o4, τ = [some (.ro (List.map D.int ns)), some (.ref a), some (.ref w), some (.lst (us.map (polW K))), o4] ++ List.replicate 15 none) ⟨rfl, _, rfl⟩ (fun _ _ _ _ _ => True.intro) ?_ ?_
    · rintro i d τ G' hd ⟨rfl, o4, rfl⟩
      have hi := (List.getElem?_eq_some_iff.mp hd).1
      rw [rng_len] at hi
      rw [rng_at hi] at hd
      cases hd
      have hi3 : i < 3 := hi
      obtain ⟨u, hu1, hu2, hu3⟩ := at_map (xs := us) wD (i := 0 + (i : Int)) (by omega) (by omega)
      obtain ⟨b, ms, hms, rfl⟩ := hus u hu2
      walk_at "nc"
      refine AtD_i (hu3 _) ?_
      walk_at "nc"
      refine AtD_i (hu3 _) ?_
      walk_at "nc"
      refine Call_i ⟨b, ms, rfl, hms, rfl, ?_⟩
      walk_at "nc"
      exact ⟨rfl, _, rfl⟩
    · rintro τ G' ⟨rfl, o4, rfl⟩
      walk_at "nc"
      refine of_c hS5 (by simp) (by show 9 + 1 < _; decide) fun d G6 hd hS6 hF6 => ?_
      obtain ⟨ev, rfl, hev⟩ : ∃ ev : Int, d = .int ev ∧ 18 ≤ ev ∧ ev ≤ 200 := by
        rcases List.mem_append.mp hd with hd | hd
        · obtain ⟨z, hz, hd⟩ := List.mem_flatten.mp hd
          rw [(List.mem_replicate.mp hz).2] at hd
          rw [List.mem_singleton.mp hd]
          exact ⟨18, rfl, by omega⟩
        · rw [List.mem_singleton.mp hd]
          exact ⟨200, rfl, by omega⟩
      have gw6 := (hF6 w wa wc wl).trans gw
      walk_at "nc"
      refine NewM_i fun f hf => ?_
      have fa : f ≠ a := by intro z; rw [z] at hf; obtain ⟨_, _, _, _, _, _, _, _, e, _⟩ := hS6; rw [e] at hf; cases hf
      have fc : f ≠ c := by intro z; rw [z] at hf; obtain ⟨_, _, _, _, _, _, _, _, _, e, _⟩ := hS6; rw [e] at hf; cases hf
      have fl : f ≠ l := by intro z; rw [z] at hf; obtain ⟨_, _, _, _, _, _, _, _, _, _, e, _⟩ := hS6; rw [e] at hf; cases hf
      have wf : w ≠ f := ne_new gw6 hf
      have li : LI K a c l w f (us.map (polW K)) us [] (gup G6 f (.lst [])) :=
        ⟨sto_up hS6 fa fc fl, (gup_ne wf).trans gw6, gup_same, hl3, rfl, fun u hu => by
          obtain ⟨b, ms, hms, rfl⟩ := hus u hu
          exact start_ok b hms, by simp, by simp, ⟨wa, wc, wl, fa, fc, fl, wf⟩⟩
      have hz0 : ∀ u ∈ us, u.line.length ≤ 0 := fun u hu => by
        obtain ⟨b, ms, hms, rfl⟩ := hus u hu
        exact Nat.le_refl _
      have hrb : 5 + ev / 15 < 2 ^ 60 := by omega
      generalize hpols : us.map (polW K) = pols at li
      walk_at "nc"
      generalize hrare : 5 + ev / 15 = rare at hrb
      refine ForD_i (fun i τ G' => ∃ us ss o4 o8 o9 o10 o11 o12, LI K a c l w f pols us ss G' ∧ (∀ u ∈ us, u.line.length ≤ i) ∧
          τ = [some (.ro (List.map D.int ns)), some (.ref a), some (.ref w), some (.lst pols), o4, some (.int ev), some (.ref f), some (.int rare), o8, o9, o10, o11, o12] ++ List.replicate 7 none)
        ⟨us, [], _, _, _, _, _, _, li, hz0, rfl⟩ (fun _ _ _ _ _ => True.intro) ?_ ?_
      · rintro i d τ G' hd ⟨us, ss, o4, o8, o9, o10, o11, o12, li, hz, rfl⟩
        have hi := (List.getElem?_eq_some_iff.mp hd).1
        rw [rng_len] at hi
        rw [rng_at hi] at hd
        cases hd
        have nw : f ≠ w := Ne.symm wf
        walk_at "nc"
        refine take_c li.st (by omega) fun n G2 n0 n1 hS2 hF2 => ?_
        have li2 := li.sm hS2 hF2
        have hn3 : n < us.length := by rw [li.n3]; omega
        obtain ⟨u, hu1, hu2, hu3⟩ := at_map (xs := us) wD n0 hn3
        have hul := hz u hu2
        have hsx : 0 ≤ n ∧ n < ((us.map wD).length : Int) := by rw [List.length_map]; exact ⟨n0, hn3⟩
        have hup : atI pols n = some (polW K u) := by rw [li.po]; exact hu3 (polW K)
        walk_at "nc"
        refine Cond_i (fun hb => ?_) (fun hb => ?_)
        · have li3 := li2
          have gw3 := li3.gw
          walk_at "nc"
          refine AtD_i hup ?_
          walk_at "nc"
          refine AtD_i (hu3 wD) ?_
          walk_at "nc"
          refine AtD_i (hu3 wD) ?_
          walk_at "nc"
          refine Call_i ⟨a, c, l, u, rare, rfl, rfl, rfl, li3.st, li3.ok u hu2, hrb, fun it G4 hit hS4 hF4 => ?_⟩
          have li4 := li3.sm hS4 hF4
          have gw4 := li4.gw
          have gf4 := li4.gf
          walk_at "nc"
          refine Call_i ⟨u, it, _, rfl, rfl, rfl, rfl, li3.ok u hu2, by omega, hit, ?_⟩
          obtain ⟨v1, v2, v3, v4, _⟩ := aft_ok (li3.ok u hu2) hit (by omega)
          have li5 := li4.step hu1 v1 v3 v4
          have hz5 : ∀ y ∈ us.set n.toNat (aftW u it), y.line.length ≤ i + 1 := fun y hy => by
            rcases List.mem_or_eq_of_mem_set hy with hy | rfl
            · exact Nat.le_succ_of_le (hz y hy)
            · omega
          walk_at "nc"
          refine Cond_i (fun hb => ?_) (fun hb => ?_)
          · have hb9 : ss.length < 9 := by
              have := of_decide_eq_true hb
              rw [List.length_map] at this
              omega
            have hls : (List.map stepD ss).length < sizeLine := by rw [List.length_map, PySem.sizeLine_eq]; omega
            walk_at "nc"
            exact ⟨_, _, _, _, _, _, _, _, li5.push (u, it) ⟨li3.ok u hu2, by show u.line.length < 9999; omega, hit⟩ hb9, hz5, rfl⟩
          · conv => whnf
            exact ⟨_, _, _, _, _, _, _, _, li5, hz5, rfl⟩
        · walk_at "nc"
          refine Cond_i (fun hb => ?_) (fun hb => ?_)
          · have li3 := li2
            have gw3 := li3.gw
            walk_at "nc"
            refine AtD_i hup ?_
            walk_at "nc"
            refine AtD_i (hu3 wD) ?_
            walk_at "nc"
            refine AtD_i (hu3 wD) ?_
            walk_at "nc"
            refine Call_i ⟨a, c, l, u, rare, rfl, rfl, rfl, li3.st, li3.ok u hu2, hrb, fun it G4 hit hS4 hF4 => ?_⟩
            have li4 := li3.sm hS4 hF4
            have gw4 := li4.gw
            have gf4 := li4.gf
            walk_at "nc"
            refine Call_i ⟨u, it, _, rfl, rfl, rfl, rfl, li3.ok u hu2, by omega, hit, ?_⟩
            obtain ⟨v1, v2, v3, v4, _⟩ := aft_ok (li3.ok u hu2) hit (by omega)
            have li5 := li4.step hu1 v1 v3 v4
            have hz5 : ∀ y ∈ us.set n.toNat (aftW u it), y.line.length ≤ i + 1 := fun y hy => by
              rcases List.mem_or_eq_of_mem_set hy with hy | rfl
              · exact Nat.le_succ_of_le (hz y hy)
              · omega
            walk_at "nc"
            refine Cond_i (fun hb => ?_) (fun hb => ?_)
            · have hb9 : ss.length < 9 := by
                have := of_decide_eq_true hb
                rw [List.length_map] at this
                omega
              have hls : (List.map stepD ss).length < sizeLine := by rw [List.length_map, PySem.sizeLine_eq]; omega
              walk_at "nc"
              exact ⟨_, _, _, _, _, _, _, _, li5.push (u, it) ⟨li3.ok u hu2, by show u.line.length < 9999; omega, hit⟩ hb9, hz5, rfl⟩
            · conv => whnf
              exact ⟨_, _, _, _, _, _, _, _, li5, hz5, rfl⟩
          · walk_at "nc"
            refine take_c li2.st (by omega) fun r G3 r0 r1 hS3 hF3 => ?_
            have li3 := li2.sm hS3 hF3
            have gw3 := li3.gw
            walk_at "nc"
            refine AtD_i hup ?_
            walk_at "nc"
            refine AtD_i (hu3 wD) ?_
            walk_at "nc"
            refine AtD_i (hu3 wD) ?_
            walk_at "nc"
            refine Call_i ⟨a, c, l, u, rare, rfl, rfl, rfl, li3.st, li3.ok u hu2, hrb, fun it G4 hit hS4 hF4 => ?_⟩
            have li4 := li3.sm hS4 hF4
            have gw4 := li4.gw
            have gf4 := li4.gf
            walk_at "nc"
            refine Call_i ⟨u, it, _, rfl, rfl, rfl, rfl, li3.ok u hu2, by omega, hit, ?_⟩
            obtain ⟨v1, v2, v3, v4, _⟩ := aft_ok (li3.ok u hu2) hit (by omega)
            have li5 := li4.step hu1 v1 v3 v4
            have hz5 : ∀ y ∈ us.set n.toNat (aftW u it), y.line.length ≤ i + 1 := fun y hy => by
              rcases List.mem_or_eq_of_mem_set hy with hy | rfl
              · exact Nat.le_succ_of_le (hz y hy)
              · omega
            walk_at "nc"
            refine Cond_i (fun hb => ?_) (fun hb => ?_)
            · have hb9 : ss.length < 9 := by
                have := of_decide_eq_true hb
                rw [List.length_map] at this
                omega
              have hls : (List.map stepD ss).length < sizeLine := by rw [List.length_map, PySem.sizeLine_eq]; omega
              walk_at "nc"
              exact ⟨_, _, _, _, _, _, _, _, li5.push (u, it) ⟨li3.ok u hu2, by show u.line.length < 9999; omega, hit⟩ hb9, hz5, rfl⟩
            · conv => whnf
              exact ⟨_, _, _, _, _, _, _, _, li5, hz5, rfl⟩
      · rintro τ G' ⟨us, ss, o4, o8, o9, o10, o11, o12, li, hz, rfl⟩
        have hz : ∀ u ∈ us, u.line.length ≤ 200 := fun u hu => by
          have := hz u hu
          rw [rng_len] at this
          omega
        walk_at "nc"
        refine ForD_i (fun i τ G' => ∃ us ss o4 o8 o9 o10 o11 o12 o13, LI K a c l w f pols us ss G' ∧ (∀ u ∈ us, u.line.length ≤ 200) ∧
            τ = [some (.ro (List.map D.int ns)), some (.ref a), some (.ref w), some (.lst pols), o4, some (.int ev), some (.ref f), some (.int rare), o8, o9, o10, o11, o12, o13] ++ List.replicate 6 none)
          ⟨us, ss, _, _, _, _, _, _, _, li, hz, rfl⟩ (fun _ _ _ _ _ => True.intro) ?_ ?_
        · rintro i d τ G' hd ⟨us, ss, o4, o8, o9, o10, o11, o12, o13, li, hz, rfl⟩
          have hi := (List.getElem?_eq_some_iff.mp hd).1
          rw [rng_len] at hi
          rw [rng_at hi] at hd
          cases hd
          have hi3 : i < 3 := hi
          have hn3 : 0 + (i : Int) < us.length := by rw [li.n3]; omega
          obtain ⟨u, hu1, hu2, hu3⟩ := at_map (xs := us) wD (i := 0 + (i : Int)) (by omega) hn3
          have hul := hz u hu2
          have gw0 := li.gw
          walk_at "nc"
          refine AtD_i (hu3 wD) ?_
          have el : (prs u.line).length = u.line.length := List.length_map ..
          walk_at "nc"
          refine ForD_i (fun j τ G' => ∃ us' v o8 o9 o10 o11 o12, LI K a c l w f pols us' ss G' ∧ us'[(0 + (i : Int)).toNat]? = some v ∧ (∀ u ∈ us', u.line.length ≤ 200) ∧ v.line.length + j = u.line.length ∧
              τ = [some (.ro (List.map D.int ns)), some (.ref a), some (.ref w), some (.lst pols), some (.int (0 + (i : Int))), some (.int ev), some (.ref f), some (.int rare), o8, o9, o10, o11, o12, some (.int ((prs u.line).length : Int))] ++ List.replicate 6 none)
            ⟨us, u, _, _, _, _, _, li, hu1, hz, rfl, rfl⟩ (fun _ _ _ _ _ => True.intro) ?_ ?_
          · rintro j d τ G' hd ⟨us', v, o8, o9, o10, o11, o12, li', hv1, hz', hvl, rfl⟩
            have hj := (List.getElem?_eq_some_iff.mp hd).1
            rw [rng_len] at hj
            rw [rng_at hj] at hd
            cases hd
            have hjl : j < u.line.length := by omega
            have hn3 : 0 + (i : Int) < us'.length := by rw [li'.n3]; omega
            obtain ⟨u', hu1', hu2, hu3⟩ := at_map (xs := us') wD (i := 0 + (i : Int)) (by omega) hn3
            have euv : u' = v := by rw [hv1] at hu1'; exact (Option.some.inj hu1').symm
            subst euv
            have hne : u'.line ≠ [] := by intro z; rw [z] at hvl; simp at hvl; omega
            have hup : atI pols (0 + (i : Int)) = some (polW K u') := by rw [li'.po]; exact hu3 (polW K)
            have hsx : 0 ≤ 0 + (i : Int) ∧ 0 + (i : Int) < ((us'.map wD).length : Int) := by rw [List.length_map]; exact ⟨by omega, hn3⟩
            have hit : ItOkW u' (-1) := .inl ⟨rfl, hne⟩
            have hul' := hz' u' hu2
            obtain ⟨v1, v2, v3, v4, v5⟩ := aft_ok (li'.ok u' hu2) hit (by omega)
            have v6 := v5 (by omega)
            have hset : (us'.set (0 + (i : Int)).toNat (aftW u' (-1)))[(0 + (i : Int)).toNat]? = some (aftW u' (-1)) := by
              rw [List.getElem?_set_self]
              exact (List.getElem?_eq_some_iff.mp hu1').1
            have hz5 : ∀ y ∈ us'.set (0 + (i : Int)).toNat (aftW u' (-1)), y.line.length ≤ 200 := fun y hy => by
              rcases List.mem_or_eq_of_mem_set hy with hy | rfl
              · exact hz' y hy
              · omega
            have hlen : (aftW u' (-1)).line.length + (j + 1) = u.line.length := by omega
            have hu1 := hu1'
            walk_at "nc"
            refine Cond_i (fun hb => ?_) (fun hb => ?_)
            · have li3 := li'
              have gw3 := li3.gw
              walk_at "nc"
              refine AtD_i hup ?_
              walk_at "nc"
              refine AtD_i (hu3 wD) ?_
              walk_at "nc"
              refine Call_i ⟨u', -1, _, rfl, rfl, rfl, rfl, li3.ok u' hu2, by omega, hit, ?_⟩
              have li5 := li3.step hu1 v1 v3 v4
              walk_at "nc"
              exact ⟨_, _, _, _, _, _, _, li5, hset, hz5, hlen, rfl⟩
            · walk_at "nc"
              refine take_c li'.st (by omega) fun r G3 r0 r1 hS3 hF3 => ?_
              have li3 := li'.sm hS3 hF3
              have gw3 := li3.gw
              walk_at "nc"
              refine AtD_i hup ?_
              walk_at "nc"
              refine AtD_i (hu3 wD) ?_
              walk_at "nc"
              refine Call_i ⟨u', -1, _, rfl, rfl, rfl, rfl, li3.ok u' hu2, by omega, hit, ?_⟩
              have li5 := li3.step hu1 v1 v3 v4
              walk_at "nc"
              exact ⟨_, _, _, _, _, _, _, li5, hset, hz5, hlen, rfl⟩
          · rintro τ G' ⟨us', v, o8, o9, o10, o11, o12, li', hv1, hz', hvl, rfl⟩
            conv => whnf
            exact ⟨us', ss, _, _, _, _, _, _, _, li', hz', rfl⟩
        · rintro τ G' ⟨us, ss, o4, o8, o9, o10, o11, o12, o13, li, hz, rfl⟩
          have gf := li.gf
          walk_at "nc"
          refine ForD_i (fun i τ G'' => G'' = G' ∧ ∃ o14 o15 o16 o17 o18, τ = [some (.ro (List.map D.int ns)), some (.ref a), some (.ref w), some (.lst pols), o4, some (.int ev), some (.ref f), some (.int rare), o8, o9, o10, o11, o12, o13, o14, o15, o16, o17, o18, none])
            ⟨rfl, _, _, _, _, _, rfl⟩ (fun i τ G'' _ z => by rw [z.1]; exact gf) ?_ ?_
          · rintro i d τ G'' hd ⟨rfl, o14, o15, o16, o17, o18, rfl⟩
            rw [List.getElem?_map] at hd
            cases hs : ss[i]? with
            | none => rw [hs] at hd; cases hd
            | some s =>
              rw [hs] at hd
              cases hd
              obtain ⟨s1, s2, s3⟩ := li.so s (List.mem_of_getElem? hs)
              obtain ⟨t1, t2⟩ := tree_due s1 s3 s2
              have hia : (s.2 < 0 ∧ (stW s.1).1 ≠ []) ∨ (0 ≤ s.2 ∧ s.2 < s.1.ns.length) := by
                rcases s3 with ⟨e, hne⟩ | hi
                · exact .inl ⟨by omega, (call_eq s1 hne).2.2⟩
                · exact .inr hi
              walk_at "nc"
              refine Call_i ⟨s.1.due, s.1.ns, stW s.1, s.2, rfl, rfl, rfl, rfl, st_ok s1, hia, ?_⟩
              rw [told_eq s1 s3]
              walk_at "nc"
              refine Call_i ⟨rfl, t1, t2, ?_⟩
              walk_at "nc"
              exact ⟨rfl, _, _, _, _, _, rfl⟩
          · rintro τ G'' ⟨rfl, o14, o15, o16, o17, o18, rfl⟩
            walk_at "nc"
            exact h _
end N
namespace Hd
open PySem PySem.Spec PyProof.Rows L2 N
section
variable {P : Program} {w : World} {K : PySem.W.Frag} {mg : Str → Option Value} {base : Heap}
theorem sc_bounded : FnScope n_bounded ["value", "low", "high"] (defScope s_bounded) := ⟨rfl, rfl, rfl, by decide +kernel, rfl, by decide +kernel, by decide +kernel⟩
theorem sn_bounded (K : PySem.W.Frag) : SpN 3 (sp_bounded K) := ⟨fun _ _ _ _ h => A3_len h⟩
theorem fo_bounded (c : Ev fa fn K mg) {fd : FuncData} (F : FunD K d_bounded.name d_bounded.qual d_bounded.params d_bounded.body d_bounded.scope (d_bounded.dvs K) (d_bounded.kws K) (d_bounded.ad K) fd) : FnOk P w K mg base (L2.CX P w) 1 (d_bounded.ad K) fd ["value", "low", "high"] (liftSp K (sp_bounded K)) :=
  fn_p F sc_bounded (sn_bounded K) rfl (fun cdv A outer s H E hr =>
    (pssd_cons (psd_if (ptd_w (pwd_or (ptd_not (pd_val (pd_isi (T := .int) (fb_isinstance c) rfl (v_ 0) (pe_ty rfl (fb_int c) boot_int)))) (pwd_or1 (pd_val (pd_isi (T := .bl) (fb_isinstance c) rfl (v_ 0) (pe_ty rfl (fb_bool c) boot_bool))))))
    (pssd_one (psd_ret pd_bl))
    pssd_nil)
    (pssd_one (psd_ret (N.pd_chain op_le op_le ok_le ok_le (v_ 1) (v_ 0) (v_ 2)))))) (pu_bounded K)
theorem ok_bounded (c : Ev fa fn K mg) : Fg P w K mg base 1 (d_bounded.ad K) (sp_bounded K) [] := by
  obtain ⟨fd, F⟩ := c.def_ 0 (d := d_bounded) rfl
  exact fg_n (ps := ["value", "low", "high"]) F (fun _ _ _ _ _ _ us hl => match us, hl with | [_, _, _], _ => rfl) (fo_bounded c F)
theorem sc_check_name : FnScope n_check_name ["name"] (defScope s_check_name) := ⟨rfl, rfl, rfl, by decide +kernel, rfl, by decide +kernel, by decide +kernel⟩
theorem sn_check_name (K : PySem.W.Frag) : SpN 1 (sp_check_name K) := ⟨fun _ _ _ _ h => A1_len h⟩
theorem fo_check_name (c : Ev fa fn K mg) {fd : FuncData} (F : FunD K d_check_name.name d_check_name.qual d_check_name.params d_check_name.body d_check_name.scope (d_check_name.dvs K) (d_check_name.kws K) (d_check_name.ad K) fd) : FnOk P w K mg base (L2.CX P w) 1 (d_check_name.ad K) fd ["name"] (liftSp K (sp_check_name K)) :=
  fn_p F sc_check_name (sn_check_name K) rfl (fun cdv A outer s H E hr =>
    (pssd_one (psd_if (pt_notin (v_ 0) (pd_glo (d := .tup [.str "first", .str "fifo", .str "last", .str "most", .str "few", .str "turns", .str "stay", .str "due", .str "fair", .str "deficit", .str "age"]) (v := .ref (He.ga K "NAMES")) rfl (fg_NAMES c) rfl (tup_rl (ft_NAMES c) ⟨rfl, ⟨rfl, ⟨rfl, ⟨rfl, ⟨rfl, ⟨rfl, ⟨rfl, ⟨rfl, ⟨rfl, ⟨rfl, ⟨rfl, True.intro⟩⟩⟩⟩⟩⟩⟩⟩⟩⟩⟩)))
    pssd_never
    pssd_nil))) (pu_check_name K)
theorem ok_check_name (c : Ev fa fn K mg) : Fg P w K mg base 1 (d_check_name.ad K) (sp_check_name K) [] := by
  obtain ⟨fd, F⟩ := c.def_ 1 (d := d_check_name) rfl
  exact fg_n (ps := ["name"]) F (fun _ _ _ _ _ _ us hl => match us, hl with | [_], _ => rfl) (fo_check_name c F)
theorem sc_has_numbers : FnScope n_has_numbers ["name"] (defScope s_has_numbers) := ⟨rfl, rfl, rfl, by decide +kernel, rfl, by decide +kernel, by decide +kernel⟩
theorem sn_has_numbers (K : PySem.W.Frag) : SpN 1 (sp_has_numbers K) := ⟨fun _ _ _ _ h => A1_len h⟩
theorem fo_has_numbers (c : Ev fa fn K mg) {fd : FuncData} (F : FunD K d_has_numbers.name d_has_numbers.qual d_has_numbers.params d_has_numbers.body d_has_numbers.scope (d_has_numbers.dvs K) (d_has_numbers.kws K) (d_has_numbers.ad K) fd) : FnOk P w K mg base (L2.CX P w) 3 (d_has_numbers.ad K) fd ["name"] (liftSp K (sp_has_numbers K)) :=
  fn_p F sc_has_numbers (sn_has_numbers K) rfl (fun cdv A outer s H E hr =>
    (pssd_cons (psd_expr (pd_cl (ok_check_name c) (hr.mono (by decide)) rfl (fg_check_name c) (pad_cons (v_ 0) pad_nil)))
    (pssd_one (psd_ret (pd_in (v_ 0) (pd_glo (d := .tup [.str "turns", .str "due", .str "fair", .str "deficit", .str "age"]) (v := .ref (He.ga K "NUMBERED")) rfl (fg_NUMBERED c) rfl (tup_rl (ft_NUMBERED c) ⟨rfl, ⟨rfl, ⟨rfl, ⟨rfl, ⟨rfl, True.intro⟩⟩⟩⟩⟩))))))) (pu_has_numbers K)
theorem ok_has_numbers (c : Ev fa fn K mg) : Fg P w K mg base 3 (d_has_numbers.ad K) (sp_has_numbers K) [] := by
  obtain ⟨fd, F⟩ := c.def_ 2 (d := d_has_numbers) rfl
  exact fg_n (ps := ["name"]) F (fun _ _ _ _ _ _ us hl => match us, hl with | [_], _ => rfl) (fo_has_numbers c F)
theorem sc_Policy____init__ : FnScope n_Policy____init__ ["self", "name", "numbers", "quantum"] (defScope s_Policy____init__) := ⟨rfl, rfl, rfl, by decide +kernel, rfl, by decide +kernel, by decide +kernel⟩
theorem sn_Policy____init__ (K : PySem.W.Frag) : SpN 4 (sp_Policy____init__ K) := ⟨fun _ _ _ _ h => A4_len h⟩
theorem fo_Policy____init__ (c : Ev fa fn K mg) {fd : FuncData} (F : FunD K d_Policy____init__.name d_Policy____init__.qual d_Policy____init__.params d_Policy____init__.body d_Policy____init__.scope (d_Policy____init__.dvs K) (d_Policy____init__.kws K) (d_Policy____init__.ad K) fd) : FnOk P w K mg base (L2.CX P w) 5 (d_Policy____init__.ad K) fd ["self", "name", "numbers", "quantum"] (liftSp K (sp_Policy____init__ K)) :=
  fn_p F sc_Policy____init__ (sn_Policy____init__ K) rfl (fun cdv A outer s H E hr =>
    (pssd_cons (psd_expr (pd_cl (ok_check_name c) (hr.mono (by decide)) rfl (fg_check_name c) (pad_cons (v_ 1) pad_nil)))
    (pssd_cons (psd_if (ptd_w (pwd_or (ptd_not (pd_val (pd_isi (T := .tup) (fb_isinstance c) rfl (v_ 2) (pe_ty rfl (fb_tuple c) boot_tuple)))) (pwd_or1 (ptd_not (N.pt_chain op_le op_le ok_le ok_le pd_int (pd_callB call_len ok_len rfl (fb_len c) (by decide +kernel) (pad_cons (v_ 2) pad_nil)) pd_int)))))
    pssd_never
    pssd_nil)
    (pssd_cons (s_ (sc_Policy____init__).nd 4 (pd_ife (pd_val (pd_cl (ok_has_numbers c) (hr.mono (by decide)) rfl (fg_has_numbers c) (pad_cons (v_ 1) pad_nil))) pd_int pd_int))
    (pssd_cons (psd_for PassesOwn.never rfl (pid_enumA rfl (fb_enumerate c) (pad_cons (v_ 2) pad_nil)) (pgd_tup rfl (pgsd_cons (g_ (sc_Policy____init__).nd 5) (pgsd_cons (g_ (sc_Policy____init__).nd 6) pgsd_nil)))
    (pssd_one (psd_if (ptd_not (pd_val (pd_cl (ok_bounded c) (hr.mono (by decide)) rfl (fg_bounded c) (pad_cons (v_ 6) (pad_cons pd_int (pad_cons (v_ 4) pad_nil))))))
    pssd_never
    pssd_nil)))
    (pssd_cons (psd_if (pt_eq hr.units (v_ 1) pd_str)
    pssd_never
    (pssd_one (psd_if (pt_isnot (v_ 3) pd_non)
    pssd_never
    pssd_nil)))
    (pssd_cons (psd_fld (fc_Policy c) (fn_Policy__policy_name c) (v_ 0) (v_ 1))
    (pssd_cons (psd_fld (fc_Policy c) (fn_Policy__policy_numbers c) (v_ 0) (v_ 2))
    (pssd_one (psd_fld (fc_Policy c) (fn_Policy__policy_quantum c) (v_ 0) (v_ 3))))))))))) (pu_Policy____init__ K)
theorem ok_Policy____init__ (c : Ev fa fn K mg) : Fg P w K mg base 5 (d_Policy____init__.ad K) (sp_Policy____init__ K) [.non] := by
  obtain ⟨fd, F⟩ := c.def_ 3 (d := d_Policy____init__) rfl
  exact fg_0 (ps := ["self", "name", "numbers", "quantum"]) F 3 (by intro z; cases z) rfl (fun _ _ _ _ _ _ us ks hl hk => match us, ks, hl, hk with | [_, _, _], [_], _, _ => ⟨_, _, _, _, _, _, rfl, rfl, rfl⟩) ⟨True.intro, True.intro⟩ (fo_Policy____init__ c F)
theorem sc__law_behind_call : FnScope n__law_behind_call ["world"] (defScope s__law_behind_call) := ⟨rfl, rfl, rfl, by decide +kernel, rfl, by decide +kernel, by decide +kernel⟩
theorem sn__law_behind_call (K : PySem.W.Frag) : SpN 1 (sp__law_behind_call K) := ⟨fun _ _ _ _ h => A1_len h⟩
theorem fo__law_behind_call (c : Ev fa fn K mg) {fd : FuncData} (F : FunD K d__law_behind_call.name d__law_behind_call.qual d__law_behind_call.params d__law_behind_call.body d__law_behind_call.scope (d__law_behind_call.dvs K) (d__law_behind_call.kws K) (d__law_behind_call.ad K) fd) : FnOk P w K mg base (L2.CX P w) 1 (d__law_behind_call.ad K) fd ["world"] (liftSp K (sp__law_behind_call K)) :=
  fn_p F sc__law_behind_call (sn__law_behind_call K) rfl (fun cdv A outer s H E hr =>
    (pssd_cons (psd_asg (v_ 0) (pgd_tup rfl (pgsd_cons (g_ (sc__law_behind_call).nd 1) (pgsd_cons (g_ (sc__law_behind_call).nd 2) (pgsd_cons (g_ (sc__law_behind_call).nd 3) (pgsd_cons (g_ (sc__law_behind_call).nd 4) (pgsd_cons (g_ (sc__law_behind_call).nd 5) pgsd_nil)))))))
    (pssd_cons (psd_if (pt_eq hr.units (v_ 1) pd_str)
    (pssd_one (psd_ret (pd_lst (pad_cons (v_ 1) (pad_cons (v_ 2) (pad_cons (pd_slice (v_ 3) (pod_some pd_int) pod_none) (pad_cons (v_ 4) (pad_cons (pd_add (v_ 5) pd_int) pad_nil))))))))
    pssd_nil)
    (pssd_one (psd_ret (pd_lst (pad_cons (v_ 1) (pad_cons (v_ 2) (pad_cons (pd_slice (v_ 3) (pod_some pd_int) pod_none) (pad_cons (v_ 4) (pad_cons (pd_ix (pd_ix (v_ 3) pd_int (fun _ _ => rfl)) pd_int (fun _ _ => rfl)) pad_nil))))))))))) (pu__law_behind_call K)
theorem ok__law_behind_call (c : Ev fa fn K mg) : Fg P w K mg base 1 (d__law_behind_call.ad K) (sp__law_behind_call K) [] := by
  obtain ⟨fd, F⟩ := c.def_ 4 (d := d__law_behind_call) rfl
  exact fg_n (ps := ["world"]) F (fun _ _ _ _ _ _ us hl => match us, hl with | [_], _ => rfl) (fo__law_behind_call c F)
theorem sc__law_left : FnScope n__law_left ["world", "entry"] (defScope s__law_left) := ⟨rfl, rfl, rfl, by decide +kernel, rfl, by decide +kernel, by decide +kernel⟩
theorem sn__law_left (K : PySem.W.Frag) : SpN 2 (sp__law_left K) := ⟨fun _ _ _ _ h => A2_len h⟩
theorem fo__law_left (c : Ev fa fn K mg) {fd : FuncData} (F : FunD K d__law_left.name d__law_left.qual d__law_left.params d__law_left.body d__law_left.scope (d__law_left.dvs K) (d__law_left.kws K) (d__law_left.ad K) fd) : FnOk P w K mg base (L2.CX P w) 1 (d__law_left.ad K) fd ["world", "entry"] (liftSp K (sp__law_left K)) :=
  fn_p F sc__law_left (sn__law_left K) rfl (fun cdv A outer s H E hr =>
    (pssd_one (psd_ret (pd_callB (call_maxA rfl) ok_maxA rfl (fb_max c) (by decide +kernel) (pad_cons (pd_sub (pd_ix (pd_ix (v_ 0) pd_int (fun _ _ => rfl)) (pd_ix (v_ 1) pd_int (fun _ _ => rfl)) (fun _ _ => rfl)) (pd_sub (pd_ix (v_ 0) pd_int (fun _ _ => rfl)) (pd_ix (v_ 1) pd_int (fun _ _ => rfl)))) (pad_cons (pd_callB (call_minA rfl) ok_minA rfl (fb_min c) (by decide +kernel) (pad_cons (pd_ix (v_ 0) pd_int (fun _ _ => rfl)) pad_nil)) pad_nil)))))) (pu__law_left K)
theorem ok__law_left (c : Ev fa fn K mg) : Fg P w K mg base 1 (d__law_left.ad K) (sp__law_left K) [] := by
  obtain ⟨fd, F⟩ := c.def_ 5 (d := d__law_left) rfl
  exact fg_n (ps := ["world", "entry"]) F (fun _ _ _ _ _ _ us hl => match us, hl with | [_, _], _ => rfl) (fo__law_left c F)
theorem sc__law_behind_come : FnScope n__law_behind_come ["world", "item"] (defScope s__law_behind_come) := ⟨rfl, rfl, rfl, by decide +kernel, rfl, by decide +kernel, by decide +kernel⟩
theorem sn__law_behind_come (K : PySem.W.Frag) : SpN 2 (sp__law_behind_come K) := ⟨fun _ _ _ _ h => A2_len h⟩
theorem fo__law_behind_come (c : Ev fa fn K mg) {fd : FuncData} (F : FunD K d__law_behind_come.name d__law_behind_come.qual d__law_behind_come.params d__law_behind_come.body d__law_behind_come.scope (d__law_behind_come.dvs K) (d__law_behind_come.kws K) (d__law_behind_come.ad K) fd) : FnOk P w K mg base (L2.CX P w) 3 (d__law_behind_come.ad K) fd ["world", "item"] (liftSp K (sp__law_behind_come K)) :=
  fn_p F sc__law_behind_come (sn__law_behind_come K) rfl (fun cdv A outer s H E hr =>
    (pssd_cons (psd_asg (v_ 0) (pgd_tup rfl (pgsd_cons (g_ (sc__law_behind_come).nd 2) (pgsd_cons (g_ (sc__law_behind_come).nd 3) (pgsd_cons (g_ (sc__law_behind_come).nd 4) (pgsd_cons (g_ (sc__law_behind_come).nd 5) (pgsd_cons (g_ (sc__law_behind_come).nd 6) pgsd_nil)))))))
    (pssd_cons (psd_if (pt_eq hr.units (v_ 2) pd_str)
    (pssd_cons (s_ (sc__law_behind_come).nd 7 (pd_callB call_len ok_len rfl (fb_len c) (by decide +kernel) (pad_cons (pd_lc rfl (sc__law_behind_come).nd (pid_any (v_ 4)) (bc_ (own := [("entry", 10)])) (fun _ _ _ _ _ => (gb_ (sc__law_behind_come).nd 10)) (gex_name (by decide)) (fun _ _ _ _ _ => (ptsd_one (pt_le (pd_cl (ok__law_left c) (hr.mono (by decide)) rfl (fg__law_left c) (pad_cons (v_ 0) (pad_cons (v_ 10) pad_nil))) (pd_ix (v_ 3) (v_ 1) (fun _ _ => rfl))))) (fun _ _ _ _ _ => (v_ 10))) pad_nil)))
    (pssd_one (psd_ret (pd_lst (pad_cons (v_ 2) (pad_cons (v_ 3) (pad_cons (pd_add (pd_add (pd_slice (v_ 4) pod_none (pod_some (v_ 7))) (pd_lst (pad_cons (pd_tup (pad_cons (v_ 1) (pad_cons (v_ 6) pad_nil))) pad_nil))) (pd_slice (v_ 4) (pod_some (v_ 7)) pod_none)) (pad_cons (v_ 5) (pad_cons (v_ 6) pad_nil)))))))))
    pssd_nil)
    (pssd_cons (s_ (sc__law_behind_come).nd 8 (pd_add (pd_callB (call_maxA rfl) ok_maxA rfl (fb_max c) (by decide +kernel) (pad_cons (pd_ix (v_ 5) (v_ 1) (fun _ _ => rfl)) (pad_cons (v_ 6) pad_nil))) (pd_ix (v_ 3) (v_ 1) (fun _ _ => rfl))))
    (pssd_cons (s_ (sc__law_behind_come).nd 7 (pd_callB call_len ok_len rfl (fb_len c) (by decide +kernel) (pad_cons (pd_lc rfl (sc__law_behind_come).nd (pid_any (v_ 4)) (bc_ (own := [("entry", 10)])) (fun _ _ _ _ _ => (gb_ (sc__law_behind_come).nd 10)) (gex_name (by decide)) (fun _ _ _ _ _ => (ptsd_one (pt_le (pd_ix (v_ 10) pd_int (fun _ _ => rfl)) (v_ 8)))) (fun _ _ _ _ _ => (v_ 10))) pad_nil)))
    (pssd_cons (s_ (sc__law_behind_come).nd 9 (pd_add (pd_add (pd_slice (v_ 5) pod_none (pod_some (v_ 1))) (pd_lst (pad_cons (v_ 8) pad_nil))) (pd_slice (v_ 5) (pod_some (pd_add (v_ 1) pd_int)) pod_none)))
    (pssd_one (psd_ret (pd_lst (pad_cons (v_ 2) (pad_cons (v_ 3) (pad_cons (pd_add (pd_add (pd_slice (v_ 4) pod_none (pod_some (v_ 7))) (pd_lst (pad_cons (pd_tup (pad_cons (v_ 1) (pad_cons (v_ 8) pad_nil))) pad_nil))) (pd_slice (v_ 4) (pod_some (v_ 7)) pod_none)) (pad_cons (v_ 9) (pad_cons (v_ 6) pad_nil)))))))))))))) (pu__law_behind_come K)
theorem ok__law_behind_come (c : Ev fa fn K mg) : Fg P w K mg base 3 (d__law_behind_come.ad K) (sp__law_behind_come K) [] := by
  obtain ⟨fd, F⟩ := c.def_ 6 (d := d__law_behind_come) rfl
  exact fg_n (ps := ["world", "item"]) F (fun _ _ _ _ _ _ us hl => match us, hl with | [_, _], _ => rfl) (fo__law_behind_come c F)
theorem sc__law_state : FnScope n__law_state ["world"] (defScope s__law_state) := ⟨rfl, rfl, rfl, by decide +kernel, rfl, by decide +kernel, by decide +kernel⟩
theorem sn__law_state (K : PySem.W.Frag) : SpN 1 (sp__law_state K) := ⟨fun _ _ _ _ h => A1_len h⟩
theorem fo__law_state (c : Ev fa fn K mg) {fd : FuncData} (F : FunD K d__law_state.name d__law_state.qual d__law_state.params d__law_state.body d__law_state.scope (d__law_state.dvs K) (d__law_state.kws K) (d__law_state.ad K) fd) : FnOk P w K mg base (L2.CX P w) 3 (d__law_state.ad K) fd ["world"] (liftSp K (sp__law_state K)) :=
  fn_p F sc__law_state (sn__law_state K) rfl (fun cdv A outer s H E hr =>
    (pssd_cons (psd_asg (v_ 0) (pgd_tup rfl (pgsd_cons (g_ (sc__law_state).nd 1) (pgsd_cons (g_ (sc__law_state).nd 2) (pgsd_cons (g_ (sc__law_state).nd 3) (pgsd_cons (g_ (sc__law_state).nd 4) (pgsd_cons (g_ (sc__law_state).nd 5) pgsd_nil)))))))
    (pssd_cons (psd_if (pt_eq hr.units (v_ 1) pd_str)
    (pssd_one (psd_ret (pd_callTy call_tuple_of ok_tuple rfl (fb_tuple c) (by decide +kernel) (pad_cons (pd_lc rfl (sc__law_state).nd (pid_any (v_ 3)) (bc_ (own := [("entry", 7)])) (fun _ _ _ _ _ => (gb_ (sc__law_state).nd 7)) (gex_name (by decide)) (fun _ _ _ _ _ => ptsd_nil) (fun _ _ _ _ _ => (pd_tup (pad_cons (pd_ix (v_ 7) pd_int (fun _ _ => rfl)) (pad_cons (pd_cl (ok__law_left c) (hr.mono (by decide)) rfl (fg__law_left c) (pad_cons (v_ 0) (pad_cons (v_ 7) pad_nil))) pad_nil))))) pad_nil))))
    pssd_nil)
    (pssd_cons (s_ (sc__law_state).nd 6 (pd_callTy call_tuple_of ok_tuple rfl (fb_tuple c) (by decide +kernel) (pad_cons (pd_lc rfl (sc__law_state).nd (pid_any (v_ 3)) (bc_ (own := [("entry", 7)])) (fun _ _ _ _ _ => (gb_ (sc__law_state).nd 7)) (gex_name (by decide)) (fun _ _ _ _ _ => ptsd_nil) (fun _ _ _ _ _ => (pd_tup (pad_cons (pd_ix (v_ 7) pd_int (fun _ _ => rfl)) (pad_cons (pd_sub (pd_ix (v_ 7) pd_int (fun _ _ => rfl)) (v_ 5)) pad_nil))))) pad_nil)))
    (pssd_one (psd_ret (pd_tup (pad_cons (v_ 6) (pad_cons (pd_callTy call_tuple_of ok_tuple rfl (fb_tuple c) (by decide +kernel) (pad_cons (pd_lc rfl (sc__law_state).nd (pid_any (v_ 4)) (bc_ (own := [("last", 8)])) (fun _ _ _ _ _ => (gb_ (sc__law_state).nd 8)) (gex_name (by decide)) (fun _ _ _ _ _ => ptsd_nil) (fun _ _ _ _ _ => (pd_callB (call_maxA rfl) ok_maxA rfl (fb_max c) (by decide +kernel) (pad_cons (pd_sub (v_ 8) (v_ 5)) (pad_cons pd_int pad_nil))))) pad_nil)) pad_nil))))))))) (pu__law_state K)
theorem ok__law_state (c : Ev fa fn K mg) : Fg P w K mg base 3 (d__law_state.ad K) (sp__law_state K) [] := by
  obtain ⟨fd, F⟩ := c.def_ 7 (d := d__law_state) rfl
  exact fg_n (ps := ["world"]) F (fun _ _ _ _ _ _ us hl => match us, hl with | [_], _ => rfl) (fo__law_state c F)
theorem sc_Policy__name : FnScope n_Policy__name ["self"] (defScope s_Policy__name) := ⟨rfl, rfl, rfl, by decide +kernel, rfl, by decide +kernel, by decide +kernel⟩
theorem sn_Policy__name (K : PySem.W.Frag) : SpN 1 (sp_Policy__name K) := ⟨fun _ _ _ _ h => A1_len h⟩
theorem fo_Policy__name (c : Ev fa fn K mg) {fd : FuncData} (F : FunD K d_Policy__name.name d_Policy__name.qual d_Policy__name.params d_Policy__name.body d_Policy__name.scope (d_Policy__name.dvs K) (d_Policy__name.kws K) (d_Policy__name.ad K) fd) : FnOk P w K mg base (L2.CX P w) 1 (d_Policy__name.ad K) fd ["self"] (liftSp K (sp_Policy__name K)) :=
  fn_p F sc_Policy__name (sn_Policy__name K) rfl (fun cdv A outer s H E hr =>
    (pssd_one (psd_ret (pd_fld (fc_Policy c) (fn_Policy__policy_name c) (v_ 0))))) (pu_Policy__name K)
theorem ok_Policy__name (c : Ev fa fn K mg) : Fg P w K mg base 1 (d_Policy__name.ad K) (sp_Policy__name K) [] := by
  obtain ⟨fd, F⟩ := c.def_ 8 (d := d_Policy__name) rfl
  exact fg_n (ps := ["self"]) F (fun _ _ _ _ _ _ us hl => match us, hl with | [_], _ => rfl) (fo_Policy__name c F)
theorem sc_Policy__numbers : FnScope n_Policy__numbers ["self"] (defScope s_Policy__numbers) := ⟨rfl, rfl, rfl, by decide +kernel, rfl, by decide +kernel, by decide +kernel⟩
theorem sn_Policy__numbers (K : PySem.W.Frag) : SpN 1 (sp_Policy__numbers K) := ⟨fun _ _ _ _ h => A1_len h⟩
theorem fo_Policy__numbers (c : Ev fa fn K mg) {fd : FuncData} (F : FunD K d_Policy__numbers.name d_Policy__numbers.qual d_Policy__numbers.params d_Policy__numbers.body d_Policy__numbers.scope (d_Policy__numbers.dvs K) (d_Policy__numbers.kws K) (d_Policy__numbers.ad K) fd) : FnOk P w K mg base (L2.CX P w) 1 (d_Policy__numbers.ad K) fd ["self"] (liftSp K (sp_Policy__numbers K)) :=
  fn_p F sc_Policy__numbers (sn_Policy__numbers K) rfl (fun cdv A outer s H E hr =>
    (pssd_one (psd_ret (pd_fld (fc_Policy c) (fn_Policy__policy_numbers c) (v_ 0))))) (pu_Policy__numbers K)
theorem ok_Policy__numbers (c : Ev fa fn K mg) : Fg P w K mg base 1 (d_Policy__numbers.ad K) (sp_Policy__numbers K) [] := by
  obtain ⟨fd, F⟩ := c.def_ 9 (d := d_Policy__numbers) rfl
  exact fg_n (ps := ["self"]) F (fun _ _ _ _ _ _ us hl => match us, hl with | [_], _ => rfl) (fo_Policy__numbers c F)
theorem sc_due_call : FnScope n_due_call ["numbers", "state"] (defScope s_due_call) := ⟨rfl, rfl, rfl, by decide +kernel, rfl, by decide +kernel, by decide +kernel⟩
theorem sn_due_call (K : PySem.W.Frag) : SpN 2 (sp_due_call K) := ⟨fun _ _ _ _ h => A2_len h⟩
theorem fo_due_call (c : Ev fa fn K mg) {fd : FuncData} (F : FunD K d_due_call.name d_due_call.qual d_due_call.params d_due_call.body d_due_call.scope (d_due_call.dvs K) (d_due_call.kws K) (d_due_call.ad K) fd) : FnOk P w K mg base (L2.CX P w) 1 (d_due_call.ad K) fd ["numbers", "state"] (liftSp K (sp_due_call K)) :=
  fn_p F sc_due_call (sn_due_call K) rfl (fun cdv A outer s H E hr =>
    (pssd_cons (s_ (sc_due_call).nd 2 (pd_callB (call_minA rfl) ok_minA rfl (fb_min c) (by decide +kernel) (pad_cons (v_ 0) pad_nil)))
    (pssd_cons (psd_lc rfl (sc_due_call).nd (i := 3) rfl rfl (sw_true rfl rfl rfl rfl) (pid_any (pd_slice (v_ 1) (pod_some pd_int) pod_none)) (bc_ (own := [("item", 4), ("left", 5)])) (fun _ _ _ _ _ => (pg_seq rfl (pgs_cons (gb_ (sc_due_call).nd 4) (pgs_cons (gb_ (sc_due_call).nd 5) pgs_nil)))) (gex_tup (gexs_cons (gex_name (by decide)) (gexs_cons (gex_name (by decide)) gexs_nil))) (fun _ _ _ _ _ => ptsd_nil) (fun _ _ _ _ _ => (pd_tup (pad_cons (v_ 4) (pad_cons (pd_callB (call_maxA rfl) ok_maxA rfl (fb_max c) (by decide +kernel) (pad_cons (pd_sub (v_ 5) pd_int) (pad_cons (v_ 2) pad_nil))) pad_nil)))))
    (pssd_one (psd_ret (pd_tup (pad_cons (pd_ix (pd_ix (v_ 1) pd_int (fun _ _ => rfl)) pd_int (fun _ _ => rfl)) (pad_cons (pd_callTy call_tuple_of ok_tuple rfl (fb_tuple c) (by decide +kernel) (pad_cons (v_ 3) pad_nil)) pad_nil)))))))) (pu_due_call K)
theorem ok_due_call (c : Ev fa fn K mg) : Fg P w K mg base 1 (d_due_call.ad K) (sp_due_call K) [] := by
  obtain ⟨fd, F⟩ := c.def_ 10 (d := d_due_call) rfl
  exact fg_n (ps := ["numbers", "state"]) F (fun _ _ _ _ _ _ us hl => match us, hl with | [_, _], _ => rfl) (fo_due_call c F)
theorem okk_due_call_0_numbers_state (c : Ev fa fn K mg) : Fk P w K mg base 1 (d_due_call.ad K) (sp_due_call K) 0 ["numbers", "state"] [0, 1] := by
  obtain ⟨fd, F⟩ := c.def_ 10 (d := d_due_call) rfl
  exact fk_n (ps := ["numbers", "state"]) F 0 _ _ (fun _ _ _ _ _ _ us ws hl hk => match us, ws, hl, hk with | [], [_, _], _, _ => rfl) (fo_due_call c F)
theorem sc_fair_call : FnScope n_fair_call ["state"] (defScope s_fair_call) := ⟨rfl, rfl, rfl, by decide +kernel, rfl, by decide +kernel, by decide +kernel⟩
theorem sn_fair_call (K : PySem.W.Frag) : SpN 1 (sp_fair_call K) := ⟨fun _ _ _ _ h => A1_len h⟩
theorem fo_fair_call (c : Ev fa fn K mg) {fd : FuncData} (F : FunD K d_fair_call.name d_fair_call.qual d_fair_call.params d_fair_call.body d_fair_call.scope (d_fair_call.dvs K) (d_fair_call.kws K) (d_fair_call.ad K) fd) : FnOk P w K mg base (L2.CX P w) 1 (d_fair_call.ad K) fd ["state"] (liftSp K (sp_fair_call K)) :=
  fn_p F sc_fair_call (sn_fair_call K) rfl (fun cdv A outer s H E hr =>
    (pssd_cons (psd_asg (v_ 0) (pgd_tup rfl (pgsd_cons (g_ (sc_fair_call).nd 1) (pgsd_cons (g_ (sc_fair_call).nd 2) pgsd_nil))))
    (pssd_cons (psd_asg (pd_ix (v_ 1) pd_int (fun _ _ => rfl)) (pgd_tup rfl (pgsd_cons (g_ (sc_fair_call).nd 3) (pgsd_cons (g_ (sc_fair_call).nd 4) pgsd_nil))))
    (pssd_cons (psd_lc rfl (sc_fair_call).nd (i := 5) rfl rfl (sw_true rfl rfl rfl rfl) (pid_any (pd_slice (v_ 1) (pod_some pd_int) pod_none)) (bc_ (own := [("item", 6), ("tag", 7)])) (fun _ _ _ _ _ => (pg_seq rfl (pgs_cons (gb_ (sc_fair_call).nd 6) (pgs_cons (gb_ (sc_fair_call).nd 7) pgs_nil)))) (gex_tup (gexs_cons (gex_name (by decide)) (gexs_cons (gex_name (by decide)) gexs_nil))) (fun _ _ _ _ _ => ptsd_nil) (fun _ _ _ _ _ => (pd_tup (pad_cons (v_ 6) (pad_cons (pd_sub (v_ 7) (v_ 4)) pad_nil)))))
    (pssd_one (psd_ret (pd_tup (pad_cons (v_ 3) (pad_cons (pd_tup (pad_cons (pd_callTy call_tuple_of ok_tuple rfl (fb_tuple c) (by decide +kernel) (pad_cons (v_ 5) pad_nil)) (pad_cons (pd_callTy call_tuple_of ok_tuple rfl (fb_tuple c) (by decide +kernel) (pad_cons (pd_lc rfl (sc_fair_call).nd (pid_any (v_ 2)) (bc_ (own := [("last", 8)])) (fun _ _ _ _ _ => (gb_ (sc_fair_call).nd 8)) (gex_name (by decide)) (fun _ _ _ _ _ => ptsd_nil) (fun _ _ _ _ _ => (pd_callB (call_maxA rfl) ok_maxA rfl (fb_max c) (by decide +kernel) (pad_cons (pd_sub (v_ 8) (v_ 4)) (pad_cons pd_int pad_nil))))) pad_nil)) pad_nil))) pad_nil))))))))) (pu_fair_call K)
theorem ok_fair_call (c : Ev fa fn K mg) : Fg P w K mg base 1 (d_fair_call.ad K) (sp_fair_call K) [] := by
  obtain ⟨fd, F⟩ := c.def_ 11 (d := d_fair_call) rfl
  exact fg_n (ps := ["state"]) F (fun _ _ _ _ _ _ us hl => match us, hl with | [_], _ => rfl) (fo_fair_call c F)
theorem okk_fair_call_0_state (c : Ev fa fn K mg) : Fk P w K mg base 1 (d_fair_call.ad K) (sp_fair_call K) 0 ["state"] [0] := by
  obtain ⟨fd, F⟩ := c.def_ 11 (d := d_fair_call) rfl
  exact fk_n (ps := ["state"]) F 0 _ _ (fun _ _ _ _ _ _ us ws hl hk => match us, ws, hl, hk with | [], [_], _, _ => rfl) (fo_fair_call c F)
theorem sc_credit_call : FnScope n_credit_call ["policy", "state", "counts"] (defScope s_credit_call) := ⟨rfl, rfl, rfl, by decide +kernel, rfl, by decide +kernel, by decide +kernel⟩
theorem sn_credit_call (K : PySem.W.Frag) : SpN 3 (sp_credit_call K) := ⟨fun _ _ _ _ h => A3_len h⟩
theorem fo_credit_call (c : Ev fa fn K mg) {fd : FuncData} (F : FunD K d_credit_call.name d_credit_call.qual d_credit_call.params d_credit_call.body d_credit_call.scope (d_credit_call.dvs K) (d_credit_call.kws K) (d_credit_call.ad K) fd) : FnOk P w K mg base (L2.CX P w) 3 (d_credit_call.ad K) fd ["policy", "state", "counts"] (liftSp K (sp_credit_call K)) :=
  fn_p F sc_credit_call (sn_credit_call K) rfl (fun cdv A outer s H E hr =>
    (pssd_cons (psd_if (pt_eq hr.units (pd_pr (fc_Policy c) (fp_Policy__name c) (ok_Policy__name c) (hr.mono (by decide)) (v_ 0)) pd_str)
    (pssd_one (psd_ret (pd_cl (ok_due_call c) (hr.mono (by decide)) rfl (fg_due_call c) (pad_cons (pd_pr (fc_Policy c) (fp_Policy__numbers c) (ok_Policy__numbers c) (hr.mono (by decide)) (v_ 0)) (pad_cons (v_ 1) pad_nil)))))
    pssd_nil)
    (pssd_cons (psd_if (pt_eq hr.units (pd_pr (fc_Policy c) (fp_Policy__name c) (ok_Policy__name c) (hr.mono (by decide)) (v_ 0)) pd_str)
    (pssd_one (psd_ret (pd_cl (ok_fair_call c) (hr.mono (by decide)) rfl (fg_fair_call c) (pad_cons (v_ 1) pad_nil))))
    pssd_nil)
    pssd_never))) (pu_credit_call K)
theorem ok_credit_call (c : Ev fa fn K mg) : Fg P w K mg base 3 (d_credit_call.ad K) (sp_credit_call K) [] := by
  obtain ⟨fd, F⟩ := c.def_ 12 (d := d_credit_call) rfl
  exact fg_n (ps := ["policy", "state", "counts"]) F (fun _ _ _ _ _ _ us hl => match us, hl with | [_, _, _], _ => rfl) (fo_credit_call c F)
theorem sc_Policy__call : FnScope n_Policy__call ["self", "state", "counts"] (defScope s_Policy__call) := ⟨rfl, rfl, rfl, by decide +kernel, rfl, by decide +kernel, by decide +kernel⟩
theorem sn_Policy__call (K : PySem.W.Frag) : SpN 3 (sp_Policy__call K) := ⟨fun _ _ _ _ h => A3_len h⟩
theorem fo_Policy__call (c : Ev fa fn K mg) {fd : FuncData} (F : FunD K d_Policy__call.name d_Policy__call.qual d_Policy__call.params d_Policy__call.body d_Policy__call.scope (d_Policy__call.dvs K) (d_Policy__call.kws K) (d_Policy__call.ad K) fd) : FnOk P w K mg base (L2.CX P w) 5 (d_Policy__call.ad K) fd ["self", "state", "counts"] (liftSp K (sp_Policy__call K)) :=
  fn_p F sc_Policy__call (sn_Policy__call K) rfl (fun cdv A outer s H E hr =>
    (pssd_cons (psd_if (pd_val (pd_callB (cr_all rfl) ok_all rfl (fb_all c) (by decide +kernel) (pad_cons (pd_lc rfl (sc_Policy__call).nd (pid_any (v_ 2)) (bc_ (own := [("many", 3)])) (fun _ _ _ _ _ => (gb_ (sc_Policy__call).nd 3)) (gex_name (by decide)) (fun _ _ _ _ _ => ptsd_nil) (fun _ _ _ _ _ => (pd_eq hr.units (v_ 3) pd_int))) pad_nil)))
    pssd_never
    pssd_nil)
    (pssd_cons (psd_if (pt_in (pd_fld (fc_Policy c) (fn_Policy__policy_name c) (v_ 0)) (pd_tup (pad_cons pd_str (pad_cons pd_str (pad_cons pd_str pad_nil)))))
    pssd_never
    pssd_nil)
    (pssd_cons (psd_if (pt_in (pd_fld (fc_Policy c) (fn_Policy__policy_name c) (v_ 0)) (pd_tup (pad_cons pd_str (pad_cons pd_str pad_nil))))
    pssd_never
    pssd_nil)
    (pssd_cons (psd_if (pt_eq hr.units (pd_fld (fc_Policy c) (fn_Policy__policy_name c) (v_ 0)) pd_str)
    pssd_never
    pssd_nil)
    (pssd_cons (psd_if (pt_eq hr.units (pd_fld (fc_Policy c) (fn_Policy__policy_name c) (v_ 0)) pd_str)
    pssd_never
    pssd_nil)
    (pssd_one (psd_ret (pd_cl (ok_credit_call c) (hr.mono (by decide)) rfl (fg_credit_call c) (pad_cons (v_ 0) (pad_cons (v_ 1) (pad_cons (v_ 2) pad_nil)))))))))))) (pu_Policy__call K)
theorem ok_Policy__call (c : Ev fa fn K mg) : Fg P w K mg base 5 (d_Policy__call.ad K) (sp_Policy__call K) [] := by
  obtain ⟨fd, F⟩ := c.def_ 13 (d := d_Policy__call) rfl
  exact fg_n (ps := ["self", "state", "counts"]) F (fun _ _ _ _ _ _ us hl => match us, hl with | [_, _, _], _ => rfl) (fo_Policy__call c F)
theorem sc_Policy__many : FnScope n_Policy__many ["self"] (defScope s_Policy__many) := ⟨rfl, rfl, rfl, by decide +kernel, rfl, by decide +kernel, by decide +kernel⟩
theorem sn_Policy__many (K : PySem.W.Frag) : SpN 1 (sp_Policy__many K) := ⟨fun _ _ _ _ h => A1_len h⟩
theorem fo_Policy__many (c : Ev fa fn K mg) {fd : FuncData} (F : FunD K d_Policy__many.name d_Policy__many.qual d_Policy__many.params d_Policy__many.body d_Policy__many.scope (d_Policy__many.dvs K) (d_Policy__many.kws K) (d_Policy__many.ad K) fd) : FnOk P w K mg base (L2.CX P w) 1 (d_Policy__many.ad K) fd ["self"] (liftSp K (sp_Policy__many K)) :=
  fn_p F sc_Policy__many (sn_Policy__many K) rfl (fun cdv A outer s H E hr =>
    (pssd_one (psd_ret (pd_callB call_len ok_len rfl (fb_len c) (by decide +kernel) (pad_cons (pd_fld (fc_Policy c) (fn_Policy__policy_numbers c) (v_ 0)) pad_nil))))) (pu_Policy__many K)
theorem ok_Policy__many (c : Ev fa fn K mg) : Fg P w K mg base 1 (d_Policy__many.ad K) (sp_Policy__many K) [] := by
  obtain ⟨fd, F⟩ := c.def_ 14 (d := d_Policy__many) rfl
  exact fg_n (ps := ["self"]) F (fun _ _ _ _ _ _ us hl => match us, hl with | [_], _ => rfl) (fo_Policy__many c F)
theorem sc_put_behind : FnScope n_put_behind ["entries", "item", "mark"] (defScope s_put_behind) := ⟨rfl, rfl, rfl, by decide +kernel, rfl, by decide +kernel, by decide +kernel⟩
theorem sn_put_behind (K : PySem.W.Frag) : SpN 3 (sp_put_behind K) := ⟨fun _ _ _ _ h => A3_len h⟩
theorem fo_put_behind (c : Ev fa fn K mg) {fd : FuncData} (F : FunD K d_put_behind.name d_put_behind.qual d_put_behind.params d_put_behind.body d_put_behind.scope (d_put_behind.dvs K) (d_put_behind.kws K) (d_put_behind.ad K) fd) : FnOk P w K mg base (L2.CX P w) 1 (d_put_behind.ad K) fd ["entries", "item", "mark"] (liftSp K (sp_put_behind K)) :=
  fn_p F sc_put_behind (sn_put_behind K) rfl (fun cdv A outer s H E hr =>
    (pssd_cons (s_ (sc_put_behind).nd 3 (pd_callB call_len ok_len rfl (fb_len c) (by decide +kernel) (pad_cons (pd_lc rfl (sc_put_behind).nd (pid_any (v_ 0)) (bc_ (own := [("one", 4)])) (fun _ _ _ _ _ => (gb_ (sc_put_behind).nd 4)) (gex_name (by decide)) (fun _ _ _ _ _ => (ptsd_one (pt_le (pd_ix (v_ 4) pd_int (fun _ _ => rfl)) (v_ 2)))) (fun _ _ _ _ _ => (v_ 4))) pad_nil)))
    (pssd_one (psd_ret (pd_add (pd_add (pd_slice (v_ 0) pod_none (pod_some (v_ 3))) (pd_tup (pad_cons (pd_tup (pad_cons (v_ 1) (pad_cons (v_ 2) pad_nil))) pad_nil))) (pd_slice (v_ 0) (pod_some (v_ 3)) pod_none)))))) (pu_put_behind K)
theorem ok_put_behind (c : Ev fa fn K mg) : Fg P w K mg base 1 (d_put_behind.ad K) (sp_put_behind K) [] := by
  obtain ⟨fd, F⟩ := c.def_ 15 (d := d_put_behind) rfl
  exact fg_n (ps := ["entries", "item", "mark"]) F (fun _ _ _ _ _ _ us hl => match us, hl with | [_, _, _], _ => rfl) (fo_put_behind c F)
theorem sc_due_come : FnScope n_due_come ["numbers", "state", "item"] (defScope s_due_come) := ⟨rfl, rfl, rfl, by decide +kernel, rfl, by decide +kernel, by decide +kernel⟩
theorem sn_due_come (K : PySem.W.Frag) : SpN 3 (sp_due_come K) := ⟨fun _ _ _ _ h => A3_len h⟩
theorem fo_due_come (c : Ev fa fn K mg) {fd : FuncData} (F : FunD K d_due_come.name d_due_come.qual d_due_come.params d_due_come.body d_due_come.scope (d_due_come.dvs K) (d_due_come.kws K) (d_due_come.ad K) fd) : FnOk P w K mg base (L2.CX P w) 3 (d_due_come.ad K) fd ["numbers", "state", "item"] (liftSp K (sp_due_come K)) :=
  fn_p F sc_due_come (sn_due_come K) rfl (fun cdv A outer s H E hr =>
    (pssd_one (psd_ret (pd_cl (ok_put_behind c) (hr.mono (by decide)) rfl (fg_put_behind c) (pad_cons (v_ 1) (pad_cons (v_ 2) (pad_cons (pd_ix (v_ 0) (v_ 2) (fun _ _ => rfl)) pad_nil))))))) (pu_due_come K)
theorem ok_due_come (c : Ev fa fn K mg) : Fg P w K mg base 3 (d_due_come.ad K) (sp_due_come K) [] := by
  obtain ⟨fd, F⟩ := c.def_ 16 (d := d_due_come) rfl
  exact fg_n (ps := ["numbers", "state", "item"]) F (fun _ _ _ _ _ _ us hl => match us, hl with | [_, _, _], _ => rfl) (fo_due_come c F)
theorem okk_due_come_0_numbers_state_item (c : Ev fa fn K mg) : Fk P w K mg base 3 (d_due_come.ad K) (sp_due_come K) 0 ["numbers", "state", "item"] [0, 1, 2] := by
  obtain ⟨fd, F⟩ := c.def_ 16 (d := d_due_come) rfl
  exact fk_n (ps := ["numbers", "state", "item"]) F 0 _ _ (fun _ _ _ _ _ _ us ws hl hk => match us, ws, hl, hk with | [], [_, _, _], _, _ => rfl) (fo_due_come c F)
theorem sc_fair_come : FnScope n_fair_come ["numbers", "state", "item"] (defScope s_fair_come) := ⟨rfl, rfl, rfl, by decide +kernel, rfl, by decide +kernel, by decide +kernel⟩
theorem sn_fair_come (K : PySem.W.Frag) : SpN 3 (sp_fair_come K) := ⟨fun _ _ _ _ h => A3_len h⟩
theorem fo_fair_come (c : Ev fa fn K mg) {fd : FuncData} (F : FunD K d_fair_come.name d_fair_come.qual d_fair_come.params d_fair_come.body d_fair_come.scope (d_fair_come.dvs K) (d_fair_come.kws K) (d_fair_come.ad K) fd) : FnOk P w K mg base (L2.CX P w) 3 (d_fair_come.ad K) fd ["numbers", "state", "item"] (liftSp K (sp_fair_come K)) :=
  fn_p F sc_fair_come (sn_fair_come K) rfl (fun cdv A outer s H E hr =>
    (pssd_cons (psd_asg (v_ 1) (pgd_tup rfl (pgsd_cons (g_ (sc_fair_come).nd 3) (pgsd_cons (g_ (sc_fair_come).nd 4) pgsd_nil))))
    (pssd_cons (s_ (sc_fair_come).nd 5 (pd_add (pd_ix (v_ 4) (v_ 2) (fun _ _ => rfl)) (pd_ix (v_ 0) (v_ 2) (fun _ _ => rfl))))
    (pssd_one (psd_ret (pd_tup (pad_cons (pd_cl (ok_put_behind c) (hr.mono (by decide)) rfl (fg_put_behind c) (pad_cons (v_ 3) (pad_cons (v_ 2) (pad_cons (v_ 5) pad_nil)))) (pad_cons (pd_add (pd_add (pd_slice (v_ 4) pod_none (pod_some (v_ 2))) (pd_tup (pad_cons (v_ 5) pad_nil))) (pd_slice (v_ 4) (pod_some (pd_add (v_ 2) pd_int)) pod_none)) pad_nil)))))))) (pu_fair_come K)
theorem ok_fair_come (c : Ev fa fn K mg) : Fg P w K mg base 3 (d_fair_come.ad K) (sp_fair_come K) [] := by
  obtain ⟨fd, F⟩ := c.def_ 17 (d := d_fair_come) rfl
  exact fg_n (ps := ["numbers", "state", "item"]) F (fun _ _ _ _ _ _ us hl => match us, hl with | [_, _, _], _ => rfl) (fo_fair_come c F)
theorem okk_fair_come_0_numbers_state_item (c : Ev fa fn K mg) : Fk P w K mg base 3 (d_fair_come.ad K) (sp_fair_come K) 0 ["numbers", "state", "item"] [0, 1, 2] := by
  obtain ⟨fd, F⟩ := c.def_ 17 (d := d_fair_come) rfl
  exact fk_n (ps := ["numbers", "state", "item"]) F 0 _ _ (fun _ _ _ _ _ _ us ws hl hk => match us, ws, hl, hk with | [], [_, _, _], _, _ => rfl) (fo_fair_come c F)
theorem sc_Policy__come : FnScope n_Policy__come ["self", "state", "counts", "item"] (defScope s_Policy__come) := ⟨rfl, rfl, rfl, by decide +kernel, rfl, by decide +kernel, by decide +kernel⟩
theorem sn_Policy__come (K : PySem.W.Frag) : SpN 4 (sp_Policy__come K) := ⟨fun _ _ _ _ h => A4_len h⟩
theorem fo_Policy__come (c : Ev fa fn K mg) {fd : FuncData} (F : FunD K d_Policy__come.name d_Policy__come.qual d_Policy__come.params d_Policy__come.body d_Policy__come.scope (d_Policy__come.dvs K) (d_Policy__come.kws K) (d_Policy__come.ad K) fd) : FnOk P w K mg base (L2.CX P w) 5 (d_Policy__come.ad K) fd ["self", "state", "counts", "item"] (liftSp K (sp_Policy__come K)) :=
  fn_p F sc_Policy__come (sn_Policy__come K) rfl (fun cdv A outer s H E hr =>
    (pssd_cons (psd_if (ptd_not (pd_val (pd_cl (ok_bounded c) (hr.mono (by decide)) rfl (fg_bounded c) (pad_cons (v_ 3) (pad_cons pd_int (pad_cons (pd_sub (pd_pr (fc_Policy c) (fp_Policy__many c) (ok_Policy__many c) (hr.mono (by decide)) (v_ 0)) pd_int) pad_nil))))))
    pssd_never
    pssd_nil)
    (pssd_cons (psd_if (pt_eq hr.units (pd_fld (fc_Policy c) (fn_Policy__policy_name c) (v_ 0)) pd_str)
    pssd_never
    pssd_nil)
    (pssd_cons (psd_if (pt_eq hr.units (pd_fld (fc_Policy c) (fn_Policy__policy_name c) (v_ 0)) pd_str)
    pssd_never
    pssd_nil)
    (pssd_cons (psd_if (pt_eq hr.units (pd_fld (fc_Policy c) (fn_Policy__policy_name c) (v_ 0)) pd_str)
    (pssd_one (psd_ret (pd_cl (ok_due_come c) (hr.mono (by decide)) rfl (fg_due_come c) (pad_cons (pd_fld (fc_Policy c) (fn_Policy__policy_numbers c) (v_ 0)) (pad_cons (v_ 1) (pad_cons (v_ 3) pad_nil))))))
    pssd_nil)
    (pssd_cons (psd_if (pt_eq hr.units (pd_fld (fc_Policy c) (fn_Policy__policy_name c) (v_ 0)) pd_str)
    (pssd_one (psd_ret (pd_cl (ok_fair_come c) (hr.mono (by decide)) rfl (fg_fair_come c) (pad_cons (pd_fld (fc_Policy c) (fn_Policy__policy_numbers c) (v_ 0)) (pad_cons (v_ 1) (pad_cons (v_ 3) pad_nil))))))
    pssd_nil)
    (pssd_cons (psd_if (pt_eq hr.units (pd_fld (fc_Policy c) (fn_Policy__policy_name c) (v_ 0)) pd_str)
    pssd_never
    pssd_nil)
    pssd_never))))))) (pu_Policy__come K)
theorem ok_Policy__come (c : Ev fa fn K mg) : Fg P w K mg base 5 (d_Policy__come.ad K) (sp_Policy__come K) [] := by
  obtain ⟨fd, F⟩ := c.def_ 18 (d := d_Policy__come) rfl
  exact fg_n (ps := ["self", "state", "counts", "item"]) F (fun _ _ _ _ _ _ us hl => match us, hl with | [_, _, _, _], _ => rfl) (fo_Policy__come c F)
theorem sc__law_marks : FnScope n__law_marks ["value"] (defScope s__law_marks) := ⟨rfl, rfl, rfl, by decide +kernel, rfl, by decide +kernel, by decide +kernel⟩
theorem sn__law_marks (K : PySem.W.Frag) : SpN 1 (sp__law_marks K) := ⟨fun _ _ _ _ h => A1_len h⟩
theorem fo__law_marks (c : Ev fa fn K mg) {fd : FuncData} (F : FunD K d__law_marks.name d__law_marks.qual d__law_marks.params d__law_marks.body d__law_marks.scope (d__law_marks.dvs K) (d__law_marks.kws K) (d__law_marks.ad K) fd) : FnOk P w K mg base (L2.CX P w) 1 (d__law_marks.ad K) fd ["value"] (liftSp K (sp__law_marks K)) :=
  fn_p F sc__law_marks (sn__law_marks K) rfl (fun cdv A outer s H E hr =>
    (pssd_one (psd_ret (pd_lst (pad_cons (pd_is (v_ 0) pd_non) (pad_cons (pd_isi (T := .bl) (fb_isinstance c) rfl (v_ 0) (pe_ty rfl (fb_bool c) boot_bool)) (pad_cons (pd_isi (T := .int) (fb_isinstance c) rfl (v_ 0) (pe_ty rfl (fb_int c) boot_int)) (pad_cons (pd_isi (T := .str) (fb_isinstance c) rfl (v_ 0) (pe_ty rfl (fb_str c) boot_str)) (pad_cons (pd_isi (T := .tup) (fb_isinstance c) rfl (v_ 0) (pe_ty rfl (fb_tuple c) boot_tuple)) (pad_cons (pd_isi (T := .lst) (fb_isinstance c) rfl (v_ 0) (pe_ty rfl (fb_list c) boot_list)) pad_nil)))))))))) (pu__law_marks K)
theorem ok__law_marks (c : Ev fa fn K mg) : Fg P w K mg base 1 (d__law_marks.ad K) (sp__law_marks K) [] := by
  obtain ⟨fd, F⟩ := c.def_ 19 (d := d__law_marks) rfl
  exact fg_n (ps := ["value"]) F (fun _ _ _ _ _ _ us hl => match us, hl with | [_], _ => rfl) (fo__law_marks c F)
theorem sc__law_like : FnScope n__law_like ["answer", "due"] (defScope s__law_like) := ⟨rfl, rfl, rfl, by decide +kernel, rfl, by decide +kernel, by decide +kernel⟩
theorem sn__law_like (K : PySem.W.Frag) : SpN 2 (sp__law_like K) := ⟨fun _ _ _ _ h => A2_len h⟩
theorem fo__law_like (c : Ev fa fn K mg) {fd : FuncData} (F : FunD K d__law_like.name d__law_like.qual d__law_like.params d__law_like.body d__law_like.scope (d__law_like.dvs K) (d__law_like.kws K) (d__law_like.ad K) fd) : FnOk P w K mg base (L2.CX P w) 3 (d__law_like.ad K) fd ["answer", "due"] (liftSp K (sp__law_like K)) :=
  fn_p F sc__law_like (sn__law_like K) rfl (fun cdv A outer s H E hr =>
    (pssd_cons (s_ (sc__law_like).nd 2 (pd_lstM (pad_cons (pd_tup (pad_cons (v_ 0) (pad_cons (v_ 1) pad_nil))) pad_nil)))
    (pssd_cons (psd_for PassesOwn.never rfl (pid_rng1 rfl (fb_range c) (pad_cons pd_int pad_nil)) (g_ (sc__law_like).nd 3)
    (pssd_cons (psd_if (pt_eq hr.units (pd_callB call_len ok_len rfl (fb_len c) (by decide +kernel) (pad_cons (v_ 2) pad_nil)) pd_int)
    (pssd_one (psd_ret pd_bl))
    pssd_nil)
    (pssd_cons (psd_asg (pd_pop (v_ 2)) (pgd_tup rfl (pgsd_cons (g_ (sc__law_like).nd 4) (pgsd_cons (g_ (sc__law_like).nd 5) pgsd_nil))))
    (pssd_cons (psd_if (pt_ne hr.units (pd_cl (ok__law_marks c) (hr.mono (by decide)) rfl (fg__law_marks c) (pad_cons (v_ 4) pad_nil)) (pd_cl (ok__law_marks c) (hr.mono (by decide)) rfl (fg__law_marks c) (pad_cons (v_ 5) pad_nil)))
    (pssd_one (psd_ret pd_bl))
    pssd_nil)
    (pssd_one (psd_if (pd_val (pd_isiT [.tup, .lst] (by decide) (fb_isinstance c) rfl (v_ 5) (pa_cons (pe_ty rfl (fb_tuple c) boot_tuple) (pa_cons (pe_ty rfl (fb_list c) boot_list) pa_nil))))
    (pssd_cons (psd_if (pt_ne hr.units (pd_callB call_len ok_len rfl (fb_len c) (by decide +kernel) (pad_cons (v_ 4) pad_nil)) (pd_callB call_len ok_len rfl (fb_len c) (by decide +kernel) (pad_cons (v_ 5) pad_nil)))
    (pssd_one (psd_ret pd_bl))
    pssd_nil)
    (pssd_one (psd_for PassesOwn.never rfl (pid_rng1 rfl (fb_range c) (pad_cons (pd_callB call_len ok_len rfl (fb_len c) (by decide +kernel) (pad_cons (v_ 5) pad_nil)) pad_nil)) (g_ (sc__law_like).nd 6)
    (pssd_one (psd_expr (pd_append (v_ 2) (pad_cons (pd_tup (pad_cons (pd_ix (v_ 4) (v_ 6) (fun _ _ => rfl)) (pad_cons (pd_ix (v_ 5) (v_ 6) (fun _ _ => rfl)) pad_nil))) pad_nil)))))))
    (pssd_one (psd_if (pt_ne hr.units (v_ 4) (v_ 5))
    (pssd_one (psd_ret pd_bl))
    pssd_nil))))))))
    (pssd_one (psd_ret pd_bl))))) (pu__law_like K)
theorem ok__law_like (c : Ev fa fn K mg) : Fg P w K mg base 3 (d__law_like.ad K) (sp__law_like K) [] := by
  obtain ⟨fd, F⟩ := c.def_ 20 (d := d__law_like) rfl
  exact fg_n (ps := ["answer", "due"]) F (fun _ _ _ _ _ _ us hl => match us, hl with | [_, _], _ => rfl) (fo__law_like c F)
theorem sc__law_told : FnScope n__law_told ["name", "numbers", "state", "item"] (defScope s__law_told) := ⟨rfl, rfl, rfl, by decide +kernel, rfl, by decide +kernel, by decide +kernel⟩
theorem sn__law_told (K : PySem.W.Frag) : SpN 4 (sp__law_told K) := ⟨fun _ _ _ _ h => A4_len h⟩
theorem fo__law_told (c : Ev fa fn K mg) {fd : FuncData} (F : FunD K d__law_told.name d__law_told.qual d__law_told.params d__law_told.body d__law_told.scope (d__law_told.dvs K) (d__law_told.kws K) (d__law_told.ad K) fd) : FnOk P w K mg base (L2.CX P w) 5 (d__law_told.ad K) fd ["name", "numbers", "state", "item"] (liftSp K (sp__law_told K)) :=
  fn_p F sc__law_told (sn__law_told K) rfl (fun cdv A outer s H E hr =>
    (pssd_cons (psd_if (ptd_w (pwd_and (pt_eq hr.units (v_ 0) pd_str) (pwd_and1 (pt_lt (v_ 3) pd_int))))
    (pssd_one (psd_ret (pd_cl (ok_due_call c) (hr.mono (by decide)) rfl (fg_due_call c) (pad_cons (v_ 1) (pad_cons (v_ 2) pad_nil)))))
    pssd_nil)
    (pssd_cons (psd_if (pt_eq hr.units (v_ 0) pd_str)
    (pssd_one (psd_ret (pd_cl (ok_due_come c) (hr.mono (by decide)) rfl (fg_due_come c) (pad_cons (v_ 1) (pad_cons (v_ 2) (pad_cons (v_ 3) pad_nil))))))
    pssd_nil)
    (pssd_cons (psd_if (pt_lt (v_ 3) pd_int)
    (pssd_one (psd_ret (pd_cl (ok_fair_call c) (hr.mono (by decide)) rfl (fg_fair_call c) (pad_cons (v_ 2) pad_nil))))
    pssd_nil)
    (pssd_one (psd_ret (pd_cl (ok_fair_come c) (hr.mono (by decide)) rfl (fg_fair_come c) (pad_cons (v_ 1) (pad_cons (v_ 2) (pad_cons (v_ 3) pad_nil)))))))))) (pu__law_told K)
theorem ok__law_told (c : Ev fa fn K mg) : Fg P w K mg base 5 (d__law_told.ad K) (sp__law_told K) [] := by
  obtain ⟨fd, F⟩ := c.def_ 21 (d := d__law_told) rfl
  exact fg_n (ps := ["name", "numbers", "state", "item"]) F (fun _ _ _ _ _ _ us hl => match us, hl with | [_, _, _, _], _ => rfl) (fo__law_told c F)
theorem sc__law_step_right : FnScope n__law_step_right ["policy", "world", "item", "due"] (defScope s__law_step_right) := ⟨rfl, rfl, rfl, by decide +kernel, rfl, by decide +kernel, by decide +kernel⟩
theorem sn__law_step_right (K : PySem.W.Frag) : SpN 4 (sp__law_step_right K) := ⟨fun _ _ _ _ h => A4_len h⟩
theorem fo__law_step_right (c : Ev fa fn K mg) {fd : FuncData} (F : FunD K d__law_step_right.name d__law_step_right.qual d__law_step_right.params d__law_step_right.body d__law_step_right.scope (d__law_step_right.dvs K) (d__law_step_right.kws K) (d__law_step_right.ad K) fd) : FnOk P w K mg base (L2.CX P w) 7 (d__law_step_right.ad K) fd ["policy", "world", "item", "due"] (liftSp K (sp__law_step_right K)) :=
  fn_p F sc__law_step_right (sn__law_step_right K) rfl (fun cdv A outer s H E hr =>
    (pssd_cons (psd_asg (v_ 1) (pgd_tup rfl (pgsd_cons (g_ (sc__law_step_right).nd 4) (pgsd_cons (g_ (sc__law_step_right).nd 5) (pgsd_cons (g_ (sc__law_step_right).nd 6) (pgsd_cons (g_ (sc__law_step_right).nd 7) (pgsd_cons (g_ (sc__law_step_right).nd 8) pgsd_nil)))))))
    (pssd_cons (s_ (sc__law_step_right).nd 9 (pd_cl (ok__law_state c) (hr.mono (by decide)) rfl (fg__law_state c) (pad_cons (v_ 1) pad_nil)))
    (pssd_cons (psd_if (ptd_not (pd_val (pd_cl (ok__law_like c) (hr.mono (by decide)) rfl (fg__law_like c) (pad_cons (pd_cl (ok__law_told c) (hr.mono (by decide)) rfl (fg__law_told c) (pad_cons (v_ 4) (pad_cons (v_ 5) (pad_cons (v_ 9) (pad_cons (v_ 2) pad_nil))))) (pad_cons (v_ 3) pad_nil)))))
    (pssd_one (psd_ret pd_bl))
    pssd_nil)
    (pssd_cons (s_ (sc__law_step_right).nd 10 (pd_lc rfl (sc__law_step_right).nd (pid_any (v_ 6)) (bc_ (own := [("entry", 12)])) (fun _ _ _ _ _ => (gb_ (sc__law_step_right).nd 12)) (gex_name (by decide)) (fun _ _ _ _ _ => ptsd_nil) (fun _ _ _ _ _ => (pd_ix (v_ 12) pd_int (fun _ _ => rfl)))))
    (pssd_cons (s_ (sc__law_step_right).nd 11 (pd_callTy call_tuple_of ok_tuple rfl (fb_tuple c) (by decide +kernel) (pad_cons (pd_lc rfl (sc__law_step_right).nd (pid_rng1 rfl (fb_range c) (pad_cons (pd_callB call_len ok_len rfl (fb_len c) (by decide +kernel) (pad_cons (v_ 5) pad_nil)) pad_nil)) (bc_ (own := [("one", 13)])) (fun _ _ _ _ _ => (gb_ (sc__law_step_right).nd 13)) (gex_name (by decide)) (fun _ _ _ _ _ => ptsd_nil) (fun _ _ _ _ _ => (pd_count (v_ 10) (pad_cons (v_ 13) pad_nil)))) pad_nil)))
    (pssd_cons (psd_if (pt_lt (v_ 2) pd_int)
    (pssd_one (psd_ret (pd_cl (ok__law_like c) (hr.mono (by decide)) rfl (fg__law_like c) (pad_cons (pd_mt (fc_Policy c) (fm_Policy__call c) (ok_Policy__call c) (hr.mono (by decide)) (v_ 0) (pad_cons (v_ 9) (pad_cons (v_ 11) pad_nil))) (pad_cons (v_ 3) pad_nil)))))
    pssd_nil)
    (pssd_one (psd_ret (pd_cl (ok__law_like c) (hr.mono (by decide)) rfl (fg__law_like c) (pad_cons (pd_mt (fc_Policy c) (fm_Policy__come c) (ok_Policy__come c) (hr.mono (by decide)) (v_ 0) (pad_cons (v_ 9) (pad_cons (v_ 11) (pad_cons (v_ 2) pad_nil)))) (pad_cons (v_ 3) pad_nil)))))))))))) (pu__law_step_right K)
theorem ok__law_step_right (c : Ev fa fn K mg) : Fg P w K mg base 7 (d__law_step_right.ad K) (sp__law_step_right K) [] := by
  obtain ⟨fd, F⟩ := c.def_ 22 (d := d__law_step_right) rfl
  exact fg_n (ps := ["policy", "world", "item", "due"]) F (fun _ _ _ _ _ _ us hl => match us, hl with | [_, _, _, _], _ => rfl) (fo__law_step_right c F)
theorem sc__law_event : FnScope n__law_event ["policy", "world", "item", "ask"] (defScope s__law_event) := ⟨rfl, rfl, rfl, by decide +kernel, rfl, by decide +kernel, by decide +kernel⟩
theorem sn__law_event (K : PySem.W.Frag) : SpN 4 (sp__law_event K) := ⟨fun _ _ _ _ h => A4_len h⟩
theorem fo__law_event (c : Ev fa fn K mg) {fd : FuncData} (F : FunD K d__law_event.name d__law_event.qual d__law_event.params d__law_event.body d__law_event.scope (d__law_event.dvs K) (d__law_event.kws K) (d__law_event.ad K) fd) : FnOk P w K mg base (L2.CX P w) 9 (d__law_event.ad K) fd ["policy", "world", "item", "ask"] (liftSp K (sp__law_event K)) :=
  fn_p F sc__law_event (sn__law_event K) rfl (fun cdv A outer s H E hr =>
    (pssd_cons (s_ (sc__law_event).nd 4 (pd_cl (ok__law_state c) (hr.mono (by decide)) rfl (fg__law_state c) (pad_cons (v_ 1) pad_nil)))
    (pssd_cons (psd_if (pt_lt (v_ 2) pd_int)
    (pssd_cons (s_ (sc__law_event).nd 5 (pd_cl (ok__law_behind_call c) (hr.mono (by decide)) rfl (fg__law_behind_call c) (pad_cons (v_ 1) pad_nil)))
    (pssd_one (s_ (sc__law_event).nd 6 (pd_tup (pad_cons (pd_ix (pd_ix (pd_ix (v_ 1) pd_int (fun _ _ => rfl)) pd_int (fun _ _ => rfl)) pd_int (fun _ _ => rfl)) (pad_cons (pd_cl (ok__law_state c) (hr.mono (by decide)) rfl (fg__law_state c) (pad_cons (v_ 5) pad_nil)) pad_nil))))))
    (pssd_cons (s_ (sc__law_event).nd 5 (pd_cl (ok__law_behind_come c) (hr.mono (by decide)) rfl (fg__law_behind_come c) (pad_cons (v_ 1) (pad_cons (v_ 2) pad_nil))))
    (pssd_one (s_ (sc__law_event).nd 6 (pd_cl (ok__law_state c) (hr.mono (by decide)) rfl (fg__law_state c) (pad_cons (v_ 5) pad_nil))))))
    (pssd_cons (s_ (sc__law_event).nd 7 (pd_or (pd_not (v_ 3)) (pd_one (pd_cl (ok__law_step_right c) (hr.mono (by decide)) rfl (fg__law_step_right c) (pad_cons (v_ 0) (pad_cons (v_ 1) (pad_cons (v_ 2) (pad_cons (v_ 6) pad_nil))))))))
    (pssd_one (psd_ret (pd_lst (pad_cons (v_ 5) (pad_cons (v_ 7) (pad_cons (pd_lst (pad_cons (pd_ix (v_ 1) pd_int (fun _ _ => rfl)) (pad_cons (pd_ix (v_ 1) pd_int (fun _ _ => rfl)) (pad_cons (v_ 4) (pad_cons (v_ 2) (pad_cons (v_ 6) pad_nil)))))) pad_nil)))))))))) (pu__law_event K)
theorem ok__law_event (c : Ev fa fn K mg) : Fg P w K mg base 9 (d__law_event.ad K) (sp__law_event K) [] := by
  obtain ⟨fd, F⟩ := c.def_ 23 (d := d__law_event) rfl
  exact fg_n (ps := ["policy", "world", "item", "ask"]) F (fun _ _ _ _ _ _ us hl => match us, hl with | [_, _, _, _], _ => rfl) (fo__law_event c F)
theorem sc__law_mix : FnScope n__law_mix ["number", "turn"] (defScope s__law_mix) := ⟨rfl, rfl, rfl, by decide +kernel, rfl, by decide +kernel, by decide +kernel⟩
theorem sn__law_mix (K : PySem.W.Frag) : SpN 2 (sp__law_mix K) := ⟨fun _ _ _ _ h => A2_len h⟩
theorem fo__law_mix (c : Ev fa fn K mg) {fd : FuncData} (F : FunD K d__law_mix.name d__law_mix.qual d__law_mix.params d__law_mix.body d__law_mix.scope (d__law_mix.dvs K) (d__law_mix.kws K) (d__law_mix.ad K) fd) : FnOk P w K mg base (L2.CX P w) 1 (d__law_mix.ad K) fd ["number", "turn"] (liftSp K (sp__law_mix K)) :=
  fn_p F sc__law_mix (sn__law_mix K) rfl (fun cdv A outer s H E hr =>
    (pssd_cons (s_ (sc__law_mix).nd 2 pd_int)
    (pssd_cons (s_ (sc__law_mix).nd 3 (pd_mod (pd_callTy call_int1 ok_int rfl (fb_int c) (by decide +kernel) (pad_cons (pd_add (pd_add (pd_mod (pd_callTy call_int1 ok_int rfl (fb_int c) (by decide +kernel) (pad_cons (v_ 0) pad_nil)) (v_ 2)) (pd_mul (pd_callTy call_int1 ok_int rfl (fb_int c) (by decide +kernel) (pad_cons (v_ 1) pad_nil)) pd_int)) pd_int) pad_nil)) (v_ 2)))
    (pssd_cons (s_ (sc__law_mix).nd 3 (pd_mod (pd_callTy call_int1 ok_int rfl (fb_int c) (by decide +kernel) (pad_cons (pd_mul (pd_callTy call_int1 ok_int rfl (fb_int c) (by decide +kernel) (pad_cons (pd_xor (v_ 3) (pd_fdiv (v_ 3) pd_int)) pad_nil)) pd_int) pad_nil)) (v_ 2)))
    (pssd_cons (s_ (sc__law_mix).nd 4 (pd_mod (pd_callTy call_int1 ok_int rfl (fb_int c) (by decide +kernel) (pad_cons (pd_mul (pd_callTy call_int1 ok_int rfl (fb_int c) (by decide +kernel) (pad_cons (pd_xor (v_ 3) (pd_fdiv (v_ 3) pd_int)) pad_nil)) pd_int) pad_nil)) (v_ 2)))
    (pssd_one (psd_ret (pd_xor (v_ 4) (pd_fdiv (v_ 4) pd_int))))))))) (pu__law_mix K)
theorem ok__law_mix (c : Ev fa fn K mg) : Fg P w K mg base 1 (d__law_mix.ad K) (sp__law_mix K) [] := by
  obtain ⟨fd, F⟩ := c.def_ 24 (d := d__law_mix) rfl
  exact fg_n (ps := ["number", "turn"]) F (fun _ _ _ _ _ _ us hl => match us, hl with | [_, _], _ => rfl) (fo__law_mix c F)
theorem sc__law_take : FnScope n__law_take ["store", "many"] (defScope s__law_take) := ⟨rfl, rfl, rfl, by decide +kernel, rfl, by decide +kernel, by decide +kernel⟩
theorem sn__law_take (K : PySem.W.Frag) : SpN 2 (sp__law_take K) := ⟨fun _ _ _ _ h => A2_len h⟩
theorem fo__law_take (c : Ev fa fn K mg) {fd : FuncData} (F : FunD K d__law_take.name d__law_take.qual d__law_take.params d__law_take.body d__law_take.scope (d__law_take.dvs K) (d__law_take.kws K) (d__law_take.ad K) fd) : FnOk P w K mg base (L2.CX P w) 3 (d__law_take.ad K) fd ["store", "many"] (liftSp K (sp__law_take K)) :=
  fn_p F sc__law_take (sn__law_take K) rfl (fun cdv A outer s H E hr =>
    (pssd_cons (psd_if (pt_le (v_ 1) pd_int)
    (pssd_one (psd_ret pd_int))
    pssd_nil)
    (pssd_cons (s_ (sc__law_take).nd 2 (pd_ix (v_ 0) pd_int (fun _ _ => rfl)))
    (pssd_cons (s_ (sc__law_take).nd 3 (pd_ix (v_ 0) pd_int (fun _ _ => rfl)))
    (pssd_cons (s_ (sc__law_take).nd 4 (pd_ix (v_ 0) pd_int (fun _ _ => rfl)))
    (pssd_cons (psd_if (pt_ge (v_ 4) (pd_callB call_len ok_len rfl (fb_len c) (by decide +kernel) (pad_cons (v_ 2) pad_nil)))
    (pssd_cons (psd_asg (pd_add (pd_ix (v_ 0) pd_int (fun _ _ => rfl)) pd_int) (pgd_sub (v_ 0) pd_int))
    (pssd_one (psd_ret (pd_mod (pd_callTy call_int1 ok_int rfl (fb_int c) (by decide +kernel) (pad_cons (pd_cl (ok__law_mix c) (hr.mono (by decide)) rfl (fg__law_mix c) (pad_cons (pd_ix (v_ 0) pd_int (fun _ _ => rfl)) (pad_cons (pd_ix (v_ 0) pd_int (fun _ _ => rfl)) pad_nil))) pad_nil)) (v_ 1)))))
    pssd_nil)
    (pssd_cons (psd_if (pt_eq hr.units (pd_ix (v_ 3) (v_ 4) (fun _ _ => rfl)) pd_int)
    (pssd_cons (s_ (sc__law_take).nd 5 (pd_callTy call_int1 ok_int rfl (fb_int c) (by decide +kernel) (pad_cons (pd_ix (v_ 2) (v_ 4) (fun _ _ => rfl)) pad_nil)))
    (pssd_cons (psd_asg (pd_fdiv (v_ 5) (v_ 1)) (pgd_sub (v_ 2) (v_ 4)))
    (pssd_cons (psd_if (pt_lt (v_ 5) (v_ 1))
    (pssd_one (psd_asg (pd_add (v_ 4) pd_int) (pgd_sub (v_ 0) pd_int)))
    pssd_nil)
    (pssd_one (psd_ret (pd_mod (pd_callTy call_int1 ok_int rfl (fb_int c) (by decide +kernel) (pad_cons (v_ 5) pad_nil)) (v_ 1)))))))
    pssd_nil)
    (pssd_cons (psd_asg (pd_sub (pd_ix (v_ 3) (v_ 4) (fun _ _ => rfl)) pd_int) (pgd_sub (v_ 3) (v_ 4)))
    (pssd_cons (psd_if (pt_eq hr.units (pd_ix (v_ 3) (v_ 4) (fun _ _ => rfl)) pd_int)
    (pssd_one (psd_asg (pd_add (v_ 4) pd_int) (pgd_sub (v_ 0) pd_int)))
    pssd_nil)
    (pssd_one (psd_ret (pd_mod (pd_callTy call_int1 ok_int rfl (fb_int c) (by decide +kernel) (pad_cons (pd_cl (ok__law_mix c) (hr.mono (by decide)) rfl (fg__law_mix c) (pad_cons (pd_ix (v_ 2) (v_ 4) (fun _ _ => rfl)) (pad_cons (pd_ix (v_ 3) (v_ 4) (fun _ _ => rfl)) pad_nil))) pad_nil)) (v_ 1))))))))))))) (pu__law_take K)
theorem ok__law_take (c : Ev fa fn K mg) : Fg P w K mg base 3 (d__law_take.ad K) (sp__law_take K) [] := by
  obtain ⟨fd, F⟩ := c.def_ 25 (d := d__law_take) rfl
  exact fg_n (ps := ["store", "many"]) F (fun _ _ _ _ _ _ us hl => match us, hl with | [_, _], _ => rfl) (fo__law_take c F)
theorem sc__law_item_drawn : FnScope n__law_item_drawn ["store", "world", "rare"] (defScope s__law_item_drawn) := ⟨rfl, rfl, rfl, by decide +kernel, rfl, by decide +kernel, by decide +kernel⟩
theorem sn__law_item_drawn (K : PySem.W.Frag) : SpN 3 (sp__law_item_drawn K) := ⟨fun _ _ _ _ h => A3_len h⟩
theorem fo__law_item_drawn (c : Ev fa fn K mg) {fd : FuncData} (F : FunD K d__law_item_drawn.name d__law_item_drawn.qual d__law_item_drawn.params d__law_item_drawn.body d__law_item_drawn.scope (d__law_item_drawn.dvs K) (d__law_item_drawn.kws K) (d__law_item_drawn.ad K) fd) : FnOk P w K mg base (L2.CX P w) 5 (d__law_item_drawn.ad K) fd ["store", "world", "rare"] (liftSp K (sp__law_item_drawn K)) :=
  fn_p F sc__law_item_drawn (sn__law_item_drawn K) rfl (fun cdv A outer s H E hr =>
    (pssd_cons (psd_if (ptd_w (pwd_and (pt_gt (pd_callB call_len ok_len rfl (fb_len c) (by decide +kernel) (pad_cons (pd_ix (v_ 1) pd_int (fun _ _ => rfl)) pad_nil)) pd_int) (pwd_and1 (pt_lt (pd_cl (ok__law_take c) (hr.mono (by decide)) rfl (fg__law_take c) (pad_cons (v_ 0) (pad_cons (v_ 2) pad_nil))) pd_int))))
    (pssd_one (psd_ret (pd_neg pd_int)))
    pssd_nil)
    (pssd_one (psd_ret (pd_cl (ok__law_take c) (hr.mono (by decide)) rfl (fg__law_take c) (pad_cons (v_ 0) (pad_cons (pd_callB call_len ok_len rfl (fb_len c) (by decide +kernel) (pad_cons (pd_ix (v_ 1) pd_int (fun _ _ => rfl)) pad_nil)) pad_nil))))))) (pu__law_item_drawn K)
theorem ok__law_item_drawn (c : Ev fa fn K mg) : Fg P w K mg base 5 (d__law_item_drawn.ad K) (sp__law_item_drawn K) [] := by
  obtain ⟨fd, F⟩ := c.def_ 26 (d := d__law_item_drawn) rfl
  exact fg_n (ps := ["store", "world", "rare"]) F (fun _ _ _ _ _ _ us hl => match us, hl with | [_, _, _], _ => rfl) (fo__law_item_drawn c F)
theorem sc__law_of : FnScope n__law_of ["store", "things"] (defScope s__law_of) := ⟨rfl, rfl, rfl, by decide +kernel, rfl, by decide +kernel, by decide +kernel⟩
theorem sn__law_of (K : PySem.W.Frag) : SpN 2 (sp__law_of K) := ⟨fun _ _ _ _ h => A2_len h⟩
theorem fo__law_of (c : Ev fa fn K mg) {fd : FuncData} (F : FunD K d__law_of.name d__law_of.qual d__law_of.params d__law_of.body d__law_of.scope (d__law_of.dvs K) (d__law_of.kws K) (d__law_of.ad K) fd) : FnOk P w K mg base (L2.CX P w) 5 (d__law_of.ad K) fd ["store", "things"] (liftSp K (sp__law_of K)) :=
  fn_p F sc__law_of (sn__law_of K) rfl (fun cdv A outer s H E hr =>
    (pssd_one (psd_ret (pd_ix (v_ 1) (pd_cl (ok__law_take c) (hr.mono (by decide)) rfl (fg__law_take c) (pad_cons (v_ 0) (pad_cons (pd_callB call_len ok_len rfl (fb_len c) (by decide +kernel) (pad_cons (v_ 1) pad_nil)) pad_nil))) (fun _ _ => rfl))))) (pu__law_of K)
theorem ok__law_of (c : Ev fa fn K mg) : Fg P w K mg base 5 (d__law_of.ad K) (sp__law_of K) [] := by
  obtain ⟨fd, F⟩ := c.def_ 27 (d := d__law_of) rfl
  exact fg_n (ps := ["store", "things"]) F (fun _ _ _ _ _ _ us hl => match us, hl with | [_, _], _ => rfl) (fo__law_of c F)
theorem sc_Policy__quantum : FnScope n_Policy__quantum ["self"] (defScope s_Policy__quantum) := ⟨rfl, rfl, rfl, by decide +kernel, rfl, by decide +kernel, by decide +kernel⟩
theorem sn_Policy__quantum (K : PySem.W.Frag) : SpN 1 (sp_Policy__quantum K) := ⟨fun _ _ _ _ h => A1_len h⟩
theorem fo_Policy__quantum (c : Ev fa fn K mg) {fd : FuncData} (F : FunD K d_Policy__quantum.name d_Policy__quantum.qual d_Policy__quantum.params d_Policy__quantum.body d_Policy__quantum.scope (d_Policy__quantum.dvs K) (d_Policy__quantum.kws K) (d_Policy__quantum.ad K) fd) : FnOk P w K mg base (L2.CX P w) 1 (d_Policy__quantum.ad K) fd ["self"] (liftSp K (sp_Policy__quantum K)) :=
  fn_p F sc_Policy__quantum (sn_Policy__quantum K) rfl (fun cdv A outer s H E hr =>
    (pssd_one (psd_ret (pd_fld (fc_Policy c) (fn_Policy__policy_quantum c) (v_ 0))))) (pu_Policy__quantum K)
theorem ok_Policy__quantum (c : Ev fa fn K mg) : Fg P w K mg base 1 (d_Policy__quantum.ad K) (sp_Policy__quantum K) [] := by
  obtain ⟨fd, F⟩ := c.def_ 28 (d := d_Policy__quantum) rfl
  exact fg_n (ps := ["self"]) F (fun _ _ _ _ _ _ us hl => match us, hl with | [_], _ => rfl) (fo_Policy__quantum c F)
theorem sc_Policy__start : FnScope n_Policy__start ["self"] (defScope s_Policy__start) := ⟨rfl, rfl, rfl, by decide +kernel, rfl, by decide +kernel, by decide +kernel⟩
theorem sn_Policy__start (K : PySem.W.Frag) : SpN 1 (sp_Policy__start K) := ⟨fun _ _ _ _ h => A1_len h⟩
theorem fo_Policy__start (c : Ev fa fn K mg) {fd : FuncData} (F : FunD K d_Policy__start.name d_Policy__start.qual d_Policy__start.params d_Policy__start.body d_Policy__start.scope (d_Policy__start.dvs K) (d_Policy__start.kws K) (d_Policy__start.ad K) fd) : FnOk P w K mg base (L2.CX P w) 3 (d_Policy__start.ad K) fd ["self"] (liftSp K (sp_Policy__start K)) :=
  fn_p F sc_Policy__start (sn_Policy__start K) rfl (fun cdv A outer s H E hr =>
    (pssd_cons (s_ (sc_Policy__start).nd 1 (pd_sub (pd_pr (fc_Policy c) (fp_Policy__many c) (ok_Policy__many c) (hr.mono (by decide)) (v_ 0)) pd_int))
    (pssd_cons (psd_if (pt_eq hr.units (pd_fld (fc_Policy c) (fn_Policy__policy_name c) (v_ 0)) pd_str)
    pssd_never
    pssd_nil)
    (pssd_cons (psd_if (pt_eq hr.units (pd_fld (fc_Policy c) (fn_Policy__policy_name c) (v_ 0)) pd_str)
    pssd_never
    pssd_nil)
    (pssd_cons (psd_if (pt_eq hr.units (pd_fld (fc_Policy c) (fn_Policy__policy_name c) (v_ 0)) pd_str)
    (pssd_one (psd_ret (pd_tup (pad_cons (pd_tup pad_nil) (pad_cons (pd_mul (pd_tup (pad_cons pd_int pad_nil)) (pd_pr (fc_Policy c) (fp_Policy__many c) (ok_Policy__many c) (hr.mono (by decide)) (v_ 0))) pad_nil)))))
    pssd_nil)
    (pssd_cons (psd_if (pt_eq hr.units (pd_fld (fc_Policy c) (fn_Policy__policy_name c) (v_ 0)) pd_str)
    pssd_never
    pssd_nil)
    (pssd_cons (psd_if (pt_eq hr.units (pd_fld (fc_Policy c) (fn_Policy__policy_name c) (v_ 0)) pd_str)
    pssd_never
    pssd_nil)
    (pssd_one (psd_ret (pd_tup pad_nil)))))))))) (pu_Policy__start K)
theorem ok_Policy__start (c : Ev fa fn K mg) : Fg P w K mg base 3 (d_Policy__start.ad K) (sp_Policy__start K) [] := by
  obtain ⟨fd, F⟩ := c.def_ 29 (d := d_Policy__start) rfl
  exact fg_n (ps := ["self"]) F (fun _ _ _ _ _ _ us hl => match us, hl with | [_], _ => rfl) (fo_Policy__start c F)
theorem sc__law_start_right : FnScope n__law_start_right ["policy", "world"] (defScope s__law_start_right) := ⟨rfl, rfl, rfl, by decide +kernel, rfl, by decide +kernel, by decide +kernel⟩
theorem sn__law_start_right (K : PySem.W.Frag) : SpN 2 (sp__law_start_right K) := ⟨fun _ _ _ _ h => A2_len h⟩
theorem fo__law_start_right (c : Ev fa fn K mg) {fd : FuncData} (F : FunD K d__law_start_right.name d__law_start_right.qual d__law_start_right.params d__law_start_right.body d__law_start_right.scope (d__law_start_right.dvs K) (d__law_start_right.kws K) (d__law_start_right.ad K) fd) : FnOk P w K mg base (L2.CX P w) 5 (d__law_start_right.ad K) fd ["policy", "world"] (liftSp K (sp__law_start_right K)) :=
  fn_p F sc__law_start_right (sn__law_start_right K) rfl (fun cdv A outer s H E hr =>
    (pssd_cons (psd_asg (v_ 1) (pgd_tup rfl (pgsd_cons (g_ (sc__law_start_right).nd 2) (pgsd_cons (g_ (sc__law_start_right).nd 3) (pgsd_cons (g_ (sc__law_start_right).nd 4) (pgsd_cons (g_ (sc__law_start_right).nd 5) (pgsd_cons (g_ (sc__law_start_right).nd 6) pgsd_nil)))))))
    (pssd_cons (s_ (sc__law_start_right).nd 7 (pd_lst (pad_cons (pd_pr (fc_Policy c) (fp_Policy__name c) (ok_Policy__name c) (hr.mono (by decide)) (v_ 0)) (pad_cons (pd_pr (fc_Policy c) (fp_Policy__numbers c) (ok_Policy__numbers c) (hr.mono (by decide)) (v_ 0)) (pad_cons (pd_pr (fc_Policy c) (fp_Policy__quantum c) (ok_Policy__quantum c) (hr.mono (by decide)) (v_ 0)) (pad_cons (pd_pr (fc_Policy c) (fp_Policy__many c) (ok_Policy__many c) (hr.mono (by decide)) (v_ 0)) (pad_cons (pd_mt0 (fc_Policy c) (fm_Policy__start c) (ok_Policy__start c) (hr.mono (by decide)) (v_ 0)) pad_nil)))))))
    (pssd_one (psd_ret (pd_cl (ok__law_like c) (hr.mono (by decide)) rfl (fg__law_like c) (pad_cons (v_ 7) (pad_cons (pd_lst (pad_cons (v_ 2) (pad_cons (v_ 3) (pad_cons pd_non (pad_cons (pd_callB call_len ok_len rfl (fb_len c) (by decide +kernel) (pad_cons (v_ 3) pad_nil)) (pad_cons (pd_cl (ok__law_state c) (hr.mono (by decide)) rfl (fg__law_state c) (pad_cons (v_ 1) pad_nil)) pad_nil)))))) pad_nil)))))))) (pu__law_start_right K)
theorem ok__law_start_right (c : Ev fa fn K mg) : Fg P w K mg base 5 (d__law_start_right.ad K) (sp__law_start_right K) [] := by
  obtain ⟨fd, F⟩ := c.def_ 30 (d := d__law_start_right) rfl
  exact fg_n (ps := ["policy", "world"]) F (fun _ _ _ _ _ _ us hl => match us, hl with | [_, _], _ => rfl) (fo__law_start_right c F)
theorem sc__law_store : FnScope n__law_store ["script"] (defScope s__law_store) := ⟨rfl, rfl, rfl, by decide +kernel, rfl, by decide +kernel, by decide +kernel⟩
theorem sn__law_store (K : PySem.W.Frag) : SpN 1 (sp__law_store K) := ⟨fun _ _ _ _ h => A1_len h⟩
theorem fo__law_store (c : Ev fa fn K mg) {fd : FuncData} (F : FunD K d__law_store.name d__law_store.qual d__law_store.params d__law_store.body d__law_store.scope (d__law_store.dvs K) (d__law_store.kws K) (d__law_store.ad K) fd) : FnOk P w K mg base (L2.CX P w) 3 (d__law_store.ad K) fd ["script"] (liftSp K (sp__law_store K)) :=
  fn_p F sc__law_store (sn__law_store K) rfl (fun cdv A outer s H E hr =>
    (pssd_cons (s_ (sc__law_store).nd 1 (pd_mul (pd_mul (pd_mul (pd_pow pd_int pd_int) (pd_pow pd_int pd_int)) (pd_pow pd_int pd_int)) (pd_pow pd_int pd_int)))
    (pssd_cons (s_ (sc__law_store).nd 2 (pd_lstM pad_nil))
    (pssd_cons (s_ (sc__law_store).nd 3 (pd_lstM pad_nil))
    (pssd_cons (s_ (sc__law_store).nd 4 pd_int)
    (pssd_cons (psd_for PassesOwn.never rfl (pid_rng1 rfl (fb_range c) (pad_cons (pd_callB (call_minA rfl) ok_minA rfl (fb_min c) (by decide +kernel) (pad_cons (pd_callB call_len ok_len rfl (fb_len c) (by decide +kernel) (pad_cons (v_ 0) pad_nil)) (pad_cons pd_int pad_nil))) pad_nil)) (g_ (sc__law_store).nd 5)
    (pssd_cons (s_ (sc__law_store).nd 6 (pd_callTy call_int1 ok_int rfl (fb_int c) (by decide +kernel) (pad_cons (pd_ix (v_ 0) (v_ 5) (fun _ _ => rfl)) pad_nil)))
    (pssd_cons (s_ (sc__law_store).nd 7 (pd_mod (pd_callTy call_int1 ok_int rfl (fb_int c) (by decide +kernel) (pad_cons (v_ 6) pad_nil)) pd_int))
    (pssd_cons (s_ (sc__law_store).nd 4 (pd_cl (ok__law_mix c) (hr.mono (by decide)) rfl (fg__law_mix c) (pad_cons (pd_add (v_ 4) (v_ 7)) (pad_cons (pd_add (v_ 5) pd_int) pad_nil))))
    (pssd_one (psd_if (pt_lt (v_ 6) (pd_pow pd_int pd_int))
    (pssd_cons (psd_expr (pd_append (v_ 2) (pad_cons (pd_cl (ok__law_mix c) (hr.mono (by decide)) rfl (fg__law_mix c) (pad_cons (v_ 7) (pad_cons (pd_add (v_ 5) pd_int) pad_nil))) pad_nil)))
    (pssd_one (psd_expr (pd_append (v_ 3) (pad_cons pd_int pad_nil)))))
    (pssd_one (psd_if (pt_gt (pd_mod (pd_callTy call_int1 ok_int rfl (fb_int c) (by decide +kernel) (pad_cons (v_ 6) pad_nil)) (v_ 1)) pd_int)
    (pssd_cons (psd_expr (pd_append (v_ 2) (pad_cons (pd_mod (pd_callTy call_int1 ok_int rfl (fb_int c) (by decide +kernel) (pad_cons (v_ 6) pad_nil)) (v_ 1)) pad_nil)))
    (pssd_one (psd_expr (pd_append (v_ 3) (pad_cons pd_int pad_nil)))))
    pssd_nil))))))))
    (pssd_one (psd_ret (pd_lstM (pad_cons (v_ 2) (pad_cons (v_ 3) (pad_cons pd_int (pad_cons (v_ 4) (pad_cons pd_int pad_nil)))))))))))))) (pu__law_store K)
theorem ok__law_store (c : Ev fa fn K mg) : Fg P w K mg base 3 (d__law_store.ad K) (sp__law_store K) [] := by
  obtain ⟨fd, F⟩ := c.def_ 31 (d := d__law_store) rfl
  exact fg_n (ps := ["script"]) F (fun _ _ _ _ _ _ us hl => match us, hl with | [_], _ => rfl) (fo__law_store c F)
theorem sc__law_told_by_name : FnScope n__law_told_by_name ["name", "numbers", "state", "item"] (defScope s__law_told_by_name) := ⟨rfl, rfl, rfl, by decide +kernel, rfl, by decide +kernel, by decide +kernel⟩
theorem sn__law_told_by_name (K : PySem.W.Frag) : SpN 4 (sp__law_told_by_name K) := ⟨fun _ _ _ _ h => A4_len h⟩
theorem fo__law_told_by_name (c : Ev fa fn K mg) {fd : FuncData} (F : FunD K d__law_told_by_name.name d__law_told_by_name.qual d__law_told_by_name.params d__law_told_by_name.body d__law_told_by_name.scope (d__law_told_by_name.dvs K) (d__law_told_by_name.kws K) (d__law_told_by_name.ad K) fd) : FnOk P w K mg base (L2.CX P w) 5 (d__law_told_by_name.ad K) fd ["name", "numbers", "state", "item"] (liftSp K (sp__law_told_by_name K)) :=
  fn_p F sc__law_told_by_name (sn__law_told_by_name K) rfl (fun cdv A outer s H E hr =>
    (pssd_cons (psd_if (ptd_w (pwd_and (pt_eq hr.units (v_ 0) pd_str) (pwd_and1 (pt_lt (v_ 3) pd_int))))
    (pssd_one (psd_ret (pd_clK0 (okk_due_call_0_numbers_state c) (hr.mono (by decide)) rfl (fg_due_call c) (pkd_cons (v_ 1) (pkd_cons (v_ 2) pkd_nil)))))
    pssd_nil)
    (pssd_cons (psd_if (pt_eq hr.units (v_ 0) pd_str)
    (pssd_one (psd_ret (pd_clK0 (okk_due_come_0_numbers_state_item c) (hr.mono (by decide)) rfl (fg_due_come c) (pkd_cons (v_ 1) (pkd_cons (v_ 2) (pkd_cons (v_ 3) pkd_nil))))))
    pssd_nil)
    (pssd_cons (psd_if (pt_lt (v_ 3) pd_int)
    (pssd_one (psd_ret (pd_clK0 (okk_fair_call_0_state c) (hr.mono (by decide)) rfl (fg_fair_call c) (pkd_cons (v_ 2) pkd_nil))))
    pssd_nil)
    (pssd_one (psd_ret (pd_clK0 (okk_fair_come_0_numbers_state_item c) (hr.mono (by decide)) rfl (fg_fair_come c) (pkd_cons (v_ 1) (pkd_cons (v_ 2) (pkd_cons (v_ 3) pkd_nil)))))))))) (pu__law_told_by_name K)
theorem ok__law_told_by_name (c : Ev fa fn K mg) : Fg P w K mg base 5 (d__law_told_by_name.ad K) (sp__law_told_by_name K) [] := by
  obtain ⟨fd, F⟩ := c.def_ 32 (d := d__law_told_by_name) rfl
  exact fg_n (ps := ["name", "numbers", "state", "item"]) F (fun _ _ _ _ _ _ us hl => match us, hl with | [_, _, _, _], _ => rfl) (fo__law_told_by_name c F)
theorem sc__law_world : FnScope n__law_world ["store", "name"] (defScope s__law_world) := ⟨rfl, rfl, rfl, by decide +kernel, rfl, by decide +kernel, by decide +kernel⟩
theorem sn__law_world (K : PySem.W.Frag) : SpN 2 (sp__law_world K) := ⟨fun _ _ _ _ h => A2_len h⟩
theorem fo__law_world (c : Ev fa fn K mg) {fd : FuncData} (F : FunD K d__law_world.name d__law_world.qual d__law_world.params d__law_world.body d__law_world.scope (d__law_world.dvs K) (d__law_world.kws K) (d__law_world.ad K) fd) : FnOk P w K mg base (L2.CX P w) 7 (d__law_world.ad K) fd ["store", "name"] (liftSp K (sp__law_world K)) :=
  fn_p F sc__law_world (sn__law_world K) rfl (fun cdv A outer s H E hr =>
    (pssd_cons (s_ (sc__law_world).nd 2 (pd_add pd_int (pd_cl (ok__law_take c) (hr.mono (by decide)) rfl (fg__law_take c) (pad_cons (v_ 0) (pad_cons pd_int pad_nil)))))
    (pssd_cons (s_ (sc__law_world).nd 3 (pd_callTy call_tuple_of ok_tuple rfl (fb_tuple c) (by decide +kernel) (pad_cons (pd_lc rfl (sc__law_world).nd (pid_rng1 rfl (fb_range c) (pad_cons (v_ 2) pad_nil)) (bc_ (own := [("turn", 4)])) (fun _ _ _ _ _ => (gb_ (sc__law_world).nd 4)) (gex_name (by decide)) (fun _ _ _ _ _ => ptsd_nil) (fun _ _ _ _ _ => (pd_add pd_int (pd_cl (ok__law_take c) (hr.mono (by decide)) rfl (fg__law_take c) (pad_cons (v_ 0) (pad_cons pd_int pad_nil)))))) pad_nil)))
    (pssd_cons (psd_if (pt_eq hr.units (pd_cl (ok__law_take c) (hr.mono (by decide)) rfl (fg__law_take c) (pad_cons (v_ 0) (pad_cons pd_int pad_nil))) pd_int)
    (pssd_one (s_ (sc__law_world).nd 3 (pd_mul (pd_tup (pad_cons (pd_cl (ok__law_of c) (hr.mono (by decide)) rfl (fg__law_of c) (pad_cons (v_ 0) (pad_cons (pd_tup (pad_cons pd_int (pad_cons pd_int (pad_cons (pd_ix (v_ 3) pd_int (fun _ _ => rfl)) pad_nil)))) pad_nil))) pad_nil)) (v_ 2))))
    pssd_nil)
    (pssd_one (psd_ret (pd_lst (pad_cons (v_ 1) (pad_cons (v_ 3) (pad_cons (pd_lst pad_nil) (pad_cons (pd_mul (pd_lst (pad_cons pd_int pad_nil)) (v_ 2)) (pad_cons pd_int pad_nil)))))))))))) (pu__law_world K)
theorem ok__law_world (c : Ev fa fn K mg) : Fg P w K mg base 7 (d__law_world.ad K) (sp__law_world K) [] := by
  obtain ⟨fd, F⟩ := c.def_ 33 (d := d__law_world) rfl
  exact fg_n (ps := ["store", "name"]) F (fun _ _ _ _ _ _ us hl => match us, hl with | [_, _], _ => rfl) (fo__law_world c F)
theorem sc_law : FnScope n_law ["script"] (defScope s_law) := ⟨rfl, rfl, rfl, by decide +kernel, rfl, by decide +kernel, by decide +kernel⟩
theorem sn_law (K : PySem.W.Frag) : SpN 1 (sp_law K) := ⟨fun _ _ _ _ h => A1_len h⟩
theorem fo_law (c : Ev fa fn K mg) {fd : FuncData} (F : FunD K d_law.name d_law.qual d_law.params d_law.body d_law.scope (d_law.dvs K) (d_law.kws K) (d_law.ad K) fd) : FnOk P w K mg base (L2.CX P w) 11 (d_law.ad K) fd ["script"] (liftSp K (sp_law K)) :=
  fn_p F sc_law (sn_law K) rfl (fun cdv A outer s H E hr =>
    (pssd_cons (s_ (sc_law).nd 1 (pd_cl (ok__law_store c) (hr.mono (by decide)) rfl (fg__law_store c) (pad_cons (v_ 0) pad_nil)))
    (pssd_cons (psd_lcM rfl (sc_law).nd (i := 2) rfl rfl (sw_true rfl rfl rfl rfl) (pid_any (pd_tup (pad_cons pd_str (pad_cons pd_str (pad_cons (pd_cl (ok__law_of c) (hr.mono (by decide)) rfl (fg__law_of c) (pad_cons (v_ 1) (pad_cons (pd_tup (pad_cons pd_str (pad_cons pd_str pad_nil))) pad_nil))) pad_nil))))) (bc_ (own := [("name", 14)])) (fun _ _ _ _ _ => (gb_ (sc_law).nd 14)) (gex_name (by decide)) (fun _ _ _ _ _ => ptsd_nil) (fun _ _ _ _ _ => (pd_cl (ok__law_world c) (hr.mono (by decide)) rfl (fg__law_world c) (pad_cons (v_ 1) (pad_cons (v_ 14) pad_nil)))))
    (pssd_cons (psd_lc rfl (sc_law).nd (i := 3) rfl rfl (sw_true rfl rfl rfl rfl) (pid_any (v_ 2)) (bc_ (own := [("world", 19)])) (fun _ _ _ _ _ => (gb_ (sc_law).nd 19)) (gex_name (by decide)) (fun _ _ _ _ _ => ptsd_nil) (fun _ _ _ _ _ => (pd_mk (fk_Policy c) (ok_Policy____init__ c) (hr.mono (by decide)) rfl (fg_Policy c) (pad_cons (pd_ix (v_ 19) pd_int (fun _ _ => rfl)) (pad_cons (pd_ix (v_ 19) pd_int (fun _ _ => rfl)) pad_nil)))))
    (pssd_cons (psd_for PassesOwn.never rfl (pid_rng1 rfl (fb_range c) (pad_cons pd_int pad_nil)) (g_ (sc_law).nd 4)
    (pssd_one (psd_if (ptd_not (pd_val (pd_cl (ok__law_start_right c) (hr.mono (by decide)) rfl (fg__law_start_right c) (pad_cons (pd_ix (v_ 3) (v_ 4) (fun _ _ => rfl)) (pad_cons (pd_ix (v_ 2) (v_ 4) (fun _ _ => rfl)) pad_nil)))))
    (pssd_one (psd_ret pd_bl))
    pssd_nil)))
    (pssd_cons (s_ (sc_law).nd 5 (pd_cl (ok__law_of c) (hr.mono (by decide)) rfl (fg__law_of c) (pad_cons (v_ 1) (pad_cons (pd_add (pd_mul (pd_tup (pad_cons pd_int pad_nil)) pd_int) (pd_tup (pad_cons pd_int pad_nil))) pad_nil))))
    (pssd_cons (s_ (sc_law).nd 6 (pd_lstM pad_nil))
    (pssd_cons (s_ (sc_law).nd 7 (pd_add pd_int (pd_fdiv (v_ 5) pd_int)))
    (pssd_cons (psd_for PassesOwn.never rfl (pid_rng1 rfl (fb_range c) (pad_cons (v_ 5) pad_nil)) (g_ (sc_law).nd 8)
    (pssd_cons (s_ (sc_law).nd 4 (pd_cl (ok__law_take c) (hr.mono (by decide)) rfl (fg__law_take c) (pad_cons (v_ 1) (pad_cons pd_int pad_nil))))
    (pssd_cons (s_ (sc_law).nd 9 (pd_or (pd_lt (v_ 5) pd_int) (pd_or (pd_gt (v_ 8) (pd_sub (v_ 5) pd_int)) (pd_one (pd_eq hr.units (pd_cl (ok__law_take c) (hr.mono (by decide)) rfl (fg__law_take c) (pad_cons (v_ 1) (pad_cons pd_int pad_nil))) pd_int)))))
    (pssd_cons (psd_asg (pd_cl (ok__law_event c) (hr.mono (by decide)) rfl (fg__law_event c) (pad_cons (pd_ix (v_ 3) (v_ 4) (fun _ _ => rfl)) (pad_cons (pd_ix (v_ 2) (v_ 4) (fun _ _ => rfl)) (pad_cons (pd_cl (ok__law_item_drawn c) (hr.mono (by decide)) rfl (fg__law_item_drawn c) (pad_cons (v_ 1) (pad_cons (pd_ix (v_ 2) (v_ 4) (fun _ _ => rfl)) (pad_cons (v_ 7) pad_nil)))) (pad_cons (v_ 9) pad_nil))))) (pgd_tup rfl (pgsd_cons (g_ (sc_law).nd 10) (pgsd_cons (g_ (sc_law).nd 11) (pgsd_cons (g_ (sc_law).nd 12) pgsd_nil)))))
    (pssd_cons (psd_asg (v_ 10) (pgd_sub (v_ 2) (v_ 4)))
    (pssd_cons (psd_if (ptd_not (pd_val (v_ 11)))
    (pssd_one (psd_ret pd_bl))
    pssd_nil)
    (pssd_one (psd_if (pt_lt (pd_callB call_len ok_len rfl (fb_len c) (by decide +kernel) (pad_cons (v_ 6) pad_nil)) pd_int)
    (pssd_one (psd_expr (pd_append (v_ 6) (pad_cons (v_ 12) pad_nil))))
    pssd_nil))))))))
    (pssd_cons (psd_for PassesOwn.never rfl (pid_rng1 rfl (fb_range c) (pad_cons pd_int pad_nil)) (g_ (sc_law).nd 4)
    (pssd_cons (s_ (sc_law).nd 13 (pd_callB call_len ok_len rfl (fb_len c) (by decide +kernel) (pad_cons (pd_ix (pd_ix (v_ 2) (v_ 4) (fun _ _ => rfl)) pd_int (fun _ _ => rfl)) pad_nil)))
    (pssd_one (psd_for PassesOwn.never rfl (pid_rng1 rfl (fb_range c) (pad_cons (v_ 13) pad_nil)) (g_ (sc_law).nd 8)
    (pssd_cons (s_ (sc_law).nd 9 (pd_or (pd_lt (pd_sub (v_ 13) (v_ 8)) pd_int) (pd_one (pd_eq hr.units (pd_cl (ok__law_take c) (hr.mono (by decide)) rfl (fg__law_take c) (pad_cons (v_ 1) (pad_cons pd_int pad_nil))) pd_int))))
    (pssd_cons (psd_asg (pd_cl (ok__law_event c) (hr.mono (by decide)) rfl (fg__law_event c) (pad_cons (pd_ix (v_ 3) (v_ 4) (fun _ _ => rfl)) (pad_cons (pd_ix (v_ 2) (v_ 4) (fun _ _ => rfl)) (pad_cons (pd_neg pd_int) (pad_cons (v_ 9) pad_nil))))) (pgd_tup rfl (pgsd_cons (g_ (sc_law).nd 10) (pgsd_cons (g_ (sc_law).nd 11) (pgsd_cons (g_ (sc_law).nd 12) pgsd_nil)))))
    (pssd_cons (psd_asg (v_ 10) (pgd_sub (v_ 2) (v_ 4)))
    (pssd_one (psd_if (ptd_not (pd_val (v_ 11)))
    (pssd_one (psd_ret pd_bl))
    pssd_nil)))))))))
    (pssd_cons (psd_for PassesOwn.never rfl (pid_any (v_ 6)) (pgd_tup rfl (pgsd_cons (g_ (sc_law).nd 14) (pgsd_cons (g_ (sc_law).nd 15) (pgsd_cons (g_ (sc_law).nd 16) (pgsd_cons (g_ (sc_law).nd 17) (pgsd_cons (g_ (sc_law).nd 18) pgsd_nil))))))
    (pssd_one (psd_if (ptd_not (pd_val (pd_cl (ok__law_like c) (hr.mono (by decide)) rfl (fg__law_like c) (pad_cons (pd_cl (ok__law_told_by_name c) (hr.mono (by decide)) rfl (fg__law_told_by_name c) (pad_cons (v_ 14) (pad_cons (v_ 15) (pad_cons (v_ 16) (pad_cons (v_ 17) pad_nil))))) (pad_cons (v_ 18) pad_nil)))))
    (pssd_one (psd_ret pd_bl))
    pssd_nil)))
    (pssd_one (psd_ret pd_bl))))))))))))) (pu_law K)
theorem ok_law (c : Ev fa fn K mg) : Fg P w K mg base 11 (d_law.ad K) (sp_law K) [] := by
  obtain ⟨fd, F⟩ := c.def_ 34 (d := d_law) rfl
  exact fg_n (ps := ["script"]) F (fun _ _ _ _ _ _ us hl => match us, hl with | [_], _ => rfl) (fo_law c F)
end
end Hd
namespace Hd
open PySem PySem.Spec PyProof.Rows L2 N
theorem facts {P : Program} {w : World} {K : PySem.W.Frag} {h : Heap} {mg : Str → Option Value} {f : Addr} (X : K.In h) (G : h.Ns mainGlobals mg) (hfa : mg ("law" : Str) = some (.ref f)) (c : SaysN fa fn K) :
    ∃ fd : FuncData, (∀ (s : Shared) (v : Value), BindsTo s fd ⟨[v], []⟩ [("script", v)]) ∧ ∀ base : Heap, K.In base → base.Ns mainGlobals mg → FnOk P w K mg base CX0 11 f fd ["script"] (fun vs H Q _ => liftSp K (sp_law K) vs H Q E0) := by
  have e : Ev fa fn K mg := ⟨⟨h, X, G⟩, c⟩
  obtain ⟨fd, F⟩ := e.def_ 34 (d := d_law) rfl
  have ea := hfa.symm.trans (fg_law e)
  cases ea
  have b := FunD.bindsA (ps := ["script"]) F fun _ _ _ _ _ _ us hl => match us, hl with | [_], _ => rfl
  exact ⟨fd, fun s v => b s [v] rfl, fun base _ _ => fn_cx0 (fo_law e F)⟩
end Hd
open PySem PySem.W PySem.Calls PyProof.Rows
theorem PySem.Challenge.cw_nonepassed_k14_due_and_fair_step_by_step_holds : PySem.Challenge.rw_nonepassed_k14_due_and_fair_step_by_step.Holds := by
  w_on; o_law
  refine HandSHeadRun.head_any (r := OpenLaw.row PySem.Challenge.rw_nonepassed_k14_due_and_fair_step_by_step) (q := view (OpenLaw.row PySem.Challenge.rw_nonepassed_k14_due_and_fair_step_by_step).prog [48]) (H := Hd.hk) (ob := Hd.ob) (M := 30000) (loose := Hd.nms) (d := HandSHeadRun.topDef (OpenLaw.row PySem.Challenge.rw_nonepassed_k14_due_and_fair_step_by_step).prog 48) (kwd := []) Hd.ob_eq
    (by kernel_rfl) (fun s => by kernel_rfl) Hd.run (by kernel_rfl) (by kernel_rfl) (by kernel_rfl) (by rfl) (by first | assumption | decide +kernel) (by decide +kernel) ⟨rfl, rfl, rfl, rfl, rfl, by decide +kernel⟩ ?hw ?hc
  case hw => w_witness2
  case hc =>
    refine L2.walk_ofE (l := PySem.Challenge.rw_nonepassed_k14_due_and_fair_step_by_step) (n := 63) (k := 11) (x := "script") (CX := L2.CX0) rfl (by decide) (by kernel_rfl) ⟨rfl, by decide, by decide⟩ ?F (fun _ _ _ _ z => z)
    intro w mg fa h Y G hmg0
    obtain ⟨K, KX, c⟩ := Y
    have hmg : mg ("law" : PySem.Str) = some (.ref fa) := by
      have e : (HandSHeadRun.topDef (OpenLaw.row PySem.Challenge.rw_nonepassed_k14_due_and_fair_step_by_step).prog 48).name = ("law" : PySem.Str) := by kernel_rfl
      rw [← e]
      exact hmg0
    obtain ⟨fd, hb, hF⟩ := Hd.facts (P := (PySem.Challenge.rw_nonepassed_k14_due_and_fair_step_by_step).prog) (w := w) KX G hmg c
    exact ⟨K, fd, (fun vs H Q _ => N.liftSp K (N.sp_law K) vs H Q L2.E0), KX, hb, fun H a ns hl hO hS => N.law_in hl hO hS, hF⟩
