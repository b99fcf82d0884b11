import PyProof.Rows.All
import Wide.All
import OpenK.AllK
import Wide.FinOn
import HandS.ForMost
import HandS.ForExc
import HandS.Wide
import HandS.TupAny
import HandS.TupMul
import HandS.NoneIn
import HandS.Property
import HandS.IsInst
import HandS.Flow
import HandS.Style
import HandS.Conv
import HandS.ExcInit
import HandS.ExcCtx
import HandS.ExcField
import HandS.ExcInitHot
import HandS.HotCalls
import HandS.ExcIs
import HandS.Defaults
import KE.DataEq
import HandS.SetFor
import HandS.MakeKw
import KE.GoesEnum
import HandS.Head0
import HandS.Head1
import HandS.Head2
import HandS.HeadEnd
import HandS.HeadHook1
import HandS.HeadHook2
import PyProof.Rows.Walk
import HandS.StrMore
import PyProof.ListStr
import PyProof.TupleOfStr
import PyProof.StrLawsIn
import HandS.Deep
import HandS.SortInts
import KE.SortData
import KE.DataMinMax
import KE.DatumOrd
import HandS.MakeKwOnly
import HandS.OwnEq
import HandS.Dict
import HandS.SetKeys
import HandS.WordsDict
import KE.KItemsList
import PyProof.Rows.StrCountLaw
import HandS.WideBits
import HandS.SlotsOwn
import PySem.Challenge.RW_nonepassed_k17_fault_exactly_where_no_st
set_option Elab.async false
set_option linter.all false
set_option maxRecDepth 100000
set_option maxHeartbeats 0
/-! A layer of our own over HandS: values as pure data, only what is really changed stands in a ledger. -/
namespace N
open PySem PySem.Spec PyProof.Rows L2
inductive D where
  | non | bl (b : Bool) | int (i : Int) | str (s : Str) | tup (ds : List D) | lst (ds : List D)
  | ro (ds : List D) | obj (C : Addr) (ks : List Str) (ds : List D) | ref (a : Addr) | fn (v : V) | exc (a dd C : Addr) (d : D)
inductive GO where
  | lst (ds : List D) | ins (C : Addr) (ks : List Str) (ds : List D)
  | dK (kvs : List (Key × D)) | dT (kvs : List (List Key × D))
abbrev GH := Addr → Option GO
def gup (G : GH) (a : Addr) (o : GO) : GH := fun b => if b = a then some o else G b
def gdel (G : GH) (a : Addr) : GH := fun b => if b = a then none else G b
theorem gup_same {G : GH} {a : Addr} {o : GO} : gup G a o a = some o := if_pos rfl
theorem gup_ne {G : GH} {a b : Addr} {o : GO} (h : b ≠ a) : gup G a o b = G b := if_neg h
theorem gup_gup {G : GH} {a : Addr} {o u : GO} : gup (gup G a o) a u = gup G a u := by
  funext b
  unfold gup
  split <;> rfl
theorem gdel_same {G : GH} {a : Addr} : gdel G a a = none := if_pos rfl
theorem gdel_ne {G : GH} {a b : Addr} (h : b ≠ a) : gdel G a b = G b := if_neg h
theorem gdel_gup {G : GH} {a : Addr} {o : GO} (h : G a = none) : gdel (gup G a o) a = G := by
  funext b
  by_cases e : b = a
  · rw [e, gdel_same, h]
  · rw [gdel_ne e, gup_ne e]
abbrev ZS := Addr → Prop
def insV (ks : List Str) (xs : List V) : List (Str × V) := ks.zip xs
/-- a list that is only read: a locked one, or one of the module's own -/
def RoL (K : PySem.W.Frag) (H : Hp) (a : Addr) (xs : List V) : Prop := (∃ o, H a = some (.frz o (.lst xs))) ∨
  ∃ (o : Obj) (its : Array Value) (n : Nat), K.lookup a = some o ∧ o.cls = .type "list" ∧ o.dict = none ∧ o.data = .seq its n ∧ its.size ≤ sizeLine ∧ Vals xs its.toList
theorem RoL.sq {K : PySem.W.Frag} {H : Hp} {a : Addr} {xs : List V} (h : RoL K H a xs) : SqL K H a xs := h.elim (fun z => .inl (.inr z)) .inr
theorem RoL.mv {K : PySem.W.Frag} {H H' : Hp} {a : Addr} {xs : List V} (h : RoL K H a xs) (f : ∀ b ob w, H b = some (.frz ob w) → H' b = some (.frz ob w)) : RoL K H' a xs :=
  h.elim (fun ⟨o, z⟩ => .inl ⟨o, f _ _ _ z⟩) .inr
mutual
inductive Rl (K : PySem.W.Frag) (Z : ZS) (G : GH) (H : Hp) : D → V → Prop where
  | non : Rl K Z G H .non .non
  | bl (b : Bool) : Rl K Z G H (.bl b) (.bl b)
  | int (i : Int) : Rl K Z G H (.int i) (.int i)
  | str (s : Str) : Rl K Z G H (.str s) (.str s)
  | tup {a : Addr} {xs : List V} {ds : List D} : SqT K H a xs → RlA K Z G H ds xs → Rl K Z G H (.tup ds) (.ref a)
  | lst {a : Addr} {xs : List V} {ds : List D} : H a = some (.lst xs) → G a = none → ¬ Z a → RlA K Z G H ds xs → Rl K Z G H (.lst ds) (.ref a)
  | ro {a : Addr} {xs : List V} {ds : List D} : RoL K H a xs → RlA K Z G H ds xs → Rl K Z G H (.ro ds) (.ref a)
  | obj {a C dx : Addr} {ks : List Str} {xs : List V} {ds : List D} : H a = some (.ins C dx (insV ks xs)) → G a = none → ¬ Z a → ks.length = xs.length → RlA K Z G H ds xs → Rl K Z G H (.obj C ks ds) (.ref a)
  | ref (a : Addr) : Rl K Z G H (.ref a) (.ref a)
  | fn (v : V) : Rl K Z G H (.fn v) v
  | exc {a dd C : Addr} {d : D} {v : V} : H dd = some (.xd [(("at" : Str), v)]) → G dd = none → ¬ Z dd → Rl K Z G H d v → Rl K Z G H (.exc a dd C d) (.ref a)
inductive RlA (K : PySem.W.Frag) (Z : ZS) (G : GH) (H : Hp) : List D → List V → Prop where
  | nil : RlA K Z G H [] []
  | cons {d : D} {ds : List D} {v : V} {vs : List V} : Rl K Z G H d v → RlA K Z G H ds vs → RlA K Z G H (d :: ds) (v :: vs)
end
/-- what the ledger says of an address -/
def ROk (K : PySem.W.Frag) (Z : ZS) (G : GH) (H : Hp) (a : Addr) : GO → Prop
  | .lst ds => ∃ xs, H a = some (.lst xs) ∧ RlA K Z G H ds xs
  | .ins C ks ds => ∃ dx xs, H a = some (.ins C dx (insV ks xs)) ∧ ks.length = xs.length ∧ RlA K Z G H ds xs
  | .dK kvs => ∃ xs : List V, H a = some (.dK ((kvs.map (·.1)).zip xs)) ∧ RlA K Z G H (kvs.map (·.2)) xs
  | .dT kvs => ∃ xs : List V, H a = some (.dT ((kvs.map (·.1)).zip xs)) ∧ RlA K Z G H (kvs.map (·.2)) xs
structure Rel (K : PySem.W.Frag) (Z : ZS) (G : GH) (H : Hp) : Prop where
  ob : ∀ a o, G a = some o → ¬ Z a ∧ ROk K Z G H a o
  hid : ∀ a, Z a → ∃ o, H a = some o
/-- what is not in the ledger stays, and stays out of it -/
def Step (G : GH) (H : Hp) (G' : GH) (H' : Hp) : Prop := ∀ b o, H b = some o → G b = none → H' b = some o ∧ G' b = none
theorem Step.refl (G : GH) (H : Hp) : Step G H G H := fun _ _ h g => ⟨h, g⟩
theorem Step.trans {G G1 G2 : GH} {H H1 H2 : Hp} (a : Step G H G1 H1) (b : Step G1 H1 G2 H2) : Step G H G2 H2 := fun c o h g =>
  let ⟨h1, g1⟩ := a c o h g
  b c o h1 g1
section
variable {K : PySem.W.Frag} {Z Z' : ZS} {G G' : GH} {H H' : Hp} {a : Addr} {o : GO}
theorem ROk.some (r : ROk K Z G H a o) : ∃ u, H a = Option.some u ∧ (∀ xs, u ≠ .tup xs) ∧ (∀ ob w, u ≠ .frz ob w) := by
  cases o with
  | lst ds => obtain ⟨xs, h, _⟩ := r; exact ⟨_, h, (fun _ e => nomatch e), (fun _ _ e => nomatch e)⟩
  | ins C ks ds => obtain ⟨dx, xs, h, _⟩ := r; exact ⟨_, h, (fun _ e => nomatch e), (fun _ _ e => nomatch e)⟩
  | dK kvs => obtain ⟨xs, h, _⟩ := r; exact ⟨_, h, (fun _ e => nomatch e), (fun _ _ e => nomatch e)⟩
  | dT kvs => obtain ⟨xs, h, _⟩ := r; exact ⟨_, h, (fun _ e => nomatch e), (fun _ _ e => nomatch e)⟩
theorem Rel.fresh (R : Rel K Z G H) (h : H a = Option.none) : G a = Option.none := by
  cases e : G a with
  | none => rfl
  | some o =>
    obtain ⟨_, r⟩ := R.ob a o e
    obtain ⟨u, hu, _⟩ := r.some
    rw [h] at hu
    cases hu
theorem Rel.freshZ (R : Rel K Z G H) (h : H a = Option.none) : ¬ Z a := fun z => by
  obtain ⟨o, e⟩ := R.hid a z
  rw [h] at e
  cases e
theorem Rel.tupOut (R : Rel K Z G H) {xs : List V} (h : H a = Option.some (.tup xs)) : G a = Option.none := by
  cases e : G a with
  | none => rfl
  | some o =>
    obtain ⟨_, r⟩ := R.ob a o e
    obtain ⟨u, hu, n, _⟩ := r.some
    rw [h] at hu
    exact absurd (Option.some.inj hu).symm (n xs)
theorem Rel.frzOut (R : Rel K Z G H) {ob : Obj} {w : HO} (h : H a = Option.some (.frz ob w)) : G a = Option.none := by
  cases e : G a with
  | none => rfl
  | some o =>
    obtain ⟨_, r⟩ := R.ob a o e
    obtain ⟨u, hu, _, n⟩ := r.some
    rw [h] at hu
    exact absurd (Option.some.inj hu).symm (n ob w)
theorem SqT.mv {xs : List V} (k : ∀ ys, H a = Option.some (.tup ys) → H' a = Option.some (.tup ys)) (f : ∀ ob w, H a = Option.some (.frz ob w) → H' a = Option.some (.frz ob w)) (h : SqT K H a xs) : SqT K H' a xs := by
  rcases h with (h | ⟨ob, h⟩) | h
  · exact .inl (.inl (k _ h))
  · exact .inl (.inr ⟨ob, f _ _ h⟩)
  · exact .inr h
/-- how the state of things may move so that what was known of a value stays known -/
structure Mv (Z Z' : ZS) (G G' : GH) (H H' : Hp) : Prop where
  tups : ∀ b xs, H b = some (.tup xs) → H' b = some (.tup xs)
  frzs : ∀ b ob w, H b = some (.frz ob w) → H' b = some (.frz ob w)
  all : ∀ b o, H b = some o → G b = none → ¬ Z b → H' b = some o ∧ G' b = none ∧ ¬ Z' b
theorem Mv.trans {Z1 Z2 : ZS} {G1 G2 : GH} {H1 H2 : Hp} (m : Mv Z Z1 G G1 H H1) (n : Mv Z1 Z2 G1 G2 H1 H2) : Mv Z Z2 G G2 H H2 :=
  ⟨fun b xs e => n.tups b xs (m.tups b xs e), fun b ob w e => n.frzs b ob w (m.frzs b ob w e), fun b o e g z =>
    let ⟨h1, g1, z1⟩ := m.all b o e g z
    n.all b o h1 g1 z1⟩
theorem Mv.refl : Mv Z Z G G H H := ⟨fun _ _ e => e, fun _ _ _ e => e, fun _ _ e g z => ⟨e, g, z⟩⟩
theorem Step.mv (s : Step G H G' H') (R : Rel K Z G H) : Mv Z Z G G' H H' :=
  ⟨fun b xs e => (s b _ e (R.tupOut e)).1, fun b ob w e => (s b _ e (R.frzOut e)).1, fun b o e g z => ⟨(s b o e g).1, (s b o e g).2, z⟩⟩
mutual
theorem Rl.mv (m : Mv Z Z' G G' H H') : ∀ {d : D} {v : V}, Rl K Z G H d v → Rl K Z' G' H' d v
  | _, _, .non => .non
  | _, _, .bl b => .bl b
  | _, _, .int i => .int i
  | _, _, .str s => .str s
  | _, _, .tup h r => .tup (SqT.mv (fun ys => m.tups _ ys) (fun ob w => m.frzs _ ob w) h) (RlA.mv m r)
  | _, _, .lst h g z r => .lst (m.all _ _ h g z).1 (m.all _ _ h g z).2.1 (m.all _ _ h g z).2.2 (RlA.mv m r)
  | _, _, .ro h r => .ro (h.mv m.frzs) (RlA.mv m r)
  | _, _, .obj h g z e r => .obj (m.all _ _ h g z).1 (m.all _ _ h g z).2.1 (m.all _ _ h g z).2.2 e (RlA.mv m r)
  | _, _, .ref a => .ref a
  | _, _, .fn v => .fn v
  | _, _, .exc h g z r => .exc (m.all _ _ h g z).1 (m.all _ _ h g z).2.1 (m.all _ _ h g z).2.2 (Rl.mv m r)
theorem RlA.mv (m : Mv Z Z' G G' H H') : ∀ {ds : List D} {vs : List V}, RlA K Z G H ds vs → RlA K Z' G' H' ds vs
  | _, _, .nil => .nil
  | _, _, .cons h t => .cons (Rl.mv m h) (RlA.mv m t)
end
theorem RlA.length : ∀ {ds : List D} {vs : List V}, RlA K Z G H ds vs → ds.length = vs.length
  | _, _, .nil => rfl
  | _, _, .cons _ t => by rw [List.length_cons, List.length_cons, RlA.length t]
theorem RlA.get : ∀ {ds : List D} {vs : List V} {i : Nat} {d : D}, RlA K Z G H ds vs → ds[i]? = Option.some d → ∃ v, vs[i]? = Option.some v ∧ Rl K Z G H d v
  | _, _, _, _, .nil, e => by simp at e
  | _, _, 0, _, .cons h _, e => by
    simp at e
    subst e
    exact ⟨_, rfl, h⟩
  | _, _, i + 1, d, .cons _ t, e => by
    obtain ⟨v, h1, h2⟩ := RlA.get (i := i) (d := d) t (by simpa using e)
    exact ⟨v, by simpa using h1, h2⟩
theorem RlA.getV : ∀ {ds : List D} {vs : List V} {i : Nat} {v : V}, RlA K Z G H ds vs → vs[i]? = Option.some v → ∃ d, ds[i]? = Option.some d ∧ Rl K Z G H d v
  | _, _, _, _, .nil, e => by simp at e
  | _, _, 0, _, .cons h _, e => by
    simp at e
    subst e
    exact ⟨_, rfl, h⟩
  | _, _, i + 1, v, .cons _ t, e => by
    obtain ⟨d, h1, h2⟩ := RlA.getV (i := i) (v := v) t (by simpa using e)
    exact ⟨d, by simpa using h1, h2⟩
theorem RlA.append : ∀ {ds es : List D} {vs ws : List V}, RlA K Z G H ds vs → RlA K Z G H es ws → RlA K Z G H (ds ++ es) (vs ++ ws)
  | _, _, _, _, .nil, t => t
  | _, _, _, _, .cons h r, t => .cons h (RlA.append r t)
theorem RlA.take : ∀ {ds : List D} {vs : List V} (n : Nat), RlA K Z G H ds vs → RlA K Z G H (ds.take n) (vs.take n)
  | _, _, 0, _ => .nil
  | _, _, _ + 1, .nil => .nil
  | _, _, n + 1, .cons h t => .cons h (RlA.take n t)
theorem RlA.drop : ∀ {ds : List D} {vs : List V} (n : Nat), RlA K Z G H ds vs → RlA K Z G H (ds.drop n) (vs.drop n)
  | _, _, 0, r => r
  | _, _, _ + 1, .nil => .nil
  | _, _, n + 1, .cons _ t => RlA.drop n t
theorem RlA.set {d : D} {v : V} (h : Rl K Z G H d v) : ∀ {ds : List D} {vs : List V} (i : Nat), RlA K Z G H ds vs → RlA K Z G H (ds.set i d) (vs.set i v)
  | _, _, _, .nil => .nil
  | _, _, 0, .cons _ t => .cons h t
  | _, _, i + 1, .cons q t => .cons q (RlA.set h i t)
theorem RlA.dropLast {ds : List D} {vs : List V} (h : RlA K Z G H ds vs) : RlA K Z G H ds.dropLast vs.dropLast := by
  rw [List.dropLast_eq_take, List.dropLast_eq_take, h.length]
  exact h.take _
theorem RlA.eraseIdx : ∀ {ds : List D} {vs : List V} (i : Nat), RlA K Z G H ds vs → RlA K Z G H (ds.eraseIdx i) (vs.eraseIdx i)
  | _, _, _, .nil => .nil
  | _, _, 0, .cons _ t => t
  | _, _, i + 1, .cons h t => .cons h (RlA.eraseIdx i t)
theorem RlA.reverse : ∀ {ds : List D} {vs : List V}, RlA K Z G H ds vs → RlA K Z G H ds.reverse vs.reverse
  | _, _, .nil => .nil
  | _, _, .cons h t => by
    rw [List.reverse_cons, List.reverse_cons]
    exact (RlA.reverse t).append (.cons h .nil)
theorem RlA.insert {d : D} {v : V} (h : Rl K Z G H d v) {ds : List D} {vs : List V} (i : Nat) (t : RlA K Z G H ds vs) : RlA K Z G H (ds.take i ++ d :: ds.drop i) (vs.take i ++ v :: vs.drop i) :=
  (t.take i).append (.cons h (t.drop i))
theorem RlA.rep {ds : List D} {vs : List V} (h : RlA K Z G H ds vs) : ∀ k : Nat, RlA K Z G H (List.replicate k ds).flatten (List.replicate k vs).flatten
  | 0 => .nil
  | k + 1 => by
    rw [List.replicate_succ, List.replicate_succ, List.flatten_cons, List.flatten_cons]
    exact h.append (RlA.rep h k)
/-- the ledger's own objects under a move of the rest -/
theorem ROk.mv (m : Mv Z Z' G G' H H') (r : ROk K Z G H a o) (h : H' a = H a) : ROk K Z' G' H' a o := by
  cases o with
  | lst ds => obtain ⟨xs, e, t⟩ := r; exact ⟨xs, h.trans e, RlA.mv m t⟩
  | ins C ks ds => obtain ⟨dx, xs, e, l, t⟩ := r; exact ⟨dx, xs, h.trans e, l, RlA.mv m t⟩
  | dK kvs => obtain ⟨xs, e, t⟩ := r; exact ⟨xs, h.trans e, RlA.mv m t⟩
  | dT kvs => obtain ⟨xs, e, t⟩ := r; exact ⟨xs, h.trans e, RlA.mv m t⟩
end
/-! ### moves that occur -/
section
variable {K : PySem.W.Frag} {Z : ZS} {G : GH} {H : Hp} {p a : Addr}
/-- a new object that the ledger does not take -/
theorem step_new {u : HO} (R : Rel K Z G H) (h : H p = none) : Step G H G (upd H p u) := fun b o e g => by
  rw [upd_ne (ne_of_none e h)]
  exact ⟨e, g⟩
theorem rel_new {u : HO} (R : Rel K Z G H) (h : H p = none) : Rel K Z G (upd H p u) := by
  refine ⟨fun a o e => ?_, fun z hz => ?_⟩
  · obtain ⟨z, r⟩ := R.ob a o e
    obtain ⟨w, hw, _⟩ := r.some
    exact ⟨z, r.mv ((step_new R h).mv R) (upd_ne (ne_of_none hw h))⟩
  · obtain ⟨o, e⟩ := R.hid z hz
    exact ⟨o, by rw [upd_ne (ne_of_none e h)]; exact e⟩
/-- a new object that the ledger takes -/
theorem step_newG {u : HO} {o : GO} (R : Rel K Z G H) (h : H p = none) : Step G H (gup G p o) (upd H p u) := fun b w e g => by
  have n := ne_of_none e h
  rw [upd_ne n, gup_ne n]
  exact ⟨e, g⟩
theorem rel_newG {u : HO} {o : GO} (R : Rel K Z G H) (h : H p = none) (r : ROk K Z (gup G p o) (upd H p u) p o) : Rel K Z (gup G p o) (upd H p u) := by
  refine ⟨fun a w e => ?_, fun z hz => ?_⟩
  · by_cases n : a = p
    · subst n
      rw [gup_same] at e
      cases e
      exact ⟨R.freshZ h, r⟩
    · rw [gup_ne n] at e
      obtain ⟨z, q⟩ := R.ob a w e
      exact ⟨z, q.mv ((step_newG R h).mv R) (upd_ne n)⟩
  · obtain ⟨o, e⟩ := R.hid z hz
    exact ⟨o, by rw [upd_ne (ne_of_none e h)]; exact e⟩
/-- an object of the ledger is changed -/
theorem step_set {u : HO} {o o' : GO} (R : Rel K Z G H) (h : G a = some o) : Step G H (gup G a o') (upd H a u) := fun b w e g => by
  have n : b ≠ a := fun z => by rw [z, h] at g; cases g
  rw [upd_ne n, gup_ne n]
  exact ⟨e, g⟩
theorem mv_set {u : HO} {o o' : GO} (R : Rel K Z G H) (h : G a = some o) : Mv Z Z G (gup G a o') H (upd H a u) := (step_set R h).mv R
theorem rel_set {u : HO} {o o' : GO} (R : Rel K Z G H) (h : G a = some o) (r : ROk K Z (gup G a o') (upd H a u) a o') : Rel K Z (gup G a o') (upd H a u) := by
  have zn := (R.ob a o h).1
  refine ⟨fun b w e => ?_, fun z hz => ?_⟩
  · by_cases n : b = a
    · subst n
      rw [gup_same] at e
      cases e
      exact ⟨zn, r⟩
    · rw [gup_ne n] at e
      obtain ⟨z, q⟩ := R.ob b w e
      exact ⟨z, q.mv (mv_set R h) (upd_ne n)⟩
  · obtain ⟨w, e⟩ := R.hid z hz
    have n : z ≠ a := fun q => zn (q ▸ hz)
    exact ⟨w, by rw [upd_ne n]; exact e⟩
/-- an object leaves the ledger -/
theorem step_del : Step G H (gdel G p) H := fun b w e g => by
  refine ⟨e, ?_⟩
  by_cases n : b = p
  · rw [n, gdel_same]
  · rw [gdel_ne n]
    exact g
theorem rel_del (R : Rel K Z G H) : Rel K Z (gdel G p) H := by
  refine ⟨fun a w e => ?_, R.hid⟩
  have n : a ≠ p := fun z => by rw [z, gdel_same] at e; cases e
  rw [gdel_ne n] at e
  obtain ⟨z, q⟩ := R.ob a w e
  exact ⟨z, q.mv (step_del.mv R) rfl⟩
end
end N
namespace N
open PySem PySem.Spec PyProof.Rows L2
abbrev SD := List (Option D)
abbrev QD := D → GH → Prop
/-- an exception: its class, what its at is, the ledger behind it -/
abbrev XD := Addr → D → GH → Prop
abbrev TED := SD → GH → XD → QD → Prop
abbrev TTD := SD → GH → XD → (Bool → GH → Prop) → Prop
abbrev TAD := SD → GH → XD → (List D → GH → Prop) → Prop
structure EndsD where
  nx : SD → GH → Prop
  rt : QD
  bk : SD → GH → Prop := fun _ _ => False
  ct : SD → GH → Prop := fun _ _ => False
  ex : Addr → D → SD → GH → Prop := fun _ _ _ _ => False
abbrev TSD := EndsD → SD → GH → Prop
structure StR (K : PySem.W.Frag) (Z : ZS) (G : GH) (H : Hp) (τ : SD) (σ : L2.St) : Prop where
  len : σ.length = τ.length
  val : ∀ (i : Nat) (d : D), τ[i]? = some (some d) → ∃ v, σ[i]? = some (some v) ∧ Rl K Z G H d v
section
variable {K : PySem.W.Frag} {Z Z' : ZS} {G G' : GH} {H H' : Hp} {τ : SD} {σ : L2.St}
theorem StR.mv (m : Mv Z Z' G G' H H') (s : StR K Z G H τ σ) : StR K Z' G' H' τ σ :=
  ⟨s.len, fun i d e => let ⟨v, h, r⟩ := s.val i d e; ⟨v, h, r.mv m⟩⟩
theorem StR.set {d : D} {v : V} (s : StR K Z G H τ σ) (i : Nat) (r : Rl K Z G H d v) : StR K Z G H (τ.set i (some d)) (σ.set i (some v)) := by
  refine ⟨by rw [List.length_set, List.length_set]; exact s.len, fun j e h => ?_⟩
  by_cases hj : i = j
  · subst hj
    have hl : i < τ.length := by
      have := (List.getElem?_eq_some_iff.mp h).1
      rwa [List.length_set] at this
    rw [List.getElem?_set_self hl] at h
    cases h
    exact ⟨v, by rw [List.getElem?_set_self (by rw [s.len]; exact hl)], r⟩
  · rw [List.getElem?_set_ne hj] at h
    obtain ⟨u, e1, r1⟩ := s.val j e h
    exact ⟨u, by rw [List.getElem?_set_ne hj]; exact e1, r1⟩
end
/-! ### the closures -/
section
variable (K : PySem.W.Frag) (Z : ZS) (G : GH) (H : Hp)
def ClE (q : QD) (Q : VK) : Prop := ∀ d G' H' v, q d G' → Step G H G' H' → Rel K Z G' H' → Rl K Z G' H' d v → Q v H'
def ClT (q : Bool → GH → Prop) (Q : Bool → Hp → Prop) : Prop := ∀ b G' H', q b G' → Step G H G' H' → Rel K Z G' H' → Q b H'
def ClA (q : List D → GH → Prop) (Q : List V → Hp → Prop) : Prop := ∀ ds G' H' vs, q ds G' → Step G H G' H' → Rel K Z G' H' → RlA K Z G' H' ds vs → Q vs H'
def ClX (x : XD) (W : WX) (σ : L2.St) : Prop := ∀ C d G' H' dct v, x C d G' → Step G H G' H' → Rel K Z G' H' → Rl K Z G' H' d v → H' dct = some (.xd [(("at" : Str), v)]) → G' dct = none → ¬ Z dct → W (.ref C) (some dct) σ H'
def ClS (q : SD → GH → Prop) (Q : L2.St → Hp → Prop) : Prop := ∀ τ G' H' σ, q τ G' → Step G H G' H' → Rel K Z G' H' → StR K Z G' H' τ σ → Q σ H'
def ClXS (x : Addr → D → SD → GH → Prop) (W : WX) : Prop := ∀ C d τ G' H' σ dct v, x C d τ G' → Step G H G' H' → Rel K Z G' H' → StR K Z G' H' τ σ → Rl K Z G' H' d v → H' dct = some (.xd [(("at" : Str), v)]) → G' dct = none → ¬ Z dct → W (.ref C) (some dct) σ H'
end
section
variable {K : PySem.W.Frag} {Z : ZS} {G G1 : GH} {H H1 : Hp}
theorem ClE.step {q : QD} {Q : VK} (s : Step G H G1 H1) (c : ClE K Z G H q Q) : ClE K Z G1 H1 q Q := fun d G' H' v h st => c d G' H' v h (s.trans st)
theorem ClT.step {q : Bool → GH → Prop} {Q : Bool → Hp → Prop} (s : Step G H G1 H1) (c : ClT K Z G H q Q) : ClT K Z G1 H1 q Q := fun b G' H' h st => c b G' H' h (s.trans st)
theorem ClA.step {q : List D → GH → Prop} {Q : List V → Hp → Prop} (s : Step G H G1 H1) (c : ClA K Z G H q Q) : ClA K Z G1 H1 q Q := fun d G' H' v h st => c d G' H' v h (s.trans st)
theorem ClX.step {x : XD} {W : WX} {σ : L2.St} (s : Step G H G1 H1) (c : ClX K Z G H x W σ) : ClX K Z G1 H1 x W σ := fun C d G' H' dct v h st => c C d G' H' dct v h (s.trans st)
theorem ClS.step {q : SD → GH → Prop} {Q : L2.St → Hp → Prop} (s : Step G H G1 H1) (c : ClS K Z G H q Q) : ClS K Z G1 H1 q Q := fun τ G' H' σ h st => c τ G' H' σ h (s.trans st)
theorem ClXS.step {x : Addr → D → SD → GH → Prop} {W : WX} (s : Step G H G1 H1) (c : ClXS K Z G H x W) : ClXS K Z G1 H1 x W := fun C d τ G' H' σ dct v h st => c C d τ G' H' σ dct v h (s.trans st)
end
def Lf (K : PySem.W.Frag) (W : WX) (t : TED) : TE := fun σ H Q => ∃ Z G τ x q, StR K Z G H τ σ ∧ Rel K Z G H ∧ t τ G x q ∧ ClE K Z G H q Q ∧ ClX K Z G H x W σ
def LfT (K : PySem.W.Frag) (W : WX) (t : TTD) : TT := fun σ H Q => ∃ Z G τ x q, StR K Z G H τ σ ∧ Rel K Z G H ∧ t τ G x q ∧ ClT K Z G H q Q ∧ ClX K Z G H x W σ
def LfA (K : PySem.W.Frag) (W : WX) (t : TAD) : TA := fun σ H Q => ∃ Z G τ x q, StR K Z G H τ σ ∧ Rel K Z G H ∧ t τ G x q ∧ ClA K Z G H q Q ∧ ClX K Z G H x W σ
structure ClD (K : PySem.W.Frag) (W : WX) (Z : ZS) (G : GH) (H : Hp) (e : EndsD) (D : Ends) : Prop where
  nx : ClS K Z G H e.nx D.nx
  rt : ClE K Z G H e.rt D.rt
  bk : ClS K Z G H e.bk D.bk
  ct : ClS K Z G H e.ct D.ct
  ex : ClXS K Z G H e.ex W
theorem ClD.step {K : PySem.W.Frag} {W : WX} {Z : ZS} {G G1 : GH} {H H1 : Hp} {e : EndsD} {D : Ends} (s : Step G H G1 H1) (c : ClD K W Z G H e D) : ClD K W Z G1 H1 e D :=
  ⟨c.nx.step s, c.rt.step s, c.bk.step s, c.ct.step s, c.ex.step s⟩
def LfS (K : PySem.W.Frag) (W : WX) (t : TSD) : TS := fun D σ H => ∃ Z G τ e, StR K Z G H τ σ ∧ Rel K Z G H ∧ t e τ G ∧ ClD K W Z G H e D
abbrev PEd (X : Cx) (W : WX) (e : Expr) (t : TED) : Prop := PE X e (Lf X.K W t)
abbrev PTd (X : Cx) (W : WX) (e : Expr) (t : TTD) : Prop := PT X e (LfT X.K W t)
abbrev PWd (X : Cx) (W : WX) (e : Expr) (t : TTD) : Prop := PW X e (LfT X.K W t)
abbrev PAd (X : Cx) (W : WX) (es : List Expr) (t : TAD) : Prop := PA X es (LfA X.K W t)
abbrev PSd (X : Cx) (W : WX) (s : Stmt) (t : TSD) : Prop := PS X s (LfS X.K W t)
abbrev PSsd (X : Cx) (W : WX) (s : List Stmt) (t : TSD) : Prop := PSs X s (LfS X.K W t)
theorem PEi {X : Cx} {e : Expr} {t u : TE} (h : PE X e t) (i : ∀ σ H Q, u σ H Q → t σ H Q) : PE X e u := ⟨fun pins s σ H Q I hw => h.run pins s σ H Q I (i _ _ _ hw)⟩
theorem PTi {X : Cx} {e : Expr} {t u : TT} (h : PT X e t) (i : ∀ σ H Q, u σ H Q → t σ H Q) : PT X e u := ⟨fun pins s σ H Q I hw => h.run pins s σ H Q I (i _ _ _ hw)⟩
theorem PWi {X : Cx} {e : Expr} {t u : TT} (h : PW X e t) (i : ∀ σ H Q, u σ H Q → t σ H Q) : PW X e u := ⟨fun wh pins s σ H Q I hw => h.run wh pins s σ H Q I (i _ _ _ hw)⟩
theorem PAi {X : Cx} {e : List Expr} {t u : TA} (h : PA X e t) (i : ∀ σ H Q, u σ H Q → t σ H Q) : PA X e u := ⟨fun pos pins s σ H Q I hw => h.run pos pins s σ H Q I (i _ _ _ hw)⟩
theorem PSi {X : Cx} {s : Stmt} {t u : TS} (h : PS X s t) (i : ∀ D σ H, u D σ H → t D σ H) : PS X s u := ⟨fun pins s σ H D I hw => h.run pins s σ H D I (i _ _ _ hw)⟩
theorem PSsi {X : Cx} {s : List Stmt} {t u : TS} (h : PSs X s t) (i : ∀ D σ H, u D σ H → t D σ H) : PSs X s u := ⟨fun pins s σ H D I hw => h.run pins s σ H D I (i _ _ _ hw)⟩
/-! ### marks: they are not opened by unfolding -/
@[irreducible] def Sd (C A : Prop) : Prop := C ∧ A
theorem Sd_i {C A : Prop} (c : C) (a : A) : Sd C A := by unfold Sd; exact ⟨c, a⟩
theorem Sd_e {C A : Prop} (h : Sd C A) : C ∧ A := by unfold Sd at h; exact h
@[irreducible] def Cond (b : Bool) (A B : Prop) : Prop := (b = true → A) ∧ (b = false → B)
theorem Cond_i {b : Bool} {A B : Prop} (h1 : b = true → A) (h2 : b = false → B) : Cond b A B := by unfold Cond; exact ⟨h1, h2⟩
theorem Cond_t {b : Bool} {A B : Prop} (h : b = true) (h1 : A) : Cond b A B := Cond_i (fun _ => h1) (fun q => by rw [h] at q; cases q)
theorem Cond_f {b : Bool} {A B : Prop} (h : b = false) (h1 : B) : Cond b A B := Cond_i (fun q => by rw [h] at q; cases q) (fun _ => h1)
theorem Cond_e {b : Bool} {A B : Prop} (h : Cond b A B) : if b = true then A else B := by
  unfold Cond at h
  cases b with
  | true => exact h.1 rfl
  | false => exact h.2 rfl
/-- a list comes: as a value that stays, or as an object of the ledger: the prover chooses -/
@[irreducible] def NewL (ds : List D) (G : GH) (q : QD) : Prop := q (.lst ds) G ∨ ∀ p, G p = none → q (.ref p) (gup G p (.lst ds))
theorem NewL_v {ds : List D} {G : GH} {q : QD} (h : q (.lst ds) G) : NewL ds G q := by unfold NewL; exact .inl h
theorem NewL_r {ds : List D} {G : GH} {q : QD} (h : ∀ p, G p = none → q (.ref p) (gup G p (.lst ds))) : NewL ds G q := by unfold NewL; exact .inr h
theorem NewL_e {ds : List D} {G : GH} {q : QD} (h : NewL ds G q) : q (.lst ds) G ∨ ∀ p, G p = none → q (.ref p) (gup G p (.lst ds)) := by unfold NewL at h; exact h
/-- the list at an address of the ledger -/
@[irreducible] def LkL (a : Addr) (G : GH) (k : List D → Prop) : Prop := ∃ ds, G a = some (.lst ds) ∧ k ds
theorem LkL_i {a : Addr} {G : GH} {k : List D → Prop} {ds : List D} (h : G a = some (.lst ds)) (q : k ds) : LkL a G k := by unfold LkL; exact ⟨ds, h, q⟩
theorem LkL_e {a : Addr} {G : GH} {k : List D → Prop} (h : LkL a G k) : ∃ ds, G a = some (.lst ds) ∧ k ds := by unfold LkL at h; exact h
/-- an item at a place -/
@[irreducible] def AtD (ds : List D) (i : Int) (k : D → Prop) : Prop := ∃ d, atI ds i = some d ∧ k d
theorem AtD_i {ds : List D} {i : Int} {k : D → Prop} {d : D} (h : atI ds i = some d) (q : k d) : AtD ds i k := by unfold AtD; exact ⟨d, h, q⟩
theorem AtD_e {ds : List D} {i : Int} {k : D → Prop} (h : AtD ds i k) : ∃ d, atI ds i = some d ∧ k d := by unfold AtD at h; exact h
section
variable {X : Cx} {W : WX} {a b : Expr} {ta tb : TED} {pos : Pos}
/-! ### names and constants -/
def gVar (i : Nat) : TED := fun τ G _ q => match τ[i]? with
  | some (some d) => q d G
  | _ => False
theorem pd_var {x : Str} {e : Expr} {i : Nat} (h : PE X e (tVar i)) : PEd X W e (gVar i) := PEi h fun σ H Q => by
  rintro ⟨Z, G, τ, x, q, S, R, h, c, _⟩
  unfold gVar at h
  cases e : τ[i]? with
  | none => rw [e] at h; exact h.elim
  | some o =>
    rw [e] at h
    cases o with
    | none => exact h.elim
    | some d =>
      obtain ⟨v, hv, r⟩ := S.val i d e
      exact ⟨v, hv, c d G H v h (Step.refl _ _) R r⟩
def gC (d : D) : TED := fun _ G _ q => q d G
/-- constants: the same at every state -/
def CstD : D → V → Prop
  | .non, .non => True
  | .bl b, .bl c => b = c
  | .int i, .int j => i = j
  | .str s, .str t => s = t
  | .fn u, v => u = v
  | _, _ => False
theorem CstD.rl {d : D} {v : V} (h : CstD d v) {K : PySem.W.Frag} {Z : ZS} {G : GH} {H : Hp} : Rl K Z G H d v := by
  cases d <;> cases v <;> first
    | exact .non
    | (cases (show _ = _ from h); first | exact .bl _ | exact .int _ | exact .str _ | exact .fn _)
    | exact (show False from h).elim
theorem pd_c {e : Expr} {d : D} {v : V} (h : PE X e (tC v)) (r : CstD d v) : PEd X W e (gC d) := PEi h fun σ H Q => by
  rintro ⟨Z, G, τ, x, q, S, R, h, c, _⟩
  exact c d G H v h (Step.refl _ _) R r.rl
theorem pd_int {i j} : PEd X W (.Constant (.int i) j pos) (gC (.int i)) := pd_c pe_int rfl
theorem pd_bl {b j} : PEd X W (.Constant (.bool b) j pos) (gC (.bl b)) := pd_c pe_bl rfl
theorem pd_non {j} : PEd X W (.Constant .none j pos) (gC .non) := pd_c pe_non True.intro
theorem pd_str {x j} : PEd X W (.Constant (.str x) j pos) (gC (.str x)) := pd_c pe_str rfl
/-! ### operators by values -/
abbrev R2D := D → D → GH → QD → Prop
def R2Ok (K : PySem.W.Frag) (r : R2) (t : R2D) : Prop := ∀ Z G H x y v u q Q, Rel K Z G H → Rl K Z G H x v → Rl K Z G H y u → t x y G q → ClE K Z G H q Q → r v u H Q
def gOp (t : R2D) (ta tb : TED) : TED := fun τ G x q => ta τ G x fun d G1 => tb τ G1 x fun e G2 => t d e G2 q
theorem lf_op {K : PySem.W.Frag} {r : R2} {t : R2D} (h : R2Ok K r t) {σ : L2.St} {H : Hp} {Q : VK} (w : Lf K W (gOp t ta tb) σ H Q) : tOp r (Lf K W ta) (Lf K W tb) σ H Q := by
  obtain ⟨Z, G, τ, x, q, S, R, hw, c, cx⟩ := w
  refine ⟨Z, G, τ, x, _, S, R, hw, fun d G1 H1 v q1 s1 R1 r1 => ?_, cx⟩
  refine ⟨Z, G1, τ, x, _, S.mv (s1.mv R), R1, q1, fun e G2 H2 u q2 s2 R2 r2 => ?_, cx.step s1⟩
  exact h Z G2 H2 d e v u q Q R2 (r1.mv (s2.mv R1)) r2 q2 (c.step (s1.trans s2))
theorem pd_op {op : Operator} {r : R2} {t : R2D} (ho : OpR X (binaryOp op) r) (h : R2Ok X.K r t) (ha : PEd X W a ta) (hb : PEd X W b tb) : PEd X W (.BinOp a op b pos) (gOp t ta tb) :=
  PEi (pe_op ho ha hb) fun _ _ _ w => lf_op h w
theorem pd_cmp {op : CmpOp} {r : R2} {t : R2D} (ho : OpR X (compareOp op) r) (h : R2Ok X.K r t) (ha : PEd X W a ta) (hb : PEd X W b tb) (hm : behindInMarks op b = false) : PEd X W (.Compare a [op] [b] pos) (gOp t ta tb) :=
  PEi (pe_cmpR ho ha hb hm) fun _ _ _ w => lf_op h w
/-- a value that must be a bool, as a test -/
def gTst (t : TED) : TTD := fun τ G x q => t τ G x fun d G1 => match d with
  | .bl b => q b G1
  | _ => False
theorem lf_tst {K : PySem.W.Frag} {t : TED} {u : TE} (hu : ∀ σ H Q, Lf K W t σ H Q → u σ H Q) {σ : L2.St} {H : Hp} {Q : Bool → Hp → Prop} (w : LfT K W (gTst t) σ H Q) : tTest u σ H Q := by
  obtain ⟨Z, G, τ, x, q, S, R, hw, c, cx⟩ := w
  refine hu _ _ _ ⟨Z, G, τ, x, _, S, R, hw, fun d G1 H1 v q1 s1 R1 r1 => ?_, cx⟩
  cases d with
  | bl b =>
    cases r1
    exact ⟨b, rfl, c b G1 H1 q1 s1 R1⟩
  | _ => exact q1.elim
theorem pd_cmpT {op : CmpOp} {r : R2} {t : R2D} (ho : OpR X (compareOp op) r) (h : R2Ok X.K r t) (ha : PEd X W a ta) (hb : PEd X W b tb) (hm : behindInMarks op b = false) : PTd X W (.Compare a [op] [b] pos) (gTst (gOp t ta tb)) :=
  PTi (pt_cmpR ho ha hb hm) fun _ _ _ w => lf_tst (fun _ _ _ z => lf_op h z) w
theorem pd_val {e : Expr} {t : TED} (h : PEd X W e t) (he : ∀ whole, isTrue e X.env whole = (do let v ← whole; standAt e.pos; holding [v] (truthy v)) := by intro _; rfl) : PTd X W e (gTst t) :=
  PTi (pt_val h he) fun _ _ _ w => lf_tst (fun _ _ _ z => z) w
/-! ### ints, texts -/
def nI (g : Int → Int → D) : R2D := fun x y G q => match x, y with
  | .int i, .int j => q (g i j) G
  | _, _ => False
def nIS (C : Int → Int → Prop) (g : Int → Int → D) : R2D := fun x y G q => match x, y with
  | .int i, .int j => Sd (C i j) (q (g i j) G)
  | _, _ => False
theorem ok_I {K : PySem.W.Frag} {g : Int → Int → V} {g' : Int → Int → D} (e : ∀ i j, CstD (g' i j) (g i j)) : R2Ok K (rI0 g) (nI g') := by
  intro Z G H x y v u q Q R rx ry h c
  cases x <;> try exact (show False from h).elim
  cases y <;> try exact (show False from h).elim
  cases rx
  cases ry
  exact ⟨_, _, rfl, rfl, c _ _ _ _ h (Step.refl _ _) R (e _ _).rl⟩
theorem ok_IS {K : PySem.W.Frag} {C : Int → Int → Prop} {g : Int → Int → V} {g' : Int → Int → D} (e : ∀ i j, CstD (g' i j) (g i j)) : R2Ok K (rI C g) (nIS C g') := by
  intro Z G H x y v u q Q R rx ry h c
  cases x <;> try exact (show False from h).elim
  cases y <;> try exact (show False from h).elim
  cases rx
  cases ry
  obtain ⟨h1, h2⟩ := Sd_e h
  exact ⟨_, _, rfl, rfl, h1, c _ _ _ _ h2 (Step.refl _ _) R (e _ _).rl⟩
abbrev nSub : R2D := nI fun i j => .int (i - j)
abbrev nXor : R2D := nI fun i j => .int (Builtin.bitXor i j)
abbrev nAnd : R2D := nI fun i j => .int (Builtin.bitAnd i j)
abbrev nLt : R2D := nI fun i j => .bl (decide (i < j))
abbrev nLe : R2D := nI fun i j => .bl (decide (i ≤ j))
abbrev nGt : R2D := nI fun i j => .bl (decide (j < i))
abbrev nGe : R2D := nI fun i j => .bl (decide (j ≤ i))
abbrev nDiv : R2D := nIS CDivW fun i j => .int (i / j)
abbrev nMod : R2D := nIS (fun _ j => 0 < j) fun i j => .int (i % j)
abbrev nPow : R2D := nIS CPow fun i j => .int (i ^ j.toNat)
theorem pd_sub (ha : PEd X W a ta) (hb : PEd X W b tb) : PEd X W (.BinOp a .Sub b pos) (gOp nSub ta tb) := pd_op op_sub (ok_I fun _ _ => rfl) ha hb
theorem pd_xor (ha : PEd X W a ta) (hb : PEd X W b tb) : PEd X W (.BinOp a .BitXor b pos) (gOp nXor ta tb) := pd_op op_xor (ok_I fun _ _ => rfl) ha hb
theorem pd_band (ha : PEd X W a ta) (hb : PEd X W b tb) : PEd X W (.BinOp a .BitAnd b pos) (gOp nAnd ta tb) := pd_op op_and (ok_I fun _ _ => rfl) ha hb
theorem pd_fdiv (ha : PEd X W a ta) (hb : PEd X W b tb) : PEd X W (.BinOp a .FloorDiv b pos) (gOp nDiv ta tb) := pd_op op_fdivW (ok_IS fun _ _ => rfl) ha hb
theorem pd_mod (ha : PEd X W a ta) (hb : PEd X W b tb) : PEd X W (.BinOp a .Mod b pos) (gOp nMod ta tb) := pd_op op_mod (ok_IS fun _ _ => rfl) ha hb
theorem pd_pow (ha : PEd X W a ta) (hb : PEd X W b tb) : PEd X W (.BinOp a .Pow b pos) (gOp nPow ta tb) := pd_op op_pow (ok_IS fun _ _ => rfl) ha hb
theorem pd_lt (ha : PEd X W a ta) (hb : PEd X W b tb) : PEd X W (.Compare a [.Lt] [b] pos) (gOp nLt ta tb) := pd_cmp op_lt (ok_I fun _ _ => rfl) ha hb (nomark _)
theorem pd_le (ha : PEd X W a ta) (hb : PEd X W b tb) : PEd X W (.Compare a [.LtE] [b] pos) (gOp nLe ta tb) := pd_cmp op_le (ok_I fun _ _ => rfl) ha hb (nomark _)
theorem pd_gt (ha : PEd X W a ta) (hb : PEd X W b tb) : PEd X W (.Compare a [.Gt] [b] pos) (gOp nGt ta tb) := pd_cmp op_gt (ok_I fun _ _ => rfl) ha hb (nomark _)
theorem pd_ge (ha : PEd X W a ta) (hb : PEd X W b tb) : PEd X W (.Compare a [.GtE] [b] pos) (gOp nGe ta tb) := pd_cmp op_ge (ok_I fun _ _ => rfl) ha hb (nomark _)
theorem pt_lt (ha : PEd X W a ta) (hb : PEd X W b tb) : PTd X W (.Compare a [.Lt] [b] pos) (gTst (gOp nLt ta tb)) := pd_cmpT op_lt (ok_I fun _ _ => rfl) ha hb (nomark _)
theorem pt_le (ha : PEd X W a ta) (hb : PEd X W b tb) : PTd X W (.Compare a [.LtE] [b] pos) (gTst (gOp nLe ta tb)) := pd_cmpT op_le (ok_I fun _ _ => rfl) ha hb (nomark _)
theorem pt_gt (ha : PEd X W a ta) (hb : PEd X W b tb) : PTd X W (.Compare a [.Gt] [b] pos) (gTst (gOp nGt ta tb)) := pd_cmpT op_gt (ok_I fun _ _ => rfl) ha hb (nomark _)
theorem pt_ge (ha : PEd X W a ta) (hb : PEd X W b tb) : PTd X W (.Compare a [.GtE] [b] pos) (gTst (gOp nGe ta tb)) := pd_cmpT op_ge (ok_I fun _ _ => rfl) ha hb (nomark _)
/-- a new list at the level of values -/
theorem new_list {K : PySem.W.Frag} {Z : ZS} {G : GH} {H : Hp} {ds : List D} {xs : List V} {q : QD} {Q : VK} (R : Rel K Z G H) (r : RlA K Z G H ds xs) (h : NewL ds G q) (c : ClE K Z G H q Q) (p : Addr) (hp : H p = none) : Q (.ref p) (upd H p (.lst xs)) := by
  rcases NewL_e h with h | h
  · refine c _ _ _ _ h (step_new R hp) (rel_new R hp) (.lst upd_same (R.fresh hp) (R.freshZ hp) (r.mv ((step_new R hp).mv R)))
  · have rr := r.mv ((step_newG (u := .lst xs) (o := .lst ds) R hp).mv R)
    exact c _ _ _ _ (h p (R.fresh hp)) (step_newG R hp) (rel_newG R hp ⟨xs, upd_same, rr⟩) (.ref p)
theorem new_tup {K : PySem.W.Frag} {Z : ZS} {G : GH} {H : Hp} {ds : List D} {xs : List V} {q : QD} {Q : VK} (R : Rel K Z G H) (r : RlA K Z G H ds xs) (h : q (.tup ds) G) (c : ClE K Z G H q Q) (p : Addr) (hp : H p = none) : Q (.ref p) (upd H p (.tup xs)) :=
  c _ _ _ _ h (step_new R hp) (rel_new R hp) (.tup (SqT.of upd_same) (r.mv ((step_new R hp).mv R)))
/-! ### displays, arguments -/
def gNil : TAD := fun _ G _ q => q [] G
def gCons (t : TED) (r : TAD) : TAD := fun τ G x q => t τ G x fun d G1 => r τ G1 x fun ds G2 => q (d :: ds) G2
theorem pad_nil : PAd X W [] gNil := PAi pa_nil fun σ H Q => by
  rintro ⟨Z, G, τ, x, q, S, R, h, c, _⟩
  exact c _ G H _ h (Step.refl _ _) R .nil
theorem pad_cons {e : Expr} {es : List Expr} {t : TED} {r : TAD} (h1 : PEd X W e t) (h2 : PAd X W es r) (hs : starEach (e :: es) X.env = (false, eval e X.env) :: starEach es X.env := by rfl) : PAd X W (e :: es) (gCons t r) :=
  PAi (pa_cons h1 h2 hs) fun σ H Q => by
    rintro ⟨Z, G, τ, x, q, S, R, h, c, cx⟩
    refine ⟨Z, G, τ, x, _, S, R, h, fun d G1 H1 v q1 s1 R1 r1 => ?_, cx⟩
    refine ⟨Z, G1, τ, x, _, S.mv (s1.mv R), R1, q1, fun ds G2 H2 vs q2 s2 R2 r2 => ?_, cx.step s1⟩
    exact c _ G2 H2 _ q2 (s1.trans s2) R2 (.cons (r1.mv (s2.mv R1)) r2)
def gTup (t : TAD) : TED := fun τ G x q => t τ G x fun ds G1 => Sd (ds.length ≤ sizeLine) (q (.tup ds) G1)
def gLst (t : TAD) : TED := fun τ G x q => t τ G x fun ds G1 => Sd (ds.length ≤ sizeLine) (NewL ds G1 q)
theorem pd_tup {es : List Expr} {t : TAD} {x1} (h : PAd X W es t) : PEd X W (.Tuple es x1 pos) (gTup t) := PEi (pe_tup h) fun σ H Q => by
  rintro ⟨Z, G, τ, x, q, S, R, h, c, cx⟩
  refine ⟨Z, G, τ, x, _, S, R, h, fun ds G1 H1 vs q1 s1 R1 r1 => ?_, cx⟩
  obtain ⟨hl, q1⟩ := Sd_e q1
  exact ⟨by rw [← r1.length]; exact hl, fun p hp => new_tup R1 r1 q1 (c.step s1) p hp⟩
theorem pd_lst {es : List Expr} {t : TAD} (h : PAd X W es t) : PEd X W (.List es pos) (gLst t) := PEi (pe_lst h) fun σ H Q => by
  rintro ⟨Z, G, τ, x, q, S, R, h, c, cx⟩
  refine ⟨Z, G, τ, x, _, S, R, h, fun ds G1 H1 vs q1 s1 R1 r1 => ?_, cx⟩
  obtain ⟨hl, q1⟩ := Sd_e q1
  exact ⟨by rw [← r1.length]; exact hl, fun p hp => new_list R1 r1 q1 (c.step s1) p hp⟩
/-! ### and, or, not, if -/
def gAnd (t u : TTD) : TTD := fun τ G x q => t τ G x fun b G1 => Cond b (u τ G1 x q) (q false G1)
def gOr (t u : TTD) : TTD := fun τ G x q => t τ G x fun b G1 => Cond b (q true G1) (u τ G1 x q)
def gNot (t : TTD) : TTD := fun τ G x q => t τ G x fun b G1 => q (!b) G1
variable {tA tB : TTD} {rest : List Expr}
theorem pwd_and1 (ha : PTd X W a tA) : PWd X W (.BoolOp .And [a] pos) tA := pw_and1 ha
theorem pwd_or1 (ha : PTd X W a tA) : PWd X W (.BoolOp .Or [a] pos) tA := pw_or1 ha
theorem pwd_and (ha : PTd X W a tA) (hb : PWd X W (.BoolOp .And (b :: rest) pos) tB) : PWd X W (.BoolOp .And (a :: b :: rest) pos) (gAnd tA tB) := PWi (pw_and ha hb) fun σ H Q => by
  rintro ⟨Z, G, τ, x, q, S, R, h, c, cx⟩
  refine ⟨Z, G, τ, x, _, S, R, h, fun b G1 H1 q1 s1 R1 => ?_, cx⟩
  have q1 := Cond_e q1
  cases b with
  | true => exact ⟨Z, G1, τ, x, q, S.mv (s1.mv R), R1, q1, c.step s1, cx.step s1⟩
  | false => exact c false G1 H1 q1 s1 R1
theorem pwd_or (ha : PTd X W a tA) (hb : PWd X W (.BoolOp .Or (b :: rest) pos) tB) : PWd X W (.BoolOp .Or (a :: b :: rest) pos) (gOr tA tB) := PWi (pw_or ha hb) fun σ H Q => by
  rintro ⟨Z, G, τ, x, q, S, R, h, c, cx⟩
  refine ⟨Z, G, τ, x, _, S, R, h, fun b G1 H1 q1 s1 R1 => ?_, cx⟩
  have q1 := Cond_e q1
  cases b with
  | false => exact ⟨Z, G1, τ, x, q, S.mv (s1.mv R), R1, q1, c.step s1, cx.step s1⟩
  | true => exact c true G1 H1 q1 s1 R1
theorem ptd_w {t : TTD} (h : PWd X W a t) : PTd X W a t := h.pt
theorem ptd_not (ha : PTd X W a tA) : PTd X W (.UnaryOp .Not a pos) (gNot tA) := PTi (pt_not ha) fun σ H Q => by
  rintro ⟨Z, G, τ, x, q, S, R, h, c, cx⟩
  exact ⟨Z, G, τ, x, _, S, R, h, fun b G1 H1 q1 s1 R1 => c _ G1 H1 q1 s1 R1, cx⟩
/-- as values: bools -/
def gAndV (t u : TED) : TED := fun τ G x q => t τ G x fun d G1 => match d with
  | .bl b => Cond b (u τ G1 x q) (q (.bl false) G1)
  | _ => False
def gOrV (t u : TED) : TED := fun τ G x q => t τ G x fun d G1 => match d with
  | .bl b => Cond b (q (.bl true) G1) (u τ G1 x q)
  | _ => False
def gNotV (t : TED) : TED := fun τ G x q => t τ G x fun d G1 => match d with
  | .bl b => q (.bl (!b)) G1
  | _ => False
theorem pd_one {op} {t : TED} (h : PEd X W a t) : PEd X W (.BoolOp op [a] pos) t := pe_one h
theorem pd_and (ha : PEd X W a ta) (hb : PEd X W (.BoolOp .And (b :: rest) pos) tb) : PEd X W (.BoolOp .And (a :: b :: rest) pos) (gAndV ta tb) := PEi (pe_and ha hb) fun σ H Q => by
  rintro ⟨Z, G, τ, x, q, S, R, h, c, cx⟩
  refine ⟨Z, G, τ, x, _, S, R, h, fun d G1 H1 v q1 s1 R1 r1 => ?_, cx⟩
  cases d with
  | bl k =>
    cases r1
    have q1 := Cond_e q1
    refine ⟨k, rfl, ?_⟩
    cases k with
    | true => exact ⟨Z, G1, τ, x, q, S.mv (s1.mv R), R1, q1, c.step s1, cx.step s1⟩
    | false => exact c _ G1 H1 _ q1 s1 R1 (.bl false)
  | _ => exact (show False from q1).elim
theorem pd_or (ha : PEd X W a ta) (hb : PEd X W (.BoolOp .Or (b :: rest) pos) tb) : PEd X W (.BoolOp .Or (a :: b :: rest) pos) (gOrV ta tb) := PEi (pe_or ha hb) fun σ H Q => by
  rintro ⟨Z, G, τ, x, q, S, R, h, c, cx⟩
  refine ⟨Z, G, τ, x, _, S, R, h, fun d G1 H1 v q1 s1 R1 r1 => ?_, cx⟩
  cases d with
  | bl k =>
    cases r1
    have q1 := Cond_e q1
    refine ⟨k, rfl, ?_⟩
    cases k with
    | false => exact ⟨Z, G1, τ, x, q, S.mv (s1.mv R), R1, q1, c.step s1, cx.step s1⟩
    | true => exact c _ G1 H1 _ q1 s1 R1 (.bl true)
  | _ => exact (show False from q1).elim
theorem pd_not (ha : PEd X W a ta) : PEd X W (.UnaryOp .Not a pos) (gNotV ta) := PEi (pe_not ha) fun σ H Q => by
  rintro ⟨Z, G, τ, x, q, S, R, h, c, cx⟩
  refine ⟨Z, G, τ, x, _, S, R, h, fun d G1 H1 v q1 s1 R1 r1 => ?_, cx⟩
  cases d with
  | bl k =>
    cases r1
    exact ⟨k, rfl, c _ G1 H1 _ q1 s1 R1 (.bl _)⟩
  | _ => exact (show False from q1).elim
def gIfE (t : TTD) (ta tb : TED) : TED := fun τ G x q => t τ G x fun b G1 => Cond b (ta τ G1 x q) (tb τ G1 x q)
theorem pd_ife {c : Expr} (hc : PTd X W c tA) (ha : PEd X W a ta) (hb : PEd X W b tb) : PEd X W (.IfExp c a b pos) (gIfE tA ta tb) := PEi (pe_ifExp hc ha hb) fun σ H Q => by
  rintro ⟨Z, G, τ, x, q, S, R, h, c, cx⟩
  refine ⟨Z, G, τ, x, _, S, R, h, fun b G1 H1 q1 s1 R1 => ?_, cx⟩
  have q1 := Cond_e q1
  cases b with
  | true => exact ⟨Z, G1, τ, x, q, S.mv (s1.mv R), R1, q1, c.step s1, cx.step s1⟩
  | false => exact ⟨Z, G1, τ, x, q, S.mv (s1.mv R), R1, q1, c.step s1, cx.step s1⟩
/-! ### statements -/
variable {st : Stmt} {sts : List Stmt} {t u : TSD}
def gNext : TSD := fun e τ G => e.nx τ G
def gSeq (t u : TSD) : TSD := fun e τ G => t { e with nx := u e } τ G
theorem pssd_nil : PSsd X W [] gNext := PSsi pss_nil fun D σ H => by
  rintro ⟨Z, G, τ, e, S, R, h, c⟩
  exact c.nx τ G H σ h (Step.refl _ _) R S
theorem pssd_cons (h1 : PSd X W st t) (h2 : PSsd X W sts u) : PSsd X W (st :: sts) (gSeq t u) := PSsi (pss_cons h1 h2) fun D σ H => by
  rintro ⟨Z, G, τ, e, S, R, h, c⟩
  refine ⟨Z, G, τ, _, S, R, h, ⟨fun τ1 G1 H1 σ1 q1 s1 R1 S1 => ?_, c.rt, c.bk, c.ct, c.ex⟩⟩
  exact ⟨Z, G1, τ1, e, S1, R1, q1, c.step s1⟩
theorem pssd_one (h1 : PSd X W st t) : PSsd X W [st] t := pss_one h1
def gBreak : TSD := fun e τ G => e.bk τ G
def gCont : TSD := fun e τ G => e.ct τ G
theorem psd_pass : PSd X W (.Pass pos) gNext := PSi ps_pass fun D σ H => by
  rintro ⟨Z, G, τ, e, S, R, h, c⟩
  exact c.nx τ G H σ h (Step.refl _ _) R S
theorem psd_break : PSd X W (.Break pos) gBreak := PSi ps_break fun D σ H => by
  rintro ⟨Z, G, τ, e, S, R, h, c⟩
  exact c.bk τ G H σ h (Step.refl _ _) R S
theorem psd_continue : PSd X W (.Continue pos) gCont := PSi ps_continue fun D σ H => by
  rintro ⟨Z, G, τ, e, S, R, h, c⟩
  exact c.ct τ G H σ h (Step.refl _ _) R S
def xOf (e : EndsD) (τ : SD) : XD := fun C d G => e.ex C d τ G
theorem ClXS.x {K : PySem.W.Frag} {Z : ZS} {G : GH} {H : Hp} {e : EndsD} {τ : SD} {σ : L2.St} (c : ClXS K Z G H e.ex W) (R : Rel K Z G H) (S : StR K Z G H τ σ) : ClX K Z G H (xOf e τ) W σ :=
  fun C d G' H' dct v h s R' r hd => c C d τ G' H' σ dct v h s R' (S.mv (s.mv R)) r hd
def gDrop (t : TED) : TSD := fun e τ G => t τ G (xOf e τ) fun _ G1 => e.nx τ G1
theorem psd_expr {e : Expr} {t : TED} (he : PEd X W e t) (hs : swapsWith e none pos.line X.env = pure false := by rfl) : PSd X W (.Expr e pos) (gDrop t) := PSi (ps_expr he hs) fun D σ H => by
  rintro ⟨Z, G, τ, e, S, R, h, c⟩
  exact ⟨Z, G, τ, _, _, S, R, h, fun d G1 H1 v q1 s1 R1 r1 => c.nx τ G1 H1 σ q1 s1 R1 (S.mv (s1.mv R)), c.ex.x R S⟩
/-- handed back: what the ledger holds may be forgotten; a list or an object of the ledger may be handed back as a value -/
def SubG (G' G : GH) : Prop := ∀ b o, G' b = some o → G b = some o
theorem SubG.refl {G : GH} : SubG G G := fun _ _ h => h
theorem SubG.none {G' G : GH} {b : Addr} (s : SubG G' G) (h : G b = none) : G' b = none := by
  cases e : G' b with
  | none => rfl
  | some o => rw [s b o e] at h; cases h
theorem step_sub {G' G : GH} {H : Hp} (s : SubG G' G) : Step G H G' H := fun b o e g => ⟨e, s.none g⟩
theorem rel_sub {K : PySem.W.Frag} {Z : ZS} {G' G : GH} {H : Hp} (s : SubG G' G) (R : Rel K Z G H) : Rel K Z G' H :=
  ⟨fun a o e => let ⟨z, r⟩ := R.ob a o (s a o e); ⟨z, r.mv ((step_sub s).mv R) rfl⟩, R.hid⟩
theorem subG_del {G : GH} {p : Addr} : SubG (gdel G p) G := fun b o e => by
  by_cases n : b = p
  · rw [n, gdel_same] at e; cases e
  · rw [gdel_ne n] at e; exact e
theorem subG_up {G : GH} {p : Addr} {o : GO} (h : G p = none) : SubG G (gup G p o) := fun b u e => by
  rw [gup_ne (fun z => by rw [z, h] at e; cases e)]
  exact e
theorem SubG.trans {G1 G2 G3 : GH} (a : SubG G1 G2) (b : SubG G2 G3) : SubG G1 G3 := fun x o h => b x o (a x o h)
@[irreducible] def Ret (d : D) (G : GH) (q : QD) : Prop := ∃ G', SubG G' G ∧ (q d G' ∨ (∃ p ds, d = .ref p ∧ G p = some (.lst ds) ∧ G' p = none ∧ q (.lst ds) G') ∨ ∃ p C ks ds, d = .ref p ∧ G p = some (.ins C ks ds) ∧ G' p = none ∧ q (.obj C ks ds) G')
theorem Ret_i {d : D} {G : GH} {q : QD} (h : q d G) : Ret d G q := by unfold Ret; exact ⟨G, SubG.refl, .inl h⟩
theorem Ret_w {d : D} {G : GH} {q : QD} (G' : GH) (s : SubG G' G) (h : q d G') : Ret d G q := by unfold Ret; exact ⟨G', s, .inl h⟩
theorem Ret_l {p : Addr} {ds : List D} {G : GH} {q : QD} (e : G p = some (.lst ds)) (h : q (.lst ds) (gdel G p)) : Ret (.ref p) G q := by unfold Ret; exact ⟨_, subG_del, .inr (.inl ⟨p, ds, rfl, e, gdel_same, h⟩)⟩
theorem Ret_lw {p : Addr} {ds : List D} {G : GH} {q : QD} (G' : GH) (s : SubG G' G) (n : G' p = none) (e : G p = some (.lst ds)) (h : q (.lst ds) G') : Ret (.ref p) G q := by unfold Ret; exact ⟨_, s, .inr (.inl ⟨p, ds, rfl, e, n, h⟩)⟩
theorem Ret_o {p C : Addr} {ks : List Str} {ds : List D} {G : GH} {q : QD} (e : G p = some (.ins C ks ds)) (h : q (.obj C ks ds) (gdel G p)) : Ret (.ref p) G q := by unfold Ret; exact ⟨_, subG_del, .inr (.inr ⟨p, C, ks, ds, rfl, e, gdel_same, h⟩)⟩
theorem Ret_ow {p C : Addr} {ks : List Str} {ds : List D} {G : GH} {q : QD} (G' : GH) (s : SubG G' G) (n : G' p = none) (e : G p = some (.ins C ks ds)) (h : q (.obj C ks ds) G') : Ret (.ref p) G q := by unfold Ret; exact ⟨_, s, .inr (.inr ⟨p, C, ks, ds, rfl, e, n, h⟩)⟩
theorem ret_ok {K : PySem.W.Frag} {Z : ZS} {G : GH} {H : Hp} {d : D} {v : V} {q : QD} {Q : VK} (R : Rel K Z G H) (r : Rl K Z G H d v) (h : Ret d G q) (c : ClE K Z G H q Q) : Q v H := by
  unfold Ret at h
  obtain ⟨G', s, h⟩ := h
  have st := step_sub (H := H) s
  have R' := rel_sub s R
  rcases h with h | ⟨p, ds, rfl, e, n, h⟩ | ⟨p, C, ks, ds, rfl, e, n, h⟩
  · exact c d G' H v h st R' (r.mv (st.mv R))
  · obtain ⟨z, xs, hx, rx⟩ := R.ob p _ e
    cases r
    exact c _ _ _ _ h st R' (.lst hx n z (rx.mv (st.mv R)))
  · obtain ⟨z, dx, xs, hx, hl, rx⟩ := R.ob p _ e
    cases r
    exact c _ _ _ _ h st R' (.obj hx n z hl (rx.mv (st.mv R)))
def gRet (t : TED) : TSD := fun e τ G => t τ G (xOf e τ) fun d G1 => Ret d G1 e.rt
theorem psd_ret {e : Expr} {t : TED} (he : PEd X W e t) : PSd X W (.Return (some e) pos) (gRet t) := PSi (ps_ret he) fun D σ H => by
  rintro ⟨Z, G, τ, e, S, R, h, c⟩
  exact ⟨Z, G, τ, _, _, S, R, h, fun d G1 H1 v q1 s1 R1 r1 => ret_ok R1 r1 q1 (c.rt.step s1), c.ex.x R S⟩
def gRetN : TSD := fun e _ G => e.rt .non G
theorem psd_retN : PSd X W (.Return none pos) gRetN := PSi ps_retN fun D σ H => by
  rintro ⟨Z, G, τ, e, S, R, h, c⟩
  exact c.rt .non G H .non h (Step.refl _ _) R .non
def gIfS (tc : TTD) (t u : TSD) : TSD := fun e τ G => tc τ G (xOf e τ) fun b G1 => Cond b (t e τ G1) (u e τ G1)
theorem psd_if {c : Expr} {p q : List Stmt} {tc : TTD} (hc : PTd X W c tc) (ha : PSsd X W p t) (hb : PSsd X W q u) : PSd X W (.If c p q pos) (gIfS tc t u) := PSi (ps_if hc ha hb) fun D σ H => by
  rintro ⟨Z, G, τ, e, S, R, h, c⟩
  refine ⟨Z, G, τ, _, _, S, R, h, fun b G1 H1 q1 s1 R1 => ?_, c.ex.x R S⟩
  have q1 := Cond_e q1
  cases b with
  | true => exact ⟨Z, G1, τ, e, S.mv (s1.mv R), R1, q1, c.step s1⟩
  | false => exact ⟨Z, G1, τ, e, S.mv (s1.mv R), R1, q1, c.step s1⟩
def gNever : TSD := fun _ _ _ => False
theorem psd_never : PSd X W st gNever := ⟨fun _ _ _ _ _ _ ⟨_, _, _, _, _, _, h, _⟩ => h.elim⟩
theorem pssd_never : PSsd X W sts gNever := ⟨fun _ _ _ _ _ _ ⟨_, _, _, _, _, _, h, _⟩ => h.elim⟩
/-! ### targets -/
abbrev TGD := D → SD → GH → (SD → GH → Prop) → Prop
abbrev TGsD := List D → SD → GH → (SD → GH → Prop) → Prop
def LfG (K : PySem.W.Frag) (t : TGD) : TG := fun v σ H Q => ∃ Z G τ d q, StR K Z G H τ σ ∧ Rel K Z G H ∧ Rl K Z G H d v ∧ t d τ G q ∧ ClS K Z G H q Q
def LfGs (K : PySem.W.Frag) (t : TGsD) : TGs := fun vs σ H Q => ∃ Z G τ ds q, StR K Z G H τ σ ∧ Rel K Z G H ∧ RlA K Z G H ds vs ∧ t ds τ G q ∧ ClS K Z G H q Q
abbrev PGd (X : Cx) (e : Expr) (t : TGD) : Prop := PG X e (LfG X.K t)
abbrev PGsd (X : Cx) (es : List Expr) (t : TGsD) : Prop := PGs X es (LfGs X.K t)
theorem PGi {e : Expr} {t u : TG} (h : PG X e t) (i : ∀ v σ H Q, u v σ H Q → t v σ H Q) : PG X e u := ⟨fun pins s σ H v w Q I r hw => h.run pins s σ H v w Q I r (i _ _ _ _ hw)⟩
theorem PGsi {es : List Expr} {t u : TGs} (h : PGs X es t) (i : ∀ v σ H Q, u v σ H Q → t v σ H Q) : PGs X es u := ⟨fun pins s σ H v w Q I r hw => h.run pins s σ H v w Q I r (i _ _ _ _ hw)⟩
def hName (i : Nat) : TGD := fun d τ G q => q (τ.set i (some d)) G
theorem pgd_name {e : Expr} {i : Nat} (h : PG X e (gName i)) : PGd X e (hName i) := PGi h fun v σ H Q => by
  rintro ⟨Z, G, τ, d, q, S, R, r, h, c⟩
  exact c _ G H _ h (Step.refl _ _) R (S.set i r)
def hNil : TGsD := fun ds τ G q => match ds with
  | [] => q τ G
  | _ => False
def hCons (t : TGD) (u : TGsD) : TGsD := fun ds τ G q => match ds with
  | d :: r => t d τ G fun τ1 G1 => u r τ1 G1 q
  | [] => False
theorem pgsd_nil : PGsd X [] hNil := PGsi pgs_nil fun v σ H Q => by
  rintro ⟨Z, G, τ, ds, q, S, R, r, h, c⟩
  cases r with
  | nil => exact ⟨rfl, c _ G H _ h (Step.refl _ _) R S⟩
  | cons _ _ => exact (show False from h).elim
theorem pgsd_cons {e : Expr} {es : List Expr} {t : TGD} {u : TGsD} (h1 : PGd X e t) (h2 : PGsd X es u) (hs : (assignEach (e :: es) X.env).map (·.2) = assign e X.env :: (assignEach es X.env).map (·.2) := by rfl) : PGsd X (e :: es) (hCons t u) :=
  PGsi (pgs_cons h1 h2 hs) fun v σ H Q => by
    rintro ⟨Z, G, τ, ds, q, S, R, r, h, c⟩
    cases r with
    | nil => exact (show False from h).elim
    | cons r1 r2 =>
      refine ⟨_, _, rfl, Z, G, τ, _, _, S, R, r1, h, fun τ1 G1 H1 σ1 q1 s1 R1 S1 => ?_⟩
      exact ⟨Z, G1, τ1, _, q, S1, R1, r2.mv (s1.mv R), q1, c.step s1⟩
/-- (a, b, ..) = a tuple or a list -/
def hTup (n : Nat) (t : TGsD) : TGD := fun d τ G q => match d with
  | .tup ds => Sd (ds.length = n) (t ds τ G q)
  | .lst ds => Sd (ds.length = n) (t ds τ G q)
  | .ref a => LkL a G fun ds => Sd (ds.length = n) (t ds τ G q)
  | _ => False
/-- a list or a tuple of that length, by the model's value -/
def gSeqT (K : PySem.W.Frag) (n : Nat) (t : TGs) : TG := fun v σ H Q => L2.gTup K n t v σ H Q ∨ gUnl K n t v σ H Q
theorem pg_seq {es : List Expr} {k : Nat} {t : TGs} {n : Nat} (hc : X.calm = true) (h : PGs X es t)
    (hn : (assignEach es X.env).length = n := by rfl) (hst : (assignEach es X.env).findIdx? (·.1) = none := by rfl) : PG X (.Tuple es k pos) (gSeqT X.K n t) :=
  ⟨fun pins s σ H v w Q I r hw => hw.elim (fun z => (pg_tup hc h hn hst).run pins s σ H v w Q I r z) fun z => (pg_unl hc h hn hst).run pins s σ H v w Q I r z⟩
theorem pgd_tup {es : List Expr} {k : Nat} {t : TGsD} {n : Nat} (hc : X.calm = true) (h : PGsd X es t) (hn : (assignEach es X.env).length = n := by rfl) (hst : (assignEach es X.env).findIdx? (·.1) = none := by rfl) :
    PGd X (.Tuple es k pos) (hTup n t) := PGi (pg_seq hc h hn hst) fun v σ H Q => by
  rintro ⟨Z, G, τ, d, q, S, R, r, h, c⟩
  cases d with
  | tup ds =>
    obtain ⟨hl, h⟩ := Sd_e h
    cases r with
    | tup hx rx => exact .inl ⟨_, _, rfl, hx, by rw [← rx.length]; exact hl, Z, G, τ, ds, q, S, R, rx, h, c⟩
  | lst ds =>
    obtain ⟨hl, h⟩ := Sd_e h
    cases r with
    | lst hx _ _ rx => exact .inr ⟨_, _, rfl, SqL.of hx, by rw [← rx.length]; exact hl, Z, G, τ, ds, q, S, R, rx, h, c⟩
  | ref a =>
    obtain ⟨ds, e, h⟩ := LkL_e h
    obtain ⟨hl, h⟩ := Sd_e h
    obtain ⟨_, xs, hx, rx⟩ := R.ob a _ e
    cases r
    exact .inr ⟨_, _, rfl, SqL.of hx, by rw [← rx.length]; exact hl, Z, G, τ, ds, q, S, R, rx, h, c⟩
  | _ => exact (show False from h).elim
/-- target = value -/
def gAsg (t : TED) (g : TGD) : TSD := fun e τ G => t τ G (xOf e τ) fun d G1 => g d τ G1 e.nx
theorem psd_asg {tg e : Expr} {t : TED} {g : TGD} (he : PEd X W e t) (hg : PGd X tg g) (hs : swapsWithSole [tg] e pos.line X.env = pure false := by rfl) (hw : swappedStores [tg] e X.env = pure none := by rfl)
    (h1 : (assignEach [tg] X.env).map (·.2) = [assign tg X.env] := by rfl) : PSd X W (.Assign [tg] e pos) (gAsg t g) := PSi (ps_asg he hg hs hw h1) fun D σ H => by
  rintro ⟨Z, G, τ, e, S, R, h, c⟩
  refine ⟨Z, G, τ, _, _, S, R, h, fun d G1 H1 v q1 s1 R1 r1 => ?_, c.ex.x R S⟩
  exact ⟨Z, G1, τ, d, _, S.mv (s1.mv R), R1, r1, q1, c.nx.step s1⟩
/-- name = value -/
theorem psd_set {tg e : Expr} {t : TED} {i : Nat} (h : PS X (.Assign [tg] e pos) (tAsg (Lf X.K W t) (gName i))) : PSd X W (.Assign [tg] e pos) (gAsg t (hName i)) := PSi h fun D σ H => by
  rintro ⟨Z, G, τ, e, S, R, h, c⟩
  refine ⟨Z, G, τ, _, _, S, R, h, fun d G1 H1 v q1 s1 R1 r1 => ?_, c.ex.x R S⟩
  exact c.nx _ G1 H1 _ q1 s1 R1 ((S.mv (s1.mv R)).set i r1)
end
end N
namespace N
open PySem PySem.Spec PyProof.Rows L2
/-! ### lists as operands -/
def AsL (x : D) (G : GH) (k : List D → Prop) : Prop := match x with
  | .lst ds => k ds
  | .ref a => LkL a G k
  | _ => False
theorem asL_e {K : PySem.W.Frag} {Z : ZS} {G : GH} {H : Hp} {x : D} {v : V} {k : List D → Prop} (R : Rel K Z G H) (r : Rl K Z G H x v) (h : AsL x G k) : ∃ a xs ds, v = .ref a ∧ H a = some (.lst xs) ∧ RlA K Z G H ds xs ∧ k ds := by
  cases x with
  | lst ds => cases r with
    | lst hx _ _ rx => exact ⟨_, _, ds, rfl, hx, rx, h⟩
  | ref a =>
    obtain ⟨ds, e, q⟩ := LkL_e h
    obtain ⟨_, xs, hx, rx⟩ := R.ob a _ e
    cases r
    exact ⟨a, xs, ds, rfl, hx, rx, q⟩
  | _ => exact (show False from h).elim
/-- any sequence that is read: list, tuple, the script -/
def AsQ (x : D) (G : GH) (k : List D → Prop) : Prop := match x with
  | .lst ds => k ds
  | .tup ds => k ds
  | .ro ds => k ds
  | .ref a => LkL a G k
  | _ => False
theorem asQ_e {K : PySem.W.Frag} {Z : ZS} {G : GH} {H : Hp} {x : D} {v : V} {k : List D → Prop} (R : Rel K Z G H) (r : Rl K Z G H x v) (h : AsQ x G k) : ∃ a xs ds, v = .ref a ∧ (SqL K H a xs ∨ SqT K H a xs) ∧ RlA K Z G H ds xs ∧ k ds := by
  cases x with
  | lst ds => cases r with
    | lst hx _ _ rx => exact ⟨_, _, ds, rfl, .inl (SqL.of hx), rx, h⟩
  | tup ds => cases r with
    | tup hx rx => exact ⟨_, _, ds, rfl, .inr hx, rx, h⟩
  | ro ds => cases r with
    | ro hx rx => exact ⟨_, _, ds, rfl, .inl hx.sq, rx, h⟩
  | ref a =>
    obtain ⟨ds, e, q⟩ := LkL_e h
    obtain ⟨_, xs, hx, rx⟩ := R.ob a _ e
    cases r
    exact ⟨a, xs, ds, rfl, .inl (SqL.of hx), rx, q⟩
  | _ => exact (show False from h).elim
/-! ### + -/
def nAdd : R2D := fun x y G q => match x with
  | .int i => (match y with | .int j => q (.int (i + j)) G | _ => False)
  | .str i => (match y with | .str j => Sd (i.length + j.length ≤ sizeLine) (q (.str (i ++ j)) G) | _ => False)
  | .tup xs => (match y with | .tup ys => Sd (xs.length + ys.length ≤ sizeLine) (q (.tup (xs ++ ys)) G) | _ => False)
  | .lst xs => AsL y G fun ys => Sd (xs.length + ys.length ≤ sizeLine) (NewL (xs ++ ys) G q)
  | .ref a => LkL a G fun xs => AsL y G fun ys => Sd (xs.length + ys.length ≤ sizeLine) (NewL (xs ++ ys) G q)
  | _ => False
def rAddA (K : PySem.W.Frag) : R2 := fun x y H Q => rI0 (fun i j => .int (i + j)) x y H Q ∨ (∃ i j, x = .str i ∧ y = .str j ∧ i.length + j.length ≤ sizeLine ∧ Q (.str (i ++ j)) H) ∨ rCat x y H Q ∨ rCatA K x y H Q
theorem op_addA {X : Cx} : OpR X (binaryOp .Add) (rAddA X.K) := op_add.or (op_add_str.or (op_cat.or op_catA))
theorem ok_add {K : PySem.W.Frag} : R2Ok K (rAddA K) nAdd := by
  intro Z G H x y v u q Q R rx ry h c
  have lists : ∀ xs' xs a, H a = some (.lst xs') → RlA K Z G H xs xs' → v = .ref a → (AsL y G fun ys => Sd (xs.length + ys.length ≤ sizeLine) (NewL (xs ++ ys) G q)) → rAddA K v u H Q := by
    intro xs' xs a ha rxs ev h
    obtain ⟨b, ys', ys, eu, hb, rys, h⟩ := asL_e R ry h
    subst ev eu
    obtain ⟨hl, h⟩ := Sd_e h
    exact .inr (.inr (.inl ⟨a, b, xs', ys', rfl, rfl, ha, hb, by rw [← rxs.length, ← rys.length]; exact hl, fun p hp => new_list R (rxs.append rys) h c p hp⟩))
  cases x with
  | int i => cases y with
    | int j => cases rx; cases ry; exact .inl ⟨i, j, rfl, rfl, c _ _ _ _ h (Step.refl _ _) R (.int _)⟩
    | _ => exact (show False from h).elim
  | str i => cases y with
    | str j =>
      cases rx; cases ry
      obtain ⟨hl, h⟩ := Sd_e h
      exact .inr (.inl ⟨i, j, rfl, rfl, hl, c _ _ _ _ h (Step.refl _ _) R (.str _)⟩)
    | _ => exact (show False from h).elim
  | tup xs => cases y with
    | tup ys =>
      obtain ⟨hl, h⟩ := Sd_e h
      cases rx with
      | tup hx rx => cases ry with
        | tup hy ry =>
          refine .inr (.inr (.inr ⟨_, _, _, _, rfl, rfl, hx, hy, by rw [← rx.length, ← ry.length]; exact hl, fun e => ?_, fun _ e => ?_, fun _ _ p hp => new_tup R (rx.append ry) h c p hp⟩))
          · subst e
            cases rx
            exact c _ _ _ _ h (Step.refl _ _) R (.tup hy ry)
          · subst e
            cases ry
            rw [List.append_nil] at h
            exact c _ _ _ _ h (Step.refl _ _) R (.tup hx rx)
    | _ => exact (show False from h).elim
  | lst xs => cases rx with
    | lst hx _ _ rx => exact lists _ xs _ hx rx rfl h
  | ref a =>
    obtain ⟨xs, e, h⟩ := LkL_e h
    obtain ⟨_, xs', hx, rx'⟩ := R.ob a _ e
    cases rx
    exact lists _ xs a hx rx' rfl h
  | _ => exact (show False from h).elim
/-! ### == -/
mutual
inductive Deep (G : GH) : D → PyData → Prop where
  | non : Deep G .non .none
  | bl (b : Bool) : Deep G (.bl b) (.bool b)
  | int (i : Int) : Deep G (.int i) (.int i)
  | str (s : Str) : Deep G (.str s) (.str s)
  | tup {ds : List D} {ps : List PyData} : DeepA G ds ps → Deep G (.tup ds) (.tuple ps)
  | lst {ds : List D} {ps : List PyData} : DeepA G ds ps → Deep G (.lst ds) (.list ps)
  | ref {a : Addr} {ds : List D} {ps : List PyData} : G a = some (.lst ds) → DeepA G ds ps → Deep G (.ref a) (.list ps)
inductive DeepA (G : GH) : List D → List PyData → Prop where
  | nil : DeepA G [] []
  | cons {d : D} {ds : List D} {p : PyData} {ps : List PyData} : Deep G d p → DeepA G ds ps → DeepA G (d :: ds) (p :: ps)
end
section
variable {K : PySem.W.Frag} {Z : ZS} {G : GH} {H : Hp}
mutual
theorem Deep.dp (R : Rel K Z G H) : ∀ {d : D} {p : PyData}, Deep G d p → ∀ {v : V}, Rl K Z G H d v → Dp K H v p
  | _, _, .non, _, .non => .non
  | _, _, .bl b, _, .bl _ => .bl b
  | _, _, .int i, _, .int _ => .int i
  | _, _, .str s, _, .str _ => .str s
  | _, _, .tup t, _, .tup hx rx => .tup hx (DeepA.dp R t rx)
  | _, _, .lst t, _, .lst hx _ _ rx => .lst (SqL.of hx) (DeepA.dp R t rx)
  | _, _, @Deep.ref _ a _ _ e t, _, r => by
    obtain ⟨_, xs, hx, rx⟩ := R.ob a _ e
    cases r
    exact .lst (SqL.of hx) (DeepA.dp R t rx)
theorem DeepA.dp (R : Rel K Z G H) : ∀ {ds : List D} {ps : List PyData}, DeepA G ds ps → ∀ {vs : List V}, RlA K Z G H ds vs → DpAll K H vs ps
  | _, _, .nil, _, .nil => .nil
  | _, _, .cons h t, _, .cons r s => .cons (Deep.dp R h r) (DeepA.dp R t s)
end
end
def plOk (d : PyData) : Prop := d.plain = true ∧ d.depth ≤ 64
theorem plOk_of {d : PyData} (h : SeqAt.shaped d = true) : plOk d := ⟨PySem.PyData.plain_of_canLay0 d (SeqAt.canLay_of_shaped h), SeqAt.depth_of_shaped h⟩
@[irreducible] def EqD (x y : D) (G : GH) (k : Bool → Prop) : Prop := ∃ d e, Deep G x d ∧ Deep G y e ∧ plOk d ∧ plOk e ∧ k (PyData.eqv d e)
theorem EqD_p {x y : D} {G : GH} {k : Bool → Prop} {d e : PyData} (h1 : Deep G x d) (h2 : Deep G y e) (s1 : plOk d) (s2 : plOk e) (h : k (PyData.eqv d e)) : EqD x y G k := by unfold EqD; exact ⟨d, e, h1, h2, s1, s2, h⟩
theorem EqD_i {x y : D} {G : GH} {k : Bool → Prop} {d e : PyData} (h1 : Deep G x d) (h2 : Deep G y e) (s1 : SeqAt.shaped d = true) (s2 : SeqAt.shaped e = true) (h : k (PyData.eqv d e)) : EqD x y G k := EqD_p h1 h2 (plOk_of s1) (plOk_of s2) h
def EqS (x y : D) (G : GH) (k : Bool → Prop) : Prop := match x with
  | .int i => (match y with | .int j => k (decide (i = j)) | .str _ => k false | .non => k false | _ => EqD x y G k)
  | .str i => (match y with | .str j => k (decide (i = j)) | .int _ => k false | .bl _ => k false | .non => k false | _ => EqD x y G k)
  | .bl i => (match y with | .bl j => k (decide (i = j)) | .str _ => k false | .non => k false | _ => EqD x y G k)
  | .non => (match y with | .non => k true | .int _ => k false | .bl _ => k false | .str _ => k false | _ => EqD x y G k)
  | _ => EqD x y G k
def nEq : R2D := fun x y G q => EqS x y G fun b => q (.bl b) G
def nNe : R2D := fun x y G q => EqS x y G fun b => q (.bl (!b)) G
def rEqP (K : PySem.W.Frag) : R2 := fun x y H Q => ∃ d e, Dp K H x d ∧ Dp K H y e ∧ plOk d ∧ plOk e ∧ Q (.bl (PyData.eqv d e)) H
def rNeP (K : PySem.W.Frag) : R2 := fun x y H Q => ∃ d e, Dp K H x d ∧ Dp K H y e ∧ plOk d ∧ plOk e ∧ Q (.bl (!PyData.eqv d e)) H
theorem op_eqP {X : Cx} (hu : X.A.units + 64 < cLine) : OpR X (compareOp .Eq) (rEqP X.K) := by
  intro pins s σ H x y v u Q I rx ry h
  obtain ⟨d, e, hd, he, sd, se, q⟩ := h
  obtain ⟨as, r1⟩ := Dp.reads I d x v hd rx
  obtain ⟨bs, r2⟩ := Dp.reads I e y u he ry
  exact PySem.SeqAt.eq_plain r1 r2 sd.1 se.1 (by have := sd.2; omega) ⟨.bl _, H, I, rfl, q⟩
theorem op_neP {X : Cx} (hu : X.A.units + 64 < cLine) : OpR X (compareOp .NotEq) (rNeP X.K) := by
  intro pins s σ H x y v u Q I rx ry h
  obtain ⟨d, e, hd, he, sd, se, q⟩ := h
  obtain ⟨as, r1⟩ := Dp.reads I d x v hd rx
  obtain ⟨bs, r2⟩ := Dp.reads I e y u he ry
  exact PySem.SeqAt.ne_plain r1 r2 sd.1 se.1 (by have := sd.2; omega) ⟨.bl _, H, I, rfl, q⟩
def rEqA (K : PySem.W.Frag) : R2 := fun x y H Q => rEq x y H Q ∨ rEqP K x y H Q
def rNeA (K : PySem.W.Frag) : R2 := fun x y H Q => rNe x y H Q ∨ rNeP K x y H Q
theorem op_eqA {X : Cx} (hu : X.A.units + 64 < cLine) : OpR X (compareOp .Eq) (rEqA X.K) := op_eq.or (op_eqP hu)
theorem op_neA {X : Cx} (hu : X.A.units + 64 < cLine) : OpR X (compareOp .NotEq) (rNeA X.K) := op_ne.or (op_neP hu)
theorem dec_i {i j : Int} : decide (V.int i = V.int j) = decide (i = j) := decide_eq_decide.mpr ⟨fun z => V.int.inj z, fun z => congrArg V.int z⟩
theorem dec_s {i j : Str} : decide (V.str i = V.str j) = decide (i = j) := decide_eq_decide.mpr ⟨fun z => V.str.inj z, fun z => congrArg V.str z⟩
theorem dec_b {i j : Bool} : decide (V.bl i = V.bl j) = decide (i = j) := decide_eq_decide.mpr ⟨fun z => V.bl.inj z, fun z => congrArg V.bl z⟩
theorem eqs_e {K : PySem.W.Frag} {Z : ZS} {G : GH} {H : Hp} {x y : D} {v u : V} {k : Bool → Prop} (R : Rel K Z G H) (rx : Rl K Z G H x v) (ry : Rl K Z G H y u) (h : EqS x y G k) :
    (scal v u = true ∧ k (decide (v = u))) ∨ ∃ d e, Dp K H v d ∧ Dp K H u e ∧ plOk d ∧ plOk e ∧ k (PyData.eqv d e) := by
  have deep : EqD x y G k → (scal v u = true ∧ k (decide (v = u))) ∨ ∃ d e, Dp K H v d ∧ Dp K H u e ∧ plOk d ∧ plOk e ∧ k (PyData.eqv d e) := fun z => by
    unfold EqD at z
    obtain ⟨d, e, h1, h2, s1, s2, q⟩ := z
    exact .inr ⟨d, e, h1.dp R rx, h2.dp R ry, s1, s2, q⟩
  cases x <;> cases y <;> first
    | exact deep h
    | (cases rx; cases ry; refine .inl ⟨rfl, ?_⟩; first
        | exact h
        | (rw [dec_i]; exact h)
        | (rw [dec_s]; exact h)
        | (rw [dec_b]; exact h))
theorem ok_eq {K : PySem.W.Frag} : R2Ok K (rEqA K) nEq := by
  intro Z G H x y v u q Q R rx ry h c
  rcases eqs_e R rx ry h with ⟨h1, h2⟩ | ⟨d, e, h1, h2, s1, s2, h3⟩
  · exact .inl ⟨h1, c _ _ _ _ h2 (Step.refl _ _) R (.bl _)⟩
  · exact .inr ⟨d, e, h1, h2, s1, s2, c _ _ _ _ h3 (Step.refl _ _) R (.bl _)⟩
theorem ok_ne {K : PySem.W.Frag} : R2Ok K (rNeA K) nNe := by
  intro Z G H x y v u q Q R rx ry h c
  rcases eqs_e R rx ry h with ⟨h1, h2⟩ | ⟨d, e, h1, h2, s1, s2, h3⟩
  · exact .inl ⟨h1, c _ _ _ _ h2 (Step.refl _ _) R (.bl _)⟩
  · exact .inr ⟨d, e, h1, h2, s1, s2, c _ _ _ _ h3 (Step.refl _ _) R (.bl _)⟩
/-- is None -/
def isN (d : D) (k : Bool → Prop) : Prop := match d with
  | .non => k true
  | .fn _ => False
  | _ => k false
def nIs : R2D := fun x y G q => match y with
  | .non => isN x fun b => q (.bl b) G
  | _ => False
def nIsNot : R2D := fun x y G q => match y with
  | .non => isN x fun b => q (.bl (!b)) G
  | _ => False
theorem isN_e {K : PySem.W.Frag} {Z : ZS} {G : GH} {H : Hp} {x : D} {v : V} {k : Bool → Prop} (r : Rl K Z G H x v) (h : isN x k) : k (decide (v = .non)) := by
  cases x <;> cases r <;> first
    | exact h
    | exact (show False from h).elim
theorem ok_is {K : PySem.W.Frag} : R2Ok K (fun x y H Q => y = .non ∧ Q (.bl (decide (x = .non))) H) nIs := by
  intro Z G H x y v u q Q R rx ry h c
  cases y <;> first
    | (cases ry; exact ⟨rfl, c _ _ _ _ (isN_e (k := fun b => q (.bl b) G) rx h) (Step.refl _ _) R (.bl _)⟩)
    | exact (show False from h).elim
theorem ok_isNot {K : PySem.W.Frag} : R2Ok K (fun x y H Q => y = .non ∧ Q (.bl (!decide (x = .non))) H) nIsNot := by
  intro Z G H x y v u q Q R rx ry h c
  cases y <;> first
    | (cases ry; exact ⟨rfl, c _ _ _ _ (isN_e (k := fun b => q (.bl (!b)) G) rx h) (Step.refl _ _) R (.bl _)⟩)
    | exact (show False from h).elim
/-! ### in, of flat things -/
def flatD : D → Bool
  | .non => true | .bl _ => true | .int _ => true | .str _ => true | _ => false
def vOf : D → V
  | .non => .non | .bl b => .bl b | .int i => .int i | .str s => .str s | _ => .non
def inD (x : D) (ys : List D) : Bool := ys.any fun y => eqV (vOf y) (vOf x)
section
variable {K : PySem.W.Frag} {Z : ZS} {G : GH} {H : Hp}
theorem flat_rl {d : D} {v : V} (f : flatD d = true) (r : Rl K Z G H d v) : v = vOf d ∧ flatV v = true := by
  cases d <;> first
    | (cases r; exact ⟨rfl, rfl⟩)
    | cases f
theorem flat_rla : ∀ {ds : List D} {vs : List V}, ds.all flatD = true → RlA K Z G H ds vs → vs = ds.map vOf ∧ vs.all flatV = true
  | _, _, _, .nil => ⟨rfl, rfl⟩
  | d :: ds, v :: vs, f, .cons r t => by
    rw [List.all_cons, Bool.and_eq_true] at f
    obtain ⟨e1, f1⟩ := flat_rl f.1 r
    obtain ⟨e2, f2⟩ := flat_rla f.2 t
    exact ⟨by rw [List.map_cons, ← e1, ← e2], by rw [List.all_cons, f1, f2]; rfl⟩
end
def nIn (neg : Bool) : R2D := fun x y G q => AsQ y G fun ys => Sd (flatD x = true ∧ ys.all flatD = true) (q (.bl (if neg then !inD x ys else inD x ys)) G)
theorem ok_in {K : PySem.W.Frag} {neg : Bool} : R2Ok K (rIn K neg) (nIn neg) := by
  intro Z G H x y v u q Q R rx ry h c
  obtain ⟨a, xs, ds, rfl, hs, rd, h⟩ := asQ_e R ry h
  obtain ⟨⟨f1, f2⟩, h⟩ := Sd_e h
  obtain ⟨e1, g1⟩ := flat_rl f1 rx
  obtain ⟨e2, g2⟩ := flat_rla f2 rd
  have e : inV v xs = inD x ds := by
    subst e1 e2
    unfold inV inD
    rw [List.any_map]
    rfl
  exact ⟨a, xs, rfl, hs, g1, g2, by rw [e]; exact c _ _ _ _ h (Step.refl _ _) R (.bl _)⟩
section
variable {X : Cx} {W : WX} {a b : Expr} {ta tb : TED} {pos : Pos}
theorem pd_add (ha : PEd X W a ta) (hb : PEd X W b tb) : PEd X W (.BinOp a .Add b pos) (gOp nAdd ta tb) := pd_op op_addA ok_add ha hb
theorem pd_eq (hu : X.A.units + 64 < cLine) (ha : PEd X W a ta) (hb : PEd X W b tb) : PEd X W (.Compare a [.Eq] [b] pos) (gOp nEq ta tb) := pd_cmp (op_eqA hu) ok_eq ha hb (nomark _)
theorem pd_ne (hu : X.A.units + 64 < cLine) (ha : PEd X W a ta) (hb : PEd X W b tb) : PEd X W (.Compare a [.NotEq] [b] pos) (gOp nNe ta tb) := pd_cmp (op_neA hu) ok_ne ha hb (nomark _)
theorem pd_is (ha : PEd X W a ta) (hb : PEd X W b tb) : PEd X W (.Compare a [.Is] [b] pos) (gOp nIs ta tb) := pd_cmp op_isN ok_is ha hb (nomark _)
theorem pd_isnot (ha : PEd X W a ta) (hb : PEd X W b tb) : PEd X W (.Compare a [.IsNot] [b] pos) (gOp nIsNot ta tb) := pd_cmp op_notN ok_isNot ha hb (nomark _)
theorem pd_in (ha : PEd X W a ta) (hb : PEd X W b tb) (hm : behindInMarks .In b = false := by rfl) : PEd X W (.Compare a [.In] [b] pos) (gOp (nIn false) ta tb) := pd_cmp op_in_seq ok_in ha hb hm
theorem pd_notin (ha : PEd X W a ta) (hb : PEd X W b tb) (hm : behindInMarks .NotIn b = false := by rfl) : PEd X W (.Compare a [.NotIn] [b] pos) (gOp (nIn true) ta tb) := pd_cmp op_notIn_seq ok_in ha hb hm
theorem pt_eq (hu : X.A.units + 64 < cLine) (ha : PEd X W a ta) (hb : PEd X W b tb) : PTd X W (.Compare a [.Eq] [b] pos) (gTst (gOp nEq ta tb)) := pd_cmpT (op_eqA hu) ok_eq ha hb (nomark _)
theorem pt_ne (hu : X.A.units + 64 < cLine) (ha : PEd X W a ta) (hb : PEd X W b tb) : PTd X W (.Compare a [.NotEq] [b] pos) (gTst (gOp nNe ta tb)) := pd_cmpT (op_neA hu) ok_ne ha hb (nomark _)
theorem pt_is (ha : PEd X W a ta) (hb : PEd X W b tb) : PTd X W (.Compare a [.Is] [b] pos) (gTst (gOp nIs ta tb)) := pd_cmpT op_isN ok_is ha hb (nomark _)
theorem pt_isnot (ha : PEd X W a ta) (hb : PEd X W b tb) : PTd X W (.Compare a [.IsNot] [b] pos) (gTst (gOp nIsNot ta tb)) := pd_cmpT op_notN ok_isNot ha hb (nomark _)
theorem pt_in (ha : PEd X W a ta) (hb : PEd X W b tb) (hm : behindInMarks .In b = false := by rfl) : PTd X W (.Compare a [.In] [b] pos) (gTst (gOp (nIn false) ta tb)) := pd_cmpT op_in_seq ok_in ha hb hm
theorem pt_notin (ha : PEd X W a ta) (hb : PEd X W b tb) (hm : behindInMarks .NotIn b = false := by rfl) : PTd X W (.Compare a [.NotIn] [b] pos) (gTst (gOp (nIn true) ta tb)) := pd_cmpT op_notIn_seq ok_in ha hb hm
end
/-! ### * -/
theorem tuple_mul1 (l : Addr) (items : Array Value) (n : Nat) (sl : Array (Option Value)) (dd : Option Addr) (u : Tok) :
    Meets (Builtin.«tuple.__mul__» ⟨[.ref l, .int 1 u], []⟩) (fun _ R s => s.heap.get? l = some { cls := .type "tuple", dict := dd, data := .seq items n, slots := sl } ∧ R (.ok (.ret (Value.ref l))) s) :=
  .of_wp fun prog w A R s h => by
    obtain ⟨hp, g, d, tk, os⟩ := s
    obtain ⟨hl, h⟩ := h
    have f1 := AutoSeq1.idx_int
    wp_walk using wpAny_loadPart' hl
    repeat (first
      | (refine wpAny_ite_false (by decide) ?_; wp_walk using wpAny_loadPart' hl)
      | (refine wpAny_ite_true (by simp) ?_; wp_walk using wpAny_loadPart' hl))
    exact ⟨_, rfl, h⟩
def rRepT1 (K : PySem.W.Frag) : R2 := fun x y H Q => ∃ l xs, x = .ref l ∧ y = .int 1 ∧ SqT K H l xs ∧ Q (.ref l) H
theorem op_repT1 {X : Cx} : OpR X (binaryOp .Mult) (rRepT1 X.K) := by
  intro pins s σ H x y v u Q I rx ry h
  obtain ⟨l, xs, rfl, rfl, hT, q⟩ := h
  cases rx
  obtain ⟨t, rfl⟩ := ry
  obtain ⟨its, r, ⟨⟨cls, dd, data, sl⟩, ho, hc, n, hd⟩, hs⟩ := I.tuple hT
  simp only at hc hd
  subst hc hd
  refine wpAny_binaryOp_repeat_ref (T := "tuple") (U := "int") (by decide) ⟨_, ho, rfl⟩ (fun s' => typeIs_int s' 1 t) noFill_tuple_mul F.fills_int_mul F.slot_int_rmul repeat_tuple F.slot_int_index.lookup
    (call_meets F.slot_int_rmul (typeIs_int s 1 t) F.entry_int_rmul (F.args_int_rmul_2 _ _) (int_rmul_tuple 1 t l its.toArray n dd sl)
      ⟨ho, rfl, ⟨_, ho, rfl⟩, call_meets F.slot_tuple_mul ⟨_, ho, rfl⟩ F.entry_tuple_mul (F.args_tuple_mul_2 _ _) (tuple_mul1 l its.toArray n sl dd t) ⟨ho, ?_⟩⟩)
  exact ⟨.ref l, H, I, rfl, q⟩
def nMul : R2D := fun x y G q => match x with
  | .int i => (match y with | .int j => Sd (CMul i j ∨ CMulW i j) (q (.int (i * j)) G) | _ => False)
  | .tup xs => (match y with | .int k => Sd (xs ≠ [] ∧ 1 ≤ k ∧ k ≤ 1000 ∧ xs.length ≤ 1000) (q (.tup (List.replicate k.toNat xs).flatten) G) | _ => False)
  | .lst xs => (match y with | .int k => Sd (-(2 ^ 63) ≤ k ∧ k < 2 ^ 63 ∧ xs.length * k.toNat ≤ sizeLine) (NewL (List.replicate k.toNat xs).flatten G q) | _ => False)
  | _ => False
def rMulA (K : PySem.W.Frag) : R2 := fun x y H Q => (rI CMul (fun i j => .int (i * j)) x y H Q ∨ rI CMulW (fun i j => .int (i * j)) x y H Q) ∨ rRep x y H Q ∨ rRepT K x y H Q ∨ rRepT1 K x y H Q
theorem op_mulA {X : Cx} : OpR X (binaryOp .Mult) (rMulA X.K) := (op_mul.or op_mulW).or (op_rep.or (op_repT.or op_repT1))
theorem ok_mul {K : PySem.W.Frag} : R2Ok K (rMulA K) nMul := by
  intro Z G H x y v u q Q R rx ry h c
  cases x with
  | int i => cases y with
    | int j =>
      cases rx; cases ry
      obtain ⟨hl, h⟩ := Sd_e h
      rcases hl with hl | hl
      · exact .inl (.inl ⟨i, j, rfl, rfl, hl, c _ _ _ _ h (Step.refl _ _) R (.int _)⟩)
      · exact .inl (.inr ⟨i, j, rfl, rfl, hl, c _ _ _ _ h (Step.refl _ _) R (.int _)⟩)
    | _ => exact (show False from h).elim
  | tup xs => cases y with
    | int k =>
      cases ry
      obtain ⟨⟨h0, h1, h2, h3⟩, h⟩ := Sd_e h
      cases rx with
      | @tup a ys _ hx rx =>
        have hn : ys ≠ [] := fun e => by
          subst e
          cases rx
          exact h0 rfl
        by_cases e : k = 1
        · subst e
          refine .inr (.inr (.inr ⟨_, _, rfl, rfl, hx, ?_⟩))
          have e2 : (List.replicate (1 : Int).toNat xs).flatten = xs := by simp
          rw [e2] at h
          exact c _ _ _ _ h (Step.refl _ _) R (.tup hx rx)
        · exact .inr (.inr (.inl ⟨_, _, _, rfl, rfl, hx, hn, by omega, h2, by rw [← rx.length]; exact h3, fun p hp => new_tup R (rx.rep _) h c p hp⟩))
    | _ => exact (show False from h).elim
  | lst xs => cases y with
    | int k =>
      cases ry
      obtain ⟨⟨h0, h1, h2⟩, h⟩ := Sd_e h
      cases rx with
      | lst hx _ _ rx => exact .inr (.inl ⟨_, _, _, rfl, rfl, hx, h0, h1, by rw [← rx.length]; exact h2, fun p hp => new_list R (rx.rep _) h c p hp⟩)
    | _ => exact (show False from h).elim
  | _ => exact (show False from h).elim
theorem pd_mul {X : Cx} {W : WX} {a b : Expr} {ta tb : TED} {pos : Pos} (ha : PEd X W a ta) (hb : PEd X W b tb) : PEd X W (.BinOp a .Mult b pos) (gOp nMul ta tb) := pd_op op_mulA ok_mul ha hb
/-! ### items, slices -/
@[irreducible] def AtS (s : Str) (i : Int) (k : D → Prop) : Prop := ∃ c, s.length ≤ sizeLine ∧ atI s.cps.toList i = some c ∧ k (.str ⟨#[c]⟩)
theorem AtS_i {s : Str} {i : Int} {k : D → Prop} {c : Nat} (h1 : s.length ≤ sizeLine) (h : atI s.cps.toList i = some c) (q : k (.str ⟨#[c]⟩)) : AtS s i k := by unfold AtS; exact ⟨c, h1, h, q⟩
theorem AtS_e {s : Str} {i : Int} {k : D → Prop} (h : AtS s i k) : ∃ c, s.length ≤ sizeLine ∧ atI s.cps.toList i = some c ∧ k (.str ⟨#[c]⟩) := by unfold AtS at h; exact h
def nIx : R2D := fun x y G q => match y with
  | .int i => (match x with
    | .str s => AtS s i fun d => q d G
    | x => AsQ x G fun ds => AtD ds i fun d => q d G)
  | _ => False
theorem atI_rl {K : PySem.W.Frag} {Z : ZS} {G : GH} {H : Hp} {ds : List D} {vs : List V} {i : Int} {d : D} (r : RlA K Z G H ds vs) (h : atI ds i = some d) : ∃ v, atI vs i = some v ∧ Rl K Z G H d v := by
  unfold atI at h ⊢
  rw [← r.length]
  cases e : ixN ds.length i with
  | none => rw [e] at h; cases h
  | some j =>
    rw [e] at h
    exact r.get h
theorem ok_ix {K : PySem.W.Frag} : R2Ok K (rIx K) nIx := by
  intro Z G H x y v u q Q R rx ry h c
  cases y with
  | int i =>
    cases ry
    have seq : (AsQ x G fun ds => AtD ds i fun d => q d G) → rIx K v (.int i) H Q := fun h => by
      obtain ⟨a, xs, ds, rfl, hs, rd, h⟩ := asQ_e R rx h
      obtain ⟨d, hd, h⟩ := AtD_e h
      obtain ⟨w, hw, rw'⟩ := atI_rl rd hd
      rcases hs with hs | hs
      · exact .inl ⟨a, xs, i, w, rfl, rfl, hs, hw, c _ _ _ _ h (Step.refl _ _) R rw'⟩
      · exact .inr (.inl ⟨a, xs, i, w, rfl, rfl, hs, hw, c _ _ _ _ h (Step.refl _ _) R rw'⟩)
    cases x with
    | str s =>
      cases rx
      obtain ⟨k, hl, hk, h⟩ := AtS_e h
      exact .inr (.inr ⟨s, i, k, rfl, rfl, hl, hk, c _ _ _ _ h (Step.refl _ _) R (.str _)⟩)
    | _ => exact seq h
  | _ => exact (show False from h).elim
theorem pd_ix {X : Cx} {W : WX} {a b : Expr} {ta tb : TED} {pos : Pos} (ha : PEd X W a ta) (hb : PEd X W b tb) (hs : PlainIx b) : PEd X W (.Subscript a b pos) (gOp nIx ta tb) :=
  PEi (pe_ix ix_seq ha hb hs) fun _ _ _ w => lf_op ok_ix w
abbrev TOD := SD → GH → XD → (Option Int → GH → Prop) → Prop
def LfO (K : PySem.W.Frag) (W : WX) (t : TOD) : TO := fun σ H Q => ∃ Z G τ x q, StR K Z G H τ σ ∧ Rel K Z G H ∧ t τ G x q ∧ (∀ o G' H', q o G' → Step G H G' H' → Rel K Z G' H' → Q o H') ∧ ClX K Z G H x W σ
abbrev POd (X : Cx) (W : WX) (e : Option Expr) (t : TOD) : Prop := PO X e (LfO X.K W t)
def gNoP : TOD := fun _ G _ q => q none G
def gPart (t : TED) : TOD := fun τ G x q => t τ G x fun d G1 => match d with
  | .int i => q (some i) G1
  | _ => False
theorem POi {X : Cx} {e : Option Expr} {t u : TO} (h : PO X e t) (i : ∀ σ H Q, u σ H Q → t σ H Q) : PO X e u := ⟨fun pins s σ H Q I hw => h.run pins s σ H Q I (i _ _ _ hw)⟩
theorem pod_none {X : Cx} {W : WX} : POd X W none gNoP := POi po_none fun σ H Q => by
  rintro ⟨Z, G, τ, x, q, S, R, h, c, cx⟩
  exact c _ G H h (Step.refl _ _) R
theorem pod_some {X : Cx} {W : WX} {e : Expr} {t : TED} (h : PEd X W e t) : POd X W (some e) (gPart t) := POi (po_some h) fun σ H Q => by
  rintro ⟨Z, G, τ, x, q, S, R, h, c, cx⟩
  refine ⟨Z, G, τ, x, _, S, R, h, fun d G1 H1 v q1 s1 R1 r1 => ?_, cx⟩
  cases d with
  | int i =>
    cases r1
    exact ⟨i, rfl, c _ G1 H1 q1 s1 R1⟩
  | _ => exact (show False from q1).elim
def cutD (ds : List D) (lo hi : Option Int) : List D := (ds.drop (HT.sIx ds.length 0 lo)).take (HT.sIx ds.length ds.length hi - HT.sIx ds.length 0 lo)
def nSl (x : D) (lo hi : Option Int) (G : GH) (q : QD) : Prop := match x with
  | .tup ds => q (.tup (cutD ds lo hi)) G
  | .str s => Sd (s.length ≤ sizeLine) (q (.str (cutS s lo hi)) G)
  | x => AsL x G fun ds => NewL (cutD ds lo hi) G q
def gSl (t : TED) (tl th : TOD) : TED := fun τ G x q => t τ G x fun d G1 => tl τ G1 x fun lo G2 => th τ G2 x fun hi G3 => nSl d lo hi G3 q
end N
namespace N
open PySem PySem.Spec PyProof.Rows L2
/-! ### slices -/
def rSlB (K : PySem.W.Frag) : V → Option Int → Option Int → Hp → VK → Prop := fun x lo hi H Q => rSlA K x lo hi H Q ∨ rSlL K x lo hi H Q ∨ rSlS x lo hi H Q
theorem sl_all {X : Cx} : SlR X (rSlB X.K) := sl_tupA.or (sl_list.or sl_str)
theorem cut_rl {K : PySem.W.Frag} {Z : ZS} {G : GH} {H : Hp} {ds : List D} {vs : List V} {lo hi : Option Int} (r : RlA K Z G H ds vs) : RlA K Z G H (cutD ds lo hi) (cutV vs lo hi) := by
  unfold cutD cutV
  rw [r.length]
  exact (r.drop _).take _
theorem cutD_all {ds : List D} {lo hi : Option Int} (h : HT.sIx ds.length 0 lo = 0 ∧ HT.sIx ds.length ds.length hi = ds.length) : cutD ds lo hi = ds := by
  unfold cutD
  rw [h.1, h.2]
  simp
theorem sl_ok {K : PySem.W.Frag} {Z : ZS} {G : GH} {H : Hp} {x : D} {v : V} {lo hi : Option Int} {q : QD} {Q : VK} (R : Rel K Z G H) (r : Rl K Z G H x v) (h : nSl x lo hi G q) (c : ClE K Z G H q Q) : rSlB K v lo hi H Q := by
  have seq : (AsL x G fun ds => NewL (cutD ds lo hi) G q) → rSlB K v lo hi H Q := fun h => by
    obtain ⟨a, xs, ds, rfl, hs, rd, h⟩ := asL_e R r h
    exact .inr (.inl ⟨a, xs, rfl, SqL.of hs, fun p hp => new_list R (cut_rl rd) h c p hp⟩)
  cases x with
  | tup ds =>
    cases r with
    | tup hx rx =>
      refine .inl ⟨_, _, rfl, hx, fun e => ?_, fun e p hp => new_tup R (cut_rl rx) h c p hp⟩
      have h' : q (.tup (cutD ds lo hi)) G := h
      rw [cutD_all (by rw [rx.length]; exact e)] at h'
      exact c _ _ _ _ h' (Step.refl _ _) R (.tup hx rx)
  | str s =>
    cases r
    obtain ⟨hl, h⟩ := Sd_e h
    exact .inr (.inr ⟨s, rfl, hl, c _ _ _ _ h (Step.refl _ _) R (.str _)⟩)
  | _ => exact seq h
theorem pd_slice {X : Cx} {W : WX} {e : Expr} {lo hi : Option Expr} {t : TED} {tl th : TOD} {p2 pos : Pos} (he : PEd X W e t) (hl : POd X W lo tl) (hh : POd X W hi th) : PEd X W (.Subscript e (.Slice lo hi none p2) pos) (gSl t tl th) :=
  PEi (pe_slice sl_all he hl hh) fun σ H Q => by
    rintro ⟨Z, G, τ, x, q, S, R, h, c, cx⟩
    refine ⟨Z, G, τ, x, _, S, R, h, fun d G1 H1 v q1 s1 R1 r1 => ?_, cx⟩
    refine ⟨Z, G1, τ, x, _, S.mv (s1.mv R), R1, q1, fun lo G2 H2 q2 s2 R2 => ?_, cx.step s1⟩
    have s12 := s1.trans s2
    refine ⟨Z, G2, τ, x, _, S.mv (s12.mv R), R2, q2, fun hi G3 H3 q3 s3 R3 => ?_, cx.step s12⟩
    exact sl_ok R3 (r1.mv ((s2.trans s3).mv R1)) q3 (c.step (s12.trans s3))
/-! ### calls of built-ins -/
abbrev CAD := List D → GH → QD → Prop
def CAOk (K : PySem.W.Frag) (r : List V → Hp → VK → Prop) (t : CAD) : Prop := ∀ Z G H ds vs q Q, Rel K Z G H → RlA K Z G H ds vs → t ds G q → ClE K Z G H q Q → r vs H Q
def gCB (t : CAD) (ta : TAD) : TED := fun τ G x q => ta τ G x fun ds G1 => t ds G1 q
theorem lf_cb {K : PySem.W.Frag} {W : WX} {r : List V → Hp → VK → Prop} {t : CAD} {ta : TAD} (h : CAOk K r t) {σ : L2.St} {H : Hp} {Q : VK} (w : Lf K W (gCB t ta) σ H Q) : tCB r (LfA K W ta) σ H Q := by
  obtain ⟨Z, G, τ, x, q, S, R, hw, c, cx⟩ := w
  exact ⟨Z, G, τ, x, _, S, R, hw, fun ds G1 H1 vs q1 s1 R1 r1 => h Z G1 H1 ds vs q Q R1 r1 q1 (c.step s1), cx⟩
section
variable {X : Cx} {W : WX} {e : Expr} {es : List Expr} {ta : TAD} {r : List V → Hp → VK → Prop} {t : CAD} {p pos : Pos}
theorem pd_callB {id : String} {x : Str} (hc : CallR X (.builtin id) r) (h : CAOk X.K r t) (hg : Gl X x) (hm : X.mg x = none) (hv : bootBuiltins x = some (.builtin id)) (ha : PAd X W (e :: es) ta) (hn : x ≠ "__name__" := by decide) (hdb : (x == ("__debug__" : Str)) = false := by decide)
    (hs : starEach (e :: es) X.env = (false, eval e X.env) :: starEach es X.env := by rfl) (hpl : (backTo pos (starEach es X.env)).any (·.1) = false := by rfl) : PEd X W (.Call (.Name x p) (e :: es) [] pos) (gCB t ta) :=
  PEi (pe_callB hc hg hm hv ha hn hdb hs hpl) fun _ _ _ w => lf_cb h w
theorem pd_callTy {T : String} {x : Str} (hc : CallR X (.type T) r) (h : CAOk X.K r t) (hg : Gl X x) (hm : X.mg x = none) (hv : bootBuiltins x = some (.type T)) (ha : PAd X W (e :: es) ta) (hn : x ≠ "__name__" := by decide) (hdb : (x == ("__debug__" : Str)) = false := by decide)
    (hs : starEach (e :: es) X.env = (false, eval e X.env) :: starEach es X.env := by rfl) (hpl : (backTo pos (starEach es X.env)).any (·.1) = false := by rfl) : PEd X W (.Call (.Name x p) (e :: es) [] pos) (gCB t ta) :=
  PEi (pe_callTy hc hg hm hv ha hn hdb hs hpl) fun _ _ _ w => lf_cb h w
end
/-! ### the arguments' forms -/
def A1 (ds : List D) (k : D → Prop) : Prop := match ds with
  | [d] => k d
  | _ => False
def A2 (ds : List D) (k : D → D → Prop) : Prop := match ds with
  | [d, e] => k d e
  | _ => False
def A0 (ds : List D) (k : Prop) : Prop := match ds with
  | [] => k
  | _ => False
def I1 (d : D) (k : Int → Prop) : Prop := match d with
  | .int i => k i
  | _ => False
section
variable {K : PySem.W.Frag} {Z : ZS} {G : GH} {H : Hp} {ds : List D} {vs : List V}
theorem A0_e {k : Prop} (r : RlA K Z G H ds vs) (h : A0 ds k) : vs = [] ∧ k := by
  cases r with
  | nil => exact ⟨rfl, h⟩
  | cons _ _ => exact (show False from h).elim
theorem A1_e {k : D → Prop} (r : RlA K Z G H ds vs) (h : A1 ds k) : ∃ d v, ds = [d] ∧ vs = [v] ∧ Rl K Z G H d v ∧ k d := by
  cases r with
  | nil => exact (show False from h).elim
  | cons r1 r2 => cases r2 with
    | nil => exact ⟨_, _, rfl, rfl, r1, h⟩
    | cons _ _ => exact (show False from h).elim
theorem A2_e {k : D → D → Prop} (r : RlA K Z G H ds vs) (h : A2 ds k) : ∃ d e v u, ds = [d, e] ∧ vs = [v, u] ∧ Rl K Z G H d v ∧ Rl K Z G H e u ∧ k d e := by
  cases r with
  | nil => exact (show False from h).elim
  | cons r1 r2 => cases r2 with
    | nil => exact (show False from h).elim
    | cons r2 r3 => cases r3 with
      | nil => exact ⟨_, _, _, _, rfl, rfl, r1, r2, h⟩
      | cons _ _ => exact (show False from h).elim
theorem I1_e {d : D} {v : V} {k : Int → Prop} (r : Rl K Z G H d v) (h : I1 d k) : ∃ i, d = .int i ∧ v = .int i ∧ k i := by
  cases d with
  | int i => cases r; exact ⟨i, rfl, rfl, h⟩
  | _ => exact (show False from h).elim
end
def cLen : CAD := fun ds G q => A1 ds fun x => match x with
  | .str s => Sd (s.length ≤ sizeLine) (q (.int s.length) G)
  | x => AsQ x G fun ds => q (.int ds.length) G
theorem ok_len {K : PySem.W.Frag} : CAOk K (fun xs H Q => ∃ x n, xs = [x] ∧ LenV K x H n ∧ Q (.int n) H) cLen := by
  intro Z G H ds vs q Q R r h c
  obtain ⟨d, v, rfl, rfl, r1, h⟩ := A1_e r h
  have seq : (AsQ d G fun ds => q (.int ds.length) G) → ∃ y n, [v] = [y] ∧ LenV K y H n ∧ Q (.int n) H := fun h => by
    obtain ⟨a, xs, ds, rfl, hs, rd, h⟩ := asQ_e R r1 h
    refine ⟨_, ds.length, rfl, ?_, c _ _ _ _ h (Step.refl _ _) R (.int _)⟩
    rcases hs with hs | hs
    · exact .inl ⟨xs, hs, rd.length⟩
    · exact .inr ⟨xs, hs, rd.length⟩
  cases d with
  | str s =>
    cases r1
    obtain ⟨hl, h⟩ := Sd_e h
    exact ⟨_, s.length, rfl, ⟨hl, rfl⟩, c _ _ _ _ h (Step.refl _ _) R (.int _)⟩
  | _ => exact seq h
def cInt : CAD := fun ds G q => A1 ds fun x => match x with
  | .int i => q (.int i) G
  | .bl b => q (.int (if b then 1 else 0)) G
  | _ => False
theorem ok_int {K : PySem.W.Frag} : CAOk K (fun xs H Q => (∃ i, xs = [.int i] ∧ Q (.int i) H) ∨ ∃ k, xs = [.bl k] ∧ Q (.int (if k then 1 else 0)) H) cInt := by
  intro Z G H ds vs q Q R r h c
  obtain ⟨d, v, rfl, rfl, r1, h⟩ := A1_e r h
  cases d with
  | int i => cases r1; exact .inl ⟨i, rfl, c _ _ _ _ h (Step.refl _ _) R (.int _)⟩
  | bl b => cases r1; exact .inr ⟨b, rfl, c _ _ _ _ h (Step.refl _ _) R (.int _)⟩
  | _ => exact (show False from h).elim
def cMin2 : CAD := fun ds G q => A2 ds fun x y => I1 x fun i => I1 y fun j => q (.int (if j < i then j else i)) G
def cMax2 : CAD := fun ds G q => A2 ds fun x y => I1 x fun i => I1 y fun j => q (.int (if j > i then j else i)) G
theorem ok_min2 {K : PySem.W.Frag} : CAOk K (fun xs H Q => ∃ i j, xs = [.int i, .int j] ∧ Q (.int (if j < i then j else i)) H) cMin2 := by
  intro Z G H ds vs q Q R r h c
  obtain ⟨d, e, v, u, rfl, rfl, r1, r2, h⟩ := A2_e r h
  obtain ⟨i, rfl, rfl, h⟩ := I1_e r1 h
  obtain ⟨j, rfl, rfl, h⟩ := I1_e r2 h
  exact ⟨i, j, rfl, c _ _ _ _ h (Step.refl _ _) R (.int _)⟩
theorem ok_max2 {K : PySem.W.Frag} : CAOk K (fun xs H Q => ∃ i j, xs = [.int i, .int j] ∧ Q (.int (if j > i then j else i)) H) cMax2 := by
  intro Z G H ds vs q Q R r h c
  obtain ⟨d, e, v, u, rfl, rfl, r1, r2, h⟩ := A2_e r h
  obtain ⟨i, rfl, rfl, h⟩ := I1_e r1 h
  obtain ⟨j, rfl, rfl, h⟩ := I1_e r2 h
  exact ⟨i, j, rfl, c _ _ _ _ h (Step.refl _ _) R (.int _)⟩
/-- list(x), tuple(x) of a list or a tuple -/
def cList : CAD := fun ds G q => A1 ds fun x => AsQ x G fun ds => NewL ds G q
def cTuple : CAD := fun ds G q => A1 ds fun x => AsQ x G fun ds => q (.tup ds) G
theorem ok_list {K : PySem.W.Frag} : CAOk K (fun xs H Q => ∃ p ys, xs = [.ref p] ∧ (SqL K H p ys ∨ SqT K H p ys) ∧ ∀ l, H l = none → Q (.ref l) (upd H l (.lst ys))) cList := by
  intro Z G H ds vs q Q R r h c
  obtain ⟨d, v, rfl, rfl, r1, h⟩ := A1_e r h
  obtain ⟨a, xs, ds, rfl, hs, rd, h⟩ := asQ_e R r1 h
  exact ⟨a, xs, rfl, hs, fun p hp => new_list R rd h c p hp⟩
theorem ok_tuple {K : PySem.W.Frag} : CAOk K (fun xs H Q => ∃ p ys, xs = [.ref p] ∧ ((SqL K H p ys ∧ ∀ l, H l = none → Q (.ref l) (upd H l (.tup ys))) ∨ (SqT K H p ys ∧ Q (.ref p) H))) cTuple := by
  intro Z G H ds vs q Q R r h c
  obtain ⟨d, v, rfl, rfl, r1, h⟩ := A1_e r h
  obtain ⟨a, xs, ds, rfl, hs, rd, h⟩ := asQ_e R r1 h
  rcases hs with hs | hs
  · exact ⟨a, xs, rfl, .inl ⟨hs, fun p hp => new_tup R rd h c p hp⟩⟩
  · exact ⟨a, xs, rfl, .inr ⟨hs, c _ _ _ _ h (Step.refl _ _) R (.tup hs rd)⟩⟩
/-- min, max, sum of a list of ints; any, all of a list of bools -/
theorem ints_rl {K : PySem.W.Frag} {Z : ZS} {G : GH} {H : Hp} : ∀ {ns : List Int} {vs : List V}, RlA K Z G H (ns.map D.int) vs → vs = ns.map V.int
  | [], _, .nil => rfl
  | n :: ns, _, .cons r t => by
    cases r
    rw [ints_rl t]
    rfl
theorem bls_rl {K : PySem.W.Frag} {Z : ZS} {G : GH} {H : Hp} : ∀ {ns : List Bool} {vs : List V}, RlA K Z G H (ns.map D.bl) vs → vs = ns.map V.bl
  | [], _, .nil => rfl
  | n :: ns, _, .cons r t => by
    cases r
    rw [bls_rl t]
    rfl
/-- all items are ints, bools -/
def intsD : List D → Option (List Int)
  | [] => some []
  | .int i :: r => (intsD r).map (i :: ·)
  | _ :: _ => none
def blsD : List D → Option (List Bool)
  | [] => some []
  | .bl i :: r => (blsD r).map (i :: ·)
  | _ :: _ => none
@[irreducible] def IntsL (x : D) (G : GH) (k : List Int → Prop) : Prop := AsL x G fun ds => ∃ ns : List Int, ds = ns.map D.int ∧ k ns
@[irreducible] def BlsL (x : D) (G : GH) (k : List Bool → Prop) : Prop := AsL x G fun ds => ∃ ns : List Bool, ds = ns.map D.bl ∧ k ns
theorem IntsL_i {G : GH} {k : List Int → Prop} {ds : List D} (ns : List Int) (e : ds = ns.map D.int) (h : k ns) : IntsL (.lst ds) G k := by unfold IntsL; exact ⟨ns, e, h⟩
theorem IntsL_r {a : Addr} {G : GH} {k : List Int → Prop} {ds : List D} (ns : List Int) (g : G a = some (.lst ds)) (e : ds = ns.map D.int) (h : k ns) : IntsL (.ref a) G k := by unfold IntsL; exact LkL_i g ⟨ns, e, h⟩
theorem BlsL_i {G : GH} {k : List Bool → Prop} {ds : List D} (ns : List Bool) (e : ds = ns.map D.bl) (h : k ns) : BlsL (.lst ds) G k := by unfold BlsL; exact ⟨ns, e, h⟩
theorem intsL_e {K : PySem.W.Frag} {Z : ZS} {G : GH} {H : Hp} {x : D} {v : V} {k : List Int → Prop} (R : Rel K Z G H) (r : Rl K Z G H x v) (h : IntsL x G k) : ∃ a ns, v = .ref a ∧ SqL K H a (ns.map V.int) ∧ k ns := by
  unfold IntsL at h
  obtain ⟨a, xs, ds, rfl, hs, rd, ns, rfl, h⟩ := asL_e R r h
  exact ⟨a, ns, rfl, by rw [← ints_rl rd]; exact SqL.of hs, h⟩
theorem blsL_e {K : PySem.W.Frag} {Z : ZS} {G : GH} {H : Hp} {x : D} {v : V} {k : List Bool → Prop} (R : Rel K Z G H) (r : Rl K Z G H x v) (h : BlsL x G k) : ∃ a ns, v = .ref a ∧ SqL K H a (ns.map V.bl) ∧ k ns := by
  unfold BlsL at h
  obtain ⟨a, xs, ds, rfl, hs, rd, ns, rfl, h⟩ := asL_e R r h
  exact ⟨a, ns, rfl, by rw [← bls_rl rd]; exact SqL.of hs, h⟩
def cSum : CAD := fun ds G q => A1 ds fun x => IntsL x G fun ns => q (.int ns.sum) G
def cMinL : CAD := fun ds G q => A1 ds fun x => IntsL x G fun ns => Sd (0 < ns.length) (∀ m, m ∈ ns → (∀ y, y ∈ ns → m ≤ y) → q (.int m) G)
def cMaxL : CAD := fun ds G q => A1 ds fun x => IntsL x G fun ns => Sd (0 < ns.length) (∀ m, m ∈ ns → (∀ y, y ∈ ns → y ≤ m) → q (.int m) G)
def cAny : CAD := fun ds G q => A1 ds fun x => BlsL x G fun bs => q (.bl (bs.any id)) G
def cAll : CAD := fun ds G q => A1 ds fun x => BlsL x G fun bs => q (.bl (bs.all id)) G
theorem ok_sum {K : PySem.W.Frag} : CAOk K (rSum K) cSum := by
  intro Z G H ds vs q Q R r h c
  obtain ⟨d, v, rfl, rfl, r1, h⟩ := A1_e r h
  obtain ⟨a, ns, rfl, hs, h⟩ := intsL_e R r1 h
  exact ⟨a, ns, rfl, hs, c _ _ _ _ h (Step.refl _ _) R (.int _)⟩
theorem ok_minL {K : PySem.W.Frag} : CAOk K (rMin K) cMinL := by
  intro Z G H ds vs q Q R r h c
  obtain ⟨d, v, rfl, rfl, r1, h⟩ := A1_e r h
  obtain ⟨a, ns, rfl, hs, h⟩ := intsL_e R r1 h
  obtain ⟨h1, h2⟩ := Sd_e h
  exact ⟨a, ns, rfl, hs, h1, fun m m1 m2 => c _ _ _ _ (h2 m m1 m2) (Step.refl _ _) R (.int _)⟩
theorem ok_maxL {K : PySem.W.Frag} : CAOk K (rMax K) cMaxL := by
  intro Z G H ds vs q Q R r h c
  obtain ⟨d, v, rfl, rfl, r1, h⟩ := A1_e r h
  obtain ⟨a, ns, rfl, hs, h⟩ := intsL_e R r1 h
  obtain ⟨h1, h2⟩ := Sd_e h
  exact ⟨a, ns, rfl, hs, h1, fun m m1 m2 => c _ _ _ _ (h2 m m1 m2) (Step.refl _ _) R (.int _)⟩
theorem ok_any {K : PySem.W.Frag} : CAOk K (rAny K) cAny := by
  intro Z G H ds vs q Q R r h c
  obtain ⟨d, v, rfl, rfl, r1, h⟩ := A1_e r h
  obtain ⟨a, ns, rfl, hs, h⟩ := blsL_e R r1 h
  exact ⟨a, ns, rfl, hs, c _ _ _ _ h (Step.refl _ _) R (.bl _)⟩
theorem ok_all {K : PySem.W.Frag} : CAOk K (rAll K) cAll := by
  intro Z G H ds vs q Q R r h c
  obtain ⟨d, v, rfl, rfl, r1, h⟩ := A1_e r h
  obtain ⟨a, ns, rfl, hs, h⟩ := blsL_e R r1 h
  exact ⟨a, ns, rfl, hs, c _ _ _ _ h (Step.refl _ _) R (.bl _)⟩
/-! ### methods of lists -/
@[irreducible] def IsLst (d : D) (G : GH) : Prop := (∃ ds, d = .lst ds) ∨ ∃ a ds, d = .ref a ∧ G a = some (.lst ds)
theorem IsLst_r {a : Addr} {ds : List D} {G : GH} (h : G a = some (.lst ds)) : IsLst (.ref a) G := by unfold IsLst; exact .inr ⟨a, ds, rfl, h⟩
theorem IsLst_v {ds : List D} {G : GH} : IsLst (.lst ds) G := by unfold IsLst; exact .inl ⟨ds, rfl⟩
theorem isLst_ty {K : PySem.W.Frag} {Z : ZS} {G : GH} {H : Hp} {d : D} {v : V} (R : Rel K Z G H) (r : Rl K Z G H d v) (h : IsLst d G) : tyV K "list" v H := by
  unfold IsLst at h
  rcases h with ⟨ds, rfl⟩ | ⟨a, ds, rfl, e⟩
  · cases r with
    | lst hx _ _ _ => exact .inl ⟨rfl, _, SqL.of hx⟩
  · obtain ⟨_, xs, hx, _⟩ := R.ob a _ e
    cases r
    exact .inl ⟨rfl, _, SqL.of hx⟩
abbrev MTD := D → List D → GH → QD → Prop
def MTOk (K : PySem.W.Frag) (r : V → List V → Hp → VK → Prop) (t : MTD) : Prop := ∀ Z G H d ds v vs q Q, Rel K Z G H → Rl K Z G H d v → RlA K Z G H ds vs → t d ds G q → ClE K Z G H q Q → r v vs H Q
def gBL (t : MTD) (to : TED) (ta : TAD) : TED := fun τ G x q => to τ G x fun d G1 => Sd (IsLst d G1) (ta τ G1 x fun ds G2 => t d ds G2 q)
def gBL0 (t : MTD) (to : TED) : TED := fun τ G x q => to τ G x fun d G1 => Sd (IsLst d G1) (t d [] G1 q)
section
variable {X : Cx} {W : WX} {o e : Expr} {es : List Expr} {to : TED} {ta : TAD} {t : MTD} {r : V → List V → Hp → VK → Prop}
theorem lf_bl {K : PySem.W.Frag} (h : MTOk K r t) {σ : L2.St} {H : Hp} {Q : VK} (w : Lf K W (gBL t to ta) σ H Q) : tBM K "list" r (Lf K W to) (LfA K W ta) σ H Q := by
  obtain ⟨Z, G, τ, x, q, S, R, hw, c, cx⟩ := w
  refine ⟨Z, G, τ, x, _, S, R, hw, fun d G1 H1 v q1 s1 R1 r1 => ?_, cx⟩
  obtain ⟨l1, q1⟩ := Sd_e q1
  refine ⟨isLst_ty R1 r1 l1, Z, G1, τ, x, _, S.mv (s1.mv R), R1, q1, fun ds G2 H2 vs q2 s2 R2 r2 => ?_, cx.step s1⟩
  exact h Z G2 H2 d ds v vs q Q R2 (r1.mv (s2.mv R1)) r2 q2 (c.step (s1.trans s2))
theorem lf_bl0 {K : PySem.W.Frag} (h : MTOk K r t) {σ : L2.St} {H : Hp} {Q : VK} (w : Lf K W (gBL0 t to) σ H Q) : tBM0 K "list" r (Lf K W to) σ H Q := by
  obtain ⟨Z, G, τ, x, q, S, R, hw, c, cx⟩ := w
  refine ⟨Z, G, τ, x, _, S, R, hw, fun d G1 H1 v q1 s1 R1 r1 => ?_, cx⟩
  obtain ⟨l1, q1⟩ := Sd_e q1
  exact ⟨isLst_ty R1 r1 l1, h Z G1 H1 d [] v [] q Q R1 r1 .nil q1 (c.step s1)⟩
end
/-- a list of the ledger is changed -/
theorem chg {K : PySem.W.Frag} {Z : ZS} {G : GH} {H : Hp} {a : Addr} {o : GO} {ds : List D} {xs : List V} {d : D} {v : V} {q : QD} {Q : VK} (R : Rel K Z G H) (e : G a = some o) (r : RlA K Z G H ds xs) (rd : Rl K Z G H d v) (h : q d (gup G a (.lst ds))) (c : ClE K Z G H q Q) : Q v (upd H a (.lst xs)) :=
  c _ _ _ _ h (step_set R e) (rel_set R e ⟨xs, upd_same, r.mv (mv_set R e)⟩) (rd.mv (mv_set R e))
/-- the list object of the ledger that a method changes -/
def Mu (d : D) (G : GH) (k : Addr → List D → Prop) : Prop := match d with
  | .ref a => LkL a G fun xs => k a xs
  | _ => False
theorem Mu_e {K : PySem.W.Frag} {Z : ZS} {G : GH} {H : Hp} {d : D} {v : V} {k : Addr → List D → Prop} (R : Rel K Z G H) (r : Rl K Z G H d v) (h : Mu d G k) : ∃ a xs ys, v = .ref a ∧ G a = some (.lst xs) ∧ H a = some (.lst ys) ∧ RlA K Z G H xs ys ∧ k a xs := by
  cases d with
  | ref a =>
    cases r
    obtain ⟨xs, e, h⟩ := LkL_e h
    obtain ⟨_, ys, hx, rx⟩ := R.ob a _ e
    exact ⟨a, xs, ys, rfl, e, hx, rx, h⟩
  | _ => exact (show False from h).elim
def mAppend : MTD := fun d ds G q => A1 ds fun y => Mu d G fun a xs => Sd (xs.length < sizeLine) (q .non (gup G a (.lst (xs ++ [y]))))
theorem ok_append {K : PySem.W.Frag} : MTOk K rAppend mAppend := by
  intro Z G H d ds v vs q Q R r rs h c
  obtain ⟨y, u, rfl, rfl, r1, h⟩ := A1_e rs h
  obtain ⟨a, xs, ys, rfl, e, hx, rx, h⟩ := Mu_e R r h
  obtain ⟨hl, h⟩ := Sd_e h
  exact ⟨a, ys, _, rfl, rfl, hx, by rw [← rx.length]; exact hl, chg R e (rx.append (.cons r1 .nil)) .non h c⟩
def mPop : MTD := fun d ds G q => A0 ds (Mu d G fun a xs => AtD xs (-1) fun y => q y (gup G a (.lst xs.dropLast)))
theorem atI_m1 {α : Type} {xs : List α} {y : α} (h : atI xs (-1) = some y) : xs[xs.length - 1]? = some y := by
  unfold atI ixN at h
  by_cases e : xs.length = 0
  · rw [if_neg (by omega), if_neg (by omega)] at h
    cases h
  · rw [if_neg (by omega), if_pos (by omega)] at h
    have e2 : (-1 + (xs.length : Int)).toNat = xs.length - 1 := by omega
    rw [e2] at h
    exact h
theorem ok_pop {K : PySem.W.Frag} : MTOk K rPop mPop := by
  intro Z G H d ds v vs q Q R r rs h c
  obtain ⟨rfl, h⟩ := A0_e rs h
  obtain ⟨a, xs, ys, rfl, e, hx, rx, h⟩ := Mu_e R r h
  obtain ⟨y, hy, h⟩ := AtD_e h
  obtain ⟨u, hu, ru⟩ := rx.get (atI_m1 hy)
  rw [rx.length] at hu
  exact ⟨a, ys, u, rfl, rfl, hx, hu, chg R e rx.dropLast ru h c⟩
def mPopAt : MTD := fun d ds G q => A1 ds fun x => I1 x fun i => Mu d G fun a xs => Sd (0 ≤ i ∧ i < 2 ^ 62) (AtD xs i fun y => q y (gup G a (.lst (xs.eraseIdx i.toNat))))
theorem atI_pos {α : Type} {xs : List α} {y : α} {i : Int} (h0 : 0 ≤ i) (h : atI xs i = some y) : xs[i.toNat]? = some y ∧ i < xs.length := by
  unfold atI ixN at h
  rw [if_pos h0] at h
  by_cases e : i < xs.length
  · rw [if_pos e] at h
    exact ⟨h, e⟩
  · rw [if_neg e] at h
    cases h
theorem seqIx_pos {n : Nat} {i : Int} (h0 : 0 ≤ i) (h : i < n) : seqIndex? i n = some i.toNat := by
  have e : ixN n i = some i.toNat := by
    unfold ixN
    rw [if_pos h0, if_pos h]
  exact (ixN_seq e).1
theorem ok_popAt {K : PySem.W.Frag} : MTOk K rPopAt mPopAt := by
  intro Z G H d ds v vs q Q R r rs h c
  obtain ⟨x, u, rfl, rfl, r1, h⟩ := A1_e rs h
  obtain ⟨i, rfl, rfl, h⟩ := I1_e r1 h
  obtain ⟨a, xs, ys, rfl, e, hx, rx, h⟩ := Mu_e R r h
  obtain ⟨⟨h0, h1⟩, h⟩ := Sd_e h
  obtain ⟨y, hy, h⟩ := AtD_e h
  obtain ⟨hy1, hy2⟩ := atI_pos h0 hy
  obtain ⟨u, hu, ru⟩ := rx.get hy1
  exact ⟨a, ys, i, i.toNat, u, rfl, rfl, hx, by omega, by omega, seqIx_pos h0 (by rw [← rx.length]; exact hy2), hu, chg R e (rx.eraseIdx _) ru h c⟩
def mInsert : MTD := fun d ds G q => A2 ds fun x y => I1 x fun i => Mu d G fun a xs => Sd (xs.length < sizeLine ∧ 0 ≤ i ∧ i < 2 ^ 63) (q .non (gup G a (.lst (xs.take i.toNat ++ [y] ++ xs.drop i.toNat))))
def rInsert : V → List V → Hp → VK → Prop := fun x vs H Q => ∃ (l : Addr) (xs : List V) (i : Int) (y : V), x = .ref l ∧ vs = [.int i, y] ∧ H l = some (.lst xs) ∧ xs.length < sizeLine ∧ 0 ≤ i ∧ i < 2 ^ 63 ∧
    Q .non (upd H l (.lst (xs.take i.toNat ++ [y] ++ xs.drop i.toNat)))
theorem ok_insert {K : PySem.W.Frag} : MTOk K rInsert mInsert := by
  intro Z G H d ds v vs q Q R r rs h c
  obtain ⟨x, y, u, w, rfl, rfl, r1, r2, h⟩ := A2_e rs h
  obtain ⟨i, rfl, rfl, h⟩ := I1_e r1 h
  obtain ⟨a, xs, ys, rfl, e, hx, rx, h⟩ := Mu_e R r h
  obtain ⟨⟨hl, h0, h1⟩, h⟩ := Sd_e h
  exact ⟨a, ys, i, w, rfl, rfl, hx, by rw [← rx.length]; exact hl, h0, h1, chg R e (((rx.take _).append (.cons r2 .nil)).append (rx.drop _)) .non h c⟩
/-- xs[i] = v -/
abbrev TSetD := D → D → D → GH → (GH → Prop) → Prop
def sSet : TSetD := fun o i v G q => I1 i fun k => Mu o G fun a xs => Sd (0 ≤ k ∧ k < xs.length) (q (gup G a (.lst (xs.set k.toNat v))))
def hSub (to ti : TED) (t : TSetD) : TGD := fun v τ G q => to τ G (fun _ _ _ => False) fun o G1 => ti τ G1 (fun _ _ _ => False) fun i G2 => t o i v G2 fun G3 => q τ G3
theorem pgd_sub {X : Cx} {o i : Expr} {to ti : TED} {pos : Pos} (ho : PEd X (fun _ _ _ _ => False) o to) (hi : PEd X (fun _ _ _ _ => False) i ti)
    (ha : ∀ v, assign (.Subscript o i pos) X.env v = (do
      let ov ← holding [v] (eval o X.env)
      let iv ← holding [v, ov] (eval i X.env)
      standAt pos
      holding [v, ov, iv] (setItem ov iv v)
      release [v, ov, iv] []) := by intro _; rfl) : PGd X (.Subscript o i pos) (hSub to ti sSet) := PGi (pg_sub ho hi set_list ha) fun v σ H Q => by
  rintro ⟨Z, G, τ, d, q, S, R, r, h, c⟩
  refine ⟨Z, G, τ, _, _, S, R, h, fun od G1 H1 ov q1 s1 R1 r1 => ?_, fun _ _ _ _ _ _ z => z.elim⟩
  refine ⟨Z, G1, τ, _, _, S.mv (s1.mv R), R1, q1, fun ix G2 H2 iv q2 s2 R2 r2 => ?_, fun _ _ _ _ _ _ z => z.elim⟩
  have s12 := s1.trans s2
  obtain ⟨k, rfl, rfl, q2⟩ := I1_e r2 q2
  obtain ⟨a, xs, ys, rfl, e, hx, rx, q2⟩ := Mu_e R2 (r1.mv (s2.mv R1)) q2
  obtain ⟨⟨h0, h1⟩, q2⟩ := Sd_e q2
  refine ⟨a, ys, k, k.toNat, rfl, rfl, hx, ?_, ?_⟩
  · unfold ixN
    rw [if_pos h0, if_pos (by rw [← rx.length]; exact h1)]
  · have s3 := step_set (u := .lst (ys.set k.toNat v)) (o' := .lst (xs.set k.toNat d)) R2 e
    exact c _ _ _ _ q2 (s12.trans s3) (rel_set R2 e ⟨_, upd_same, (rx.set (r.mv (s12.mv R)) _).mv (s3.mv R2)⟩) (S.mv ((s12.trans s3).mv R))
section
variable {X : Cx} {W : WX} {o e : Expr} {es : List Expr} {to : TED} {ta : TAD}
end
end N
namespace N
open PySem PySem.Spec PyProof.Rows L2
section
variable {X : Cx} {W : WX} {o e : Expr} {es : List Expr} {to : TED} {ta : TAD} {name : Str} {apos cpos : Pos} {id : String} {r : V → List V → Hp → VK → Prop} {t : MTD}
theorem pd_blm0 (pa : PlainAttrs "list") (slot : Slot "list" name id) (hty : typeOf (.builtin id) = pure (.type "method_descriptor")) (hm : MtR X id r) (ok : MTOk X.K r t) (ho : PEd X W o to)
    (hbase : attributeBase o name X.env (eval o X.env) = eval o X.env := by rfl) (hline : (apos.endLine == cpos.line) = true := by rfl) : PEd X W (.Call (.Attribute o name apos) [] [] cpos) (gBL0 t to) :=
  PEi (pe_bm0 pa slot hty hm ho hbase hline) fun _ _ _ w => lf_bl0 ok w
theorem pd_blm (pa : PlainAttrs "list") (slot : Slot "list" name id) (hty : typeOf (.builtin id) = pure (.type "method_descriptor")) (hm : MtR X id r) (ok : MTOk X.K r t) (ho : PEd X W o to) (ha : PAd X W (e :: es) ta)
    (hbase : attributeBase o name X.env (eval o X.env) = eval o X.env := by rfl)
    (hfew : ((backTo cpos (starEach (e :: es) X.env)).all (fun x => !x.1) && (backToKw cpos (keywordEach [] X.env)).all (fun x => x.1.isSome)
      && decide ((e :: es).length + ([] : List Keyword).length + (if ([] : List Keyword).isEmpty then 0 else 1) < 30)) = true := by rfl)
    (hline : (apos.endLine == cpos.line) = true := by rfl) (hs : starEach (e :: es) X.env = (false, eval e X.env) :: starEach es X.env := by rfl) (hplain : (backTo cpos (starEach es X.env)).any (·.1) = false := by rfl) :
    PEd X W (.Call (.Attribute o name apos) (e :: es) [] cpos) (gBL t to ta) := PEi (pe_bm pa slot hty hm ho ha hbase hfew hline hs hplain) fun _ _ _ w => lf_bl ok w
theorem pd_append (ho : PEd X W o to) (ha : PAd X W [e] ta) (hbase : attributeBase o "append" X.env (eval o X.env) = eval o X.env := by rfl) (hline : (apos.endLine == cpos.line) = true := by rfl)
    (hfew : ((backTo cpos (starEach [e] X.env)).all (fun x => !x.1) && (backToKw cpos (keywordEach [] X.env)).all (fun x => x.1.isSome)
      && decide ([e].length + ([] : List Keyword).length + (if ([] : List Keyword).isEmpty then 0 else 1) < 30)) = true := by rfl) (hs : starEach [e] X.env = (false, eval e X.env) :: starEach [] X.env := by rfl) :
    PEd X W (.Call (.Attribute o "append" apos) [e] [] cpos) (gBL mAppend to ta) := pd_blm PySem.F.plainAttrs_list PySem.F.slot_list_append PySem.F.type_list_append mt_append ok_append ho ha hbase hfew hline hs
theorem pd_pop (ho : PEd X W o to) (hbase : attributeBase o "pop" X.env (eval o X.env) = eval o X.env := by rfl) (hline : (apos.endLine == cpos.line) = true := by rfl) : PEd X W (.Call (.Attribute o "pop" apos) [] [] cpos) (gBL0 mPop to) :=
  pd_blm0 PySem.F.plainAttrs_list PySem.F.slot_list_pop PySem.F.type_list_pop mt_pop ok_pop ho hbase hline
theorem pd_popAt (ho : PEd X W o to) (ha : PAd X W [e] ta) (hbase : attributeBase o "pop" X.env (eval o X.env) = eval o X.env := by rfl) (hline : (apos.endLine == cpos.line) = true := by rfl)
    (hfew : ((backTo cpos (starEach [e] X.env)).all (fun x => !x.1) && (backToKw cpos (keywordEach [] X.env)).all (fun x => x.1.isSome)
      && decide ([e].length + ([] : List Keyword).length + (if ([] : List Keyword).isEmpty then 0 else 1) < 30)) = true := by rfl) (hs : starEach [e] X.env = (false, eval e X.env) :: starEach [] X.env := by rfl) :
    PEd X W (.Call (.Attribute o "pop" apos) [e] [] cpos) (gBL mPopAt to ta) := pd_blm PySem.F.plainAttrs_list PySem.F.slot_list_pop PySem.F.type_list_pop mt_popAt ok_popAt ho ha hbase hfew hline hs
end
/-! ### what is walked -/
abbrev TID := SD → GH → XD → (List D → (GH → Prop) → GH → Prop) → Prop
structure ItOk (J : It) (K : PySem.W.Frag) (ds : List D) (stay : GH → Prop) (Z0 : ZS) (G0 : GH) (H0 : Hp) : Prop where
  go : ∀ Z i G H, i < ds.length → Mv Z0 Z G0 G H0 H → Rel K Z G H → stay G → J.go i H
  yld : ∀ Z i G H x H', i < ds.length → Mv Z0 Z G0 G H0 H → Rel K Z G H → stay G → J.yld i H x H' → ∃ d, ds[i]? = some d ∧ Step G H G H' ∧ Rel K Z G H' ∧ Rl K Z G H' d x
  stop : ∀ Z G H, Mv Z0 Z G0 G H0 H → Rel K Z G H → stay G → J.stop ds.length H
def LfI (K : PySem.W.Frag) (W : WX) (t : TID) : TI := fun σ H R => ∃ Z G τ x q, StR K Z G H τ σ ∧ Rel K Z G H ∧ t τ G x q ∧
  (∀ ds stay G' H' J, q ds stay G' → Step G H G' H' → Rel K Z G' H' → ItOk J K ds stay Z G' H' → R J H') ∧ ClX K Z G H x W σ
abbrev PId (X : Cx) (W : WX) (tg iter : Expr) (t : TID) : Prop := PI X tg iter (LfI X.K W t)
theorem PIi {X : Cx} {tg iter : Expr} {t u : TI} (h : PI X tg iter t) (i : ∀ σ H R, u σ H R → t σ H R) : PI X tg iter u := ⟨fun pins s σ H R I hw => h.run pins s σ H R I (i _ _ _ hw)⟩
section
variable {X : Cx} {W : WX} {tg iter e : Expr} {t : TED} {ta : TAD} {p pos : Pos}
/-- a list, a tuple, the script -/
def iSeq (t : TED) : TID := fun τ G x q => t τ G x fun d G1 => match d with
  | .lst ds => q ds (fun _ => True) G1
  | .ro ds => q ds (fun _ => True) G1
  | .ref a => LkL a G1 fun ds => q ds (fun G => G a = some (.lst ds)) G1
  | _ => False
def iTupD (t : TED) : TID := fun τ G x q => t τ G x fun d G1 => match d with
  | .tup ds => q ds (fun _ => True) G1
  | _ => False
theorem itl_ok {K : PySem.W.Frag} {a : Addr} {ds : List D} {stay : GH → Prop} {Z0 : ZS} {G0 : GH} {H0 : Hp}
    (h : ∀ Z G H, Mv Z0 Z G0 G H0 H → Rel K Z G H → stay G → ∃ xs, SqL K H a xs ∧ RlA K Z G H ds xs) : ItOk (Itl K a) K ds stay Z0 G0 H0 := by
  refine ⟨fun Z i G H hi m R s => ?_, fun Z i G H x H' hi m R s y => ?_, fun Z G H m R s => ?_⟩
  · obtain ⟨xs, h1, h2⟩ := h Z G H m R s
    obtain ⟨v, hv, _⟩ := h2.get (List.getElem?_eq_getElem hi)
    exact ⟨xs, v, h1, hv⟩
  · obtain ⟨xs, h1, h2⟩ := h Z G H m R s
    obtain ⟨e, y⟩ := y
    subst e
    obtain ⟨d, hd, r⟩ := h2.getV (y xs h1)
    exact ⟨d, hd, Step.refl _ _, R, r⟩
  · obtain ⟨xs, h1, h2⟩ := h Z G H m R s
    exact ⟨xs, h1, by rw [h2.length]; exact Nat.le_refl _⟩
theorem itt_ok {K : PySem.W.Frag} {a : Addr} {ds : List D} {stay : GH → Prop} {Z0 : ZS} {G0 : GH} {H0 : Hp}
    (h : ∀ Z G H, Mv Z0 Z G0 G H0 H → Rel K Z G H → stay G → ∃ xs, SqT K H a xs ∧ RlA K Z G H ds xs) : ItOk (Itt K a) K ds stay Z0 G0 H0 := by
  refine ⟨fun Z i G H hi m R s => ?_, fun Z i G H x H' hi m R s y => ?_, fun Z G H m R s => ?_⟩
  · obtain ⟨xs, h1, h2⟩ := h Z G H m R s
    obtain ⟨v, hv, _⟩ := h2.get (List.getElem?_eq_getElem hi)
    exact ⟨xs, v, h1, hv⟩
  · obtain ⟨xs, h1, h2⟩ := h Z G H m R s
    obtain ⟨e, y⟩ := y
    subst e
    obtain ⟨d, hd, r⟩ := h2.getV (y xs h1)
    exact ⟨d, hd, Step.refl _ _, R, r⟩
  · obtain ⟨xs, h1, h2⟩ := h Z G H m R s
    exact ⟨xs, h1, by rw [h2.length]; exact Nat.le_refl _⟩
theorem pid_seq (he : PEd X W e t) : PId X W tg e (iSeq t) := PIi (pi_list he) fun σ H R' => by
  rintro ⟨Z, G, τ, x, q, S, R, h, c, cx⟩
  refine ⟨Z, G, τ, x, _, S, R, h, fun d G1 H1 v q1 s1 R1 r1 => ?_, cx⟩
  cases d with
  | lst ds =>
    cases r1 with
    | @lst a xs _ hx hg hz rx =>
      refine ⟨_, rfl, ⟨_, SqL.of hx⟩, c ds _ G1 H1 _ q1 s1 R1 (itl_ok fun Z G H m R _ => ⟨xs, SqL.of (m.all _ _ hx hg hz).1, rx.mv m⟩)⟩
  | ro ds =>
    cases r1 with
    | @ro a xs _ hx rx => exact ⟨_, rfl, ⟨_, hx.sq⟩, c ds _ G1 H1 _ q1 s1 R1 (itl_ok fun Z G H m R _ => ⟨xs, (hx.mv m.frzs).sq, rx.mv m⟩)⟩
  | ref a =>
    obtain ⟨ds, e, q1⟩ := LkL_e q1
    obtain ⟨_, xs, hx, rx⟩ := R1.ob a _ e
    cases r1
    refine ⟨_, rfl, ⟨_, SqL.of hx⟩, c ds _ G1 H1 _ q1 s1 R1 (itl_ok fun Z G H m R s => ?_)⟩
    obtain ⟨_, ys, hy, ry⟩ := R.ob a _ s
    exact ⟨ys, SqL.of hy, ry⟩
  | _ => exact (show False from q1).elim
theorem pid_tup (he : PEd X W e t) : PId X W tg e (iTupD t) := PIi (pi_tup he) fun σ H R' => by
  rintro ⟨Z, G, τ, x, q, S, R, h, c, cx⟩
  refine ⟨Z, G, τ, x, _, S, R, h, fun d G1 H1 v q1 s1 R1 r1 => ?_, cx⟩
  cases d with
  | tup ds =>
    cases r1 with
    | @tup a xs _ hx rx => exact ⟨_, rfl, ⟨_, hx⟩, c ds _ G1 H1 _ q1 s1 R1 (itt_ok fun Z G H m R _ => ⟨xs, SqT.mv (fun ys => m.tups _ ys) (fun ob w => m.frzs _ ob w) hx, rx.mv m⟩)⟩
  | _ => exact (show False from q1).elim
/-- a text, sign by sign -/
def signs (s : Str) : List D := s.cps.toList.map fun c => .str ⟨#[c]⟩
def iStrD (t : TED) : TID := fun τ G x q => t τ G x fun d G1 => match d with
  | .str s => q (signs s) (fun _ => True) G1
  | _ => False
theorem pid_str (he : PEd X W e t) : PId X W tg e (iStrD t) := PIi (pi_str he) fun σ H R' => by
  rintro ⟨Z, G, τ, x, q, S, R, h, c, cx⟩
  refine ⟨Z, G, τ, x, _, S, R, h, fun d G1 H1 v q1 s1 R1 r1 => ?_, cx⟩
  cases d with
  | str s =>
    cases r1
    have hl : (signs s).length = s.cps.size := by unfold signs; rw [List.length_map, Array.length_toList]
    refine ⟨s, rfl, c _ _ G1 H1 _ q1 s1 R1 ⟨fun Z i G H hi m R _ => ?_, fun Z i G H x H' hi m R _ y => ?_, fun Z G H m R _ => ?_⟩⟩
    · show i < s.cps.size
      rw [← hl]; exact hi
    · obtain ⟨e, k, hk, ev⟩ := y
      subst e ev
      refine ⟨.str ⟨#[k]⟩, ?_, Step.refl _ _, R, .str _⟩
      unfold signs
      rw [List.getElem?_map, Array.getElem?_toList, hk]
      rfl
    · show s.cps.size ≤ _
      rw [hl]; exact Nat.le_refl _
  | _ => exact (show False from q1).elim
/-- range(n), range(a, b) -/
def rngD (lo : Int) (n : Nat) : List D := (List.range n).map fun (i : Nat) => .int (lo + (i : Int))
theorem rng_len {lo : Int} {n : Nat} : (rngD lo n).length = n := by unfold rngD; rw [List.length_map, List.length_range]
theorem rng_at {lo : Int} {n i : Nat} (h : i < n) : (rngD lo n)[i]? = some (.int (lo + (i : Int))) := by
  unfold rngD
  rw [List.getElem?_map, List.getElem?_range h]
  rfl
theorem itr_ok {K : PySem.W.Frag} {lo : Int} {n : Nat} {Z0 : ZS} {G0 : GH} {H0 : Hp} : ItOk (Itr lo n) K (rngD lo n) (fun _ => True) Z0 G0 H0 := by
  refine ⟨fun Z i G H hi m R _ => ?_, fun Z i G H x H' hi m R _ y => ?_, fun Z G H m R _ => ?_⟩
  · rw [rng_len] at hi; exact hi
  · rw [rng_len] at hi
    obtain ⟨e, ev⟩ := y
    subst e ev
    exact ⟨_, rng_at hi, Step.refl _ _, R, .int _⟩
  · rw [rng_len]; exact Nat.le_refl _
def iRng1D (ta : TAD) : TID := fun τ G x q => ta τ G x fun ds G1 => A1 ds fun d => I1 d fun j => Sd (-(2 ^ 62) ≤ j ∧ j < 2 ^ 62) (q (rngD 0 j.toNat) (fun _ => True) G1)
def iRng2D (ta : TAD) : TID := fun τ G x q => ta τ G x fun ds G1 => A2 ds fun d e => I1 d fun i => I1 e fun j => Sd (-(2 ^ 62) ≤ i ∧ i < 2 ^ 62 ∧ -(2 ^ 62) ≤ j ∧ j < 2 ^ 62) (q (rngD i (j - i).toNat) (fun _ => True) G1)
theorem pid_rng1 {a : Expr} (hg : Gl X "range") (hm : X.mg "range" = none) (ha : PAd X W [a] ta) (hs : starEach [a] X.env = [(false, eval a X.env)] := by rfl) : PId X W tg (.Call (.Name "range" p) [a] [] pos) (iRng1D ta) :=
  PIi (pi_range1 hg hm ha hs) fun σ H R' => by
    rintro ⟨Z, G, τ, x, q, S, R, h, c, cx⟩
    refine ⟨Z, G, τ, x, _, S, R, h, fun ds G1 H1 vs q1 s1 R1 r1 => ?_, cx⟩
    obtain ⟨d, v, rfl, rfl, r, q1⟩ := A1_e r1 q1
    obtain ⟨j, rfl, rfl, q1⟩ := I1_e r q1
    obtain ⟨⟨h1, h2⟩, q1⟩ := Sd_e q1
    exact ⟨j, rfl, h1, h2, c _ _ G1 H1 _ q1 s1 R1 itr_ok⟩
theorem pid_rng2 {a b : Expr} (hg : Gl X "range") (hm : X.mg "range" = none) (ha : PAd X W [a, b] ta) (hs : starEach [a, b] X.env = [(false, eval a X.env), (false, eval b X.env)] := by rfl) (hs2 : starEach [b] X.env = [(false, eval b X.env)] := by rfl) :
    PId X W tg (.Call (.Name "range" p) [a, b] [] pos) (iRng2D ta) := PIi (pi_range2 hg hm ha hs hs2) fun σ H R' => by
  rintro ⟨Z, G, τ, x, q, S, R, h, c, cx⟩
  refine ⟨Z, G, τ, x, _, S, R, h, fun ds G1 H1 vs q1 s1 R1 r1 => ?_, cx⟩
  obtain ⟨d, e, v, u, rfl, rfl, r, r', q1⟩ := A2_e r1 q1
  obtain ⟨i, rfl, rfl, q1⟩ := I1_e r q1
  obtain ⟨j, rfl, rfl, q1⟩ := I1_e r' q1
  obtain ⟨hb, q1⟩ := Sd_e q1
  exact ⟨i, j, rfl, hb, c _ _ G1 H1 _ q1 s1 R1 itr_ok⟩
/-- enumerate(list), zip(list, list): new pairs -/
theorem pair_rl {K : PySem.W.Frag} {Z : ZS} {G : GH} {H : Hp} {T : Addr} {d e : D} {v u : V} (R : Rel K Z G H) (hT : H T = none) (r1 : Rl K Z G H d v) (r2 : Rl K Z G H e u) :
    Step G H G (upd H T (.tup [v, u])) ∧ Rel K Z G (upd H T (.tup [v, u])) ∧ Rl K Z G (upd H T (.tup [v, u])) (.tup [d, e]) (.ref T) := by
  have s := step_new (u := HO.tup [v, u]) R hT
  exact ⟨s, rel_new R hT, .tup (SqT.of upd_same) (.cons (r1.mv (s.mv R)) (.cons (r2.mv (s.mv R)) .nil))⟩
def enumD (ds : List D) : List D := (List.range ds.length).zipWith (fun (i : Nat) d => .tup [.int (i : Int), d]) ds
theorem enum_len {ds : List D} : (enumD ds).length = ds.length := by unfold enumD; simp
theorem enum_at {ds : List D} {i : Nat} {d : D} (h : ds[i]? = some d) : (enumD ds)[i]? = some (.tup [.int (i : Int), d]) := by
  have hl := (List.getElem?_eq_some_iff.mp h).1
  unfold enumD
  rw [List.getElem?_zipWith, List.getElem?_range hl, h]
/-- the list that is read at every turn -/
def lstAt (d : D) (G : GH) (k : List D → (GH → Prop) → Prop) : Prop := match d with
  | .lst ds => k ds (fun _ => True)
  | .ro ds => k ds (fun _ => True)
  | .ref a => LkL a G fun ds => k ds fun G => G a = some (.lst ds)
  | _ => False
theorem lstAt_e {K : PySem.W.Frag} {Z : ZS} {G : GH} {H : Hp} {d : D} {v : V} {k : List D → (GH → Prop) → Prop} (R : Rel K Z G H) (r : Rl K Z G H d v) (h : lstAt d G k) :
    ∃ a xs ds stay, v = .ref a ∧ SqL K H a xs ∧ k ds stay ∧ ∀ Z' G' H', Mv Z Z' G G' H H' → Rel K Z' G' H' → stay G' → ∃ xs, SqL K H' a xs ∧ RlA K Z' G' H' ds xs := by
  cases d with
  | lst ds =>
    cases r with
    | @lst a xs _ hx hg hz rx => exact ⟨_, xs, ds, _, rfl, SqL.of hx, h, fun Z' G' H' m _ _ => ⟨xs, SqL.of (m.all _ _ hx hg hz).1, rx.mv m⟩⟩
  | ro ds =>
    cases r with
    | @ro a xs _ hx rx => exact ⟨_, xs, ds, _, rfl, hx.sq, h, fun Z' G' H' m _ _ => ⟨xs, (hx.mv m.frzs).sq, rx.mv m⟩⟩
  | ref a =>
    obtain ⟨ds, e, h⟩ := LkL_e h
    obtain ⟨_, xs, hx, rx⟩ := R.ob a _ e
    cases r
    refine ⟨a, xs, ds, _, rfl, SqL.of hx, h, fun Z' G' H' m R' s => ?_⟩
    obtain ⟨_, ys, hy, ry⟩ := R'.ob a _ s
    exact ⟨ys, SqL.of hy, ry⟩
  | _ => exact (show False from h).elim
def iEnumD (ta : TAD) : TID := fun τ G x q => ta τ G x fun as G1 => A1 as fun d => lstAt d G1 fun ds stay => q (enumD ds) stay G1
theorem pid_enum {e : Expr} {tpos : Pos} {elts : List Expr} {kk : Nat} (hg : Gl X "enumerate") (hm : X.mg "enumerate" = none) (ha : PAd X W [e] ta) (hs : starEach [e] X.env = [(false, eval e X.env)] := by rfl) :
    PId X W (.Tuple elts kk tpos) (.Call (.Name "enumerate" p) [e] [] pos) (iEnumD ta) := PIi (pi_enum hg hm ha hs) fun σ H R' => by
  rintro ⟨Z, G, τ, x, q, S, R, h, c, cx⟩
  refine ⟨Z, G, τ, x, _, S, R, h, fun ds G1 H1 vs q1 s1 R1 r1 => ?_, cx⟩
  obtain ⟨d, v, rfl, rfl, r, q1⟩ := A1_e r1 q1
  obtain ⟨a, xs, ds, stay, rfl, hx, q1, hk⟩ := lstAt_e R1 r q1
  refine ⟨a, xs, rfl, hx, c _ _ G1 H1 _ q1 s1 R1 ⟨fun Z i G H hi m R s => ?_, fun Z i G H x H' hi m R s y => ?_, fun Z G H m R s => ?_⟩⟩
  · rw [enum_len] at hi
    obtain ⟨ys, hy, ry⟩ := hk Z G H m R s
    obtain ⟨w, hw, _⟩ := ry.get (List.getElem?_eq_getElem hi)
    exact ⟨ys, w, hy, hw⟩
  · obtain ⟨ys, hy, ry⟩ := hk Z G H m R s
    obtain ⟨T, w, ev, hT, eH, hw⟩ := y
    subst ev eH
    obtain ⟨d, hd, rd⟩ := ry.getV (hw ys hy)
    obtain ⟨a1, a2, a3⟩ := pair_rl R hT (.int (i : Int)) rd
    exact ⟨_, enum_at hd, a1, a2, a3⟩
  · obtain ⟨ys, hy, ry⟩ := hk Z G H m R s
    exact ⟨ys, hy, by rw [enum_len, ry.length]; exact Nat.le_refl _⟩
def zipD (ds es : List D) : List D := ds.zipWith (fun d e => .tup [d, e]) es
def iZipD (ta : TAD) : TID := fun τ G x q => ta τ G x fun as G1 => A2 as fun d e => lstAt d G1 fun ds st1 => lstAt e G1 fun es st2 => q (zipD ds es) (fun G => st1 G ∧ st2 G) G1
theorem zip_at {ds es : List D} {i : Nat} {d e : D} (h1 : ds[i]? = some d) (h2 : es[i]? = some e) : (zipD ds es)[i]? = some (.tup [d, e]) := by
  unfold zipD
  rw [List.getElem?_zipWith, h1, h2]
theorem pid_zip {e e2 : Expr} {tpos : Pos} {elts : List Expr} {kk : Nat} (hg : Gl X "zip") (hm : X.mg "zip" = none) (ha : PAd X W [e, e2] ta)
    (hs : starEach [e, e2] X.env = (false, eval e X.env) :: starEach [e2] X.env := by rfl) (hpl : (backTo pos (starEach [e2] X.env)).any (·.1) = false := by rfl) :
    PId X W (.Tuple elts kk tpos) (.Call (.Name "zip" p) [e, e2] [] pos) (iZipD ta) := PIi (pi_zip hg hm ha hs hpl) fun σ H R' => by
  rintro ⟨Z, G, τ, x, q, S, R, h, c, cx⟩
  refine ⟨Z, G, τ, x, _, S, R, h, fun ds G1 H1 vs q1 s1 R1 r1 => ?_, cx⟩
  obtain ⟨d, e, v, u, rfl, rfl, r, r', q1⟩ := A2_e r1 q1
  obtain ⟨a, xs, ds, st1, rfl, hx, q1, hk⟩ := lstAt_e R1 r q1
  obtain ⟨b, ys, es, st2, rfl, hy, q1, hk'⟩ := lstAt_e R1 r' q1
  have hl : (zipD ds es).length = min ds.length es.length := by unfold zipD; rw [List.length_zipWith]
  refine ⟨a, b, xs, ys, rfl, hx, hy, c _ _ G1 H1 _ q1 s1 R1 ⟨fun Z i G H hi m R s => ?_, fun Z i G H x H' hi m R s y => ?_, fun Z G H m R s => ?_⟩⟩
  · rw [hl] at hi
    obtain ⟨xs, hx, rx⟩ := hk Z G H m R s.1
    obtain ⟨ys, hy, ry⟩ := hk' Z G H m R s.2
    obtain ⟨w, hw, _⟩ := rx.get (List.getElem?_eq_getElem (show i < ds.length by omega))
    obtain ⟨w', hw', _⟩ := ry.get (List.getElem?_eq_getElem (show i < es.length by omega))
    exact ⟨xs, ys, w, w', hx, hy, hw, hw'⟩
  · obtain ⟨xs, hx, rx⟩ := hk Z G H m R s.1
    obtain ⟨ys, hy, ry⟩ := hk' Z G H m R s.2
    obtain ⟨T, w, w', ev, hT, eH, hw, hw'⟩ := y
    subst ev eH
    obtain ⟨d, hd, rd⟩ := rx.getV (hw xs hx)
    obtain ⟨e, he, re⟩ := ry.getV (hw' ys hy)
    obtain ⟨a1, a2, a3⟩ := pair_rl R hT rd re
    exact ⟨_, zip_at hd he, a1, a2, a3⟩
  · obtain ⟨xs, hx, rx⟩ := hk Z G H m R s.1
    obtain ⟨ys, hy, ry⟩ := hk' Z G H m R s.2
    refine ⟨xs, ys, hx, hy, ?_⟩
    rw [hl, ← rx.length, ← ry.length]
    omega
end
/-! ### for -/
@[irreducible] def ForD (ds : List D) (stay : GH → Prop) (g : TGD) (tb : TSD) (e : EndsD) (τ : SD) (G : GH) : Prop := ∃ P : Nat → SD → GH → Prop, P 0 τ G ∧ (∀ i τ G, i ≤ ds.length → P i τ G → stay G) ∧
  (∀ i d τ G, ds[i]? = some d → P i τ G → g d τ G fun τ2 G2 => tb { e with nx := P (i + 1), ct := P (i + 1), bk := e.nx } τ2 G2) ∧ ∀ τ G, P ds.length τ G → e.nx τ G
theorem ForD_i {ds : List D} {stay : GH → Prop} {g : TGD} {tb : TSD} {e : EndsD} {τ : SD} {G : GH} (P : Nat → SD → GH → Prop) (h0 : P 0 τ G) (hl : ∀ i τ G, i ≤ ds.length → P i τ G → stay G)
    (hs : ∀ i d τ G, ds[i]? = some d → P i τ G → g d τ G fun τ2 G2 => tb { e with nx := P (i + 1), ct := P (i + 1), bk := e.nx } τ2 G2) (hd : ∀ τ G, P ds.length τ G → e.nx τ G) : ForD ds stay g tb e τ G := by
  unfold ForD
  exact ⟨P, h0, hl, hs, hd⟩
def gFor (wi : TID) (g : TGD) (tb : TSD) : TSD := fun e τ G => wi τ G (xOf e τ) fun ds stay G1 => ForD ds stay g tb e τ G1
theorem psd_for {X : Cx} {W : WX} {tg iter : Expr} {body : List Stmt} {wi : TID} {g : TGD} {tb : TSD} {pos : Pos} (hp : PassesOwn (model X.prog X.w) X.A X.env X.xe) (hc : X.calm = true) (hi : PId X W tg iter wi) (hg : PGd X tg g) (hb : PSsd X W body tb)
    (hs : ∀ x, foldedSetIterable iter X.env x = pure x := by intro _; rfl) : PSd X W (.For tg iter body [] pos) (gFor wi g tb) := PSi (ps_for hp hc hi hg hb hs) fun D σ H => by
  rintro ⟨Z, G, τ, e, S, R, h, c⟩
  refine ⟨Z, G, τ, _, _, S, R, h, fun ds stay G1 H1 J q1 s1 R1 it => ?_, c.ex.x R S⟩
  unfold ForD at q1
  obtain ⟨P, h0, hl, hs, hd⟩ := q1
  have c1 := c.step s1
  refine ⟨fun i m σ H => m = ds.length - i ∧ i ≤ ds.length ∧ ∃ G τ, Step G1 H1 G H ∧ StR X.K Z G H τ σ ∧ Rel X.K Z G H ∧ P i τ G, ⟨ds.length, by simp, Nat.zero_le _, G1, τ, Step.refl _ _, S.mv (s1.mv R), R1, h0⟩, ?_⟩
  rintro i m σ H ⟨rfl, hi, G, τ, s2, S2, R2, p⟩
  have m2 := s2.mv R1
  by_cases hlt : i < ds.length
  · refine .inr ⟨it.go Z i G H hlt m2 R2 (hl i τ G hi p), fun σ' H' => ∃ G' τ', Step G1 H1 G' H' ∧ StR X.K Z G' H' τ' σ' ∧ Rel X.K Z G' H' ∧ P (i + 1) τ' G', fun σ' H' ⟨G', τ', z⟩ => ⟨ds.length - (i + 1), by omega, rfl, hlt, G', τ', z⟩, fun x H' y => ?_⟩
    obtain ⟨d, hd', s3, R3, rd⟩ := it.yld Z i G H x H' hlt m2 R2 (hl i τ G hi p) y
    have s23 := s2.trans s3
    refine ⟨Z, G, τ, d, _, S2.mv (s3.mv R2), R3, rd, hs i d τ G hd' p, fun τ4 G4 H4 σ4 q4 s4 R4 S4 => ?_⟩
    have s24 := s23.trans s4
    refine ⟨Z, G4, τ4, _, S4, R4, q4, ?_, (c1.step s24).rt, (c1.step s24).nx, ?_, (c1.step s24).ex⟩
    · exact fun τ5 G5 H5 σ5 q5 s5 R5 S5 => ⟨G5, τ5, s24.trans s5, S5, R5, q5⟩
    · exact fun τ5 G5 H5 σ5 q5 s5 R5 S5 => ⟨G5, τ5, s24.trans s5, S5, R5, q5⟩
  · have e : i = ds.length := by omega
    subst e
    exact .inl ⟨it.stop Z G H m2 R2 (hl _ τ G hi p), c1.nx τ G H σ (hd τ G p) s2 R2 S2⟩
/-! ### while -/
@[irreducible] def WhileD (c : TTD) (tb : TSD) (e : EndsD) (τ : SD) (G : GH) : Prop := ∃ P : Nat → SD → GH → Prop, (∃ m, P m τ G) ∧ ∀ m τ G, P m τ G →
  c τ G (xOf e τ) fun b G1 => Cond b (tb { e with nx := fun τ' G' => ∃ m', m' < m ∧ P m' τ' G', ct := fun τ' G' => ∃ m', m' < m ∧ P m' τ' G', bk := e.nx } τ G1) (e.nx τ G1)
theorem WhileD_i {c : TTD} {tb : TSD} {e : EndsD} {τ : SD} {G : GH} (P : Nat → SD → GH → Prop) (m : Nat) (h0 : P m τ G)
    (hs : ∀ m τ G, P m τ G → c τ G (xOf e τ) fun b G1 => Cond b (tb { e with nx := fun τ' G' => ∃ m', m' < m ∧ P m' τ' G', ct := fun τ' G' => ∃ m', m' < m ∧ P m' τ' G', bk := e.nx } τ G1) (e.nx τ G1)) : WhileD c tb e τ G := by
  unfold WhileD
  exact ⟨P, ⟨m, h0⟩, hs⟩
def gWhile (c : TTD) (tb : TSD) : TSD := fun e τ G => WhileD c tb e τ G
theorem psd_while {X : Cx} {W : WX} {c : Expr} {body : List Stmt} {tc : TTD} {tb : TSD} {pos : Pos} (hp : PassesOwn (model X.prog X.w) X.A X.env X.xe) (hc : PTd X W c tc) (hb : PSsd X W body tb) : PSd X W (.While c body [] pos) (gWhile tc tb) :=
  PSi (ps_while hp hc hb) fun D σ H => by
    rintro ⟨Z, G, τ, e, S, R, h, c⟩
    unfold gWhile WhileD at h
    obtain ⟨P, ⟨m0, h0⟩, hs⟩ := h
    refine ⟨fun m σ H' => ∃ G' τ', Step G H G' H' ∧ StR X.K Z G' H' τ' σ ∧ Rel X.K Z G' H' ∧ P m τ' G', ⟨m0, G, τ, Step.refl _ _, S, R, h0⟩, ?_⟩
    rintro m σ1 H1 ⟨G1, τ1, s1, S1, R1, p⟩
    have c1 := c.step s1
    refine ⟨Z, G1, τ1, _, _, S1, R1, hs m τ1 G1 p, fun b G2 H2 q2 s2 R2 => ?_, c1.ex.x R1 S1⟩
    have q2 := Cond_e q2
    have s12 := s1.trans s2
    have c2 := c1.step s2
    have S2 := S1.mv (s2.mv R1)
    cases b with
    | true =>
      refine ⟨fun σ' H' => ∃ m', m' < m ∧ ∃ G' τ', Step G H G' H' ∧ StR X.K Z G' H' τ' σ' ∧ Rel X.K Z G' H' ∧ P m' τ' G', fun σ' H' ⟨m', l, z⟩ => ⟨m', l, z⟩, ?_⟩
      refine ⟨Z, G2, τ1, _, S2, R2, q2, ?_, c2.rt, c2.nx, ?_, c2.ex⟩
      · rintro τ5 G5 H5 σ5 ⟨m', l, p5⟩ s5 R5 S5
        exact ⟨m', l, G5, τ5, s12.trans s5, S5, R5, p5⟩
      · rintro τ5 G5 H5 σ5 ⟨m', l, p5⟩ s5 R5 S5
        exact ⟨m', l, G5, τ5, s12.trans s5, S5, R5, p5⟩
    | false => exact c2.nx _ _ _ _ q2 (Step.refl _ _) R2 S2
end N
namespace N
open PySem PySem.Spec PyProof.Rows L2
/-! ### list comprehensions -/
def wipeD (τ : SD) : List Nat → SD
  | [] => τ
  | v :: vs => (wipeD τ vs).set v none
theorem wipeD_len (τ : SD) : ∀ vs : List Nat, (wipeD τ vs).length = τ.length
  | [] => rfl
  | v :: vs => by unfold wipeD; rw [List.length_set, wipeD_len τ vs]
theorem wipe_at {σ : L2.St} {j : Nat} : ∀ {vs : List Nat}, (wipe σ vs)[j]? = if j ∈ vs ∧ j < σ.length then some none else σ[j]?
  | [] => by rw [if_neg (by simp)]; rfl
  | v :: vs => by
    unfold wipe
    by_cases e : v = j
    · subst e
      by_cases hl : v < σ.length
      · rw [if_pos ⟨List.mem_cons_self, hl⟩, List.getElem?_set_self (by rw [wipe_length]; exact hl)]
      · rw [if_neg (fun z => hl z.2), List.getElem?_eq_none (by rw [List.length_set, wipe_length]; omega), List.getElem?_eq_none (by omega)]
    · rw [List.getElem?_set_ne e, wipe_at]
      by_cases c : j ∈ vs ∧ j < σ.length
      · rw [if_pos c, if_pos ⟨List.mem_cons_of_mem _ c.1, c.2⟩]
      · rw [if_neg c, if_neg fun z => c ⟨(List.mem_cons.mp z.1).resolve_left (fun q => e q.symm), z.2⟩]
theorem wipeD_at {τ : SD} {j : Nat} {d : D} : ∀ {vs : List Nat}, (wipeD τ vs)[j]? = some (some d) → τ[j]? = some (some d) ∧ j ∉ vs
  | [], h => ⟨h, by simp⟩
  | v :: vs, h => by
    unfold wipeD at h
    by_cases e : v = j
    · subst e
      by_cases hl : v < (wipeD τ vs).length
      · rw [List.getElem?_set_self hl] at h
        cases h
      · rw [List.getElem?_eq_none (by rw [List.length_set]; omega)] at h
        cases h
    · rw [List.getElem?_set_ne e] at h
      obtain ⟨h1, h2⟩ := wipeD_at h
      exact ⟨h1, fun z => h2 ((List.mem_cons.mp z).resolve_left fun q => e q.symm)⟩
theorem wipe_set {σ : L2.St} {i : Nat} {o : Option V} {vs : List Nat} (h : i ∈ vs) : wipe (σ.set i o) vs = wipe σ vs := by
  apply List.ext_getElem?
  intro j
  rw [wipe_at, wipe_at, List.length_set]
  by_cases e : i = j
  · subst e
    by_cases hl : i < σ.length
    · rw [if_pos ⟨h, hl⟩, if_pos ⟨h, hl⟩]
    · rw [if_neg (fun z => hl z.2), if_neg (fun z => hl z.2), List.getElem?_eq_none (by rw [List.length_set]; omega), List.getElem?_eq_none (by omega)]
  · rw [List.getElem?_set_ne e]
theorem wipe_wipe {σ : L2.St} {vs : List Nat} : wipe (wipe σ vs) vs = wipe σ vs := by
  apply List.ext_getElem?
  intro j
  rw [wipe_at, wipe_length]
  by_cases c : j ∈ vs ∧ j < σ.length
  · rw [if_pos c, wipe_at, if_pos c]
  · rw [if_neg c]
theorem StR.wipe {K : PySem.W.Frag} {Z : ZS} {G : GH} {H : Hp} {τ : SD} {σ : L2.St} (S : StR K Z G H τ σ) (vs : List Nat) : StR K Z G H (wipeD τ vs) (L2.wipe σ vs) := by
  refine ⟨by rw [wipe_length, wipeD_len]; exact S.len, fun i d h => ?_⟩
  obtain ⟨h1, h2⟩ := wipeD_at h
  obtain ⟨v, hv, r⟩ := S.val i d h1
  exact ⟨v, by rw [wipe_at, if_neg fun z => h2 z.1]; exact hv, r⟩
/-- a target whose names are all the block's own -/
def GEx (K : PySem.W.Frag) (vs : List Nat) (g : TG) (h : TGD) : Prop := ∀ Z G H τ σ d v q (Q : L2.St → Hp → Prop), StR K Z G H τ σ → Rel K Z G H → Rl K Z G H d v → h d τ G q →
  (∀ τ' σ', q τ' G → StR K Z G H τ' σ' → wipe σ' vs = wipe σ vs → Q σ' H) → g v σ H Q
def GExs (K : PySem.W.Frag) (vs : List Nat) (g : TGs) (h : TGsD) : Prop := ∀ Z G H τ σ ds us q (Q : L2.St → Hp → Prop), StR K Z G H τ σ → Rel K Z G H → RlA K Z G H ds us → h ds τ G q →
  (∀ τ' σ', q τ' G → StR K Z G H τ' σ' → wipe σ' vs = wipe σ vs → Q σ' H) → g us σ H Q
theorem gex_name {K : PySem.W.Frag} {vs : List Nat} {i : Nat} (h : i ∈ vs) : GEx K vs (gName i) (hName i) := by
  intro Z G H τ σ d v q Q S R r hq c
  exact c _ _ hq (S.set i r) (wipe_set h)
theorem gexs_nil {K : PySem.W.Frag} {vs : List Nat} : GExs K vs L2.gNil hNil := by
  intro Z G H τ σ ds us q Q S R r hq c
  cases r with
  | nil => exact ⟨rfl, c _ _ hq S rfl⟩
  | cons _ _ => exact (show False from hq).elim
theorem gexs_cons {K : PySem.W.Frag} {vs : List Nat} {g : TG} {gs : TGs} {h : TGD} {hs : TGsD} (h1 : GEx K vs g h) (h2 : GExs K vs gs hs) : GExs K vs (L2.gCons g gs) (hCons h hs) := by
  intro Z G H τ σ ds us q Q S R r hq c
  cases r with
  | nil => exact (show False from hq).elim
  | cons r1 r2 =>
    refine ⟨_, _, rfl, h1 Z G H τ σ _ _ _ _ S R r1 hq fun τ1 σ1 q1 S1 e1 => ?_⟩
    exact h2 Z G H τ1 σ1 _ _ _ _ S1 R r2 q1 fun τ2 σ2 q2 S2 e2 => c τ2 σ2 q2 S2 (e2.trans e1)
theorem gex_tup {K : PySem.W.Frag} {vs : List Nat} {n : Nat} {gs : TGs} {hs : TGsD} (h : GExs K vs gs hs) : GEx K vs (gSeqT K n gs) (hTup n hs) := by
  intro Z G H τ σ d v q Q S R r hq c
  cases d with
  | tup ds =>
    obtain ⟨hl, hq⟩ := Sd_e hq
    cases r with
    | tup hx rx => exact .inl ⟨_, _, rfl, hx, by rw [← rx.length]; exact hl, h Z G H τ σ _ _ _ _ S R rx hq c⟩
  | lst ds =>
    obtain ⟨hl, hq⟩ := Sd_e hq
    cases r with
    | lst hx _ _ rx => exact .inr ⟨_, _, rfl, SqL.of hx, by rw [← rx.length]; exact hl, h Z G H τ σ _ _ _ _ S R rx hq c⟩
  | ref a =>
    obtain ⟨ds, e, hq⟩ := LkL_e hq
    obtain ⟨hl, hq⟩ := Sd_e hq
    obtain ⟨_, xs, hx, rx⟩ := R.ob a _ e
    cases r
    exact .inr ⟨_, _, rfl, SqL.of hx, by rw [← rx.length]; exact hl, h Z G H τ σ _ _ _ _ S R rx hq c⟩
  | _ => exact (show False from hq).elim
/-- nothing is raised within a block -/
abbrev W0 : WX := fun _ _ _ _ => False
abbrev X0 : XD := fun _ _ _ => False
def gYes : TTD := fun _ G _ q => q true G
@[irreducible] def NewM (ds : List D) (G : GH) (q : QD) : Prop := ∀ p, G p = none → q (.ref p) (gup G p (.lst ds))
theorem NewM_i {ds : List D} {G : GH} {q : QD} (h : ∀ p, G p = none → q (.ref p) (gup G p (.lst ds))) : NewM ds G q := by unfold NewM; exact h
theorem NewM_n {ds : List D} {G : GH} {q : QD} (h : NewM ds G q) : NewL ds G q := by unfold NewM at h; exact NewL_r h
abbrev FinL := List D → GH → QD → Prop
@[irreducible] def LcF (F : FinL) (ds : List D) (stay : GH → Prop) (h : TGD) (tt : TTD) (te : TED) (vs : List Nat) (τ : SD) (G : GH) (q : QD) : Prop := ∃ P : Nat → List D → GH → Prop, P 0 [] G ∧ (∀ i acc G, i ≤ ds.length → P i acc G → stay G) ∧
  (∀ i d acc G, ds[i]? = some d → P i acc G → h d (wipeD τ vs) G fun τ2 _ => tt τ2 G X0 fun b G3 => Cond b (te τ2 G3 X0 fun y G4 => acc.length < sizeLine ∧ P (i + 1) (acc ++ [y]) G4) (P (i + 1) acc G3)) ∧
  ∀ acc G, P ds.length acc G → F acc G q
theorem LcD_i {F : FinL} {ds : List D} {stay : GH → Prop} {h : TGD} {tt : TTD} {te : TED} {vs : List Nat} {τ : SD} {G : GH} {q : QD} (P : Nat → List D → GH → Prop) (h0 : P 0 [] G) (hl : ∀ i acc G, i ≤ ds.length → P i acc G → stay G)
    (hs : ∀ i d acc G, ds[i]? = some d → P i acc G → h d (wipeD τ vs) G fun τ2 _ => tt τ2 G X0 fun b G3 => Cond b (te τ2 G3 X0 fun y G4 => acc.length < sizeLine ∧ P (i + 1) (acc ++ [y]) G4) (P (i + 1) acc G3))
    (hd : ∀ acc G, P ds.length acc G → F acc G q) : LcF F ds stay h tt te vs τ G q := by
  unfold LcF
  exact ⟨P, h0, hl, hs, hd⟩
def gLcF (F : FinL) (wi : TID) (h : TGD) (tt : TTD) (te : TED) (vs : List Nat) : TED := fun τ G x q => wi τ G x fun ds stay G1 => LcF F ds stay h tt te vs τ G1 q
abbrev gLc := gLcF NewL
abbrev gLcM := gLcF NewM
abbrev LcD := LcF NewL
theorem lf_lc {F : FinL} (hF : ∀ {ds G q}, F ds G q → NewL ds G q) {K : PySem.W.Frag} {W : WX} {wi : TID} {g : TG} {h : TGD} {tt : TTD} {te : TED} {vs : List Nat} (ex : GEx K vs g h) {σ : L2.St} {H : Hp} {Q : VK} (w : Lf K W (gLcF F wi h tt te vs) σ H Q) :
    tLc (LfI K W wi) g (LfT K W0 tt) (Lf K W0 te) vs σ H Q := by
  obtain ⟨Z, G, τ, x, q, S, R, hw, c, cx⟩ := w
  refine ⟨Z, G, τ, x, _, S, R, hw, fun ds stay G1 H1 J q1 s1 R1 it => ?_, cx⟩
  unfold LcF at q1
  obtain ⟨P, h0, hl, hs, hd⟩ := q1
  intro D hD
  have c1 := c.step s1
  have S1 := S.mv (s1.mv R)
  have gD := R1.fresh hD
  have zD := R1.freshZ hD
  obtain ⟨Z1, hZ1⟩ : ∃ Z1 : ZS, Z1 = fun b => Z b ∨ b = D := ⟨_, rfl⟩
  have z1 : ∀ b, ¬ Z b → b ≠ D → ¬ Z1 b := fun b hz hb q => by
    rw [hZ1] at q
    exact q.elim hz hb
  have z1D : Z1 D := by rw [hZ1]; exact .inr rfl
  have z1Z : ∀ b, ¬ Z1 b → ¬ Z b := fun b hz q => hz (by rw [hZ1]; exact .inl q)
  have nD : ∀ b, ¬ Z1 b → b ≠ D := fun b hz q => hz (by rw [q]; exact z1D)
  -- from the start to a state of the loop
  have mvs : ∀ {G H}, Step G1 H1 G H → Mv Z Z1 G1 G H1 H := fun {G H} s => ⟨(s.mv R1).tups, (s.mv R1).frzs, fun b o e g z => ⟨(s b o e g).1, (s b o e g).2, z1 b z (ne_of_none e hD)⟩⟩
  have back : ∀ {G H}, Mv Z1 Z G G H H := fun {G H} => ⟨fun _ _ e => e, fun _ _ _ e => e, fun b o e g z => ⟨e, g, z1Z b z⟩⟩
  refine ⟨fun i m H => m = ds.length - i ∧ i ≤ ds.length ∧ ∃ G accD accV, Step G1 H1 G H ∧ Rel K Z1 G H ∧ H D = some (.lst accV) ∧ RlA K Z1 G H accD accV ∧ P i accD G, ⟨ds.length, by simp, Nat.zero_le _, G1, [], [], step_new R1 hD, ?_, upd_same, .nil, h0⟩, ?_⟩
  · refine ⟨fun a o e => ?_, fun z hz => ?_⟩
    · obtain ⟨za, ra⟩ := R1.ob a o e
      have na : a ≠ D := fun q => by rw [q, gD] at e; cases e
      exact ⟨z1 a za na, ra.mv (mvs (step_new R1 hD)) (upd_ne na)⟩
    · rw [hZ1] at hz
      by_cases hb : z = D
      · subst hb
        exact ⟨_, upd_same⟩
      · obtain ⟨o, e⟩ := R1.hid z (hz.resolve_right hb)
        exact ⟨o, by rw [upd_ne hb]; exact e⟩
  rintro i m H ⟨rfl, hi, G, accD, accV, s2, R2, hDl, rA, p⟩
  have outD : ∀ {G H}, Rel K Z1 G H → G D = none := fun {G H} R => by
    cases e : G D with
    | none => rfl
    | some o => exact absurd z1D (R.ob D o e).1
  by_cases hlt : i < ds.length
  · refine .inr ⟨it.go Z1 i G H hlt (mvs s2) R2 (hl i accD G hi p), fun H' => ∃ G' accD' accV', Step G1 H1 G' H' ∧ Rel K Z1 G' H' ∧ H' D = some (.lst accV') ∧ RlA K Z1 G' H' accD' accV' ∧ P (i + 1) accD' G',
      fun H' z => ⟨ds.length - (i + 1), by omega, rfl, hlt, z⟩, fun x H' y => ?_⟩
    obtain ⟨d, hd', s3, R3, rd⟩ := it.yld Z1 i G H x H' hlt (mvs s2) R2 (hl i accD G hi p) y
    have s23 := s2.trans s3
    refine ex Z1 G H' (wipeD τ vs) (wipe σ vs) d x _ _ (StR.wipe (S1.mv (mvs s23)) vs) R3 rd (hs i d accD G hd' p) fun τ2 σ2 q2 S2 ew => ?_
    refine ⟨ew.trans wipe_wipe, ?_⟩
    refine ⟨Z1, G, τ2, X0, _, S2, R3, q2, fun b G4 H4 q4 s4 R4 => ?_, fun _ _ _ _ _ _ z => z.elim⟩
    have q4 := Cond_e q4
    have s34 := s3.trans s4
    have s24 := s23.trans s4
    have hD4 := s34 D _ hDl (outD R2)
    have rA4 := rA.mv (s34.mv R2)
    cases b with
    | true =>
      refine ⟨Z1, G4, τ2, X0, _, S2.mv (s4.mv R3), R4, q4, fun y' G5 H5 w q5 s5 R5 r5 => ?_, fun _ _ _ _ _ _ z => z.elim⟩
      have hD5 := s5 D _ hD4.1 hD4.2
      have rA5 := (rA4.mv (s5.mv R4)).append (.cons r5 .nil)
      have m6 : Mv Z1 Z1 G5 G5 H5 (upd H5 D (.lst (accV ++ [w]))) := ⟨fun b xs e => by rw [upd_ne (ne_of e hD5.1 (by intro z; cases z))]; exact e, fun b ob u e => by rw [upd_ne (ne_of e hD5.1 (by intro z; cases z))]; exact e,
        fun b o e g z => ⟨by rw [upd_ne (nD b z)]; exact e, g, z⟩⟩
      refine ⟨accV, hD5.1, by rw [← rA.length]; exact q5.1, G5, _, _, fun b o e g => ?_, ⟨fun a o e => ?_, fun z hz => ?_⟩, upd_same, rA5.mv m6, q5.2⟩
      · have e5 := (s24.trans s5) b o e g
        rw [upd_ne (ne_of_none e hD)]
        exact e5
      · obtain ⟨za, ra⟩ := R5.ob a o e
        exact ⟨za, ra.mv m6 (upd_ne (nD a za))⟩
      · by_cases hb : z = D
        · subst hb
          exact ⟨_, upd_same⟩
        · obtain ⟨o, e⟩ := R5.hid z hz
          exact ⟨o, by rw [upd_ne hb]; exact e⟩
    | false => exact ⟨G4, accD, accV, s24, R4, hD4.1, rA4, q4⟩
  · have e : i = ds.length := by omega
    subst e
    refine .inl ⟨it.stop Z1 G H (mvs s2) R2 (hl _ accD G hi p), ?_⟩
    have rZ : Rel K Z G H := ⟨fun a o e => ⟨z1Z a (R2.ob a o e).1, (R2.ob a o e).2.mv back rfl⟩, fun z hz => R2.hid z (by rw [hZ1]; exact .inl hz)⟩
    rcases NewL_e (hF (hd accD G p)) with n | n
    · exact c1 _ _ _ _ n s2 rZ (.lst hDl (outD R2) zD (rA.mv back))
    · have mg : Mv Z1 Z G (gup G D (.lst accD)) H H := ⟨fun _ _ e => e, fun _ _ _ e => e, fun b o e g z => ⟨e, by rw [gup_ne (nD b z)]; exact g, z1Z b z⟩⟩
      refine c1 _ _ _ _ (n D (outD R2)) (fun b o e g => ?_) ⟨fun a o e => ?_, rZ.hid⟩ (.ref D)
      · rw [gup_ne (ne_of_none e hD)]
        exact s2 b o e g
      · by_cases na : a = D
        · subst na
          rw [gup_same] at e
          cases e
          exact ⟨zD, accV, hDl, rA.mv mg⟩
        · rw [gup_ne na] at e
          obtain ⟨za, ra⟩ := R2.ob a o e
          exact ⟨z1Z a za, ra.mv mg rfl⟩
structure PTsd (X : Cx) (ifs : List Expr) (t : TTD) : Prop where
  h : PTs X ifs (LfT X.K W0 t)
theorem ptsd_nil {X : Cx} : PTsd X [] gYes := ⟨⟨fun pins s σ H Q I hw => by
  obtain ⟨Z, G, τ, x, q, S, R, h, c, cx⟩ := hw
  exact pts_nil.run pins s σ H Q I (c true G H h (Step.refl _ _) R)⟩⟩
theorem ptsd_one {X : Cx} {c : Expr} {t : TTD} (h : PTd X W0 c t) : PTsd X [c] t := ⟨pts_one h⟩
section
variable {X : Cx} {W : WX} {elt tg iter : Expr} {ifs : List Expr} {scope : Scope} {own : List (Str × Nat)} {pos spos : Pos} {wi : TID} {g : TG} {h : TGD} {tt : TTD} {te : TED}
theorem pd_lcF {F : FinL} (hF : ∀ {ds G q}, F ds G q → NewL ds G q) (hc : X.calm = true) (hN : X.N.Nodup) (hi : PId X W tg iter wi) (ok : BlkOk X.N X.env.scope scope own)
    (hg : ∀ (s : Shared) (H : Hp) (C : Addr) (cl : List (Str × Addr)) (fp : List Addr), PG (X.blk s H scope (compEnvC scope cl C X.env) fp) tg g) (ex : GEx X.K (own.map (·.2)) g h)
    (ht : ∀ (s : Shared) (H : Hp) (C : Addr) (cl : List (Str × Addr)) (fp : List Addr), PTsd (X.blk s H scope (compEnvC scope cl C X.env) fp) ifs tt)
    (he : ∀ (s : Shared) (H : Hp) (C : Addr) (cl : List (Str × Addr)) (fp : List Addr), PEd (X.blk s H scope (compEnvC scope cl C X.env) fp) W0 elt te) (hs : ∀ x, foldedSetIterable iter X.env x = pure x := by intro _; rfl) :
    PEd X W (.ListComp elt [⟨tg, iter, ifs, 0⟩] scope pos) (gLcF F wi h tt te (own.map (·.2))) :=
  PEi (pe_lc hc hN hi ok hg (fun s H C cl fp => (ht s H C cl fp).h) he hs) fun _ _ _ w => lf_lc hF ex w
theorem psd_lcF {F : FinL} (hF : ∀ {ds G q}, F ds G q → NewL ds G q) {i : Nat} {y : Str} {py : Pos} (hc : X.calm = true) (hN : X.N.Nodup) (hy : X.N[i]? = some y) (hyl : X.env.scope.names.lookup y = some .local)
    (hsw : swapsWith (.ListComp elt [⟨tg, iter, ifs, 0⟩] scope pos) (some (.Name y py)) spos.line X.env = pure true) (hi : PId X W tg iter wi) (ok : BlkOk X.N X.env.scope scope own)
    (hg : ∀ (s : Shared) (H : Hp) (C : Addr) (cl : List (Str × Addr)) (fp : List Addr), PG (X.blk s H scope (compEnvC scope cl C X.env) fp) tg g) (ex : GEx X.K (own.map (·.2)) g h)
    (ht : ∀ (s : Shared) (H : Hp) (C : Addr) (cl : List (Str × Addr)) (fp : List Addr), PTsd (X.blk s H scope (compEnvC scope cl C X.env) fp) ifs tt)
    (he : ∀ (s : Shared) (H : Hp) (C : Addr) (cl : List (Str × Addr)) (fp : List Addr), PEd (X.blk s H scope (compEnvC scope cl C X.env) fp) W0 elt te) (hs : ∀ x, foldedSetIterable iter X.env x = pure x := by intro _; rfl) :
    PSd X W (.Assign [.Name y py] (.ListComp elt [⟨tg, iter, ifs, 0⟩] scope pos) spos) (gAsg (gLcF F wi h tt te (own.map (·.2))) (hName i)) :=
  PSi (ps_setLc hc hN hy hyl hsw hi ok hg (fun s H C cl fp => (ht s H C cl fp).h) he hs) fun D σ H => by
    rintro ⟨Z, G, τ, e, S, R, h, c⟩
    refine lf_lc hF ex ⟨Z, G, τ, _, _, S, R, h, fun d G1 H1 v q1 s1 R1 r1 => ?_, c.ex.x R S⟩
    exact c.nx _ G1 H1 _ q1 s1 R1 ((S.mv (s1.mv R)).set i r1)
theorem pd_lc (hc : X.calm = true) (hN : X.N.Nodup) (hi : PId X W tg iter wi) (ok : BlkOk X.N X.env.scope scope own)
    (hg : ∀ (s : Shared) (H : Hp) (C : Addr) (cl : List (Str × Addr)) (fp : List Addr), PG (X.blk s H scope (compEnvC scope cl C X.env) fp) tg g) (ex : GEx X.K (own.map (·.2)) g h)
    (ht : ∀ (s : Shared) (H : Hp) (C : Addr) (cl : List (Str × Addr)) (fp : List Addr), PTsd (X.blk s H scope (compEnvC scope cl C X.env) fp) ifs tt)
    (he : ∀ (s : Shared) (H : Hp) (C : Addr) (cl : List (Str × Addr)) (fp : List Addr), PEd (X.blk s H scope (compEnvC scope cl C X.env) fp) W0 elt te) (hs : ∀ x, foldedSetIterable iter X.env x = pure x := by intro _; rfl) :
    PEd X W (.ListComp elt [⟨tg, iter, ifs, 0⟩] scope pos) (gLcF NewL wi h tt te (own.map (·.2))) := pd_lcF (fun z => z) hc hN hi ok hg ex ht he hs
theorem pd_lcM (hc : X.calm = true) (hN : X.N.Nodup) (hi : PId X W tg iter wi) (ok : BlkOk X.N X.env.scope scope own)
    (hg : ∀ (s : Shared) (H : Hp) (C : Addr) (cl : List (Str × Addr)) (fp : List Addr), PG (X.blk s H scope (compEnvC scope cl C X.env) fp) tg g) (ex : GEx X.K (own.map (·.2)) g h)
    (ht : ∀ (s : Shared) (H : Hp) (C : Addr) (cl : List (Str × Addr)) (fp : List Addr), PTsd (X.blk s H scope (compEnvC scope cl C X.env) fp) ifs tt)
    (he : ∀ (s : Shared) (H : Hp) (C : Addr) (cl : List (Str × Addr)) (fp : List Addr), PEd (X.blk s H scope (compEnvC scope cl C X.env) fp) W0 elt te) (hs : ∀ x, foldedSetIterable iter X.env x = pure x := by intro _; rfl) :
    PEd X W (.ListComp elt [⟨tg, iter, ifs, 0⟩] scope pos) (gLcF NewM wi h tt te (own.map (·.2))) := pd_lcF (fun z => NewM_n z) hc hN hi ok hg ex ht he hs
theorem psd_lc {i : Nat} {y : Str} {py : Pos} (hc : X.calm = true) (hN : X.N.Nodup) (hy : X.N[i]? = some y) (hyl : X.env.scope.names.lookup y = some .local)
    (hsw : swapsWith (.ListComp elt [⟨tg, iter, ifs, 0⟩] scope pos) (some (.Name y py)) spos.line X.env = pure true) (hi : PId X W tg iter wi) (ok : BlkOk X.N X.env.scope scope own)
    (hg : ∀ (s : Shared) (H : Hp) (C : Addr) (cl : List (Str × Addr)) (fp : List Addr), PG (X.blk s H scope (compEnvC scope cl C X.env) fp) tg g) (ex : GEx X.K (own.map (·.2)) g h)
    (ht : ∀ (s : Shared) (H : Hp) (C : Addr) (cl : List (Str × Addr)) (fp : List Addr), PTsd (X.blk s H scope (compEnvC scope cl C X.env) fp) ifs tt)
    (he : ∀ (s : Shared) (H : Hp) (C : Addr) (cl : List (Str × Addr)) (fp : List Addr), PEd (X.blk s H scope (compEnvC scope cl C X.env) fp) W0 elt te) (hs : ∀ x, foldedSetIterable iter X.env x = pure x := by intro _; rfl) :
    PSd X W (.Assign [.Name y py] (.ListComp elt [⟨tg, iter, ifs, 0⟩] scope pos) spos) (gAsg (gLcF NewL wi h tt te (own.map (·.2))) (hName i)) := psd_lcF (fun z => z) hc hN hy hyl hsw hi ok hg ex ht he hs
theorem psd_lcM {i : Nat} {y : Str} {py : Pos} (hc : X.calm = true) (hN : X.N.Nodup) (hy : X.N[i]? = some y) (hyl : X.env.scope.names.lookup y = some .local)
    (hsw : swapsWith (.ListComp elt [⟨tg, iter, ifs, 0⟩] scope pos) (some (.Name y py)) spos.line X.env = pure true) (hi : PId X W tg iter wi) (ok : BlkOk X.N X.env.scope scope own)
    (hg : ∀ (s : Shared) (H : Hp) (C : Addr) (cl : List (Str × Addr)) (fp : List Addr), PG (X.blk s H scope (compEnvC scope cl C X.env) fp) tg g) (ex : GEx X.K (own.map (·.2)) g h)
    (ht : ∀ (s : Shared) (H : Hp) (C : Addr) (cl : List (Str × Addr)) (fp : List Addr), PTsd (X.blk s H scope (compEnvC scope cl C X.env) fp) ifs tt)
    (he : ∀ (s : Shared) (H : Hp) (C : Addr) (cl : List (Str × Addr)) (fp : List Addr), PEd (X.blk s H scope (compEnvC scope cl C X.env) fp) W0 elt te) (hs : ∀ x, foldedSetIterable iter X.env x = pure x := by intro _; rfl) :
    PSd X W (.Assign [.Name y py] (.ListComp elt [⟨tg, iter, ifs, 0⟩] scope pos) spos) (gAsg (gLcF NewM wi h tt te (own.map (·.2))) (hName i)) := psd_lcF (fun z => NewM_n z) hc hN hy hyl hsw hi ok hg ex ht he hs
end
/-- a comprehension that filters and maps, leaving the ledger as it is -/
theorem lc_map {ds : List D} {stay : GH → Prop} {h : TGD} {tt : TTD} {te : TED} {vs : List Nat} {τ : SD} {G : GH} {q : QD} (tgt : D → SD) (b : D → Bool) (f : D → D) (hz : ds.length ≤ 10000000) (hl : stay G)
    (ht : ∀ d ∈ ds, ∀ q : SD → GH → Prop, q (tgt d) G → h d (wipeD τ vs) G q) (h1 : ∀ d ∈ ds, ∀ k : Bool → GH → Prop, k (b d) G → tt (tgt d) G X0 k) (h2 : ∀ d ∈ ds, b d = true → ∀ k : QD, k (f d) G → te (tgt d) G X0 k)
    (hd : NewL ((ds.filter b).map f) G q) : LcD ds stay h tt te vs τ G q := by
  refine LcD_i (fun i acc G' => G' = G ∧ acc = ((ds.take i).filter b).map f) ⟨rfl, by simp⟩ (fun i acc G' _ p => by rw [p.1]; exact hl) (fun i d acc G' hi p => ?_) (fun acc G' p => ?_)
  · obtain ⟨rfl, rfl⟩ := p
    have hmem : d ∈ ds := List.mem_of_getElem? hi
    have hlt := (List.getElem?_eq_some_iff.mp hi).1
    have e : ds.take (i + 1) = ds.take i ++ [d] := by
      rw [List.take_add_one, hi]
      rfl
    refine ht d hmem _ (h1 d hmem _ (Cond_i (fun hb => h2 d hmem hb _ ⟨?_, rfl, ?_⟩) fun hb => ⟨rfl, ?_⟩))
    · have l1 : (((ds.take i).filter b).map f).length ≤ ds.length := by
        rw [List.length_map]
        exact Nat.le_trans (List.length_filter_le _ _) (by rw [List.length_take]; omega)
      exact Nat.lt_of_le_of_lt (Nat.le_trans l1 hz) (by decide)
    · rw [e, List.filter_append, List.map_append]
      simp [hb]
    · rw [e, List.filter_append, List.map_append]
      simp [hb]
  · obtain ⟨rfl, rfl⟩ := p
    rw [List.take_length] at *
    exact hd
end N
namespace N
open PySem PySem.Spec PyProof.Rows L2
/-! ### promises -/
abbrev SpD := List D → GH → QD → XD → Prop
def liftSp (K : PySem.W.Frag) (sp : SpD) : Sp := fun vs H Q E => ∃ Z G ds q x, RlA K Z G H ds vs ∧ Rel K Z G H ∧ sp ds G q x ∧ ClE K Z G H q Q ∧ ClX K Z G H x (fun c d _ H => E c d H) []
theorem ClX.any {K : PySem.W.Frag} {Z : ZS} {G : GH} {H : Hp} {x : XD} {E : XK} {σ σ' : L2.St} (c : ClX K Z G H x (fun c d _ H => E c d H) σ) : ClX K Z G H x (fun c d _ H => E c d H) σ' := c
def A3 (ds : List D) (k : D → D → D → Prop) : Prop := match ds with
  | [a, b, c] => k a b c
  | _ => False
def A4 (ds : List D) (k : D → D → D → D → Prop) : Prop := match ds with
  | [a, b, c, d] => k a b c d
  | _ => False
def A5 (ds : List D) (k : D → D → D → D → D → Prop) : Prop := match ds with
  | [a, b, c, d, e] => k a b c d e
  | _ => False
/-- a promise about so many arguments -/
structure SpN (n : Nat) (sp : SpD) : Prop where
  len : ∀ ds G q x, sp ds G q x → ds.length = n
theorem SpN.lift {n : Nat} {sp : SpD} (h : SpN n sp) {K : PySem.W.Frag} {ps : List Str} (e : ps.length = n) : ∀ vs H Q E, liftSp K sp vs H Q E → vs.length = ps.length := by
  rintro vs H Q E ⟨Z, G, ds, q, x, r, _, hs, _⟩
  rw [← r.length, h.len _ _ _ _ hs, e]
theorem A0_len {ds : List D} {k : Prop} (h : A0 ds k) : ds.length = 0 := by
  match ds, h with
  | [], _ => rfl
theorem A1_len {ds : List D} {k : D → Prop} (h : A1 ds k) : ds.length = 1 := by
  match ds, h with
  | [_], _ => rfl
theorem A2_len {ds : List D} {k : D → D → Prop} (h : A2 ds k) : ds.length = 2 := by
  match ds, h with
  | [_, _], _ => rfl
theorem A3_len {ds : List D} {k : D → D → D → Prop} (h : A3 ds k) : ds.length = 3 := by
  match ds, h with
  | [_, _, _], _ => rfl
theorem A4_len {ds : List D} {k : D → D → D → D → Prop} (h : A4 ds k) : ds.length = 4 := by
  match ds, h with
  | [_, _, _, _], _ => rfl
theorem A5_len {ds : List D} {k : D → D → D → D → D → Prop} (h : A5 ds k) : ds.length = 5 := by
  match ds, h with
  | [_, _, _, _, _], _ => rfl
theorem A0_x {ds : List D} {k : Prop} (h : A0 ds k) : ds = [] ∧ k := by
  match ds, h with
  | [], h => exact ⟨rfl, h⟩
theorem A1_x {ds : List D} {k : D → Prop} (h : A1 ds k) : ∃ a, ds = [a] ∧ k a := by
  match ds, h with
  | [a], h => exact ⟨a, rfl, h⟩
theorem A2_x {ds : List D} {k : D → D → Prop} (h : A2 ds k) : ∃ a b, ds = [a, b] ∧ k a b := by
  match ds, h with
  | [a, b], h => exact ⟨a, b, rfl, h⟩
theorem A3_x {ds : List D} {k : D → D → D → Prop} (h : A3 ds k) : ∃ a b c, ds = [a, b, c] ∧ k a b c := by
  match ds, h with
  | [a, b, c], h => exact ⟨a, b, c, rfl, h⟩
theorem A4_x {ds : List D} {k : D → D → D → D → Prop} (h : A4 ds k) : ∃ a b c d, ds = [a, b, c, d] ∧ k a b c d := by
  match ds, h with
  | [a, b, c, d], h => exact ⟨a, b, c, d, rfl, h⟩
theorem A5_x {ds : List D} {k : D → D → D → D → D → Prop} (h : A5 ds k) : ∃ a b c d e, ds = [a, b, c, d, e] ∧ k a b c d e := by
  match ds, h with
  | [a, b, c, d, e], h => exact ⟨a, b, c, d, e, rfl, h⟩
def startD (N : List Str) (ds : List D) : SD := ds.map some ++ List.replicate (N.length - ds.length) none
theorem start_str {K : PySem.W.Frag} {Z : ZS} {G : GH} {H : Hp} {N : List Str} {ds : List D} {vs : List V} (r : RlA K Z G H ds vs) : StR K Z G H (startD N ds) (L2.start N vs) := by
  have hl := r.length
  unfold startD L2.start
  refine ⟨by simp [hl], fun i d h => ?_⟩
  have hi : i < ds.length := by
    by_cases hi : i < ds.length
    · exact hi
    · rw [List.getElem?_append_right (by simpa using hi), List.getElem?_replicate] at h
      split at h <;> cases h
  rw [List.getElem?_append_left (by simpa using hi), List.getElem?_map] at h
  have h' : ds[i]? = some d := by
    cases e : ds[i]? with
    | none => rw [e] at h; cases h
    | some d' => rw [e] at h; cases h; rfl
  obtain ⟨v, hv, rv⟩ := r.get h'
  refine ⟨v, ?_, rv⟩
  rw [List.getElem?_append_left (by simpa [← hl] using hi), List.getElem?_map, hv]
  rfl
/-- how a def's body starts and ends -/
abbrev dEnds (q : QD) (x : XD) : EndsD := { nx := fun _ G => q .non G, rt := q, ex := fun C d _ G => x C d G }
abbrev WD (E : XK) : WX := fun c d _ H => E c d H
/-- the def's term, from its body's -/
theorem body_of {K : PySem.W.Frag} {t : TSD} {sp : SpD} {N : List Str} {vs : List V} {H : Hp} {Q : VK} {E : XK} (h : liftSp K sp vs H Q E) (pure_ : ∀ ds G q x, sp ds G q x → t (dEnds q x) (startD N ds) G) :
    LfS K (WD E) t { nx := fun _ H' => Q .non H', rt := Q } (L2.start N vs) H := by
  obtain ⟨Z, G, ds, q, x, r, R, hs, c, cx⟩ := h
  refine ⟨Z, G, startD N ds, dEnds q x, start_str r, R, pure_ ds G q x hs, fun τ G' H' σ z s R' _ => c .non G' H' .non z s R' .non, c, ?_, ?_, ?_⟩
  · exact fun _ _ _ _ z => z.elim
  · exact fun _ _ _ _ z => z.elim
  · exact fun C d τ G' H' σ dct v z s R' _ r' hd => cx C d G' H' dct v z s R' r' hd
section
variable {P : Program} {w : World} {K : PySem.W.Frag} {mg : Str → Option Value} {base : Heap} {x qual : Str} {params : Arguments} {body : List Stmt} {scope : Scope} {dvs : List V} {kws : List (Str × V)} {f : Addr} {fd : FuncData}
/-- THE RULE for a def that may raise: A1 the derivation, in its context; then its reading -/
theorem fn_x {N ps : List Str} {k : Nat} {sp : SpD} {t : TSD} {n : Nat} (F : FunD K x qual params body scope dvs kws f fd) (S : FnScope N ps scope) (sn : SpN n sp) (e : ps.length = n)
    (hd : ∀ (cdv : Value) (A : Around) (outer : List Env) (s : Shared) (H : Hp) (E : XK), Room k (A.deeper (envOfC qual scope s.heap.objs.size f cdv)) →
      PSsd (cxOf (L2N.CX P w) P w K mg base N qual scope f cdv A outer s H E) (WD E) body t) (pure_ : ∀ ds G q x, sp ds G q x → t (dEnds q x) (startD N ds) G) : FnOk P w K mg base (L2N.CX P w) (k + 1) f fd ps (liftSp K sp) :=
  F.ok S (sn.lift e) fun cdv A outer s H vs Q E hr h => ⟨_, hd cdv A outer s H E hr, body_of h pure_⟩
/-- for a def that raises nothing -/
theorem fn_p {N ps : List Str} {k : Nat} {sp : SpD} {t : TSD} {n : Nat} (F : FunD K x qual params body scope dvs kws f fd) (S : FnScope N ps scope) (sn : SpN n sp) (e : ps.length = n)
    (hd : ∀ (cdv : Value) (A : Around) (outer : List Env) (s : Shared) (H : Hp) (E : XK), Room k (A.deeper (envOfC qual scope s.heap.objs.size f cdv)) →
      PSsd (cxOf (L2N.CX P w) P w K mg base N qual scope f cdv A outer s H E).nox (WD E) body t) (pure_ : ∀ ds G q x, sp ds G q x → t (dEnds q x) (startD N ds) G) : FnOk P w K mg base (L2N.CX P w) (k + 1) f fd ps (liftSp K sp) :=
  F.ok S (sn.lift e) fun cdv A outer s H vs Q E hr h => ⟨_, (hd cdv A outer s H E hr).nox, body_of h pure_⟩
end
/-! ### calls -/
theorem cx_none {P : Program} {w : World} {outer : List Env} {H : Hp} {s s' : Shared} {u : Value} (h : L2N.CX P w outer H s E0 u s') : False := by
  obtain ⟨a, B, H', cls, d, _, _, _, _, _, _, _, z⟩ := h
  exact z
theorem passN {X : Cx} : Passes (L2N.CX X.prog X.w) X E0 := fun _ _ _ _ _ _ _ c => (cx_none c).elim
@[irreducible] def Call (sp : SpD) (ds : List D) (G : GH) (q : QD) (x : XD) : Prop := sp ds G q x
theorem Call_i {sp : SpD} {ds : List D} {G : GH} {q : QD} {x : XD} (h : sp ds G q x) : Call sp ds G q x := by unfold Call; exact h
theorem Call_e {sp : SpD} {ds : List D} {G : GH} {q : QD} {x : XD} (h : Call sp ds G q x) : sp ds G q x := by unfold Call at h; exact h
section
variable {X : Cx} {W : WX} {k : Nat} {f C g p : Addr} {fd : FuncData} {ps : List Str} {sp : SpD} {x m fl : Str} {q pos apos pos' : Pos} {e o : Expr} {es : List Expr} {to te : TED} {ta : TAD}
abbrev FnD (X : Cx) (k : Nat) (f : Addr) (fd : FuncData) (ps : List Str) (sp : SpD) : Prop := FnOk X.prog X.w X.K X.mg X.base (L2N.CX X.prog X.w) k f fd ps (liftSp X.K sp)
/-- f(..), nothing raised -/
def gCall (sp : SpD) (ta : TAD) : TED := fun τ G x q => ta τ G x fun ds G1 => Call sp ds G1 q X0
/-- f(..), what is raised goes on -/
def gCallX (sp : SpD) (ta : TAD) : TED := fun τ G x q => ta τ G x fun ds G1 => Call sp ds G1 q x
theorem lift_ok {K : PySem.W.Frag} {Z : ZS} {G : GH} {H : Hp} {ds : List D} {vs : List V} {q : QD} {Q : VK} {E : XK} {x : XD} {σ : L2.St} (R : Rel K Z G H) (r : RlA K Z G H ds vs) (h : Call sp ds G q x) (c : ClE K Z G H q Q) (cx : ClX K Z G H x (fun c d _ H => E c d H) σ) : liftSp K sp vs H Q E :=
  ⟨Z, G, ds, q, x, r, R, Call_e h, c, cx.any⟩
theorem lf_call {K : PySem.W.Frag} {σ : L2.St} {H : Hp} {Q : VK} (w : Lf K W (gCall sp ta) σ H Q) : tCall (liftSp K sp) [] E0 (LfA K W ta) σ H Q := by
  obtain ⟨Z, G, τ, x, q, S, R, hw, c, cx⟩ := w
  refine ⟨Z, G, τ, x, _, S, R, hw, fun ds G1 H1 vs q1 s1 R1 r1 => ?_, cx⟩
  show liftSp K sp (vs ++ []) H1 Q E0
  rw [List.append_nil]
  exact lift_ok (σ := []) R1 r1 q1 (c.step s1) fun _ _ _ _ _ _ z => z.elim
theorem pd_call (F : FnD X k f fd ps sp) (hr : Room k X.A) (hg : Gl X x) (hm : X.mg x = some (.ref f)) (hk : PySem.W.keepIn X.K (.ref f) = true) (hb : Binds X.K fd ps []) (ha : PAd X W (e :: es) ta) (hdb : (x == ("__debug__" : Str)) = false := by decide)
    (he : starEach (e :: es) X.env = (false, eval e X.env) :: starEach es X.env := by rfl) (hpl : (backTo pos (starEach es X.env)).any (·.1) = false := by rfl) : PEd X W (.Call (.Name x q) (e :: es) [] pos) (gCall sp ta) :=
  PEi (pe_call F hr hg hm hk hb .nil passN ha hdb he hpl) fun _ _ _ w => lf_call w
theorem pd_call0 (F : FnD X k f fd ps sp) (hr : Room k X.A) (hg : Gl X x) (hm : X.mg x = some (.ref f)) (hk : PySem.W.keepIn X.K (.ref f) = true) (hb : Binds X.K fd ps []) (hdb : (x == ("__debug__" : Str)) = false := by decide) : PEd X W (.Call (.Name x q) [] [] pos) (gCall sp gNil) :=
  PEi (pe_call0 F hr hg hm hk hb .nil passN hdb) fun _ _ _ w => by
    obtain ⟨Z, G, τ, x, q, S, R, hw, c, cx⟩ := w
    exact lift_ok (σ := []) R .nil hw c fun _ _ _ _ _ _ z => z.elim
theorem pd_callX (tk : L2N.Takes X W) (F : FnD X k f fd ps sp) (hr : Room k X.A) (hg : Gl X x) (hm : X.mg x = some (.ref f)) (hk : PySem.W.keepIn X.K (.ref f) = true) (hb : Binds X.K fd ps []) (ha : PAd X W (e :: es) ta) (hdb : (x == ("__debug__" : Str)) = false := by decide)
    (he : starEach (e :: es) X.env = (false, eval e X.env) :: starEach es X.env := by rfl) (hpl : (backTo pos (starEach es X.env)).any (·.1) = false := by rfl) : PEd X W (.Call (.Name x q) (e :: es) [] pos) (gCallX sp ta) :=
  PEi (pe_callS F hr hg hm hk hb (fun σ => L2N.passAt tk σ) ha hdb he hpl) fun σ H Q w => by
    obtain ⟨Z, G, τ, x, q, S, R, hw, c, cx⟩ := w
    refine ⟨Z, G, τ, x, _, S, R, hw, fun ds G1 H1 vs q1 s1 R1 r1 => ?_, cx⟩
    exact ⟨Z, G1, ds, _, x, r1, R1, Call_e q1, c.step s1, cx.step s1⟩
/-! ### objects -/
@[irreducible] def IsIns (C : Addr) (d : D) (G : GH) (k : List Str → List D → Prop) : Prop := ∃ ks ds, (d = .obj C ks ds ∨ ∃ a, d = .ref a ∧ G a = some (.ins C ks ds)) ∧ k ks ds
theorem IsIns_v {ks : List Str} {ds : List D} {G : GH} {k : List Str → List D → Prop} (h : k ks ds) : IsIns C (.obj C ks ds) G k := by unfold IsIns; exact ⟨ks, ds, .inl rfl, h⟩
theorem IsIns_r {a : Addr} {ks : List Str} {ds : List D} {G : GH} {k : List Str → List D → Prop} (e : G a = some (.ins C ks ds)) (h : k ks ds) : IsIns C (.ref a) G k := by unfold IsIns; exact ⟨ks, ds, .inr ⟨a, rfl, e⟩, h⟩
theorem isIns_e {K : PySem.W.Frag} {Z : ZS} {G : GH} {H : Hp} {d : D} {v : V} {k : List Str → List D → Prop} (R : Rel K Z G H) (r : Rl K Z G H d v) (h : IsIns C d G k) :
    ∃ a dx ks ds xs, v = .ref a ∧ H a = some (.ins C dx (insV ks xs)) ∧ ks.length = xs.length ∧ RlA K Z G H ds xs ∧ k ks ds := by
  unfold IsIns at h
  obtain ⟨ks, ds, rfl | ⟨a, rfl, e⟩, h⟩ := h
  · cases r with
    | obj hx _ _ hl rx => exact ⟨_, _, ks, ds, _, rfl, hx, hl, rx, h⟩
  · obtain ⟨_, dx, xs, hx, hl, rx⟩ := R.ob a _ e
    cases r
    exact ⟨a, dx, ks, ds, xs, rfl, hx, hl, rx, h⟩
theorem lookup_zip {f : Str} : ∀ {ks : List Str} {xs : List V} {i : Nat} {v : V}, ks[i]? = some f → (∀ j, j < i → ks[j]? ≠ some f) → xs[i]? = some v → (insV ks xs).lookup f = some v
  | [], _, _, _, h, _, _ => by simp at h
  | _ :: _, [], _, _, _, _, h => by simp at h
  | k :: ks, y :: xs, 0, v, h, _, hx => by
    have e1 : k = f := Option.some.inj h
    have e2 : y = v := Option.some.inj hx
    subst e1 e2
    simp [insV, List.lookup]
  | k :: ks, y :: xs, i + 1, v, h, n, hx => by
    have nk : k ≠ f := fun e => n 0 (Nat.zero_lt_succ _) (by rw [e]; rfl)
    have ih := lookup_zip (ks := ks) (xs := xs) (i := i) (v := v) (by simpa using h) (fun j hj e => n (j + 1) (Nat.succ_lt_succ hj) (by simpa using e)) (by simpa using hx)
    have e3 : (f == k) = false := by simpa using fun e => nk e.symm
    simp only [insV, List.zip_cons_cons, List.lookup, e3]
    exact ih
theorem lookup_zip_none {f : Str} : ∀ {ks : List Str} {xs : List V}, f ∉ ks → (insV ks xs).lookup f = none
  | [], xs, _ => by cases xs <;> rfl
  | _ :: _, [], _ => rfl
  | k :: ks, y :: xs, h => by
    have e3 : (f == k) = false := by simpa using fun e => h (by rw [e]; exact List.mem_cons_self)
    have ih := lookup_zip_none (ks := ks) (xs := xs) (f := f) fun z => h (List.mem_cons_of_mem _ z)
    simp only [insV, List.zip_cons_cons, List.lookup, e3]
    exact ih
/-- the field f is the i-th of ks -/
def fIx (ks : List Str) (f : Str) (i : Nat) : Bool := decide (ks[i]? = some f) && (List.range i).all fun j => decide (ks[j]? ≠ some f)
theorem fIx_e {ks : List Str} {f : Str} {i : Nat} (h : fIx ks f i = true) : ks[i]? = some f ∧ ∀ j, j < i → ks[j]? ≠ some f := by
  unfold fIx at h
  simp only [Bool.and_eq_true, decide_eq_true_eq, List.all_eq_true, List.mem_range] at h
  exact h
@[irreducible] def Fd (f : Str) (ks : List Str) (ds : List D) (k : D → Prop) : Prop := ∃ i v, fIx ks f i = true ∧ ds[i]? = some v ∧ k v
theorem Fd_i {f : Str} {ks : List Str} {ds : List D} {k : D → Prop} {v : D} (i : Nat) (h1 : fIx ks f i = true) (h2 : ds[i]? = some v) (h : k v) : Fd f ks ds k := by unfold Fd; exact ⟨i, v, h1, h2, h⟩
theorem Fd_e {f : Str} {ks : List Str} {ds : List D} {k : D → Prop} (h : Fd f ks ds k) : ∃ i v, fIx ks f i = true ∧ ds[i]? = some v ∧ k v := by unfold Fd at h; exact h
def gFld (C : Addr) (f : Str) (to : TED) : TED := fun τ G x q => to τ G x fun d G1 => IsIns C d G1 fun ks ds => Fd f ks ds fun v => q v G1
theorem pd_fld (c : Cls X.K C) (n : NoAttr X.K C fl) (he : PEd X W o to) (hb : attributeBase o fl X.env (eval o X.env) = eval o X.env := by rfl) : PEd X W (.Attribute o fl pos) (gFld C fl to) :=
  PEi (pe_fld he hb) fun σ H Q => by
    rintro ⟨Z, G, τ, x, q, S, R, hw, cl, cx⟩
    refine ⟨Z, G, τ, x, _, S, R, hw, fun d G1 H1 v q1 s1 R1 r1 => ?_, cx⟩
    obtain ⟨a, dx, ks, ds, xs, rfl, hx, hl, rx, q1⟩ := isIns_e R1 r1 q1
    obtain ⟨i, u, hi, hu, q1⟩ := Fd_e q1
    obtain ⟨h1, h2⟩ := fIx_e hi
    obtain ⟨y, hy, ry⟩ := rx.get hu
    exact ⟨a, C, dx, _, y, rfl, hx, c, n, lookup_zip h1 h2 hy, cl _ _ _ _ q1 s1 R1 ry⟩
/-- o.f = e -/
def putK (f : Str) : List Str → List Str
  | [] => [f]
  | k :: ks => if k = f then k :: ks else k :: putK f ks
def putX {α : Type} (f : Str) (v : α) : List Str → List α → List α
  | [], _ => [v]
  | k :: ks, [] => [v]
  | k :: ks, x :: xs => if k = f then v :: xs else x :: putX f v ks xs
theorem putF_zip (f : Str) (v : V) : ∀ {ks : List Str} {xs : List V}, ks.length = xs.length → putF f v (insV ks xs) = insV (putK f ks) (putX f v ks xs) ∧ (putK f ks).length = (putX f v ks xs).length
  | [], [], _ => ⟨rfl, rfl⟩
  | k :: ks, x :: xs, h => by
    obtain ⟨h1, h2⟩ := putF_zip f v (ks := ks) (xs := xs) (by simpa using h)
    have hl : ks.length = xs.length := by simpa using h
    by_cases e : k = f
    · constructor
      · show (if k = f then (k, v) :: ks.zip xs else (k, x) :: putF f v (ks.zip xs)) = _
        rw [if_pos e]
        unfold putK putX
        rw [if_pos e, if_pos e]
        rfl
      · unfold putK putX
        rw [if_pos e, if_pos e, List.length_cons, List.length_cons, hl]
    · constructor
      · show (if k = f then (k, v) :: ks.zip xs else (k, x) :: putF f v (ks.zip xs)) = _
        rw [if_neg e]
        unfold putK putX
        rw [if_neg e, if_neg e]
        have h1' : putF f v (ks.zip xs) = insV (putK f ks) (putX f v ks xs) := h1
        rw [h1']
        rfl
      · unfold putK putX
        rw [if_neg e, if_neg e, List.length_cons, List.length_cons, h2]
theorem putX_rl {K : PySem.W.Frag} {Z : ZS} {G : GH} {H : Hp} {f : Str} {d : D} {v : V} (h : Rl K Z G H d v) : ∀ {ks : List Str} {ds : List D} {xs : List V}, ks.length = xs.length → RlA K Z G H ds xs → RlA K Z G H (putX f d ks ds) (putX f v ks xs)
  | [], _, _, _, _ => .cons h .nil
  | k :: ks, _, _, e, .nil => .cons h .nil
  | k :: ks, _, _, e, .cons r t => by
    unfold putX
    by_cases q : k = f
    · rw [if_pos q, if_pos q]
      exact .cons h t
    · rw [if_neg q, if_neg q]
      exact .cons r (putX_rl h (by simpa using e) t)
@[irreducible] def StF (C : Addr) (f : Str) (d v : D) (G : GH) (k : GH → Prop) : Prop := ∃ a ks ds, d = .ref a ∧ G a = some (.ins C ks ds) ∧ ks.length < 1000 ∧ k (gup G a (.ins C (putK f ks) (putX f v ks ds)))
theorem StF_i {f : Str} {a : Addr} {v : D} {G : GH} {k : GH → Prop} {ks : List Str} {ds : List D} (e : G a = some (.ins C ks ds)) (hl : ks.length < 1000) (h : k (gup G a (.ins C (putK f ks) (putX f v ks ds)))) : StF C f (.ref a) v G k := by unfold StF; exact ⟨a, ks, ds, rfl, e, hl, h⟩
def gStF (C : Addr) (f : Str) (to tv : TED) : TSD := fun e τ G => tv τ G (xOf e τ) fun v G1 => to τ G1 (xOf e τ) fun d G2 => StF C f d v G2 fun G3 => e.nx τ G3
theorem psd_fld (c : Cls X.K C) (n : NoAttr X.K C fl) (ho : PEd X W o to) (he : PEd X W e te) (hs : swapsWith e (some (.Attribute o fl pos')) pos.line X.env = pure false := by rfl) : PSd X W (.Assign [.Attribute o fl pos'] e pos) (gStF C fl to te) :=
  PSi (ps_fld ho he hs) fun D' σ H => by
    rintro ⟨Z, G, τ, ed, S, R, h, cd⟩
    refine ⟨Z, G, τ, _, _, S, R, h, fun y G1 H1 yv q1 s1 R1 r1 => ?_, cd.ex.x R S⟩
    have cd1 := cd.step s1
    have S1 := S.mv (s1.mv R)
    refine ⟨Z, G1, τ, _, _, S1, R1, q1, fun d G2 H2 v q2 s2 R2 r2 => ?_, cd1.ex.x R1 S1⟩
    unfold StF at q2
    obtain ⟨a, ks, ds, rfl, ea, hk, q2⟩ := q2
    obtain ⟨_, dx, xs, hx, hl, rx⟩ := R2.ob a _ ea
    cases r2
    obtain ⟨p1, p2⟩ := putF_zip fl yv hl
    refine ⟨a, C, dx, _, rfl, hx, c, n, ?_, ?_⟩
    · unfold insV
      rw [List.length_zip, ← hl]
      omega
    · rw [p1]
      have s3 := step_set (u := .ins C dx (insV (putK fl ks) (putX fl yv ks xs))) (o' := .ins C (putK fl ks) (putX fl y ks ds)) R2 ea
      have rr := (putX_rl (f := fl) (r1.mv (s2.mv R1)) hl rx).mv (s3.mv R2)
      exact (cd1.step s2).nx _ _ _ _ q2 s3 (rel_set R2 ea ⟨dx, _, upd_same, p2, rr⟩) (S1.mv ((s2.trans s3).mv R1))
/-- o.m(..) -/
def gMeth (C : Addr) (m : Str) (sp : SpD) (to : TED) (ta : TAD) : TED := fun τ G x q => to τ G x fun d G1 => Sd (IsIns C d G1 fun ks _ => m ∉ ks) (ta τ G1 x fun ds G2 => Call sp (d :: ds) G2 q X0)
theorem pd_meth {pl : Sem Bool} (c : Cls X.K C) (hm : Meth X.K C m f) (F : FnD X k f fd ps sp) (hr : Room k X.A) (hb : Binds X.K fd ps []) (ho : PEd X W o to) (ha : PAd X W (e :: es) ta)
    (hst : starEach (e :: es) X.env = (false, eval e X.env) :: starEach es X.env := by rfl) (hpl : (backTo pos (starEach es X.env)).any (·.1) = false := by rfl)
    (ht : eval (.Call (.Attribute o m apos) (e :: es) [] pos) X.env = (do
      let ov ← eval o X.env
      standAt apos.atName
      let (f, first) ← holding [ov] (getMethod ov m pl)
      callWith pos f first (backTo pos (starEach (e :: es) X.env)) (backToKw pos (keywordEach [] X.env))) := by rfl) :
    PEd X W (.Call (.Attribute o m apos) (e :: es) [] pos) (gMeth C m sp to ta) := PEi (pe_meth ho c hm F hr hb .nil passN ha hst hpl ht) fun σ H Q => by
  rintro ⟨Z, G, τ, x, q, S, R, hw, cl, cx⟩
  refine ⟨Z, G, τ, x, _, S, R, hw, fun d G1 H1 v q1 s1 R1 r1 => ?_, cx⟩
  obtain ⟨i1, q1⟩ := Sd_e q1
  obtain ⟨a, dx, ks, ds, xs, rfl, hx, hl, rx, nm⟩ := isIns_e R1 r1 i1
  refine ⟨a, dx, _, rfl, hx, lookup_zip_none nm, Z, G1, τ, x, _, S.mv (s1.mv R), R1, q1, fun es G2 H2 vs q2 s2 R2 r2 => ?_, cx.step s1⟩
  show liftSp X.K sp (V.ref a :: (vs ++ [])) H2 Q E0
  rw [List.append_nil]
  exact lift_ok (σ := []) R2 (.cons (r1.mv (s2.mv R1)) r2) q2 (cl.step (s1.trans s2)) fun _ _ _ _ _ _ z => z.elim
def gMeth0 (C : Addr) (m : Str) (sp : SpD) (to : TED) : TED := fun τ G x q => to τ G x fun d G1 => Sd (IsIns C d G1 fun ks _ => m ∉ ks) (Call sp [d] G1 q X0)
theorem pd_meth0 {pl : Sem Bool} (c : Cls X.K C) (hm : Meth X.K C m f) (F : FnD X k f fd ps sp) (hr : Room k X.A) (hb : Binds X.K fd ps []) (ho : PEd X W o to)
    (ht : eval (.Call (.Attribute o m apos) [] [] pos) X.env = (do
      let ov ← eval o X.env
      standAt apos.atName
      let (f, first) ← holding [ov] (getMethod ov m pl)
      callWith pos f first (backTo pos (starEach [] X.env)) (backToKw pos (keywordEach [] X.env))) := by rfl) :
    PEd X W (.Call (.Attribute o m apos) [] [] pos) (gMeth0 C m sp to) := PEi (pe_meth0 ho c hm F hr hb .nil passN ht) fun σ H Q => by
  rintro ⟨Z, G, τ, x, q, S, R, hw, cl, cx⟩
  refine ⟨Z, G, τ, x, _, S, R, hw, fun d G1 H1 v q1 s1 R1 r1 => ?_, cx⟩
  obtain ⟨i1, q1⟩ := Sd_e q1
  obtain ⟨a, dx, ks, ds, xs, rfl, hx, hl, rx, nm⟩ := isIns_e R1 r1 i1
  refine ⟨a, dx, _, rfl, hx, lookup_zip_none nm, ?_⟩
  exact lift_ok (σ := []) R1 (.cons r1 .nil) q1 (cl.step s1) fun _ _ _ _ _ _ z => z.elim
/-- o.p, a property -/
def gProp (C : Addr) (sp : SpD) (to : TED) : TED := fun τ G x q => to τ G x fun d G1 => Sd (IsIns C d G1 fun _ _ => True) (Call sp [d] G1 q X0)
theorem pd_prop {p : Addr} (c : Cls X.K C) (hp : PropOf X.K C fl p g) (F : FnD X k g fd ps sp) (hr : Room (k + 1) X.A) (hb : Binds X.K fd ps []) (ho : PEd X W o to) (hab : attributeBase o fl X.env (eval o X.env) = eval o X.env := by rfl) :
    PEd X W (.Attribute o fl pos) (gProp C sp to) := PEi (pe_prop ho c hp F hr hb .nil passN hab) fun σ H Q => by
  rintro ⟨Z, G, τ, x, q, S, R, hw, cl, cx⟩
  refine ⟨Z, G, τ, x, _, S, R, hw, fun d G1 H1 v q1 s1 R1 r1 => ?_, cx⟩
  obtain ⟨i1, q1⟩ := Sd_e q1
  obtain ⟨a, dx, ks, ds, xs, rfl, hx, hl, rx, _⟩ := isIns_e R1 r1 i1
  refine ⟨a, dx, _, rfl, hx, ?_⟩
  exact lift_ok (σ := []) R1 (.cons r1 .nil) q1 (cl.step s1) fun _ _ _ _ _ _ z => z.elim
/-- C(..): a new object; it may be kept as a value -/
@[irreducible] def NewO (C : Addr) (sp : SpD) (ds : List D) (G : GH) (q : QD) : Prop := ∀ p, G p = none → Call sp (.ref p :: ds) (gup G p (.ins C [] [])) (fun d G2 => d = .non ∧ Ret (.ref p) G2 q) X0
theorem NewO_i {sp : SpD} {ds : List D} {G : GH} {q : QD} (h : ∀ p, G p = none → Call sp (.ref p :: ds) (gup G p (.ins C [] [])) (fun d G2 => d = .non ∧ Ret (.ref p) G2 q) X0) : NewO C sp ds G q := by unfold NewO; exact h
theorem newO_ok {K : PySem.W.Frag} {Z : ZS} {G : GH} {H : Hp} {ds : List D} {vs : List V} {q : QD} {Q : VK} (R : Rel K Z G H) (r : RlA K Z G H ds vs) (h : NewO C sp ds G q) (c : ClE K Z G H q Q) (y dx : Addr) (hy : H y = none) (hdx : H dx = none) (ne : dx ≠ y) :
    liftSp K sp (.ref y :: vs) (upd (upd H dx (.own y)) y (.ins C dx [])) (fun v H2 => v = .non ∧ Q (.ref y) H2) E0 := by
  unfold NewO at h
  have h1 := Call_e (h y (R.fresh hy))
  have sA := step_new (u := .own y) R hdx
  have RA := rel_new (u := .own y) R hdx
  have hy' : upd H dx (.own y) y = none := by rw [upd_ne (Ne.symm ne)]; exact hy
  have sB := step_newG (u := .ins C dx []) (o := .ins C [] []) RA hy'
  have RB := rel_newG (u := .ins C dx []) (o := .ins C [] []) RA hy' ⟨dx, [], upd_same, rfl, .nil⟩
  have sAB := sA.trans sB
  refine ⟨Z, _, _, _, X0, .cons (.ref y) (r.mv (sAB.mv R)), RB, h1, fun d G' H' v hq s' R' r' => ?_, fun _ _ _ _ _ _ z => z.elim⟩
  obtain ⟨rfl, hq⟩ := hq
  cases r'
  exact ⟨rfl, ret_ok R' (.ref y) hq (c.step (sAB.trans s'))⟩
def gMake (C : Addr) (sp : SpD) (ta : TAD) : TED := fun τ G x q => ta τ G x fun ds G1 => NewO C sp ds G1 q
theorem pd_make (M : Mk X.K C f) (F : FnD X k f fd ps sp) (hr : Room (k + 1) X.A) (hg : Gl X x) (hm : X.mg x = some (.ref C)) (hb : Binds X.K fd ps []) (ha : PAd X W (e :: es) ta) (hdb : (x == ("__debug__" : Str)) = false := by decide)
    (he : starEach (e :: es) X.env = (false, eval e X.env) :: starEach es X.env := by rfl) (hpl : (backTo pos (starEach es X.env)).any (·.1) = false := by rfl) : PEd X W (.Call (.Name x q) (e :: es) [] pos) (gMake C sp ta) :=
  PEi (pe_make M F hr hg hm hb .nil passN ha hdb he hpl) fun σ H Q => by
    rintro ⟨Z, G, τ, x, q, S, R, hw, cl, cx⟩
    refine ⟨Z, G, τ, x, _, S, R, hw, fun ds G1 H1 vs q1 s1 R1 r1 => ?_, cx⟩
    intro y dx hy hdx ne
    rw [List.append_nil]
    exact newO_ok R1 r1 q1 (cl.step s1) y dx hy hdx ne
theorem pd_make0 (M : Mk X.K C f) (F : FnD X k f fd ps sp) (hr : Room (k + 1) X.A) (hg : Gl X x) (hm : X.mg x = some (.ref C)) (hb : Binds X.K fd ps []) (hdb : (x == ("__debug__" : Str)) = false := by decide) : PEd X W (.Call (.Name x q) [] [] pos) (gMake C sp gNil) :=
  PEi (pe_make0 M F hr hg hm hb .nil passN hdb) fun σ H Q => by
    rintro ⟨Z, G, τ, x, q, S, R, hw, cl, cx⟩
    intro y dx hy hdx ne
    exact newO_ok R .nil hw cl y dx hy hdx ne
end
end N
namespace N
open PySem PySem.Spec PyProof.Rows L2
theorem PEm {X : Cx} {W : WX} {e : Expr} {t u : TED} (h : PEd X W e t) (i : ∀ τ G x q, u τ G x q → t τ G x q) : PEd X W e u := PEi h fun σ H Q => by
  rintro ⟨Z, G, τ, x, q, S, R, hw, c, cx⟩
  exact ⟨Z, G, τ, x, q, S, R, i _ _ _ _ hw, c, cx⟩
/-! ### isinstance of built-in classes -/
inductive Ty where | bl | int | str | tup | lst
def Ty.nm : Ty → String
  | .bl => "bool" | .int => "int" | .str => "str" | .tup => "tuple" | .lst => "list"
def isT : Option Ty → Ty → Bool
  | some .bl, .bl => true
  | some .bl, .int => true
  | some .int, .int => true
  | some .str, .str => true
  | some .tup, .tup => true
  | some .lst, .lst => true
  | _, _ => false
def onm : Option Ty → String
  | none => "NoneType"
  | some t => t.nm
theorem kit_isT : ∀ (t : Option Ty) (T : Ty), kitB (onm t) T.nm = some (isT t T) := by
  intro t T
  cases t with
  | none => cases T <;> decide +kernel
  | some t => cases t <;> cases T <;> decide +kernel
/-- the built-in class of a value (none: None's) -/
def TyD (d : D) (G : GH) (k : Option Ty → Prop) : Prop := match d with
  | .non => k none
  | .bl _ => k (some .bl)
  | .int _ => k (some .int)
  | .str _ => k (some .str)
  | .tup _ => k (some .tup)
  | .lst _ => k (some .lst)
  | .ro _ => k (some .lst)
  | .ref a => LkL a G fun _ => k (some .lst)
  | _ => False
theorem tyD_e {K : PySem.W.Frag} {Z : ZS} {G : GH} {H : Hp} {d : D} {v : V} {k : Option Ty → Prop} (R : Rel K Z G H) (r : Rl K Z G H d v) (h : TyD d G k) : ∃ t, TyX K H v (.type (onm t)) ∧ k t := by
  cases d with
  | non => cases r; exact ⟨none, .base .non, h⟩
  | bl b => cases r; exact ⟨some .bl, .base (.bl b), h⟩
  | int i => cases r; exact ⟨some .int, .base (.int i), h⟩
  | str s => cases r; exact ⟨some .str, .base (.str s), h⟩
  | tup ds => cases r with
    | tup hx _ =>
      refine ⟨some .tup, ?_, h⟩
      rcases hx with (hx | ⟨o, hx⟩) | ⟨o, its, n, hk, hc, _⟩
      · exact .base (.tup hx)
      · exact .fTuple hx
      · exact .kTuple hk hc
  | lst ds => cases r with
    | lst hx _ _ _ => exact ⟨some .lst, .base (.lst hx), h⟩
  | ro ds => cases r with
    | ro hx _ =>
      refine ⟨some .lst, ?_, h⟩
      rcases hx with ⟨o, hx⟩ | ⟨o, its, n, hk, hc, _⟩
      · exact .base (.frz hx)
      · exact .kList hk hc
  | ref a =>
    obtain ⟨ds, e, h⟩ := LkL_e h
    obtain ⟨_, xs, hx, _⟩ := R.ob a _ e
    cases r
    exact ⟨some .lst, .base (.lst hx), h⟩
  | _ => exact (show False from h).elim
def gIsi (T : Ty) (te : TED) : TED := fun τ G x q => te τ G x fun d G1 => TyD d G1 fun t => q (.bl (isT t T)) G1
def tTys : List Ty → TA
  | [] => tNil
  | t :: ts => tCons (tC (.ty t.nm)) (tTys ts)
def gIsiT (Ts : List Ty) (te : TED) : TED := fun τ G x q => te τ G x fun d G1 => TyD d G1 fun t => q (.bl (Ts.any fun T => isT t T)) G1
theorem tTys_run (σ : L2.St) (H : Hp) (Q : List V → Hp → Prop) : ∀ Ts : List Ty, Q (Ts.map fun t => .ty t.nm) H → tTys Ts σ H Q := by
  intro Ts
  induction Ts generalizing Q with
  | nil => exact fun h => h
  | cons t ts ih => exact fun h => ih (fun xs H => Q (.ty t.nm :: xs) H) h
theorem kitAny_tys {K : PySem.W.Frag} {t : Option Ty} : ∀ Ts : List Ty, PySem.W.kitAny K (.type (onm t)) (Ts.map fun T => .type T.nm) = some (Ts.any fun T => isT t T)
  | [] => kitAny_nil
  | T :: Ts => by
    rw [List.map_cons, List.any_cons]
    refine kitAny_cons (kit_ty (kit_isT t T)) (fun e => ?_) fun e => by rw [e]; rfl
    rw [e, Bool.false_or]
    exact kitAny_tys Ts
theorem cls_tys : ∀ Ts : List Ty, Paired ClsV (Ts.map fun T => V.ty T.nm) (Ts.map fun T => Value.type T.nm)
  | [] => .nil
  | T :: Ts => .cons (.ty _) (cls_tys Ts)
section
variable {X : Cx} {W : WX} {a b e c2 : Expr} {te ta tb : TED} {p pos : Pos}
theorem pd_isi {T : Ty} (hm : X.mg "isinstance" = none) (hg : Gl X "isinstance") (he : PEd X W e te) (hc : PE X c2 (tC (.ty T.nm)))
    (hs : starEach [e, c2] X.env = (false, eval e X.env) :: starEach [c2] X.env := by rfl) (hs2 : starEach [c2] X.env = (false, eval c2 X.env) :: starEach [] X.env := by rfl)
    (hpl : (backTo pos (starEach [c2] X.env)).any (·.1) = false := by rfl) : PEd X W (.Call (.Name "isinstance" p) [e, c2] [] pos) (gIsi T te) :=
  PEi (pe_callB call_isi hg hm (by decide +kernel) (pa_cons he (pa_cons hc pa_nil hs2) hs) (by decide) (by decide) hs hpl) fun σ H Q => by
    rintro ⟨Z, G, τ, x, q, S, R, h, c, cx⟩
    refine ⟨Z, G, τ, x, _, S, R, h, fun d G1 H1 v q1 s1 R1 r1 => ?_, cx⟩
    obtain ⟨t, ht, q1⟩ := tyD_e R1 r1 q1
    exact ⟨v, .ty T.nm, _, _, _, rfl, .ty _, ht, kit_ty (kit_isT t T), c _ _ _ _ q1 s1 R1 (.bl _)⟩
theorem pd_isiT {es : List Expr} {k : Nat} {p2 : Pos} (Ts : List Ty) (hl : Ts.length ≤ 100) (hm : X.mg "isinstance" = none) (hg : Gl X "isinstance") (he : PEd X W e te) (hc : PA X es (tTys Ts))
    (hs : starEach [e, .Tuple es k p2] X.env = (false, eval e X.env) :: starEach [.Tuple es k p2] X.env := by rfl) (hs2 : starEach [.Tuple es k p2] X.env = (false, eval (.Tuple es k p2) X.env) :: starEach [] X.env := by rfl)
    (hpl : (backTo pos (starEach [.Tuple es k p2] X.env)).any (·.1) = false := by rfl) : PEd X W (.Call (.Name "isinstance" p) [e, .Tuple es k p2] [] pos) (gIsiT Ts te) :=
  PEi (pe_callB call_isiT hg hm (by decide +kernel) (pa_cons he (pa_cons (pe_tup hc) pa_nil hs2) hs) (by decide) (by decide) hs hpl) fun σ H Q => by
    rintro ⟨Z, G, τ, x, q, S, R, h, c, cx⟩
    refine ⟨Z, G, τ, x, _, S, R, h, fun d G1 H1 v q1 s1 R1 r1 => ?_, cx⟩
    refine tTys_run σ H1 _ Ts ⟨by rw [List.length_map]; exact Nat.le_trans hl (by decide), fun p hp => ?_⟩
    have s2 := step_new (u := HO.tup (Ts.map fun T => V.ty T.nm)) R1 hp
    obtain ⟨t, ht, q1⟩ := tyD_e (rel_new (u := HO.tup (Ts.map fun T => V.ty T.nm)) R1 hp) (r1.mv (s2.mv R1)) q1
    exact ⟨v, p, _, _, _, _, rfl, upd_same, cls_tys Ts, ht, kitAny_tys Ts, c _ _ _ _ q1 (s1.trans s2) (rel_new R1 hp) (.bl _)⟩
theorem pe_ty {x : Str} {n : String} (hg : Gl X x) (hm : X.mg x = none) (hv : bootBuiltins x = some (.type n)) (hn : x ≠ "__name__" := by decide) (hd : (x == ("__debug__" : Str)) = false := by decide) : PE X (.Name x pos) (tC (.ty n)) := pe_bltn hg hm hv rfl hn hd
/-! ### - of a number, chains -/
def gNeg (t : TED) : TED := fun τ G x q => t τ G x fun d G1 => I1 d fun i => q (.int (-i)) G1
theorem pd_neg (he : PEd X W e te) : PEd X W (.UnaryOp .USub e pos) (gNeg te) := PEi (pe_un un_neg he) fun σ H Q => by
  rintro ⟨Z, G, τ, x, q, S, R, h, c, cx⟩
  refine ⟨Z, G, τ, x, _, S, R, h, fun d G1 H1 v q1 s1 R1 r1 => ?_, cx⟩
  obtain ⟨i, rfl, rfl, q1⟩ := I1_e r1 q1
  exact ⟨i, rfl, c _ _ _ _ q1 s1 R1 (.int _)⟩
/-- a op b op' c -/
def gChain (t t' : R2D) (ta tb tc : TED) : TED := fun τ G x q => ta τ G x fun d G1 => tb τ G1 x fun e G2 => t d e G2 fun z G3 => match z with
  | .bl k => Cond k (tc τ G3 x fun f G4 => t' e f G4 q) (q (.bl false) G3)
  | _ => False
theorem lf_chain {K : PySem.W.Frag} {r r' : R2} {t t' : R2D} {tc : TED} (h : R2Ok K r t) (h' : R2Ok K r' t') {σ : L2.St} {H : Hp} {Q : VK} (w : Lf K W (gChain t t' ta tb tc) σ H Q) : tChain r r' (Lf K W ta) (Lf K W tb) (Lf K W tc) σ H Q := by
  obtain ⟨Z, G, τ, x, q, S, R, hw, c, cx⟩ := w
  refine ⟨Z, G, τ, x, _, S, R, hw, fun d G1 H1 v q1 s1 R1 r1 => ?_, cx⟩
  refine ⟨Z, G1, τ, x, _, S.mv (s1.mv R), R1, q1, fun e G2 H2 u q2 s2 R2 r2 => ?_, cx.step s1⟩
  have s12 := s1.trans s2
  refine h Z G2 H2 d e v u _ _ R2 (r1.mv (s2.mv R1)) r2 q2 fun z G3 H3 w q3 s3 R3 r3 => ?_
  have s13 := s12.trans s3
  cases z with
  | bl k =>
    cases r3
    refine ⟨k, rfl, ?_⟩
    have q3 := Cond_e q3
    cases k with
    | true =>
      refine ⟨Z, G3, τ, x, _, S.mv (s13.mv R), R3, q3, fun f G4 H4 y q4 s4 R4 r4 => ?_, cx.step s13⟩
      exact h' Z G4 H4 e f u y q Q R4 (r2.mv ((s3.trans s4).mv R2)) r4 q4 (c.step (s13.trans s4))
    | false => exact c _ _ _ _ q3 s13 R3 (.bl false)
  | _ => exact (show False from q3).elim
variable {c3 : Expr} {tc : TED}
theorem pd_chain {op op' : CmpOp} {r r' : R2} {t t' : R2D} (ho : OpR X (compareOp op) r) (ho' : OpR X (compareOp op') r') (h : R2Ok X.K r t) (h' : R2Ok X.K r' t') (ha : PEd X W a ta) (hb : PEd X W b tb) (hc : PEd X W c3 tc)
    (hm : lastMarks [op, op'] [b, c3] = false := by with_unfolding_all rfl) : PEd X W (.Compare a [op, op'] [b, c3] pos) (gChain t t' ta tb tc) := PEi (pe_chain ho ho' ha hb hc hm) fun _ _ _ w => lf_chain h h' w
theorem pt_chain {op op' : CmpOp} {r r' : R2} {t t' : R2D} (ho : OpR X (compareOp op) r) (ho' : OpR X (compareOp op') r') (h : R2Ok X.K r t) (h' : R2Ok X.K r' t') (ha : PEd X W a ta) (hb : PEd X W b tb) (hc : PEd X W c3 tc)
    (hm : lastMarks [op, op'] [b, c3] = false := by with_unfolding_all rfl) : PTd X W (.Compare a [op, op'] [b, c3] pos) (gTst (gChain t t' ta tb tc)) := PTi (L2.pt_chain ho ho' ha hb hc hm) fun σ H Q w => lf_tst (fun _ _ _ z => lf_chain h h' z) w
end
end N
namespace N
open PySem PySem.Spec PyProof.Rows L2
/-! ### enumerate(tuple), enumerate(text) -/
theorem meets_enum1 {v : Value} {o : Obj} {H : Heap → Prop} (B : Begins v o H) :
    Meets (Builtin.«enumerate.__new__» ⟨[.type "enumerate", v], []⟩) (fun _ R s => H s.heap ∧
      R (.ok (.ret (.ref (s.heap.push o).objs.size))) { s with heap := (s.heap.push o).push { cls := .type "enumerate", data := .fields #[.none, .bool false, .ref s.heap.objs.size, rawInt 0, .none, .none] } }) :=
  .of_wp fun prog w A R s h => by
    obtain ⟨hp, g, d, tk, os⟩ := s; obtain ⟨h1, h⟩ := h
    have hsub := sub_enumerate
    have q1 : ∀ {A' : Around} {E : Value → Shared → Prop} {Q : Value → Shared → Prop}, Q (.ref hp.objs.size) ⟨hp.push o, g, d, tk, os⟩ → wpAny (model prog w) A' (pyIter v) Q E ⟨hp, g, d, tk, os⟩ :=
      fun q => B.iter prog w _ _ ⟨hp, g, d, tk, os⟩ _ h1 q
    wp_walk using q1
    refine wpAny_stack_any fun st => wpAny_pure ?_
    split
    · rename_i c _ _ _ _ _
      cases (c == Value.type "enumerate")
      · wp_walk using q1
        exact ⟨_, rfl, h⟩
      · wp_walk using q1
        exact ⟨_, rfl, h⟩
    · wp_walk using q1
      exact ⟨_, rfl, h⟩
theorem call_enum1 {prog : Program} {w : World} {A : Around} {E : Value → Shared → Prop} {s : Shared} {v : Value} {o : Obj} {H : Heap → Prop} {Q : Value → Shared → Prop} (B : Begins v o H) (h1 : H s.heap)
    (h : ∀ h', IsEnum h' (s.heap.objs.size + 1) s.heap.objs.size 0 .none → h'.get? s.heap.objs.size = some o → h'.objs.size = s.heap.objs.size + 2 →
      (∀ b o, s.heap.get? b = some o → h'.get? b = some o) → Q (.ref (s.heap.objs.size + 1)) { s with heap := h' }) :
    wpAny (model prog w) A (call (.type "enumerate") [v]) Q E s := by
  refine callType_new F.called_enumerate (by decide) (F.typeCall_enumerate_1 _) (F.newCall_enumerate_1 _) (fun obj => F.args_object_init_2 obj _) F.entry_enumerate_new (meets_enum1 B) ⟨h1, ?_⟩
  have hz : (s.heap.push o).objs.size = s.heap.objs.size + 1 := Heap.size_push ..
  show _ ∧ _
  rw [hz]
  have he : IsEnum ((s.heap.push o).push { cls := .type "enumerate", data := .fields #[.none, .bool false, .ref s.heap.objs.size, rawInt 0, .none, .none] }) (s.heap.objs.size + 1) s.heap.objs.size 0 .none := by
    have := Heap.get?_push_size (s.heap.push o) (o := { cls := .type "enumerate", data := .fields #[.none, .bool false, .ref s.heap.objs.size, rawInt 0, .none, .none] }) rfl
    rw [hz] at this; exact this
  refine ⟨⟨_, he, rfl⟩, h _ he (Heap.get?_push_of_some _ (Heap.get?_push_size _ B.free)) (by rw [Heap.size_push, hz]) fun b o x => Heap.get?_push_of_some _ (Heap.get?_push_of_some _ x)⟩
/-- the tuple at a, each item in a new pair -/
def IteT (K : PySem.W.Frag) (a : Addr) : It :=
  ⟨fun i H => ∃ (xs : List V) (x : V), SqT K H a xs ∧ xs[i]? = some x, fun i H v H' => ∃ T x, v = .ref T ∧ H T = none ∧ H' = upd H T (.tup [.int (i : Nat), x]) ∧ ∀ xs, SqT K H a xs → xs[i]? = some x, fun i H => ∃ xs : List V, SqT K H a xs ∧ xs.length = i⟩
theorem vals_getV : ∀ {xs : List V} {us : List Value} {i : Nat} {u : Value}, Vals xs us → us[i]? = some u → ∃ x, xs[i]? = some x ∧ RelV x u
  | _, _, _, _, .nil, e => by simp at e
  | _, _, 0, _, .cons h _, e => by
    simp at e
    subst e
    exact ⟨_, rfl, h⟩
  | _, _, i + 1, u, .cons _ t, e => by
    obtain ⟨x, h1, h2⟩ := vals_getV (i := i) t (by simpa using e)
    exact ⟨x, by simpa using h1, h2⟩
theorem enum_item {X : Cx} {pins : List (Addr × Obj)} {s : Shared} {σ : L2.St} {H : Hp} {E : Value → Shared → Prop} {elts : List Expr} {kk i n : Nat} {tpos : Pos} {e it : Addr} {fp : List Addr} {Pv : Nat → Value → Prop} {St : Nat → Heap → Prop} {Y : V → Hp → Prop}
    (D : Draws X.prog X.w X.A.in1 it fp n Pv St) (hef : e ∉ fp) (I : Inv X pins σ H s) (hf : ∀ b ∈ [e, it], FpOk X pins H b) (he : ∃ old, IsEnum s.heap e it ((i : Nat) : Int) old) (hit : St i s.heap) (hne : e ≠ it) (hlt : i < n)
    (pv : ∀ u, Pv i u → ∃ x, RelV x u ∧ ∀ T, H T = none → Y (.ref T) (upd H T (.tup [.int (i : Nat), x]))) :
    wpAny (model X.prog X.w) X.A (pyNext (.ref e)) (fun r s1 => ∃ u, r = some u ∧ wpAny (model X.prog X.w) X.A (letOwnedTupleGo (.Tuple elts kk tpos) (.ref e) u) (fun _ s2 => ∃ x H', Inv X pins σ H' s2 ∧ RelV x u ∧ Y x H' ∧ ((∃ old, IsEnum s2.heap e it ((i + 1 : Nat) : Int) old) ∧ St (i + 1) s2.heap) ∧ ∀ b ∈ [e, it], H' b = none) E s1) E s := by
  obtain ⟨old, he⟩ := he
  have hel : e < s.heap.objs.size := Heap.lt_size he
  have hil : it < s.heap.objs.size := by obtain ⟨_, q⟩ := D.live _ _ hit; exact Heap.lt_size q
  refine wpAny_pyNext_enum_itemD D he hit hlt hne hef fun u h' tk hP ho hit' hT hsz hk => ?_
  obtain ⟨x, ru, hY⟩ := pv u hP
  refine ⟨_, rfl, wpAny_letOwnedTupleGo_enum (s := { s with heap := h', toks := tk + 1 }) ho fun h'' he' sb => ?_⟩
  have hT2 : h''.get? s.heap.objs.size = some { cls := .type "tuple", data := .seq #[.int i tk, u] } := (sb.2 _ (Nat.ne_of_gt hel)).trans hT
  have new : ObjOk X.prog X.w (upd H s.heap.objs.size (.tup [.int (i : Nat), x])) h'' s.heap.objs.size (.tup [.int (i : Nat), x]) :=
    ⟨by show 2 ≤ sizeLine; decide, [.int i tk, u], .cons ⟨_, rfl⟩ (.cons ru .nil), ⟨_, hT2, rfl, _, rfl⟩⟩
  have I1 : Inv X pins σ (upd H s.heap.objs.size (.tup [.int (i : Nat), x])) { s with heap := h'', toks := tk + 1 } :=
    I.turnedNew (ch := [e, it]) (fun b ob hb q => (sb.2 b (fun z => hb (by simp [z]))).trans (hk b ob (fun z => hb (by simp [z])) (fun z => hb (by simp [z])) q)) hf (Nat.le_refl _) new
  refine ⟨.ref s.heap.objs.size, _, I1, rfl, hY _ (I.hok.fresh (Nat.le_refl _)), ⟨⟨u, ?_⟩, D.frame _ _ _ hit' fun b hb o q => (sb.2 b fun z => hef (z ▸ hb)).trans q⟩, fun b hb => ?_⟩
  · have e1 : ((i + 1 : Nat) : Int) = (i : Int) + 1 := by omega
    rw [e1]; exact he'
  · have hb' : b < s.heap.objs.size := by
      have e' : b = e ∨ b = it := by simpa using hb
      rcases e' with z | z
      · rw [z]; exact hel
      · rw [z]; exact hil
    rw [upd_ne (Nat.ne_of_lt hb')]
    exact (hf b hb).1
theorem turn_enumT {P : Program} {w : World} {K : PySem.W.Frag} {elts : List Expr} {kk : Nat} {tpos : Pos} (a e it : Addr) :
    Turn P w K (.Tuple elts kk tpos) (IteT K a) [e, it] e (fun i h => (∃ old, IsEnum h e it ((i : Nat) : Int) old) ∧ h.IsTupleIter it a i ∧ e ≠ it ∧ e ≠ a ∧ a ≠ it) where
  mem := by simp
  obj := fun i h st b hb => by
    obtain ⟨⟨old, he⟩, ⟨o, ho, hc, hd⟩, _⟩ := st
    have e' : b = e ∨ b = it := by simpa using hb
    rcases e' with z | z
    · rw [z]; exact ⟨_, he, fun v q => nomatch q⟩
    · rw [z]; exact ⟨o, ho, fun v q => by rw [hd] at q; cases q⟩
  keep := fun i h h' st k => let ⟨⟨old, he⟩, hi, hne⟩ := st; ⟨⟨old, k e (by simp) _ he⟩, hi.at fun o q => k it (by simp) o q, hne⟩
  item := by
    intro X hP hw hK hc i pins s σ H E I hf st hg
    subst hP hw hK
    obtain ⟨he, hit, hne, hea, hai⟩ := st
    obtain ⟨xs, x, hq, hx⟩ := hg
    obtain ⟨its, rv, p, hz⟩ := I.tuple hq
    have D := Draws.tuple (prog := X.prog) (w := X.w) (A := X.A.in1) (I.ok.hd hc) it a hai its.toArray
    refine wpAny_mono (enum_item (elts := elts) (kk := kk) (tpos := tpos) (Y := fun v H' => ∃ T x, v = .ref T ∧ H T = none ∧ H' = upd H T (.tup [.int (i : Nat), x]) ∧ ∀ xs, SqT X.K H a xs → xs[i]? = some x) D (by simp; exact ⟨hne, hea⟩) I hf he ⟨hit, p⟩ hne (by
      have := (List.getElem?_eq_some_iff.mp hx).1
      rw [rv.length] at this
      simpa using this) fun u hu => ?_) ?_ fun _ _ z => z
    · obtain ⟨y, hy, ry⟩ := vals_getV rv (u := u) (by simpa using hu)
      exact ⟨y, ry, fun T hT => ⟨T, y, rfl, hT, rfl, fun ys hy' => by rw [I.tuple_inj hy' hq]; exact hy⟩⟩
    · rintro r s1 ⟨u, rfl, h⟩
      refine ⟨u, rfl, wpAny_mono h ?_ fun _ _ z => z⟩
      rintro _ s2 ⟨x, H', I2, r2, hy, ⟨he2, hit2, _⟩, fp2⟩
      exact ⟨x, H', I2, r2, hy, ⟨he2, hit2, hne, hea, hai⟩, fp2⟩
  done := by
    intro X hP hw hK hc i pins s σ H E I hf st hg
    subst hP hw hK
    obtain ⟨⟨old, he⟩, hit, hne, hea, hai⟩ := st
    obtain ⟨xs, hq, hx⟩ := hg
    obtain ⟨its, rv, p, hz⟩ := I.tuple hq
    obtain ⟨f0, f1, f2, f3, f4, f5⟩ := hf it (by simp)
    have hl := rv.length
    have D := Draws.tuple (prog := X.prog) (w := X.w) (A := X.A.in1) (I.ok.hd hc) it a hai its.toArray
    exact wpAny_pyNext_enum_endD D he (i := ((i : Nat) : Int)) ⟨by rw [List.size_toArray, ← hl, hx]; exact hit, p⟩ fun h' eb => ⟨rfl, I.turned (t' := s.toks) (fun b o hb q => eb b o hb q) f0 f1 f3 f4 f5⟩
  self := fun A i s Q E st h => let ⟨⟨_, he⟩, _⟩ := st; wpAny_pyIter_enum he h
/-- a text, each sign in a new pair -/
def IteS (z : Str) : It :=
  ⟨fun i _ => i < z.cps.size, fun i H v H' => ∃ T c, v = .ref T ∧ H T = none ∧ H' = upd H T (.tup [.int (i : Nat), .str ⟨#[c]⟩]) ∧ z.cps[i]? = some c, fun i _ => i = z.cps.size⟩
theorem turn_enumS {P : Program} {w : World} {K : PySem.W.Frag} {elts : List Expr} {kk : Nat} {tpos : Pos} (z : Str) (t : Tok) (e it : Addr) :
    Turn P w K (.Tuple elts kk tpos) (IteS z) [e, it] e (fun i h => (∃ old, IsEnum h e it ((i : Nat) : Int) old) ∧ h.IsStrIter it (strIterType z) z t i ∧ e ≠ it) where
  mem := by simp
  obj := fun i h st b hb => by
    obtain ⟨⟨old, he⟩, ⟨o, ho, hc, hd⟩, _⟩ := st
    have e' : b = e ∨ b = it := by simpa using hb
    rcases e' with z | z
    · rw [z]; exact ⟨_, he, fun v q => nomatch q⟩
    · rw [z]; exact ⟨o, ho, fun v q => by rw [hd] at q; cases q⟩
  keep := fun i h h' st k => let ⟨⟨old, he⟩, ⟨o, ho, r⟩, hne⟩ := st; ⟨⟨old, k e (by simp) _ he⟩, ⟨o, k it (by simp) _ ho, r⟩, hne⟩
  item := by
    intro X hP hw hK hc i pins s σ H E I hf st hg
    subst hP hw hK
    obtain ⟨he, hit, hne⟩ := st
    have D := Draws.text (prog := X.prog) (w := X.w) (A := X.A.in1) (I.ok.hd hc) it z t
    refine wpAny_mono (enum_item (elts := elts) (kk := kk) (tpos := tpos) (Y := fun v H' => ∃ T c, v = .ref T ∧ H T = none ∧ H' = upd H T (.tup [.int (i : Nat), .str ⟨#[c]⟩]) ∧ z.cps[i]? = some c) D (by simp; exact hne) I hf he hit hne hg fun u hu => ?_) ?_ fun _ _ z => z
    · obtain ⟨c, tu, hc, rfl⟩ := hu
      exact ⟨.str ⟨#[c]⟩, ⟨tu, rfl⟩, fun T hT => ⟨T, c, rfl, hT, rfl, hc⟩⟩
    · rintro r s1 ⟨u, rfl, h⟩
      refine ⟨u, rfl, wpAny_mono h ?_ fun _ _ z => z⟩
      rintro _ s2 ⟨x, H', I2, r2, hy, ⟨he2, hit2⟩, fp2⟩
      exact ⟨x, H', I2, r2, hy, ⟨he2, hit2, hne⟩, fp2⟩
  done := by
    intro X hP hw hK hc i pins s σ H E I hf st hg
    subst hP hw hK
    obtain ⟨⟨old, he⟩, hit, hne⟩ := st
    obtain ⟨f0, f1, f2, f3, f4, f5⟩ := hf it (by simp)
    have hx : i = z.cps.size := hg
    have D := Draws.text (prog := X.prog) (w := X.w) (A := X.A.in1) (I.ok.hd hc) it z t
    exact wpAny_pyNext_enum_endD D he (i := ((i : Nat) : Int)) (by rw [← hx]; exact hit) fun h' eb => ⟨rfl, I.turned (t' := s.toks) (fun b o hb q => eb b o hb q) f0 f1 f3 f4 f5⟩
  self := fun A i s Q E st h => let ⟨⟨_, he⟩, _⟩ := st; wpAny_pyIter_enum he h
def iAnyV (K : PySem.W.Frag) (tl : TE) : TI := fun σ H R => tl σ H fun x H1 => (∃ a, x = .ref a ∧ (∃ xs, SqL K H1 a xs) ∧ R (Itl K a) H1) ∨ (∃ a, x = .ref a ∧ (∃ xs, SqT K H1 a xs) ∧ R (Itt K a) H1) ∨ ∃ z, x = .str z ∧ R (Its z) H1
theorem pi_any {X : Cx} {tg l : Expr} {tl : TE} (hl : PE X l tl) : PI X tg l (iAnyV X.K tl) := by
  refine ⟨fun pins s σ H R I h => ?_⟩
  refine thn (hl.run pins s σ H _ I h) fun v s1 ⟨x, H1, I1, r1, q1⟩ => ?_
  rcases q1 with ⟨a, e, ⟨xs, hq⟩, q⟩ | ⟨a, e, ⟨xs, hq⟩, q⟩ | ⟨z, e, q⟩
  · subst e
    cases r1
    obtain ⟨its, rv, p, hz⟩ := I1.list hq
    refine wpAny_pyIter_list p.isList ?_
    refine ⟨s1.heap.objs.size, [s1.heap.objs.size], _, _, H1, rfl, I1.kept (t' := s1.toks) fun b o e => Heap.get?_push_of_some _ e, turn_list a _, ⟨_, Heap.get?_push_size _ rfl, rfl, rfl⟩, fun b hb => ?_, q⟩
    have e : b = s1.heap.objs.size := by simpa using hb
    subst e
    exact I1.fpOk (Nat.le_refl _) (I1.hok.fresh (Nat.le_refl _))
  · subst e
    cases r1
    obtain ⟨its, rv, p, hz⟩ := I1.tuple hq
    refine wpAny_pyIter_tuple (show s1.heap.IsTuple a its.toArray from p) ?_
    refine ⟨s1.heap.objs.size, [s1.heap.objs.size], _, _, H1, rfl, I1.kept (t' := s1.toks) fun b o e => Heap.get?_push_of_some _ e, turn_tuple a _, ⟨_, Heap.get?_push_size _ rfl, rfl, rfl⟩, fun b hb => ?_, q⟩
    have e : b = s1.heap.objs.size := by simpa using hb
    subst e
    exact I1.fpOk (Nat.le_refl _) (I1.hok.fresh (Nat.le_refl _))
  · subst e
    obtain ⟨t, rfl⟩ := r1
    cases ha : z.cps.all (· < 128)
    · exact wpAny_pyIter_wide ha (pi_one (tk := s1.toks) I1 _ (turn_str _ z t "str_iterator" (.inr rfl)) ⟨_, Heap.get?_push_size _ rfl, rfl, rfl⟩ q)
    · exact wpAny_pyIter_ascii ha (pi_one (tk := s1.toks) I1 _ (turn_str _ z t "str_ascii_iterator" (.inl rfl)) ⟨_, Heap.get?_push_size _ rfl, rfl, rfl⟩ q)
def iEnumV (K : PySem.W.Frag) (ta : TA) : TI := fun σ H R => ta σ H fun vs H1 => (∃ a xs, vs = [.ref a] ∧ SqL K H1 a xs ∧ R (Ite K a) H1) ∨ (∃ a xs, vs = [.ref a] ∧ SqT K H1 a xs ∧ R (IteT K a) H1) ∨ ∃ z, vs = [.str z] ∧ R (IteS z) H1
theorem pi_enumA {X : Cx} {e : Expr} {ta : TA} {p pos tpos : Pos} {elts : List Expr} {kk : Nat} (hg : Gl X "enumerate") (hm : X.mg "enumerate" = none) (ha : PA X [e] ta) (hs : starEach [e] X.env = [(false, eval e X.env)] := by rfl) :
    PI X (.Tuple elts kk tpos) (.Call (.Name "enumerate" p) [e] [] pos) (iEnumV X.K ta) := by
  refine ⟨fun pins s σ H R I h => ?_⟩
  refine Call_ (ld_blt I hg hm boot_enumerate (PyProof.Rows.callWith_type1 (thn (ha.run pos pins s σ H _ I h) fun us s1 ⟨vs, H1, I1, r1, q1⟩ => ?_) hs rfl))
  have fpk : ∀ b ∈ [s1.heap.objs.size + 1, s1.heap.objs.size], FpOk X pins H1 b := fun b hb => by
    have e' : b = s1.heap.objs.size + 1 ∨ b = s1.heap.objs.size := by simpa using hb
    have hle : s1.heap.objs.size ≤ b := by
      rcases e' with z | z
      · rw [z]; exact Nat.le_add_right _ _
      · rw [z]; exact Nat.le_refl _
    exact I1.fpOk hle (I1.hok.fresh hle)
  rcases q1 with ⟨a, xs, ex, hq, q⟩ | ⟨a, xs, ex, hq, q⟩ | ⟨z, ex, q⟩
  · subst ex
    cases r1 with
    | cons r rr =>
      cases rr
      cases r
      obtain ⟨its, rv, p', hz⟩ := I1.list hq
      refine call_enumerate_list p'.isList fun h' he hit hsz hk => wpAny_pyIter_enum he ?_
      have I2 : Inv X pins σ H1 { s1 with heap := h' } := I1.kept (t' := s1.toks) hk
      exact ⟨s1.heap.objs.size + 1, [s1.heap.objs.size + 1, s1.heap.objs.size], _, _, H1, rfl, I2, turn_enum a (s1.heap.objs.size + 1) s1.heap.objs.size, ⟨⟨.none, he⟩, hit, Nat.succ_ne_self _⟩, fpk, q⟩
  · subst ex
    cases r1 with
    | cons r rr =>
      cases rr
      cases r
      obtain ⟨its, rv, p', hz⟩ := I1.tuple hq
      have al : a < s1.heap.objs.size := by obtain ⟨o, ho, _⟩ := (show s1.heap.IsTuple a its.toArray from p'); exact Heap.lt_size ho
      refine call_enum1 (begins_tuple a its.toArray) p' fun h' he hit hsz hk => wpAny_pyIter_enum he ?_
      have I2 : Inv X pins σ H1 { s1 with heap := h' } := I1.kept (t' := s1.toks) hk
      exact ⟨s1.heap.objs.size + 1, [s1.heap.objs.size + 1, s1.heap.objs.size], _, _, H1, rfl, I2, turn_enumT a (s1.heap.objs.size + 1) s1.heap.objs.size, ⟨⟨.none, he⟩, ⟨_, hit, rfl, rfl⟩, Nat.succ_ne_self _, Nat.ne_of_gt (Nat.lt_succ_of_lt al), Nat.ne_of_lt al⟩, fpk, q⟩
  · subst ex
    cases r1 with
    | cons r rr =>
      cases rr
      obtain ⟨t, rfl⟩ := r
      refine call_enum1 (begins_text z t) True.intro fun h' he hit hsz hk => wpAny_pyIter_enum he ?_
      have I2 : Inv X pins σ H1 { s1 with heap := h' } := I1.kept (t' := s1.toks) hk
      exact ⟨s1.heap.objs.size + 1, [s1.heap.objs.size + 1, s1.heap.objs.size], _, _, H1, rfl, I2, turn_enumS z t (s1.heap.objs.size + 1) s1.heap.objs.size, ⟨⟨.none, he⟩, ⟨_, hit, rfl, rfl⟩, Nat.succ_ne_self _⟩, fpk, q⟩
/-- by value: what can be walked, with what must stay -/
def anyAt (d : D) (G : GH) (k : List D → (GH → Prop) → Prop) : Prop := match d with
  | .lst ds => k ds (fun _ => True)
  | .ro ds => k ds (fun _ => True)
  | .tup ds => k ds (fun _ => True)
  | .str z => k (signs z) (fun _ => True)
  | .ref a => LkL a G fun ds => k ds fun G => G a = some (.lst ds)
  | _ => False
def iAny (t : TED) : TID := fun τ G x q => t τ G x fun d G1 => anyAt d G1 fun ds stay => q ds stay G1
theorem its_ok {K : PySem.W.Frag} {z : Str} {Z0 : ZS} {G0 : GH} {H0 : Hp} : ItOk (Its z) K (signs z) (fun _ => True) Z0 G0 H0 := by
  have hl : (signs z).length = z.cps.size := by unfold signs; rw [List.length_map, Array.length_toList]
  refine ⟨fun Z i G H hi m R _ => ?_, fun Z i G H x H' hi m R _ y => ?_, fun Z G H m R _ => ?_⟩
  · show i < z.cps.size
    rw [← hl]; exact hi
  · obtain ⟨e, k, hk, ev⟩ := y
    subst e ev
    refine ⟨.str ⟨#[k]⟩, ?_, Step.refl _ _, R, .str _⟩
    unfold signs
    rw [List.getElem?_map, Array.getElem?_toList, hk]
    rfl
  · show z.cps.size ≤ _
    rw [hl]; exact Nat.le_refl _
section
variable {X : Cx} {W : WX} {tg e : Expr} {t : TED} {ta : TAD} {p pos : Pos}
theorem pid_any (he : PEd X W e t) : PId X W tg e (iAny t) := PIi (pi_any he) fun σ H R' => by
  rintro ⟨Z, G, τ, x, q, S, R, h, c, cx⟩
  refine ⟨Z, G, τ, x, _, S, R, h, fun d G1 H1 v q1 s1 R1 r1 => ?_, cx⟩
  cases d with
  | tup ds =>
    cases r1 with
    | @tup a xs _ hx rx => exact .inr (.inl ⟨_, rfl, ⟨_, hx⟩, c ds _ G1 H1 _ q1 s1 R1 (itt_ok fun Z G H m R _ => ⟨xs, SqT.mv (fun ys => m.tups _ ys) (fun ob w => m.frzs _ ob w) hx, rx.mv m⟩)⟩)
  | str z =>
    cases r1
    exact .inr (.inr ⟨z, rfl, c _ _ G1 H1 _ q1 s1 R1 its_ok⟩)
  | lst ds =>
    cases r1 with
    | @lst a xs _ hx hg hz rx => exact .inl ⟨_, rfl, ⟨_, SqL.of hx⟩, c ds _ G1 H1 _ q1 s1 R1 (itl_ok fun Z G H m R _ => ⟨xs, SqL.of (m.all _ _ hx hg hz).1, rx.mv m⟩)⟩
  | ro ds =>
    cases r1 with
    | @ro a xs _ hx rx => exact .inl ⟨_, rfl, ⟨_, hx.sq⟩, c ds _ G1 H1 _ q1 s1 R1 (itl_ok fun Z G H m R _ => ⟨xs, (hx.mv m.frzs).sq, rx.mv m⟩)⟩
  | ref a =>
    obtain ⟨ds, e, q1⟩ := LkL_e q1
    obtain ⟨_, xs, hx, rx⟩ := R1.ob a _ e
    cases r1
    refine .inl ⟨_, rfl, ⟨_, SqL.of hx⟩, c ds _ G1 H1 _ q1 s1 R1 (itl_ok fun Z G H m R s => ?_)⟩
    obtain ⟨_, ys, hy, ry⟩ := R.ob a _ s
    exact ⟨ys, SqL.of hy, ry⟩
  | _ => exact (show False from q1).elim
def iEnumA (ta : TAD) : TID := fun τ G x q => ta τ G x fun as G1 => A1 as fun d => anyAt d G1 fun ds stay => q (enumD ds) stay G1
theorem iteT_ok {K : PySem.W.Frag} {a : Addr} {ds : List D} {Z0 : ZS} {G0 : GH} {H0 : Hp}
    (h : ∀ Z G H, Mv Z0 Z G0 G H0 H → Rel K Z G H → ∃ xs, SqT K H a xs ∧ RlA K Z G H ds xs) : ItOk (IteT K a) K (enumD ds) (fun _ => True) Z0 G0 H0 := by
  refine ⟨fun Z i G H hi m R s => ?_, fun Z i G H x H' hi m R s y => ?_, fun Z G H m R s => ?_⟩
  · rw [enum_len] at hi
    obtain ⟨ys, hy, ry⟩ := h Z G H m R
    obtain ⟨w, hw, _⟩ := ry.get (List.getElem?_eq_getElem hi)
    exact ⟨ys, w, hy, hw⟩
  · obtain ⟨ys, hy, ry⟩ := h Z G H m R
    obtain ⟨T, w, ev, hT, eH, hw⟩ := y
    subst ev eH
    obtain ⟨d, hd, rd⟩ := ry.getV (hw ys hy)
    obtain ⟨a1, a2, a3⟩ := pair_rl R hT (.int (i : Int)) rd
    exact ⟨_, enum_at hd, a1, a2, a3⟩
  · obtain ⟨ys, hy, ry⟩ := h Z G H m R
    exact ⟨ys, hy, by rw [enum_len, ry.length]⟩
theorem iteL_ok {K : PySem.W.Frag} {a : Addr} {ds : List D} {stay : GH → Prop} {Z0 : ZS} {G0 : GH} {H0 : Hp}
    (hk : ∀ Z G H, Mv Z0 Z G0 G H0 H → Rel K Z G H → stay G → ∃ xs, SqL K H a xs ∧ RlA K Z G H ds xs) : ItOk (Ite K a) K (enumD ds) stay Z0 G0 H0 := by
  refine ⟨fun Z i G H hi m R s => ?_, fun Z i G H x H' hi m R s y => ?_, fun Z G H m R s => ?_⟩
  · rw [enum_len] at hi
    obtain ⟨ys, hy, ry⟩ := hk Z G H m R s
    obtain ⟨w, hw, _⟩ := ry.get (List.getElem?_eq_getElem hi)
    exact ⟨ys, w, hy, hw⟩
  · obtain ⟨ys, hy, ry⟩ := hk Z G H m R s
    obtain ⟨T, w, ev, hT, eH, hw⟩ := y
    subst ev eH
    obtain ⟨d, hd, rd⟩ := ry.getV (hw ys hy)
    obtain ⟨a1, a2, a3⟩ := pair_rl R hT (.int (i : Int)) rd
    exact ⟨_, enum_at hd, a1, a2, a3⟩
  · obtain ⟨ys, hy, ry⟩ := hk Z G H m R s
    exact ⟨ys, hy, by rw [enum_len, ry.length]; exact Nat.le_refl _⟩
theorem iteS_ok {K : PySem.W.Frag} {z : Str} {Z0 : ZS} {G0 : GH} {H0 : Hp} : ItOk (IteS z) K (enumD (signs z)) (fun _ => True) Z0 G0 H0 := by
  have hl : (signs z).length = z.cps.size := by unfold signs; rw [List.length_map, Array.length_toList]
  refine ⟨fun Z i G H hi m R _ => ?_, fun Z i G H x H' hi m R _ y => ?_, fun Z G H m R _ => ?_⟩
  · rw [enum_len, hl] at hi
    exact hi
  · obtain ⟨T, k, ev, hT, eH, hk⟩ := y
    subst ev eH
    have e1 : (signs z)[i]? = some (.str ⟨#[k]⟩) := by
      unfold signs
      rw [List.getElem?_map, Array.getElem?_toList, hk]
      rfl
    obtain ⟨a1, a2, a3⟩ := pair_rl R hT (.int (i : Int)) (Rl.str (K := K) (Z := Z) (G := G) (H := H) ⟨#[k]⟩)
    exact ⟨_, enum_at e1, a1, a2, a3⟩
  · show _ = z.cps.size
    rw [enum_len, hl]
theorem pid_enumA {tpos : Pos} {elts : List Expr} {kk : Nat} (hg : Gl X "enumerate") (hm : X.mg "enumerate" = none) (ha : PAd X W [e] ta) (hs : starEach [e] X.env = [(false, eval e X.env)] := by rfl) :
    PId X W (.Tuple elts kk tpos) (.Call (.Name "enumerate" p) [e] [] pos) (iEnumA ta) := PIi (pi_enumA hg hm ha hs) fun σ H R' => by
  rintro ⟨Z, G, τ, x, q, S, R, h, c, cx⟩
  refine ⟨Z, G, τ, x, _, S, R, h, fun ds G1 H1 vs q1 s1 R1 r1 => ?_, cx⟩
  obtain ⟨d, v, rfl, rfl, r1, q1⟩ := A1_e r1 q1
  cases d with
  | tup ds =>
    cases r1 with
    | @tup a xs _ hx rx => exact .inr (.inl ⟨_, _, rfl, hx, c _ _ G1 H1 _ q1 s1 R1 (iteT_ok fun Z G H m R => ⟨xs, SqT.mv (fun ys => m.tups _ ys) (fun ob w => m.frzs _ ob w) hx, rx.mv m⟩)⟩)
  | str z =>
    cases r1
    exact .inr (.inr ⟨z, rfl, c _ _ G1 H1 _ q1 s1 R1 iteS_ok⟩)
  | lst ds =>
    cases r1 with
    | @lst a xs _ hx hg hz rx => exact .inl ⟨_, _, rfl, SqL.of hx, c _ _ G1 H1 _ q1 s1 R1 (iteL_ok fun Z G H m R _ => ⟨xs, SqL.of (m.all _ _ hx hg hz).1, rx.mv m⟩)⟩
  | ro ds =>
    cases r1 with
    | @ro a xs _ hx rx => exact .inl ⟨_, _, rfl, hx.sq, c _ _ G1 H1 _ q1 s1 R1 (iteL_ok fun Z G H m R _ => ⟨xs, (hx.mv m.frzs).sq, rx.mv m⟩)⟩
  | ref a =>
    obtain ⟨ds, e, q1⟩ := LkL_e q1
    obtain ⟨_, xs, hx, rx⟩ := R1.ob a _ e
    cases r1
    refine .inl ⟨_, _, rfl, SqL.of hx, c _ _ G1 H1 _ q1 s1 R1 (iteL_ok fun Z G H m R s => ?_)⟩
    obtain ⟨_, ys, hy, ry⟩ := R.ob a _ s
    exact ⟨ys, SqL.of hy, ry⟩
  | _ => exact (show False from q1).elim
end
end N
namespace N
open PySem PySem.Spec PyProof.Rows L2
/-! ### min, max of a tuple of ints -/
section
variable {prog : Program} {w : World} {A : Around} {E : Value → Shared → Prop} {s : Shared} {l : Addr} {xs : Array (Int × Tok)} {its : List Value} {ns : List Int} {Q : Value → Shared → Prop}
theorem iter_intTup (hl : s.heap.IsTuple l (intItems xs))
    (h : ∀ s₂ : Shared, s₂ = { s with heap := s.heap.push { cls := .type "tuple_iterator", data := .fields #[.ref l, .int 0 0] } } →
      (s₂.heap.IsTupleIter s.heap.objs.size l 0 ∧ s₂.heap.IsTuple l (intItems xs)) → (∀ b ∈ [s.heap.objs.size, l], b < s₂.heap.objs.size) → l ≠ s.heap.objs.size → Q (.ref s.heap.objs.size) s₂) :
    wpAny (model prog w) A (pyIter (.ref l)) Q E s := by
  have hlt : l < s.heap.objs.size := by obtain ⟨_, e, _⟩ := hl; exact Heap.lt_size e
  refine wpAny_pyIter_tuple hl (h _ rfl ⟨⟨_, Heap.get?_push_size _ rfl, rfl, rfl⟩, hl.at fun o e => Heap.get?_push_of_some _ e⟩ (fun b hb => ?_) (Nat.ne_of_lt hlt))
  show b < (s.heap.push _).objs.size
  rw [Heap.size_push]
  rcases List.mem_cons.mp hb with rfl | hb
  · exact Nat.lt_succ_self _
  · rcases List.mem_cons.mp hb with rfl | hb
    · exact Nat.lt_succ_of_lt hlt
    · cases hb
theorem old_keptT {h' : Heap} (hk : ∀ b o, b ∉ [s.heap.objs.size] → (s.heap.push { cls := .type "tuple_iterator", data := .fields #[.ref l, .int 0 0] }).get? b = some o → h'.get? b = some o) :
    ∀ b o, s.heap.get? b = some o → h'.get? b = some o := fun b o e => by
  refine hk b o (fun hm => ?_) (Heap.get?_push_of_some _ e)
  rcases List.mem_cons.mp hm with e1 | hm
  · exact absurd (e1 ▸ Heap.lt_size e) (Nat.lt_irrefl _)
  · cases hm
theorem max_rawT (hh : A.handled = none) (hl : s.heap.IsTuple l its.toArray) (hi : IntsAre its ns) (hne : 0 < ns.length)
    (h : ∀ h' tk M t', (∀ b o, s.heap.get? b = some o → h'.get? b = some o) → M ∈ ns → (∀ a, a ∈ ns → a ≤ M) → Q (.int M t') { s with heap := h', toks := tk }) : wpAny (model prog w) A (call (.builtin "max") [.ref l]) Q E s := by
  obtain ⟨xs, e⟩ := hi.allInts.items
  have hn : numsOf (intItems xs).toList = ns := by rw [← e]; exact hi.numsOf
  rw [nums_intItems] at hn
  subst hn
  rw [e] at hl
  have hsz : 0 < xs.size := by simpa using hne
  refine call_max_walk (iter_intTup hl fun s₂ e st hfp hlI => ?_)
  subst e
  refine ⟨_, _, _, _, _, _, _, rfl, Walks.tuple (A := A.in1) hh _ l hlI (intItems xs), st, hfp, by simpa [intItems] using hsz, CmpOf.ints_gt (numAt xs) (fun _ _ => intItems_at), fun v h' tk hP hk => ?_⟩
  obtain ⟨t, rfl⟩ := intItems_at (by simpa [intItems] using hP)
  obtain ⟨h1, h2⟩ := argBest_gt (numAt xs) (xs.size - 1)
  have h1' : argBest (fun i j => decide (numAt xs j < numAt xs i)) (xs.size - 1) ≤ xs.size - 1 := h1
  refine h h' tk _ t (old_keptT hk) ?_ fun a ha => ?_
  · rw [numAt_eq]; exact PySem.getD_mem (by rw [List.length_map, Array.length_toList]; omega)
  · obtain ⟨j, hj, rfl⟩ := mem_getD ha
    rw [List.length_map, Array.length_toList] at hj
    rw [← numAt_eq]; exact h2 j (by omega)
theorem min_rawT (hh : A.handled = none) (hl : s.heap.IsTuple l its.toArray) (hi : IntsAre its ns) (hne : 0 < ns.length)
    (h : ∀ h' tk M t', (∀ b o, s.heap.get? b = some o → h'.get? b = some o) → M ∈ ns → (∀ a, a ∈ ns → M ≤ a) → Q (.int M t') { s with heap := h', toks := tk }) : wpAny (model prog w) A (call (.builtin "min") [.ref l]) Q E s := by
  obtain ⟨xs, e⟩ := hi.allInts.items
  have hn : numsOf (intItems xs).toList = ns := by rw [← e]; exact hi.numsOf
  rw [nums_intItems] at hn
  subst hn
  rw [e] at hl
  have hsz : 0 < xs.size := by simpa using hne
  refine call_min_walk (iter_intTup hl fun s₂ e st hfp hlI => ?_)
  subst e
  refine ⟨_, _, _, _, _, _, _, rfl, Walks.tuple (A := A.in1) hh _ l hlI (intItems xs), st, hfp, by simpa [intItems] using hsz, CmpOf.ints_lt (numAt xs) (fun _ _ => intItems_at), fun v h' tk hP hk => ?_⟩
  obtain ⟨t, rfl⟩ := intItems_at (by simpa [intItems] using hP)
  obtain ⟨h1, h2⟩ := argBest_lt (numAt xs) (xs.size - 1)
  refine h h' tk _ t (old_keptT hk) ?_ fun a ha => ?_
  · rw [numAt_eq]; exact PySem.getD_mem (by rw [List.length_map, Array.length_toList]; omega)
  · obtain ⟨j, hj, rfl⟩ := mem_getD ha
    rw [List.length_map, Array.length_toList] at hj
    rw [← numAt_eq]; exact h2 j (by omega)
end
def rMaxT (K : PySem.W.Frag) : List V → Hp → VK → Prop := fun vs H Q => ∃ (a : Addr) (ns : List Int), vs = [V.ref a] ∧ SqT K H a (ns.map V.int) ∧ 0 < ns.length ∧ ∀ m, m ∈ ns → (∀ y, y ∈ ns → y ≤ m) → Q (.int m) H
def rMinT (K : PySem.W.Frag) : List V → Hp → VK → Prop := fun vs H Q => ∃ (a : Addr) (ns : List Int), vs = [V.ref a] ∧ SqT K H a (ns.map V.int) ∧ 0 < ns.length ∧ ∀ m, m ∈ ns → (∀ y, y ∈ ns → m ≤ y) → Q (.int m) H
theorem cr_maxT {X : Cx} (hc : X.calm = true) : CallR X (.builtin "max") (rMaxT X.K) := by
  intro pins s σ H vs us Q I r h
  obtain ⟨a, ns, rfl, hs, hne, q⟩ := h
  obtain ⟨its, rv, hl, _⟩ := I.tuple hs
  rw [Vals.ref1 r]
  exact max_rawT (I.ok.hd hc) hl rv.ints hne fun h' tk m t' hk h1 h2 => ⟨.int _, H, I.kept hk, ⟨_, rfl⟩, q m h1 h2⟩
theorem cr_minT {X : Cx} (hc : X.calm = true) : CallR X (.builtin "min") (rMinT X.K) := by
  intro pins s σ H vs us Q I r h
  obtain ⟨a, ns, rfl, hs, hne, q⟩ := h
  obtain ⟨its, rv, hl, _⟩ := I.tuple hs
  rw [Vals.ref1 r]
  exact min_rawT (I.ok.hd hc) hl rv.ints hne fun h' tk m t' hk h1 h2 => ⟨.int _, H, I.kept hk, ⟨_, rfl⟩, q m h1 h2⟩
theorem callR_or {X : Cx} {f : Value} {r r' : List V → Hp → VK → Prop} (h : CallR X f r) (h' : CallR X f r') : CallR X f (fun xs H Q => r xs H Q ∨ r' xs H Q) := by
  intro pins s σ H vs us Q I rr z
  rcases z with z | z
  · exact h pins s σ H vs us Q I rr z
  · exact h' pins s σ H vs us Q I rr z
/-- min, max: two ints, a list, a tuple of ints -/
@[irreducible] def IntsQ (x : D) (G : GH) (k : List Int → Prop) : Prop := AsQ x G fun ds => ∃ ns : List Int, ds = ns.map D.int ∧ k ns
theorem IntsQ_l {G : GH} {k : List Int → Prop} {ds : List D} (ns : List Int) (e : ds = ns.map D.int) (h : k ns) : IntsQ (.lst ds) G k := by unfold IntsQ; exact ⟨ns, e, h⟩
theorem IntsQ_t {G : GH} {k : List Int → Prop} {ds : List D} (ns : List Int) (e : ds = ns.map D.int) (h : k ns) : IntsQ (.tup ds) G k := by unfold IntsQ; exact ⟨ns, e, h⟩
theorem IntsQ_r {a : Addr} {G : GH} {k : List Int → Prop} {ds : List D} (ns : List Int) (g : G a = some (.lst ds)) (e : ds = ns.map D.int) (h : k ns) : IntsQ (.ref a) G k := by unfold IntsQ; exact LkL_i g ⟨ns, e, h⟩
theorem intsQ_e {K : PySem.W.Frag} {Z : ZS} {G : GH} {H : Hp} {x : D} {v : V} {k : List Int → Prop} (R : Rel K Z G H) (r : Rl K Z G H x v) (h : IntsQ x G k) : ∃ a ns, v = .ref a ∧ (SqL K H a (ns.map V.int) ∨ SqT K H a (ns.map V.int)) ∧ k ns := by
  unfold IntsQ at h
  obtain ⟨a, xs, ds, rfl, hs, rd, ns, rfl, h⟩ := asQ_e R r h
  have e := ints_rl rd
  subst e
  exact ⟨a, ns, rfl, hs, h⟩
def cMin : CAD := fun ds G q => match ds with
  | [x] => IntsQ x G fun ns => Sd (0 < ns.length) (∀ m, m ∈ ns → (∀ y, y ∈ ns → m ≤ y) → q (.int m) G)
  | [x, y] => I1 x fun i => I1 y fun j => q (.int (if j < i then j else i)) G
  | _ => False
def cMax : CAD := fun ds G q => match ds with
  | [x] => IntsQ x G fun ns => Sd (0 < ns.length) (∀ m, m ∈ ns → (∀ y, y ∈ ns → y ≤ m) → q (.int m) G)
  | [x, y] => I1 x fun i => I1 y fun j => q (.int (if j > i then j else i)) G
  | _ => False
def rMinA (K : PySem.W.Frag) : List V → Hp → VK → Prop := fun xs H Q => (∃ i j, xs = [.int i, .int j] ∧ Q (.int (if j < i then j else i)) H) ∨ rMin K xs H Q ∨ rMinT K xs H Q
def rMaxA (K : PySem.W.Frag) : List V → Hp → VK → Prop := fun xs H Q => (∃ i j, xs = [.int i, .int j] ∧ Q (.int (if j > i then j else i)) H) ∨ rMax K xs H Q ∨ rMaxT K xs H Q
theorem call_minA {X : Cx} (hc : X.calm = true) : CallR X (.builtin "min") (rMinA X.K) := callR_or (call_min2 hc) (callR_or (cr_min hc) (cr_minT hc))
theorem call_maxA {X : Cx} (hc : X.calm = true) : CallR X (.builtin "max") (rMaxA X.K) := callR_or (call_max2 hc) (callR_or (cr_max hc) (cr_maxT hc))
theorem ok_minA {K : PySem.W.Frag} : CAOk K (rMinA K) cMin := by
  intro Z G H ds vs q Q R r h c
  match ds, h with
  | [x], h =>
    obtain ⟨d, v, e, rfl, r1, _⟩ := A1_e (k := fun _ => True) r True.intro
    cases e
    obtain ⟨a, ns, rfl, hs, h⟩ := intsQ_e R r1 h
    obtain ⟨h1, h2⟩ := Sd_e h
    rcases hs with hs | hs
    · exact .inr (.inl ⟨a, ns, rfl, hs, h1, fun m m1 m2 => c _ _ _ _ (h2 m m1 m2) (Step.refl _ _) R (.int _)⟩)
    · exact .inr (.inr ⟨a, ns, rfl, hs, h1, fun m m1 m2 => c _ _ _ _ (h2 m m1 m2) (Step.refl _ _) R (.int _)⟩)
  | [x, y], h =>
    obtain ⟨d, e, v, u, e1, rfl, r1, r2, _⟩ := A2_e (k := fun _ _ => True) r True.intro
    cases e1
    obtain ⟨i, rfl, rfl, h⟩ := I1_e r1 h
    obtain ⟨j, rfl, rfl, h⟩ := I1_e r2 h
    exact .inl ⟨i, j, rfl, c _ _ _ _ h (Step.refl _ _) R (.int _)⟩
theorem ok_maxA {K : PySem.W.Frag} : CAOk K (rMaxA K) cMax := by
  intro Z G H ds vs q Q R r h c
  match ds, h with
  | [x], h =>
    obtain ⟨d, v, e, rfl, r1, _⟩ := A1_e (k := fun _ => True) r True.intro
    cases e
    obtain ⟨a, ns, rfl, hs, h⟩ := intsQ_e R r1 h
    obtain ⟨h1, h2⟩ := Sd_e h
    rcases hs with hs | hs
    · exact .inr (.inl ⟨a, ns, rfl, hs, h1, fun m m1 m2 => c _ _ _ _ (h2 m m1 m2) (Step.refl _ _) R (.int _)⟩)
    · exact .inr (.inr ⟨a, ns, rfl, hs, h1, fun m m1 m2 => c _ _ _ _ (h2 m m1 m2) (Step.refl _ _) R (.int _)⟩)
  | [x, y], h =>
    obtain ⟨d, e, v, u, e1, rfl, r1, r2, _⟩ := A2_e (k := fun _ _ => True) r True.intro
    cases e1
    obtain ⟨i, rfl, rfl, h⟩ := I1_e r1 h
    obtain ⟨j, rfl, rfl, h⟩ := I1_e r2 h
    exact .inl ⟨i, j, rfl, c _ _ _ _ h (Step.refl _ _) R (.int _)⟩
/-! ### list.count of an int -/
def mCnt : MTD := fun d ds G q => A1 ds fun x => I1 x fun k => IntsL d G fun ns => q (.int (ns.count k : Nat)) G
theorem ok_count {K : PySem.W.Frag} : MTOk K (rCntI K) mCnt := by
  intro Z G H d ds v vs q Q R r rs h c
  obtain ⟨x, u, rfl, rfl, r1, h⟩ := A1_e rs h
  obtain ⟨k, rfl, rfl, h⟩ := I1_e r1 h
  obtain ⟨a, ns, rfl, hs, h⟩ := intsL_e R r h
  exact ⟨a, ns, k, rfl, rfl, hs, c _ _ _ _ h (Step.refl _ _) R (.int _)⟩
section
variable {X : Cx} {W : WX} {o e : Expr} {to : TED} {ta : TAD} {apos cpos : Pos}
theorem pd_count (ho : PEd X W o to) (ha : PAd X W [e] ta) (hbase : attributeBase o "count" X.env (eval o X.env) = eval o X.env := by rfl) (hline : (apos.endLine == cpos.line) = true := by rfl)
    (hfew : ((backTo cpos (starEach [e] X.env)).all (fun x => !x.1) && (backToKw cpos (keywordEach [] X.env)).all (fun x => x.1.isSome)
      && decide ([e].length + ([] : List Keyword).length + (if ([] : List Keyword).isEmpty then 0 else 1) < 30)) = true := by rfl) (hs : starEach [e] X.env = (false, eval e X.env) :: starEach [] X.env := by rfl) :
    PEd X W (.Call (.Attribute o "count" apos) [e] [] cpos) (gBL mCnt to ta) :=
  pd_blm PySem.F.plainAttrs_list PySem.F.slot_list_count PySem.F.type_list_count mt_lcount ok_count ho ha hbase hfew hline hs
end
/-! ### calls with defaults and keywords -/
def CstA : List D → List V → Prop
  | [], [] => True
  | d :: ds, v :: vs => CstD d v ∧ CstA ds vs
  | _, _ => False
theorem CstA.rl {K : PySem.W.Frag} {Z : ZS} {G : GH} {H : Hp} : ∀ {ds : List D} {vs : List V}, CstA ds vs → RlA K Z G H ds vs
  | [], [], _ => .nil
  | [], _ :: _, h => h.elim
  | _ :: _, [], h => h.elim
  | _ :: _, _ :: _, h => .cons h.1.rl (CstA.rl h.2)
/-- the values in the parameters' order -/
def pk {α : Type} (idx : List Nat) (l : List α) : List α := idx.filterMap fun i => l[i]?
theorem pk_rel {α β : Type} {r : α → β → Prop} {l : List α} {m : List β} (h : ∀ i : Nat, (l[i]? = none ∧ m[i]? = none) ∨ ∃ a b, l[i]? = some a ∧ m[i]? = some b ∧ r a b) : ∀ idx : List Nat, ∃ ps : List (α × β), pk idx l = ps.map (·.1) ∧ pk idx m = ps.map (·.2) ∧ ∀ p ∈ ps, r p.1 p.2
  | [] => ⟨[], rfl, rfl, by simp⟩
  | i :: is => by
    obtain ⟨ps, e1, e2, e3⟩ := pk_rel h is
    rcases h i with ⟨a, b⟩ | ⟨x, y, a, b, c⟩
    · refine ⟨ps, ?_, ?_, e3⟩
      · show (i :: is).filterMap (fun i => l[i]?) = _
        rw [List.filterMap_cons, a]; exact e1
      · show (i :: is).filterMap (fun i => m[i]?) = _
        rw [List.filterMap_cons, b]; exact e2
    · refine ⟨(x, y) :: ps, ?_, ?_, ?_⟩
      · show (i :: is).filterMap (fun i => l[i]?) = _
        rw [List.filterMap_cons, a, List.map_cons, ← e1]; rfl
      · show (i :: is).filterMap (fun i => m[i]?) = _
        rw [List.filterMap_cons, b, List.map_cons, ← e2]; rfl
      · intro p hp
        rcases List.mem_cons.mp hp with rfl | hp
        · exact c
        · exact e3 p hp
theorem vals_map : ∀ {ps : List (V × Value)}, (∀ p ∈ ps, RelV p.1 p.2) → Vals (ps.map (·.1)) (ps.map (·.2))
  | [], _ => .nil
  | p :: ps, h => .cons (h p List.mem_cons_self) (vals_map fun q hq => h q (List.mem_cons_of_mem _ hq))
theorem rla_map {K : PySem.W.Frag} {Z : ZS} {G : GH} {H : Hp} : ∀ {ps : List (D × V)}, (∀ p ∈ ps, Rl K Z G H p.1 p.2) → RlA K Z G H (ps.map (·.1)) (ps.map (·.2))
  | [], _ => .nil
  | p :: ps, h => .cons (h p List.mem_cons_self) (rla_map fun q hq => h q (List.mem_cons_of_mem _ hq))
theorem vals_pk {vs : List V} {us : List Value} (h : Vals vs us) (idx : List Nat) : Vals (pk idx vs) (pk idx us) := by
  obtain ⟨ps, e1, e2, e3⟩ := pk_rel (r := RelV) (l := vs) (m := us) (fun i => by
    cases e : vs[i]? with
    | none =>
      refine .inl ⟨rfl, ?_⟩
      rw [List.getElem?_eq_none_iff] at e ⊢
      rw [← h.length]; exact e
    | some x =>
      obtain ⟨u, hu, r⟩ := h.get e
      exact .inr ⟨x, u, rfl, hu, r⟩) idx
  rw [e1, e2]
  exact vals_map e3
theorem rla_pk {K : PySem.W.Frag} {Z : ZS} {G : GH} {H : Hp} {ds : List D} {vs : List V} (h : RlA K Z G H ds vs) (idx : List Nat) : RlA K Z G H (pk idx ds) (pk idx vs) := by
  obtain ⟨ps, e1, e2, e3⟩ := pk_rel (r := Rl K Z G H) (l := ds) (m := vs) (fun i => by
    cases e : ds[i]? with
    | none =>
      refine .inl ⟨rfl, ?_⟩
      rw [List.getElem?_eq_none_iff] at e ⊢
      rw [← h.length]; exact e
    | some x =>
      obtain ⟨u, hu, r⟩ := h.get e
      exact .inr ⟨x, u, rfl, hu, r⟩) idx
  rw [e1, e2]
  exact rla_map e3
theorem vals_app : ∀ {vs ws : List V} {us zs : List Value}, Vals vs us → Vals ws zs → Vals (vs ++ ws) (us ++ zs)
  | _, _, _, _, .nil, t => t
  | _, _, _, _, .cons h r, t => .cons h (vals_app r t)
section
variable {K : PySem.W.Frag} {x qual : Str} {params : Arguments} {body : List Stmt} {scope : Scope} {f : Addr} {fd : FuncData} {ps : List Str}
/-- f(e, .., k = v, ..) of a def without defaults -/
theorem kbN (F : FunD K x qual params body scope [] [] f fd) (n : Nat) (ks : List Str) (idx : List Nat)
    (h : ∀ (kV doc pm : Value) (an : Option Addr) (cdv ct : Value) (us ws : List Value), us.length = n → ws.length = ks.length →
      bindArgs (PySem.W.fnOf x qual params body scope .none kV doc pm an cdv ct) ⟨us, ks.zip ws⟩ = pure (ps.zip (pk idx (us ++ ws)))) : KBn K fd ps n ks (fun us ws => pk idx (us ++ ws)) (fun vs zs => pk idx (vs ++ zs)) := by
  obtain ⟨oc, od, dV, kV, doc, pm, an, cdv, ct, osl, rfl, lk, hcd, hD, hK⟩ := F.ex
  rcases hD with ⟨_, rfl⟩ | ⟨e, _⟩
  · exact ⟨fun s us ws X l1 l2 => .of_eq (h kV doc pm an cdv ct us ws l1 l2), fun r1 r2 => vals_pk (vals_app r1 r2) idx⟩
  · exact absurd rfl e
end
section
variable {X : Cx} {W : WX} {k n : Nat} {f C : Addr} {fd : FuncData} {ps ks : List Str} {sp : SpD} {x : Str} {p pos kpos : Pos} {e : Expr} {es : List Expr} {kws : List Keyword} {ta tk : TAD} {dfd : List D} {dvs : List V} {dfl : List Value} {nm : Option Str} {te : TED}
abbrev PKd (X : Cx) (W : WX) (kws : List Keyword) (t : TAD) : Prop := PK X kws (LfA X.K W t)
theorem PKi {t u : TA} (h : PK X kws t) (i : ∀ σ H Q, u σ H Q → t σ H Q) : PK X kws u := ⟨fun pos pins s σ H Q I hw => h.run pos pins s σ H Q I (i _ _ _ hw)⟩
theorem pkd_nil : PKd X W [] gNil := PKi pk_nil fun σ H Q => by
  rintro ⟨Z, G, τ, x, q, S, R, h, c, _⟩
  exact c _ G H _ h (Step.refl _ _) R .nil
theorem pkd_cons (h1 : PEd X W e te) (h2 : PKd X W kws tk) : PKd X W (⟨nm, e, kpos⟩ :: kws) (gCons te tk) :=
  PKi (pk_cons h1 h2) fun σ H Q => by
    rintro ⟨Z, G, τ, x, q, S, R, h, c, cx⟩
    refine ⟨Z, G, τ, x, _, S, R, h, fun d G1 H1 v q1 s1 R1 r1 => ?_, cx⟩
    refine ⟨Z, G1, τ, x, _, S.mv (s1.mv R), R1, q1, fun ds G2 H2 vs q2 s2 R2 r2 => ?_, cx.step s1⟩
    exact c _ G2 H2 _ q2 (s1.trans s2) R2 (.cons (r1.mv (s2.mv R1)) r2)
/-- f(e, ..), the last parameters by their defaults -/
def gCallD (sp : SpD) (dfd : List D) (ta : TAD) : TED := fun τ G x q => ta τ G x fun ds G1 => Call sp (ds ++ dfd) G1 q X0
theorem pd_callD (F : FnD X k f fd ps sp) (hr : Room k X.A) (hg : Gl X x) (hm : X.mg x = some (.ref f)) (hk : PySem.W.keepIn X.K (.ref f) = true) (hv : Vals dvs dfl) (hb : Binds X.K fd ps dfl) (hd : CstA dfd dvs) (ha : PAd X W (e :: es) ta) (hdb : (x == ("__debug__" : Str)) = false := by decide)
    (he : starEach (e :: es) X.env = (false, eval e X.env) :: starEach es X.env := by rfl) (hpl : (backTo pos (starEach es X.env)).any (·.1) = false := by rfl) : PEd X W (.Call (.Name x p) (e :: es) [] pos) (gCallD sp dfd ta) :=
  PEi (pe_call F hr hg hm hk hb hv passN ha hdb he hpl) fun σ H Q w => by
    obtain ⟨Z, G, τ, x, q, S, R, hw, c, cx⟩ := w
    refine ⟨Z, G, τ, x, _, S, R, hw, fun ds G1 H1 vs q1 s1 R1 r1 => ?_, cx⟩
    exact lift_ok (σ := []) R1 (r1.append hd.rl) q1 (c.step s1) fun _ _ _ _ _ _ z => z.elim
def gMakeD (C : Addr) (sp : SpD) (dfd : List D) (ta : TAD) : TED := fun τ G x q => ta τ G x fun ds G1 => NewO C sp (ds ++ dfd) G1 q
theorem pd_makeD (M : Mk X.K C f) (F : FnD X k f fd ps sp) (hr : Room (k + 1) X.A) (hg : Gl X x) (hm : X.mg x = some (.ref C)) (hv : Vals dvs dfl) (hb : Binds X.K fd ps dfl) (hd : CstA dfd dvs) (ha : PAd X W (e :: es) ta) (hdb : (x == ("__debug__" : Str)) = false := by decide)
    (he : starEach (e :: es) X.env = (false, eval e X.env) :: starEach es X.env := by rfl) (hpl : (backTo pos (starEach es X.env)).any (·.1) = false := by rfl) : PEd X W (.Call (.Name x p) (e :: es) [] pos) (gMakeD C sp dfd ta) :=
  PEi (pe_make M F hr hg hm hb hv passN ha hdb he hpl) fun σ H Q => by
    rintro ⟨Z, G, τ, x, q, S, R, hw, cl, cx⟩
    refine ⟨Z, G, τ, x, _, S, R, hw, fun ds G1 H1 vs q1 s1 R1 r1 => ?_, cx⟩
    intro y dx hy hdx ne
    exact newO_ok R1 (r1.append hd.rl) q1 (cl.step s1) y dx hy hdx ne
/-- f(k = v, ..), f(e, .., k = v, ..) -/
theorem pe_callK0 {CX : CXT} {sp : Sp} {E : XK} {tk : TA} {g : List Value → List Value → List Value} {gV : List V → List V → List V} (F : FnOk X.prog X.w X.K X.mg X.base CX k f fd ps sp) (hr : Room k X.A) (hg : Gl X x) (hm : X.mg x = some (.ref f)) (hk : PySem.W.keepIn X.K (.ref f) = true) (hb : KBn X.K fd ps 0 ks g gV) (hx : Passes CX X E)
    (hkw : PK X kws tk) (hall : (backToKw pos (keywordEach kws X.env)).all (·.1.isSome) = true := by rfl) (hks : (backToKw pos (keywordEach kws X.env)).filterMap (·.1) = ks := by rfl)
    (hdb : (x == ("__debug__" : Str)) = false := by decide)
    (hpl : ((backTo pos (starEach [] X.env)).any (·.1) || (backToKw pos (keywordEach kws X.env)).any (·.1.isNone)) = false := by rfl) :
    PE X (.Call (.Name x p) [] kws pos) (fun σ H Q => tk σ H fun zs H1 => zs.length = ks.length ∧ sp (gV [] zs) H1 Q E) := by
  refine ⟨fun pins s σ H Q I h => ?_⟩
  refine wpAny_Call_Name_kw (ld_glob I hg hm ?_ hdb)
  refine PySem.W.callWith_KW0 (h₀ := X.base) I.ok.mod.kin hk hall ?_ hpl
  refine thn (hkw.run pos pins s σ H _ I h) fun ws s2 ⟨zs, H2, I2, rz, l2, q2⟩ => ⟨I2.kIn, ?_⟩
  rw [hks]
  exact run_fnN (us := []) (vs := []) F hr hb hx I2 .nil rz rfl l2 q2
def gCallK (sp : SpD) (n m : Nat) (idx : List Nat) (dfd : List D) (ta tk : TAD) : TED := fun τ G x q => ta τ G x fun ds G1 => tk τ G1 x fun es G2 => Sd (ds.length = n ∧ es.length = m) (Call sp (pk idx (ds ++ es ++ dfd)) G2 q X0)
theorem pd_callK0 {idx : List Nat} (F : FnD X k f fd ps sp) (hr : Room k X.A) (hg : Gl X x) (hm : X.mg x = some (.ref f)) (hk : PySem.W.keepIn X.K (.ref f) = true) (hb : KBn X.K fd ps 0 ks (fun us ws => pk idx (us ++ ws)) (fun vs zs => pk idx (vs ++ zs)))
    (hkw : PKd X W kws tk) (hall : (backToKw pos (keywordEach kws X.env)).all (·.1.isSome) = true := by rfl) (hks : (backToKw pos (keywordEach kws X.env)).filterMap (·.1) = ks := by rfl)
    (hdb : (x == ("__debug__" : Str)) = false := by decide)
    (hpl : ((backTo pos (starEach [] X.env)).any (·.1) || (backToKw pos (keywordEach kws X.env)).any (·.1.isNone)) = false := by rfl) : PEd X W (.Call (.Name x p) [] kws pos) (gCallK sp 0 ks.length idx [] gNil tk) :=
  PEi (pe_callK0 F hr hg hm hk hb passN hkw hall hks hdb hpl) fun σ H Q w => by
    obtain ⟨Z, G, τ, x, q, S, R, hw, c, cx⟩ := w
    refine ⟨Z, G, τ, x, _, S, R, hw, fun ds G1 H1 vs q1 s1 R1 r1 => ?_, cx⟩
    obtain ⟨⟨_, hl⟩, q1⟩ := Sd_e q1
    refine ⟨by rw [← r1.length]; exact hl, ?_⟩
    have e : pk idx ([] ++ ds ++ []) = pk idx ([] ++ ds) := by rw [List.append_nil]
    rw [e] at q1
    exact lift_ok (σ := []) R1 (rla_pk r1 idx) q1 (c.step s1) fun _ _ _ _ _ _ z => z.elim
theorem pd_callK {idx : List Nat} (F : FnD X k f fd ps sp) (hr : Room k X.A) (hg : Gl X x) (hm : X.mg x = some (.ref f)) (hk : PySem.W.keepIn X.K (.ref f) = true) (hb : KBn X.K fd ps n ks (fun us ws => pk idx (us ++ ws)) (fun vs zs => pk idx (vs ++ zs)))
    (ha : PAd X W (e :: es) ta) (hkw : PKd X W kws tk) (hall : (backToKw pos (keywordEach kws X.env)).all (·.1.isSome) = true := by rfl) (hks : (backToKw pos (keywordEach kws X.env)).filterMap (·.1) = ks := by rfl)
    (hdb : (x == ("__debug__" : Str)) = false := by decide) (he : starEach (e :: es) X.env = (false, eval e X.env) :: starEach es X.env := by rfl)
    (hpl : ((backTo pos (starEach (e :: es) X.env)).any (·.1) || (backToKw pos (keywordEach kws X.env)).any (·.1.isNone)) = false := by rfl) : PEd X W (.Call (.Name x p) (e :: es) kws pos) (gCallK sp n ks.length idx [] ta tk) :=
  PEi (pe_callN F hr hg hm hk hb passN ha hkw hall hks hdb he hpl) fun σ H Q w => by
    obtain ⟨Z, G, τ, x, q, S, R, hw, c, cx⟩ := w
    refine ⟨Z, G, τ, x, _, S, R, hw, fun ds G1 H1 vs q1 s1 R1 r1 => ?_, cx⟩
    refine ⟨Z, G1, τ, x, _, S.mv (s1.mv R), R1, q1, fun es G2 H2 us q2 s2 R2 r2 => ?_, cx.step s1⟩
    obtain ⟨⟨hl1, hl2⟩, q2⟩ := Sd_e q2
    refine ⟨by rw [← r1.length]; exact hl1, by rw [← r2.length]; exact hl2, ?_⟩
    rw [List.append_nil] at q2
    exact lift_ok (σ := []) R2 (rla_pk ((r1.mv (s2.mv R1)).append r2) idx) q2 (c.step (s1.trans s2)) fun _ _ _ _ _ _ z => z.elim
/-- a name of the module that stands for a tuple of the module, a number, a text -/
theorem pd_glo {d : D} {u : Value} {v : V} (hg : Gl X x) (hm : X.mg x = some u) (r : RelV v u) (hd : ∀ Z G H, Rl X.K Z G H d v) (hdb : (x == ("__debug__" : Str)) = false := by decide) : PEd X W (.Name x pos) (gC d) := PEi (pe_glob hg hm r hdb) fun σ H Q => by
  rintro ⟨Z, G, τ, x, q, S, R, h, c, _⟩
  exact c d G H v h (Step.refl _ _) R (hd Z G H)
end
end N
namespace N
open PySem PySem.Spec PyProof.Rows L2
/-! ### a def that keeps its promise, with all that a caller needs -/
structure Fg (P : Program) (w : World) (K : PySem.W.Frag) (mg : Str → Option Value) (base : Heap) (k : Nat) (f : Addr) (sp : SpD) (dfd : List D) : Prop where
  ex : ∃ (fd : FuncData) (ps : List Str) (dvs : List V) (dfl : List Value), FnOk P w K mg base (L2N.CX P w) k f fd ps (liftSp K sp) ∧ PySem.W.keepIn K (.ref f) = true ∧ Vals dvs dfl ∧ Binds K fd ps dfl ∧ CstA dfd dvs
/-- .. called with n values and the keywords ks -/
structure Fk (P : Program) (w : World) (K : PySem.W.Frag) (mg : Str → Option Value) (base : Heap) (k : Nat) (f : Addr) (sp : SpD) (n : Nat) (ks : List Str) (idx : List Nat) : Prop where
  ex : ∃ (fd : FuncData) (ps : List Str), FnOk P w K mg base (L2N.CX P w) k f fd ps (liftSp K sp) ∧ PySem.W.keepIn K (.ref f) = true ∧ KBn K fd ps n ks (fun us ws => pk idx (us ++ ws)) (fun vs zs => pk idx (vs ++ zs))
section
variable {P : Program} {w : World} {K : PySem.W.Frag} {mg : Str → Option Value} {base : Heap} {k : Nat} {f : Addr} {fd : FuncData} {ps : List Str} {sp : SpD} {x qual : Str} {params : Arguments} {body : List Stmt} {scope : Scope}
theorem fg_n (F : FunD K x qual params body scope [] [] f fd) (hb : ∀ (kV doc pm : Value) (an : Option Addr) (cdv ct : Value) (us : List Value), us.length = ps.length → bindArgs (PySem.W.fnOf x qual params body scope .none kV doc pm an cdv ct) ⟨us, []⟩ = pure (ps.zip us))
    (ok : FnOk P w K mg base (L2N.CX P w) k f fd ps (liftSp K sp)) : Fg P w K mg base k f sp [] := ⟨fd, ps, [], [], ok, F.kp, .nil, F.bindsN hb, True.intro⟩
theorem fg_0 {kws : List (Str × V)} {dfd : List D} (F : FunD K x qual params body scope [] kws f fd) (n : Nat) (hk : kws ≠ []) (hn : n + kws.length = ps.length)
    (h : ∀ (D : Addr) (doc pm : Value) (an : Option Addr) (cdv ct : Value) (us ks : List Value), us.length = n → ks.length = kws.length →
      KwChain D ((kws.map (·.1)).zip ks) (bindArgs (PySem.W.fnOf x qual params body scope .none (.ref D) doc pm an cdv ct) ⟨us, []⟩) (ps.zip (us ++ ks)))
    (hd : CstA dfd (kws.map (·.2))) (ok : FnOk P w K mg base (L2N.CX P w) k f fd ps (liftSp K sp)) : Fg P w K mg base k f sp dfd := by
  obtain ⟨ds, hv, hb⟩ := F.binds0 n hk hn h
  exact ⟨fd, ps, _, ds, ok, F.kp, hv, hb, hd⟩
theorem fk_n (F : FunD K x qual params body scope [] [] f fd) (n : Nat) (ks : List Str) (idx : List Nat)
    (h : ∀ (kV doc pm : Value) (an : Option Addr) (cdv ct : Value) (us ws : List Value), us.length = n → ws.length = ks.length →
      bindArgs (PySem.W.fnOf x qual params body scope .none kV doc pm an cdv ct) ⟨us, ks.zip ws⟩ = pure (ps.zip (pk idx (us ++ ws))))
    (ok : FnOk P w K mg base (L2N.CX P w) k f fd ps (liftSp K sp)) : Fk P w K mg base k f sp n ks idx := ⟨fd, ps, ok, F.kp, kbN F n ks idx h⟩
theorem Fg.imp {sp' : SpD} {dfd : List D} (F : Fg P w K mg base k f sp dfd) (h : ∀ ds G q x, sp' ds G q x → sp ds G q x) : Fg P w K mg base k f sp' dfd := by
  obtain ⟨fd, ps, dvs, dfl, ok, a, b, c, d⟩ := F.ex
  exact ⟨fd, ps, dvs, dfl, ok.imp fun vs H Q E ⟨Z, G, ds, q, x, r, R, hs, c, cx⟩ => ⟨Z, G, ds, q, x, r, R, h _ _ _ _ hs, c, cx⟩, a, b, c, d⟩
end
section
variable {X : Cx} {W : WX} {k n : Nat} {f C p : Addr} {sp : SpD} {x m fl : Str} {q pos apos : Pos} {e o : Expr} {es : List Expr} {kws : List Keyword} {ta tk : TAD} {to : TED} {dfd : List D} {ks : List Str} {idx : List Nat}
abbrev FgX (X : Cx) (k : Nat) (f : Addr) (sp : SpD) (dfd : List D) : Prop := Fg X.prog X.w X.K X.mg X.base k f sp dfd
theorem pd_cl (F : FgX X k f sp dfd) (hr : Room k X.A) (hg : Gl X x) (hm : X.mg x = some (.ref f)) (ha : PAd X W (e :: es) ta) (hdb : (x == ("__debug__" : Str)) = false := by decide)
    (he : starEach (e :: es) X.env = (false, eval e X.env) :: starEach es X.env := by rfl) (hpl : (backTo pos (starEach es X.env)).any (·.1) = false := by rfl) : PEd X W (.Call (.Name x q) (e :: es) [] pos) (gCallD sp dfd ta) := by
  obtain ⟨fd, ps, dvs, dfl, ok, hk, hv, hb, hd⟩ := F.ex
  exact pd_callD ok hr hg hm hk hv hb hd ha hdb he hpl
theorem pd_cl0 (F : FgX X k f sp dfd) (hr : Room k X.A) (hg : Gl X x) (hm : X.mg x = some (.ref f)) (hdb : (x == ("__debug__" : Str)) = false := by decide) : PEd X W (.Call (.Name x q) [] [] pos) (gCallD sp dfd gNil) := by
  obtain ⟨fd, ps, dvs, dfl, ok, hk, hv, hb, hd⟩ := F.ex
  exact PEi (pe_call0 ok hr hg hm hk hb hv passN hdb) fun σ H Q w => by
    obtain ⟨Z, G, τ, x, q, S, R, hw, c, cx⟩ := w
    exact lift_ok (σ := []) R hd.rl hw c fun _ _ _ _ _ _ z => z.elim
/-- what is raised goes on -/
def gCallDX (sp : SpD) (dfd : List D) (ta : TAD) : TED := fun τ G x q => ta τ G x fun ds G1 => Call sp (ds ++ dfd) G1 q x
theorem pd_clX (tk : L2N.Takes X W) (F : FgX X k f sp []) (hr : Room k X.A) (hg : Gl X x) (hm : X.mg x = some (.ref f)) (ha : PAd X W (e :: es) ta) (hdb : (x == ("__debug__" : Str)) = false := by decide)
    (he : starEach (e :: es) X.env = (false, eval e X.env) :: starEach es X.env := by rfl) (hpl : (backTo pos (starEach es X.env)).any (·.1) = false := by rfl) : PEd X W (.Call (.Name x q) (e :: es) [] pos) (gCallDX sp [] ta) := by
  obtain ⟨fd, ps, dvs, dfl, ok, hk, hv, hb, hd⟩ := F.ex
  cases dvs with
  | nil =>
    cases hv
    exact PEm (pd_callX tk ok hr hg hm hk hb ha hdb he hpl) fun τ G x q z => by
      have e : (gCallDX sp [] ta) = gCallX sp ta := by
        unfold gCallDX gCallX
        simp only [List.append_nil]
      rw [e] at z
      exact z
  | cons v vs => exact hd.elim
theorem pd_clK0 (F : Fk X.prog X.w X.K X.mg X.base k f sp 0 ks idx) (hr : Room k X.A) (hg : Gl X x) (hm : X.mg x = some (.ref f)) (hkw : PKd X W kws tk)
    (hall : (backToKw pos (keywordEach kws X.env)).all (·.1.isSome) = true := by rfl) (hks : (backToKw pos (keywordEach kws X.env)).filterMap (·.1) = ks := by rfl)
    (hdb : (x == ("__debug__" : Str)) = false := by decide)
    (hpl : ((backTo pos (starEach [] X.env)).any (·.1) || (backToKw pos (keywordEach kws X.env)).any (·.1.isNone)) = false := by rfl) : PEd X W (.Call (.Name x q) [] kws pos) (gCallK sp 0 ks.length idx [] gNil tk) := by
  obtain ⟨fd, ps, ok, hk, hb⟩ := F.ex
  exact pd_callK0 ok hr hg hm hk hb hkw hall hks hdb hpl
theorem pd_clK (F : Fk X.prog X.w X.K X.mg X.base k f sp n ks idx) (hr : Room k X.A) (hg : Gl X x) (hm : X.mg x = some (.ref f)) (ha : PAd X W (e :: es) ta) (hkw : PKd X W kws tk)
    (hall : (backToKw pos (keywordEach kws X.env)).all (·.1.isSome) = true := by rfl) (hks : (backToKw pos (keywordEach kws X.env)).filterMap (·.1) = ks := by rfl)
    (hdb : (x == ("__debug__" : Str)) = false := by decide) (he : starEach (e :: es) X.env = (false, eval e X.env) :: starEach es X.env := by rfl)
    (hpl : ((backTo pos (starEach (e :: es) X.env)).any (·.1) || (backToKw pos (keywordEach kws X.env)).any (·.1.isNone)) = false := by rfl) : PEd X W (.Call (.Name x q) (e :: es) kws pos) (gCallK sp n ks.length idx [] ta tk) := by
  obtain ⟨fd, ps, ok, hk, hb⟩ := F.ex
  exact pd_callK ok hr hg hm hk hb ha hkw hall hks hdb he hpl
/-- C(e, ..) -/
theorem pd_mk (M : Mk X.K C f) (F : FgX X k f sp dfd) (hr : Room (k + 1) X.A) (hg : Gl X x) (hm : X.mg x = some (.ref C)) (ha : PAd X W (e :: es) ta) (hdb : (x == ("__debug__" : Str)) = false := by decide)
    (he : starEach (e :: es) X.env = (false, eval e X.env) :: starEach es X.env := by rfl) (hpl : (backTo pos (starEach es X.env)).any (·.1) = false := by rfl) : PEd X W (.Call (.Name x q) (e :: es) [] pos) (gMakeD C sp dfd ta) := by
  obtain ⟨fd, ps, dvs, dfl, ok, hk, hv, hb, hd⟩ := F.ex
  exact pd_makeD M ok hr hg hm hv hb hd ha hdb he hpl
/-- o.m(e, ..), o.m() -/
def gMethD (C : Addr) (m : Str) (sp : SpD) (dfd : List D) (to : TED) (ta : TAD) : TED := fun τ G x q => to τ G x fun d G1 => Sd (IsIns C d G1 fun ks _ => m ∉ ks) (ta τ G1 x fun ds G2 => Call sp (d :: (ds ++ dfd)) G2 q X0)
theorem pd_mt {pl : Sem Bool} (c : Cls X.K C) (hm : Meth X.K C m f) (F : FgX X k f sp dfd) (hr : Room k X.A) (ho : PEd X W o to) (ha : PAd X W (e :: es) ta)
    (hst : starEach (e :: es) X.env = (false, eval e X.env) :: starEach es X.env := by rfl) (hpl : (backTo pos (starEach es X.env)).any (·.1) = false := by rfl)
    (ht : eval (.Call (.Attribute o m apos) (e :: es) [] pos) X.env = (do
      let ov ← eval o X.env
      standAt apos.atName
      let (f, first) ← holding [ov] (getMethod ov m pl)
      callWith pos f first (backTo pos (starEach (e :: es) X.env)) (backToKw pos (keywordEach [] X.env))) := by rfl) :
    PEd X W (.Call (.Attribute o m apos) (e :: es) [] pos) (gMethD C m sp dfd to ta) := by
  obtain ⟨fd, ps, dvs, dfl, ok, hk, hv, hb, hd⟩ := F.ex
  refine PEi (pe_meth ho c hm ok hr hb hv passN ha hst hpl ht) fun σ H Q => ?_
  rintro ⟨Z, G, τ, x, q, S, R, hw, cl, cx⟩
  refine ⟨Z, G, τ, x, _, S, R, hw, fun d G1 H1 v q1 s1 R1 r1 => ?_, cx⟩
  obtain ⟨i1, q1⟩ := Sd_e q1
  obtain ⟨a, dx, ks, ds, xs, rfl, hx, hl, rx, nm⟩ := isIns_e R1 r1 i1
  refine ⟨a, dx, _, rfl, hx, lookup_zip_none nm, Z, G1, τ, x, _, S.mv (s1.mv R), R1, q1, fun es G2 H2 vs q2 s2 R2 r2 => ?_, cx.step s1⟩
  exact lift_ok (σ := []) R2 (.cons (r1.mv (s2.mv R1)) (r2.append hd.rl)) q2 (cl.step (s1.trans s2)) fun _ _ _ _ _ _ z => z.elim
theorem pd_mt0 {pl : Sem Bool} (c : Cls X.K C) (hm : Meth X.K C m f) (F : FgX X k f sp dfd) (hr : Room k X.A) (ho : PEd X W o to)
    (ht : eval (.Call (.Attribute o m apos) [] [] pos) X.env = (do
      let ov ← eval o X.env
      standAt apos.atName
      let (f, first) ← holding [ov] (getMethod ov m pl)
      callWith pos f first (backTo pos (starEach [] X.env)) (backToKw pos (keywordEach [] X.env))) := by rfl) :
    PEd X W (.Call (.Attribute o m apos) [] [] pos) (gMethD C m sp dfd to gNil) := by
  obtain ⟨fd, ps, dvs, dfl, ok, hk, hv, hb, hd⟩ := F.ex
  refine PEi (pe_meth0 ho c hm ok hr hb hv passN ht) fun σ H Q => ?_
  rintro ⟨Z, G, τ, x, q, S, R, hw, cl, cx⟩
  refine ⟨Z, G, τ, x, _, S, R, hw, fun d G1 H1 v q1 s1 R1 r1 => ?_, cx⟩
  obtain ⟨i1, q1⟩ := Sd_e q1
  obtain ⟨a, dx, ks, ds, xs, rfl, hx, hl, rx, nm⟩ := isIns_e R1 r1 i1
  refine ⟨a, dx, _, rfl, hx, lookup_zip_none nm, ?_⟩
  exact lift_ok (σ := []) R1 (.cons r1 hd.rl) q1 (cl.step s1) fun _ _ _ _ _ _ z => z.elim
/-- o.p, a property -/
theorem pd_pr (c : Cls X.K C) (hp : PropOf X.K C fl p f) (F : FgX X k f sp []) (hr : Room (k + 1) X.A) (ho : PEd X W o to) (hab : attributeBase o fl X.env (eval o X.env) = eval o X.env := by rfl) : PEd X W (.Attribute o fl pos) (gProp C sp to) := by
  obtain ⟨fd, ps, dvs, dfl, ok, hk, hv, hb, hd⟩ := F.ex
  cases dvs with
  | nil =>
    cases hv
    exact pd_prop c hp ok hr hb ho hab
  | cons v vs => exact hd.elim
end
/-! ### the Hook: any checks of the module's objects, and its defs -/
structure DefN where
  ad : PySem.W.Frag → Addr
  name : Str
  qual : Str
  params : Arguments
  body : List Stmt
  scope : Scope
  dfl : List He.Dv := []
  kwd : List (Str × He.Dv) := []
def fnN (K : PySem.W.Frag) (a : Addr) : He.FnW := match K.lookup a with
  | some ⟨_, _, .func fd, _⟩ => some (fd.name, fd.qualname, fd.params, fd.body, fd.scope, fd.globals, fd.closure, fd.builtins)
  | _ => none
def DefN.val (d : DefN) : He.FnW := some (d.name, d.qual, d.params, .stmts d.body, d.scope, mainGlobals, [], builtinsNs)
def DefN.dvs (K : PySem.W.Frag) (d : DefN) : List V := d.dfl.map (He.Dv.v K)
def DefN.kws (K : PySem.W.Frag) (d : DefN) : List (Str × V) := d.kwd.map fun q => (q.1, q.2.v K)
def DefN.ok (K : PySem.W.Frag) (d : DefN) : Bool := PySem.W.keepIn K (.ref (d.ad K)) && (match K.lookup (d.ad K) with
  | some ⟨_, _, .func fd, _⟩ => PySem.W.codeIn K fd.code d.qual && (He.dflB K fd.defaults (d.dvs K) && He.kwdB K fd.kwdefaults (d.kws K))
  | _ => false)
theorem DefN.funD {K : PySem.W.Frag} {d : DefN} (e : fnN K (d.ad K) = d.val) (c : d.ok K = true) : ∃ fd, FunD K d.name d.qual d.params d.body d.scope (d.dvs K) (d.kws K) (d.ad K) fd := by
  obtain ⟨kp, c2⟩ := He.ba c
  unfold fnN at e
  cases q : K.lookup (d.ad K) with
  | none =>
    rw [q] at c2
    cases c2
  | some o =>
    obtain ⟨oc, od, dt, osl⟩ := o
    rw [q] at c2 e
    cases dt with
    | func fd =>
      obtain ⟨n1, n2, n3, n4, n5, n6, n7, n8, n9, n10, n11, n12, n13, n14, n15⟩ := fd
      have e2 : (some (n1, n2, n3, n4, n5, n6, n7, n15) : He.FnW) = some (d.name, d.qual, d.params, .stmts d.body, d.scope, mainGlobals, [], builtinsNs) := e
      simp only [Option.some.injEq, Prod.mk.injEq] at e2
      obtain ⟨h1, h2, h3, h4, h5, h6, h7, h8⟩ := e2
      subst h1 h2 h3 h4 h5 h6 h7 h8
      have c3 : (PySem.W.codeIn K n13 d.qual && (He.dflB K n8 (d.dvs K) && He.kwdB K n9 (d.kws K))) = true := c2
      obtain ⟨k1, k2⟩ := He.ba c3
      obtain ⟨k3, k4⟩ := He.ba k2
      exact ⟨_, ⟨oc, od, n8, n9, n10, n11, n12, n13, n14, osl, rfl, q, k1, He.dflB_ok k3, He.kwdB_ok k4⟩, kp⟩
    | _ => cases c2
abbrev Ck : Type := PySem.W.Frag → Bool
def obsN (fa : List Ck) (fn : List DefN) (K : PySem.W.Frag) : He.AlD := ((fa.all fun f => f K) && fn.all fun d => d.ok K, fn.map fun d => fnN K (d.ad K))
def valN (fn : List DefN) : He.AlD := (true, fn.map DefN.val)
def SaysN (fa : List Ck) (fn : List DefN) (K : PySem.W.Frag) : Prop := obsN fa fn K = valN fn
def obsNG (n : Nat) (fa : List Ck) (fn : List DefN) (g : Addr → Option Obj) : He.AlD := obsN fa fn (He.frG g (He.asD g n))
def hookN (n : Nat) (fa : List Ck) (fn : List DefN) : PySem.W.Hook where
  α := He.AlD
  obs := fun s => obsNG n fa fn s.heap.get?
  val := fun _ => valN fn
  says := fun _ h => ∃ K : PySem.W.Frag, K.In h ∧ SaysN fa fn K
  of := fun _ _ e => ⟨_, He.frG_in, e⟩
  keeps := fun _ _ _ ⟨K, hK, c⟩ k => ⟨K, PySem.W.Frag.In.keeps hK k, c⟩
theorem obsNG_eq {n : Nat} {fa : List Ck} {fn : List DefN} {g : Addr → Option Obj} {s : Shared} (h : ∀ a, g a = s.heap.get? a) : obsNG n fa fn g = (hookN n fa fn).obs s := by
  have e : g = s.heap.get? := funext h
  rw [e] <;> rfl
/-- what every def's proof leans on -/
structure Ev (fa : List Ck) (fn : List DefN) (K : PySem.W.Frag) (mg : Str → Option Value) : Prop where
  h : ∃ h : Heap, K.In h ∧ h.Ns mainGlobals mg
  c : SaysN fa fn K
section
variable {fa : List Ck} {fn : List DefN} {K : PySem.W.Frag} {mg : Str → Option Value}
theorem Ev.fact (e : Ev fa fn K mg) (i : Nat) {f : Ck} (h : fa[i]? = some f := by rfl) : f K = true := by
  have c1 := (He.ba (show ((fa.all fun f => f K) && fn.all fun d => d.ok K) = true from congrArg (fun z : He.AlD => z.1) e.c)).1
  exact List.all_eq_true.mp c1 f (List.mem_of_getElem? h)
theorem Ev.def_ (e : Ev fa fn K mg) (i : Nat) {d : DefN} (h : fn[i]? = some d := by rfl) : ∃ fd, FunD K d.name d.qual d.params d.body d.scope (d.dvs K) (d.kws K) (d.ad K) fd := by
  have c := e.c
  have c2 := (He.ba (show ((fa.all fun f => f K) && fn.all fun d => d.ok K) = true from congrArg (fun z : He.AlD => z.1) c)).2
  have e : fn.map (fun d => fnN K (d.ad K)) = fn.map DefN.val := congrArg (fun z : He.AlD => z.2) c
  have e2 : (fn.map fun d => fnN K (d.ad K))[i]? = (fn.map DefN.val)[i]? := by rw [e]
  rw [List.getElem?_map, List.getElem?_map, h] at e2
  exact DefN.funD (Option.some.inj e2) (List.all_eq_true.mp c2 d (List.mem_of_getElem? h))
/-- checks -/
abbrev kGlo (x : Str) : Ck := fun K => (He.Fa.glo x).ok K
abbrev kFree (x : Str) : Ck := fun K => (He.Fa.free x).ok K
abbrev kCls (x : Str) : Ck := fun K => (He.Fa.cls x).ok K
abbrev kNoat (x f : Str) : Ck := fun K => (He.Fa.noat x f).ok K
abbrev kMeth (x m : Str) : Ck := fun K => (He.Fa.meth x m).ok K
abbrev kMkr (x : Str) : Ck := fun K => (He.Fa.mkr x).ok K
def paN (K : PySem.W.Frag) (C : Addr) (f : Str) : Addr := match PySem.W.findIn K (.ref C) f with
  | some (some (.ref a)) => a
  | _ => 0
def pgN (K : PySem.W.Frag) (C : Addr) (f : Str) : Addr := match PySem.W.recIn K (paN K C f) "property" with
  | some (.ref g :: _) => g
  | _ => 0
def prB (K : PySem.W.Frag) (C : Addr) (f : Str) : Bool := He.eqO (PySem.W.findIn K (.ref C) f) (some (some (.ref (paN K C f)))) && (He.eqO (PySem.W.specialIn K (.ref (paN K C f)) "__get__") (some (some (.builtin "property.__get__"))) &&
  (decide (PySem.W.takesIn K (.ref (paN K C f)) = some true) && (match PySem.W.recIn K (paN K C f) "property" with
    | some (.ref _ :: _) => true
    | _ => false)))
abbrev kProp (x f : Str) : Ck := fun K => prB K (He.ga K x) f
abbrev kTup (x : Str) (vs : List He.Dv) : Ck := fun K => He.tupB K x vs
theorem prop_ok {C : Addr} {f : Str} (c : prB K C f = true) : PropOf K C f (paN K C f) (pgN K C f) := by
  obtain ⟨c1, c⟩ := He.ba c
  obtain ⟨c2, c⟩ := He.ba c
  obtain ⟨c3, c4⟩ := He.ba c
  refine ⟨He.eqO_ok c1, He.eqO_ok c2, of_decide_eq_true c3, ?_⟩
  unfold pgN
  cases e : PySem.W.recIn K (paN K C f) "property" with
  | none => rw [e] at c4; cases c4
  | some l =>
    rw [e] at c4
    cases l with
    | nil => cases c4
    | cons v r => cases v with
      | ref g => exact ⟨r, rfl⟩
      | _ => cases c4
theorem Ev.glo (e : Ev fa fn K mg) {x : Str} (c : (He.Fa.glo x).ok K = true) : mg x = some (.ref (He.ga K x)) := let ⟨_, X, G⟩ := e.h; He.glo_ok X G c
theorem Ev.free (e : Ev fa fn K mg) {x : Str} (c : (He.Fa.free x).ok K = true) : mg x = none := let ⟨_, X, G⟩ := e.h; He.free_ok X G c
/-- a tuple of the module's, by its items -/
theorem tup_rl {x : Str} {vs : List He.Dv} {ds : List D} (c : He.tupB K x vs = true) (h : CstA ds (vs.map (He.Dv.v K))) (Z : ZS) (G : GH) (H : Hp) : Rl K Z G H (.tup ds) (.ref (He.ga K x)) := .tup (He.tupB_ok c H) h.rl
end
/-! ### the end -/
theorem fn_cx0 {P : Program} {w : World} {K : PySem.W.Frag} {mg : Str → Option Value} {base : Heap} {k : Nat} {f : Addr} {fd : FuncData} {ps : List Str} {sp : Sp} (F : FnOk P w K mg base (L2N.CX P w) k f fd ps sp) : FnOk P w K mg base CX0 k f fd ps (fun vs H Q _ => sp vs H Q E0) :=
  ⟨fun vs H Q E h => F.len vs H Q E0 h, fun A outer s H args us vs Q E hr he hb hv hs => codeAny_mono (F.run A outer s H args us vs Q E0 hr he hb hv hs) fun r s' z => by
    cases r with
    | error e => exact (cx_none z).elim
    | ok fl => cases fl <;> exact z⟩
end N
namespace N
open PySem PySem.Spec PyProof.Rows L2
theorem PSm {X : Cx} {W : WX} {s : Stmt} {t u : TSD} (h : PSd X W s t) (i : ∀ e τ G, u e τ G → t e τ G) : PSd X W s u := PSi h fun D σ H => by
  rintro ⟨Z, G, τ, e, S, R, h, c⟩
  exact ⟨Z, G, τ, e, S, R, i _ _ _ h, c⟩
/-! ### lists that are changed later: they come as objects of the ledger -/
def gLstM (t : TAD) : TED := fun τ G x q => t τ G x fun ds G1 => Sd (ds.length ≤ sizeLine) (NewM ds G1 q)
section
variable {X : Cx} {W : WX} {es : List Expr} {e a b : Expr} {ta tb : TED} {tA : TAD} {pos p : Pos}
theorem pd_lstM (h : PAd X W es tA) : PEd X W (.List es pos) (gLstM tA) := PEi (pe_lst h) fun σ H Q => by
  rintro ⟨Z, G, τ, x, q, S, R, h, c, cx⟩
  refine ⟨Z, G, τ, x, _, S, R, h, fun ds G1 H1 vs q1 s1 R1 r1 => ?_, cx⟩
  obtain ⟨hl, q1⟩ := Sd_e q1
  exact ⟨by rw [← r1.length]; exact hl, fun p hp => new_list R1 r1 (NewM_n q1) (c.step s1) p hp⟩
def cListM : CAD := fun ds G q => A1 ds fun x => AsQ x G fun ds => NewM ds G q
theorem asQ_m {x : D} {G : GH} {k k' : List D → Prop} (h : AsQ x G k) (i : ∀ ds, k ds → k' ds) : AsQ x G k' := by
  cases x with
  | lst ds => exact i _ h
  | tup ds => exact i _ h
  | ro ds => exact i _ h
  | ref a => obtain ⟨ds, e, h⟩ := LkL_e h; exact LkL_i e (i _ h)
  | _ => exact (show False from h).elim
theorem ok_listM {K : PySem.W.Frag} : CAOk K (fun xs H Q => ∃ p ys, xs = [.ref p] ∧ (SqL K H p ys ∨ SqT K H p ys) ∧ ∀ l, H l = none → Q (.ref l) (upd H l (.lst ys))) cListM := by
  intro Z G H ds vs q Q R r h c
  obtain ⟨d, v, rfl, rfl, r1, h⟩ := A1_e r h
  exact ok_list Z G H [d] [v] q Q R r (show A1 [d] fun x => AsQ x G fun ds => NewL ds G q from asQ_m h fun _ z => NewM_n z) c
def nMulM : R2D := fun x y G q => match x with
  | .lst xs => (match y with | .int k => Sd (-(2 ^ 63) ≤ k ∧ k < 2 ^ 63 ∧ xs.length * k.toNat ≤ sizeLine) (NewM (List.replicate k.toNat xs).flatten G q) | _ => False)
  | _ => False
theorem ok_mulM {K : PySem.W.Frag} : R2Ok K (rMulA K) nMulM := by
  intro Z G H x y v u q Q R rx ry h c
  refine ok_mul Z G H x y v u q Q R rx ry ?_ c
  cases x with
  | lst xs => cases y with
    | int k =>
      obtain ⟨a, h⟩ := Sd_e h
      exact Sd_i a (NewM_n h)
    | _ => exact (show False from h).elim
  | _ => exact (show False from h).elim
theorem pd_mulM (ha : PEd X W a ta) (hb : PEd X W b tb) : PEd X W (.BinOp a .Mult b pos) (gOp nMulM ta tb) := pd_op op_mulA ok_mulM ha hb
end
/-! ### short forms -/
section
variable {X : Cx} {W : WX} {e tg : Expr} {t : TED} {pos p py : Pos} {g : TGD} {h : TGD} {wi : TID} {tt : TTD} {te : TED} {x y : Str}
theorem v_ (i : Nat) (hN : X.N[i]? = some x := by rfl) (hv : Vis X.env.scope x := by first | exact Or.inl rfl | exact Or.inr (Or.inl rfl) | exact Or.inr (Or.inr rfl)) (hd : (x == ("__debug__" : Str)) = false := by decide)
    (hcd : (x == ("__classdict__" : Str)) = false := by decide) : PEd X W (.Name x pos) (gVar i) := pd_var (x := x) (pe_var hN hv hd hcd)
theorem s_ (hN : X.N.Nodup) (i : Nat) (he : PEd X W e t) (hi : X.N[i]? = some x := by rfl) (hx : Loc X.env.scope x := by first | exact Or.inl rfl | exact Or.inr rfl) (hs : swapsWith e (some (.Name x py)) pos.line X.env = pure false := by rfl)
    (hf : X.fn x = true ∨ X.env.scope.names.lookup x = some .local := by first | exact .inl rfl | exact .inr rfl) : PSd X W (.Assign [.Name x py] e pos) (gAsg t (hName i)) := psd_set (ps_set hN hi hx he hs hf)
theorem g_ (hN : X.N.Nodup) (i : Nat) (hi : X.N[i]? = some x := by rfl) (hx : Loc X.env.scope x := by first | exact Or.inl rfl | exact Or.inr rfl)
    (hf : X.fn x = true ∨ X.env.scope.names.lookup x = some .local := by first | exact .inl rfl | exact .inr rfl) : PGd X (.Name x pos) (hName i) := pgd_name (L2.pg_name hN hi hx hf)
/-- within a block: the target's own names -/
theorem gb_ (hN : X.N.Nodup) (i : Nat) (hi : X.N[i]? = some x := by rfl) (hx : Loc X.env.scope x := by first | exact Or.inl rfl | exact Or.inr rfl)
    (hf : X.fn x = true ∨ X.env.scope.names.lookup x = some .local := by first | exact .inl rfl | exact .inr rfl) : PG X (.Name x pos) (gName i) := L2.pg_name hN hi hx hf
theorem ok_lt {K : PySem.W.Frag} : R2Ok K (rI0 fun i j => .bl (decide (i < j))) nLt := ok_I fun _ _ => rfl
theorem ok_le {K : PySem.W.Frag} : R2Ok K (rI0 fun i j => .bl (decide (i ≤ j))) nLe := ok_I fun _ _ => rfl
theorem ok_gt {K : PySem.W.Frag} : R2Ok K (rI0 fun i j => .bl (decide (j < i))) nGt := ok_I fun _ _ => rfl
theorem ok_ge {K : PySem.W.Frag} : R2Ok K (rI0 fun i j => .bl (decide (j ≤ i))) nGe := ok_I fun _ _ => rfl
theorem Ev.r {k : Nat} {A : Around} (r : Room k A) : A.units + 64 < cLine := r.units
theorem bc_ {Nm : List Str} {sc scope : Scope} {own : List (Str × Nat)} (h : blkC Nm sc scope own = true := by kernel_rfl) : BlkOk Nm sc scope own := blkOk_by h
end
/-! ### side conditions -/
theorem or_ll {a b c d : Prop} (h1 : a) (h2 : b) : (c ∨ (a ∧ b)) ∨ d := .inl (.inr ⟨h1, h2⟩)
theorem or_lr {a b c d : Prop} (h1 : a) (h2 : b) : ((a ∧ b) ∨ c) ∨ d := .inl (.inl ⟨h1, h2⟩)
theorem cmulw {i j : Int} (h : decide (i.natAbs.log2 + j.natAbs.log2 < 1000000) = true) : CMulW i j := by
  unfold CMulW
  exact of_decide_eq_true h
/-! ### addresses of the ledger -/
theorem ne_new {G : GH} {a p : Addr} {o : GO} (h : G a = some o) (n : G p = none) : a ≠ p := fun z => by rw [z, n] at h; cases h
theorem ne_new' {G : GH} {a p : Addr} {o : GO} (h : G a = some o) (n : G p = none) : p ≠ a := fun z => by rw [← z, n] at h; cases h
end N
namespace N
open PySem PySem.Spec PyProof.Rows L2 PySem.W
/-! ### isinstance of an exception that has a dict -/
section
variable {K : PySem.W.Frag} {prog : Program} {w : World} {A : Around} {E : Value → Shared → Prop} {s : Shared} {x D : Addr} {ox : Obj} {od : Obj}
theorem kin_clsD {Q : Option Value → Shared → Prop} (c : ExcC K D) (X : K.In s.heap) (I : InstAt s.heap x ox D (some od)) (h : Q (some (.ref D)) { s with toks := s.toks + 1 }) : wpAny (model prog w) A (getAttr? (.ref x) "__class__") Q E s := by
  have isC : (clsIn K D).isSome = true := by
    obtain ⟨cd, hc, _⟩ := any_some c.hd
    rw [hc]
    rfl
  have found : findObj K D (some od) "__class__" = some (.bind (.builtin "getset_descriptor.__get__") (.builtin "object.__class__")) := findObj_data isC c.ha c.hn c.ht
  obtain ⟨hp, g, d, t, os⟩ := s
  have l0 := I.type (M := model prog w)
  have l1 := looks_findIn (M := model prog w) X c.hg
  have l2 := looks_findIn (M := model prog w) X c.hk
  have l3 := looks_find (M := model prog w) X I found
  have isE : Looks (model prog w) hp (isInstance (.ref x) (.type "BaseException")) true := l0.andThen (looks_subIn X c.hs)
  have nObj : (Value.builtin "BaseException.__getattribute__" == Value.builtin "object.__getattribute__") = false := by decide +kernel
  have nBoth : (onTheHeap (Value.ref D) && Value.builtin "BaseException.__getattribute__" == Value.builtin "object.__getattribute__") = false := by
    rw [nObj]
    rfl
  unfold getAttr? getAttrBy? getAttrBy
  refine wpAny_bind (wpAny_mkText (wpAny_bind ?_))
  refine wpAny_attempt (wpAny_holding (wpAny_bind (l0.at (wpAny_bind (l1.at ?_)))))
  show wpAny _ _ (if (onTheHeap (Value.ref D) && Value.builtin "BaseException.__getattribute__" == Value.builtin "object.__getattribute__") = true then _ else _) _ _ _
  rw [nBoth, if_neg Bool.false_ne_true]
  unfold getAttrByItsOwn hookBefore
  refine wpAny_bind ?_
  rw [if_pos (show onTheHeap (Value.ref D) = true from rfl)]
  refine l2.at (wpAny_bind (wpAny_attempt (wpAny_holding ?_)))
  unfold callGetattribute
  rw [show (false && onTheHeap (Value.builtin "BaseException.__getattribute__")) = false from rfl, if_neg Bool.false_ne_true]
  unfold boundAndCalled
  rw [PySem.F.excAttr_ValueError.ga.bind (.ref x)]
  refine wpAny_bind (wpAny_pure ?_)
  show wpAny _ _ (call (.builtin "BaseException.__getattribute__") [.ref x, .str "__class__" t]) _ _ _
  refine wpAny_call (codeAny_call_builtin PySem.F.excAttr_ValueError.ga.plain PySem.F.entry_bexc_ga ?_)
  refine @check_slot (model prog w) _ _ ⟨hp, g, d, t + 1, os⟩ "BaseException.__getattribute__" "BaseException" "__getattribute__" (.ref x) [.str "__class__" t] [] _ (by decide +kernel) (by decide +kernel) isE (PySem.F.args_bexc_ga (.ref x) (.str "__class__" t)) ?_
  unfold Builtin.«object.__getattribute__»
  refine wpAny_bind (wpAny_of_eq (a := ((Value.ref x : Value), [Value.str "__class__" t])) (by first | rfl | (simp only [slotArgs]; rfl)) ?_)
  refine wpAny_bind (wpAny_pure (wpAny_bind (l0.at (wpAny_bind (l3.at ?_)))))
  show wpAny _ _ (holding [Value.builtin "object.__class__"] (call (.builtin "getset_descriptor.__get__") [.builtin "object.__class__", .ref x, .ref D]) >>= ret) _ _ _
  refine wpAny_bind (wpAny_holding (wpAny_call (class_get (s := ⟨hp, g, d, t + 1, os⟩) (ox := ox) (od := some od) X I c.hm ?_)))
  refine wpAny_pure ?_
  show wpAny _ _ (handedOut (.ref D)) _ _ _
  rw [handedOut_of (v := .ref D) rfl]
  first
    | exact wpAny_pure (wpAny_pure h)
    | exact wpAny_pure h
    | exact wpAny_pure (wpAny_bind (wpAny_pure (wpAny_pure h)))
end
theorem kitxD {K : PySem.W.Frag} {x D : Addr} {ox : Obj} (c : ExcC K D) : KitX K (.ref x) (.ref D) (fun h => ∃ od, InstAt h x ox D (some od)) := by
  obtain ⟨cd, hc, _⟩ := any_some c.hd
  obtain ⟨oc, odc, sl, ho⟩ : ∃ oc odc sl, K.lookup D = some ⟨oc, odc, .cls cd, sl⟩ := by
    unfold clsIn at hc
    split at hc
    · rename_i oc odc cd' sl e
      cases hc
      exact ⟨oc, odc, sl, e⟩
    · cases hc
  refine ⟨fun _ _ _ I => ?_, fun _ _ X _ => ?_, fun h tp dd its n sl X htp => ?_, fun X I k => ?_⟩
  · obtain ⟨od, I⟩ := I
    exact I.type
  · intro A' Q' E' s' k q
    unfold isType loadHead
    exact wpAny_bind (wpAny_loadPart (k _ _ (X _ _ ho)) (wpAny_pure q))
  · refine Bool.eq_false_iff.mpr fun q => ?_
    have e : D = tp := Value.ref.inj (beq_iff_eq.mp q)
    rw [← e] at htp
    have z := (X _ _ ho).symm.trans htp
    cases z
  · obtain ⟨od, I⟩ := I
    exact kin_clsD c X I k
/-! ### raise C(e): C an own exception class, whose __init__ keeps its promise -/
/-- self.at = at -/
def spInit (K : PySem.W.Frag) : Sp := fun vs H Q _ => ∃ (a C : Addr) (v : V), vs = [.ref a, v] ∧ OexC K C ∧ PySem.W.findIn K (.ref C) "at" = some none ∧ H a = some (exo a C none) ∧
  ∀ dx, H dx = none → dx ≠ a → Q .non (upd (upd H dx (exd dx [(("at" : Str), v)])) a (exo a C (some dx)))
theorem mkN_end {X : Cx} {pins : List (Addr × Obj)} {σ : L2.St} {H1 H2 : Hp} {Q : XK} {hp hp2 h2 : Heap} {g1 g2 : Array GenState} {d1 d2 : Drawn} {t1 t2 : Nat} {os1 os2 : OsState} {a C d : Addr} {fs : List (Str × V)} (T : Raises X (.ref C)) (I1 : Inv X pins σ H1 ⟨hp, g1, d1, t1, os1⟩)
    (ha : hp.objs.size ≤ a) (k : ∀ b o, hp.get? b = some o → hp2.get? b = some o) (un : Un (frs X.stack) [] (upd H1 a (exo a C none)) H2 hp2 h2) (hok : HOk X.prog X.w H2 h2) (ho : os2 = os1) (hb : AllBare g2)
    (ea : H2 a = some (exo a C (some d))) (ed : H2 d = some (exd d fs)) (hd1 : H1 d = none) (q : Q (.ref C) (some d) (upd (del H2 a) d (.xd fs))) : L2N.MkP X pins σ Q (.ref a) ⟨h2, g2, d2, t2, os2⟩ := by
  obtain ⟨t0, Gh, J, kG, ge, hoe, na⟩ := mk_end0 (d2 := d2) (t2 := t2) I1 ha k un hok ho hb ea ed hd1
  refine ⟨a, _, _, ⟨Gh, g2, d2, t2, os2⟩, _, .ref C, some d, rfl, J, kG, ge, hoe, ⟨rfl, rfl, fun vs e => ?_⟩, rfl, rfl, na, rfl, hb, T, q⟩
  cases e
  rfl
section
variable {X : Cx} {W : WX} {C fI : Addr} {k : Nat} {fd : FuncData} {x : Str} {e : Expr} {t : TED} {p pos rpos : Pos} {ta : TA}
theorem pmkN (T : OexC X.K C) (iC : PySem.W.findIn X.K (.ref C) "__init__" = some (some (.ref fI))) (tI : PySem.W.typeIn X.K (.ref fI) = some (.type "function"))
    (F1 : FnOk X.prog X.w X.K X.mg X.base (L2N.CX X.prog X.w) k fI fd ["self", "at"] (spInit X.K)) (hr : Room (k + 1) X.A) (hb : Binds X.K fd ["self", "at"] []) (hg : Gl X x) (hm : X.mg x = some (.ref C)) (ha : PA X [e] ta)
    (hdb : (x == ("__debug__" : Str)) = false := by decide) (he : starEach [e] X.env = (false, eval e X.env) :: starEach [] X.env := by rfl) : L2N.PMk X (.Call (.Name x p) [e] [] pos) (tMkO C (spInit X.K) [] ta) := by
  intro pins s σ H Q I h
  obtain ⟨nm, q, N, bs, bm, sn, sub, ab, col, dd, k0, k1, k2, k3, k5, hC, hbm⟩ := T.cls
  refine wpAny_Call_Name_kw (ld_glob I hg hm ?_ hdb)
  refine PySem.W.callWith_K (h₀ := X.base) I.ok.mod.kin T.kC (thn (ha.run pos pins s σ H _ I h) fun us s1 ⟨vs, H1, I1, r1, hz, q1⟩ => ⟨I1.kIn, ?_⟩) he rfl
  show wpAny _ _ (call (.ref C) us) _ _ _
  obtain ⟨hp, g, dr, tk, os⟩ := s1
  obtain ⟨y, hy⟩ : ∃ y : Addr, y = hp.objs.size + 1 := ⟨_, rfl⟩
  have up : hp.objs.size ≤ y := by rw [hy]; exact Nat.le_succ _
  have hn : H1 y = none := I1.hok.fresh up
  have hq := q1 y hn
  rw [List.append_nil] at hq
  obtain ⟨Gh, hGh⟩ : ∃ Gh : Heap, Gh = (hp.push (PySem.W.kdv_tup us)).push (PySem.HandSPX.excO C hp.objs.size) := ⟨_, rfl⟩
  have kk : ∀ b o, hp.get? b = some o → Gh.get? b = some o := fun b o z => by rw [hGh]; exact Heap.get?_push_of_some _ (Heap.get?_push_of_some _ z)
  have there : Gh.get? y = some (PySem.HandSPX.excO C hp.objs.size) := by
    rw [hGh, hy]
    heap_get
  have I2 : Inv X pins σ (upd H1 y (exo y C none)) ⟨Gh, g, dr, tk, os⟩ := I1.laid (t' := tk) (a := y) (o := exo y C none) (h' := Gh) kk up (exo_ok there)
  have r2 : Vals (V.ref y :: vs) (Value.ref y :: us) := .cons rfl r1
  have hl : (Value.ref y :: us ++ []).length = 2 := by
    rw [List.append_nil, ← r2.length]
    exact F1.len _ _ _ _ hq
  have few : us.length ≤ sizeLine := by
    rw [← r1.length, sizeLine_eq]
    omega
  have b2 := hb ⟨Gh, g, dr, tk, os⟩ (Value.ref y :: us) I2.kIn hl
  rw [List.append_nil] at b2
  subst hy hGh
  refine wpAny_call (PySem.HandSPX.call_own F.excBase_ValueError (fun Y => PySem.HandSPX.refsVE_contains Y bm hbm) (I1.kIn _ _ hC) (PySem.W.looks_findIn I1.kIn iC) (fun self => PySem.W.bind_fn I1.kIn self tI) few (codeAny_mono (F1.run _ X.stack _ _ _ _ _ _ E0 (hr.make C us []) (I2.env0.make C us []) b2 r2 hq) fun r s' hq' => ?_))
  cases r with
  | error er => exact (cx_none hq').elim
  | ok fl =>
    cases fl with
    | ret u =>
      obtain ⟨v, H2, os2, bare2, un2, hok2, rv, ev, d, fs, ea, ed, hd1, q2⟩ := hq'
      subst ev
      obtain ⟨h2, g2, d2, t2, os'⟩ := s'
      exact ⟨rv, mkN_end (raises_own T.exC T.tyC) I1 up kk un2 hok2 os2 bare2 ea ed hd1 q2⟩
    | next => exact False.elim hq'
    | brk => exact False.elim hq'
    | cont => exact False.elim hq'
/-- what a class that is raised must say -/
structure RaC (K : PySem.W.Frag) (C fI : Addr) : Prop where
  ox : OexC K C
  na : PySem.W.findIn K (.ref C) "at" = some none
  ini : PySem.W.findIn K (.ref C) "__init__" = some (some (.ref fI))
  ty : PySem.W.typeIn K (.ref fI) = some (.type "function")
def gRaise (C : Addr) (t : TED) : TSD := fun e τ G => t τ G (xOf e τ) fun d G1 => e.ex C d τ G1
theorem psd_raise (hc : X.calm = true) (tk : L2N.Takes X W) (T : RaC X.K C fI) (F1 : FnOk X.prog X.w X.K X.mg X.base (L2N.CX X.prog X.w) k fI fd ["self", "at"] (spInit X.K)) (hr : Room (k + 1) X.A) (hb : Binds X.K fd ["self", "at"] [])
    (hg : Gl X x) (hm : X.mg x = some (.ref C)) (he : PEd X W e t) (hdb : (x == ("__debug__" : Str)) = false := by decide) (hs : starEach [e] X.env = (false, eval e X.env) :: starEach [] X.env := by rfl) :
    PSd X W (.Raise (some (.Call (.Name x p) [e] [] pos)) none rpos) (gRaise C t) :=
  PSi (L2N.ps_raise hc tk (pmkN T.ox T.ini T.ty F1 hr hb hg hm (pa_cons he pa_nil hs) hdb hs)) fun D σ H => by
    rintro ⟨Z, G, τ, ed, S, R, h, c⟩
    refine ⟨Z, G, τ, _, _, S, R, h, fun d G1 H1 v q1 s1 R1 r1 => ?_, c.ex.x R S⟩
    refine ⟨by show 1 ≤ 1000; omega, fun a ha => ?_⟩
    refine ⟨a, C, v, rfl, T.ox, T.na, upd_same, fun dx hdx ne => ⟨rfl, dx, [(("at" : Str), v)], upd_same, ?_, ?_, ?_⟩⟩
    · rw [upd_ne ne, upd_same]
    · rw [upd_ne ne] at hdx
      exact hdx
    · have hdx1 : H1 dx = none := by rw [upd_ne ne] at hdx; exact hdx
      -- what stands behind the making
      have eH : upd (del (upd (upd (upd H1 a (exo a C none)) dx (exd dx [(("at" : Str), v)])) a (exo a C (some dx))) a) dx (.xd [(("at" : Str), v)]) = upd H1 dx (.xd [(("at" : Str), v)]) := by
        funext b
        by_cases hbd : b = dx
        · rw [hbd, upd_same, upd_same]
        · rw [upd_ne hbd, upd_ne hbd]
          by_cases hba : b = a
          · rw [hba, del_same, ha]
          · rw [del_ne hba, upd_ne hba, upd_ne hbd, upd_ne hba]
      rw [eH]
      have s2 := step_new (u := HO.xd [(("at" : Str), v)]) R1 hdx1
      exact c.ex C d τ G1 _ σ dx v q1 (s1.trans s2) (rel_new R1 hdx1) (S.mv ((s1.trans s2).mv R)) (r1.mv (s2.mv R1)) upd_same (R1.fresh hdx1) (R1.freshZ hdx1)
end
end N
namespace N
open PySem PySem.Spec PyProof.Rows L2
theorem StR.del {K : PySem.W.Frag} {Z : ZS} {G : GH} {H : Hp} {τ : SD} {σ : L2.St} (s : StR K Z G H τ σ) (i : Nat) : StR K Z G H (τ.set i none) (σ.set i none) := by
  refine ⟨by rw [List.length_set, List.length_set]; exact s.len, fun j e h => ?_⟩
  by_cases hj : i = j
  · subst hj
    by_cases hl : i < τ.length
    · rw [List.getElem?_set_self hl] at h
      cases h
    · rw [List.getElem?_eq_none (by rw [List.length_set]; omega)] at h
      cases h
  · rw [List.getElem?_set_ne hj] at h
    obtain ⟨u, e1, r1⟩ := s.val j e h
    exact ⟨u, by rw [List.getElem?_set_ne hj]; exact e1, r1⟩
/-! ### try: body, except x as n: suite -/
@[irreducible] def ExM (K : PySem.W.Frag) (C : Addr) (c : Value) (k : Bool → Prop) : Prop := ∃ b, PySem.W.exmOne K (.ref C) c = some b ∧ k b
theorem ExM_i {K : PySem.W.Frag} {C : Addr} {c : Value} {k : Bool → Prop} {b : Bool} (e : PySem.W.exmOne K (.ref C) c = some b) (h : k b) : ExM K C c k := by unfold ExM; exact ⟨b, e, h⟩
theorem ExM_e {K : PySem.W.Frag} {C : Addr} {c : Value} {k : Bool → Prop} (h : ExM K C c k) : ∃ b, PySem.W.exmOne K (.ref C) c = some b ∧ k b := by unfold ExM at h; exact h
/-- what a class of exceptions must say -/
structure XcOk (K : PySem.W.Frag) (C : Addr) : Prop where
  ec : ExcC K C
  xf : XfC K C
  na : PySem.W.findIn K (.ref C) "at" = some none
abbrev THD := Addr → Addr → Addr → TSD
def sEnds (e : EndsD) (i : Nat) : EndsD := { nx := fun τ G => e.nx (τ.set i none) G, rt := e.rt, bk := fun τ G => e.bk (τ.set i none) G, ct := fun τ G => e.ct (τ.set i none) G }
def gTry (K : PySem.W.Frag) (c : Value) (i : Nat) (t : TSD) (u : THD) : TSD := fun e τ G => t { e with ex := fun C d τ1 G1 => ExM K C c fun b => Cond b (Sd (XcOk K C) (∀ a dd, u a dd C (sEnds e i) (τ1.set i (some (.exc a dd C d))) G1)) (e.ex C d τ1 G1) } τ G
section
variable {X : Cx} {W : WX} {x n : Str} {c0 : Value} {i : Nat} {body suite : List Stmt} {b₀ : Stmt} {np pos pos' : Pos} {t : TSD} {u : THD}
theorem psd_try (hs : X.stack = X.env :: X.outer) (hf : X.env.frame = some X.env.locals) (hN : X.N.Nodup) (hi : X.N[i]? = some n) (hln : X.env.kindOf n = some .local) (hc : Names X x c0) (tk : L2N.Takes X W)
    (hb : ∀ (W' : WX) (pn : List (Addr × Obj)) (xe : Value → Shared → Prop), L2N.Takes (X.tr pn xe) W' → PassesOwn (model X.prog X.w) X.A X.env xe → PSsd (X.tr pn xe) W' body t)
    (hsu : ∀ (a dd C : Addr) (oe : Obj) (pn : List (Addr × Obj)), XcOk X.K C → L2N.Zn (.ref C) (some dd) oe → (∃ vs, oe.data = .fields vs) → PSsd (X.suite a ((a, oe) :: pn)) W0 (b₀ :: suite) (u a dd C)) :
    PSd X W (.Try body [.ExceptHandler (some (.Name x np)) (some n) (b₀ :: suite) pos'] [] [] pos) (gTry X.K c0 i t u) := by
  have tr := L2N.ps_try_as (np := np) (pos := pos) (pos' := pos') (tb := fun W' => LfS X.K W' t) (ts := fun a cls dct D σ H => ∃ C dd, cls = .ref C ∧ dct = some dd ∧ XcOk X.K C ∧ LfS X.K W0 (u a dd C) D σ H) hs hf hN hi hln hc tk hb
    (fun a oe cls d pn hz hv => ⟨fun pins s σ H D I hw => by
      obtain ⟨C, dd, rfl, rfl, xc, hw⟩ := hw
      exact (hsu a dd C oe pn xc hz hv).run pins s σ H D I hw⟩)
  refine PSi tr fun D σ H => ?_
  rintro ⟨Z, G, τ, e, S, R, h, c⟩
  refine ⟨Z, G, τ, _, S, R, h, c.nx, c.rt, c.bk, c.ct, ?_⟩
  intro C d τ1 G1 H1 σ1 dct v hex s1 R1 S1 r1 hd g z
  obtain ⟨b, e1, q1⟩ := ExM_e hex
  have q1 := Cond_e q1
  have c1 := c.step s1
  refine ⟨b, e1, fun hb a ha => ?_, fun hb => ?_⟩
  · subst hb
    obtain ⟨xc, q1⟩ := Sd_e (show Sd (XcOk X.K C) _ from q1)
    have rE : Rl X.K Z G1 H1 (.exc a dct C d) (.ref a) := .exc hd g z r1
    refine ⟨C, dct, rfl, rfl, xc, Z, G1, _, _, S1.set i rE, R1, q1 a dct, ?_, c1.rt, ?_, ?_, fun _ _ _ _ _ _ _ _ z => z.elim⟩
    · exact fun τ2 G2 H2 σ2 q2 s2 R2 S2 => c1.nx _ G2 H2 _ q2 s2 R2 (S2.del i)
    · exact fun τ2 G2 H2 σ2 q2 s2 R2 S2 => c1.bk _ G2 H2 _ q2 s2 R2 (S2.del i)
    · exact fun τ2 G2 H2 σ2 q2 s2 R2 S2 => c1.ct _ G2 H2 _ q2 s2 R2 (S2.del i)
  · subst hb
    exact c.ex C d τ1 G1 H1 σ1 dct v q1 s1 R1 S1 r1 hd g z
end
/-! ### while an exception is handled -/
/-- the exception at a, of class C, its dict at dd, is handled in X -/
structure HotX (X : Cx) (a dd C : Addr) : Prop where
  ex : ∃ oe, (a, oe) ∈ X.pn ∧ X.A.handled = some (.ref a) ∧ L2N.Zn (.ref C) (some dd) oe ∧ ∃ vs, oe.data = .fields vs ∧ vs[2]? = some .none
theorem hot_suite {X : Cx} {a dd C : Addr} {oe : Obj} {pn : List (Addr × Obj)} (hz : L2N.Zn (.ref C) (some dd) oe) (hf : ∃ vs, oe.data = .fields vs) : HotX (X.suite a ((a, oe) :: pn)) a dd C := by
  obtain ⟨vs, hv⟩ := hf
  exact ⟨oe, List.mem_cons_self, rfl, hz, vs, hv, hz.2.2 vs hv⟩
/-- its object, its dict's object -/
theorem HotX.inst {X : Cx} {a dd C : Addr} {pins : List (Addr × Obj)} {σ : L2.St} {H : Hp} {s : Shared} {v : V} (h : HotX X a dd C) (I : Inv X pins σ H s) (hd : H dd = some (.xd [(("at" : Str), v)])) :
    ∃ oe od u, PySem.W.InstAt s.heap a oe C (some od) ∧ PySem.W.lookIn "at" od = some (some u) ∧ RelV v u := by
  obtain ⟨oe, hp, _, hz, vs, hv, _⟩ := h.ex
  obtain ⟨ha, _⟩ := I.pin (a, oe) (List.mem_append_left _ hp)
  obtain ⟨mA, hns, hr⟩ := (show ObjOk X.prog X.w H s.heap dd (.xd [(("at" : Str), v)]) from I.hok dd _ hd)
  obtain ⟨od, ho, hl⟩ := lookIn_ns hns
  obtain ⟨u, hu, ru⟩ := RelO.some_of (v := v) (o := mA ("at" : Str)) (hr ("at" : Str))
  refine ⟨oe, od, u, ⟨ha, hz.1, ?_, ?_⟩, by rw [hl, hu], ru⟩
  · unfold PySem.W.notCls
    rw [hv]
  · rw [hz.2.1]
    exact ho
def ExIs (a dd C : Addr) (d : D) (k : D → Prop) : Prop := match d with
  | .exc a' dd' C' at_ => Sd (a' = a ∧ dd' = dd ∧ C' = C) (k at_)
  | _ => False
theorem exIs_e {K : PySem.W.Frag} {Z : ZS} {G : GH} {H : Hp} {a dd C : Addr} {d : D} {v : V} {k : D → Prop} (r : Rl K Z G H d v) (h : ExIs a dd C d k) : ∃ at_ y, d = .exc a dd C at_ ∧ v = .ref a ∧ H dd = some (.xd [(("at" : Str), y)]) ∧ Rl K Z G H at_ y ∧ k at_ := by
  cases d with
  | exc a' dd' C' at_ =>
    replace h := Sd_e h
    obtain ⟨⟨rfl, rfl, rfl⟩, h⟩ := h
    cases r with
    | exc hd g z r => exact ⟨at_, _, rfl, rfl, hd, r, h⟩
  | _ => exact (show False from h).elim
@[irreducible] def IsB (K : PySem.W.Frag) (C : Addr) (c : Value) (k : Bool → Prop) : Prop := ∃ b, PySem.W.kitOne K (.ref C) c = some b ∧ k b
theorem IsB_i {K : PySem.W.Frag} {C : Addr} {c : Value} {k : Bool → Prop} {b : Bool} (e : PySem.W.kitOne K (.ref C) c = some b) (h : k b) : IsB K C c k := by unfold IsB; exact ⟨b, e, h⟩
theorem IsB_e {K : PySem.W.Frag} {C : Addr} {c : Value} {k : Bool → Prop} (h : IsB K C c k) : ∃ b, PySem.W.kitOne K (.ref C) c = some b ∧ k b := by unfold IsB at h; exact h
@[irreducible] def IsA (K : PySem.W.Frag) (C : Addr) (cs : List Value) (k : Bool → Prop) : Prop := ∃ b, PySem.W.kitAny K (.ref C) cs = some b ∧ k b
theorem IsA_i {K : PySem.W.Frag} {C : Addr} {c : List Value} {k : Bool → Prop} {b : Bool} (e : PySem.W.kitAny K (.ref C) c = some b) (h : k b) : IsA K C c k := by unfold IsA; exact ⟨b, e, h⟩
theorem IsA_e {K : PySem.W.Frag} {C : Addr} {c : List Value} {k : Bool → Prop} (h : IsA K C c k) : ∃ b, PySem.W.kitAny K (.ref C) c = some b ∧ k b := by unfold IsA at h; exact h
def gIsE (K : PySem.W.Frag) (a dd C : Addr) (c : Value) (te : TED) : TED := fun τ G x q => te τ G x fun d G1 => ExIs a dd C d fun _ => IsB K C c fun b => q (.bl b) G1
def gIsEA (K : PySem.W.Frag) (a dd C : Addr) (cs : List Value) (te : TED) : TED := fun τ G x q => te τ G x fun d G1 => ExIs a dd C d fun _ => IsA K C cs fun b => q (.bl b) G1
def gAtE (a dd C : Addr) (te : TED) : TED := fun τ G x q => te τ G x fun d G1 => ExIs a dd C d fun at_ => q at_ G1
/-- isinstance(e, c) by the library's rule -/
def rIsX (K : PySem.W.Frag) (a dd C : Addr) : List V → Hp → VK → Prop := fun xs H Q => ∃ (y : V), H dd = some (.xd [(("at" : Str), y)]) ∧ ((∃ (c : V) (cv : Value) (b : Bool), xs = [.ref a, c] ∧ ClsV c cv ∧ PySem.W.kitOne K (.ref C) cv = some b ∧ Q (.bl b) H) ∨
  ∃ (tp : Addr) (cs : List V) (ws : List Value) (b : Bool), xs = [.ref a, .ref tp] ∧ H tp = some (.tup cs) ∧ Paired ClsV cs ws ∧ PySem.W.kitAny K (.ref C) ws = some b ∧ Q (.bl b) H)
theorem call_isX {X : Cx} {a dd C : Addr} (hx : HotX X a dd C) (c : ExcC X.K C) : CallR X (.builtin "isinstance") (rIsX X.K a dd C) := by
  intro pins s σ H xs us Q I r h
  obtain ⟨y, hd, h⟩ := h
  obtain ⟨oe, od, u, J, _, _⟩ := hx.inst I hd
  rcases h with ⟨cl, cv, b, rfl, hc, e, q⟩ | ⟨tp, cs, ws, b, rfl, hT, hk, e, q⟩
  · obtain ⟨u1, u2, rfl, r1, r2⟩ := vals2 r
    cases (show u1 = Value.ref a from r1)
    have e2 : u2 = cv := ClsV.eq hc r2
    subst e2
    exact PySem.W.kia_one (kitxD (ox := oe) c) I.kIn ⟨od, J⟩ e (fun z => nomatch z) fun tk => ⟨.bl b, H, I.kept (t' := tk) fun _ _ z => z, rfl, q⟩
  · obtain ⟨u1, u2, rfl, r1, r2⟩ := vals2 r
    cases (show u1 = Value.ref a from r1)
    cases (show u2 = Value.ref tp from r2)
    obtain ⟨_, its, rv, o, h1, h2, n, h3⟩ := (show ObjOk X.prog X.w H s.heap tp (.tup cs) from I.hok tp _ hT)
    have e3 := ClsV.all hk rv
    subst e3
    obtain ⟨oc, odd, dt, sl⟩ := o
    simp only at h2 h3
    subst h2 h3
    exact PySem.W.kia_tup (kitxD (ox := oe) c) I.kIn ⟨od, J⟩ h1 e (fun z => nomatch z) fun tk => ⟨.bl b, H, I.tok tk, rfl, q⟩
def tClss : List V → TA
  | [] => tNil
  | c :: cs => tCons (tC c) (tClss cs)
theorem tClss_run (σ : L2.St) (H : Hp) (Q : List V → Hp → Prop) : ∀ cs : List V, Q cs H → tClss cs σ H Q := by
  intro cs
  induction cs generalizing Q with
  | nil => exact fun h => h
  | cons t ts ih => exact fun h => ih (fun xs H => Q (t :: xs) H) h
section
variable {X : Cx} {W : WX} {e c2 : Expr} {te : TED} {p pos : Pos} {a dd C : Addr}
theorem pd_isE {c : V} {cv : Value} (hx : HotX X a dd C) (ec : ExcC X.K C) (hm : X.mg "isinstance" = none) (hg : Gl X "isinstance") (he : PEd X W e te) (hc : PE X c2 (tC c)) (hv : ClsV c cv)
    (hs : starEach [e, c2] X.env = (false, eval e X.env) :: starEach [c2] X.env := by rfl) (hs2 : starEach [c2] X.env = (false, eval c2 X.env) :: starEach [] X.env := by rfl)
    (hpl : (backTo pos (starEach [c2] X.env)).any (·.1) = false := by rfl) : PEd X W (.Call (.Name "isinstance" p) [e, c2] [] pos) (gIsE X.K a dd C cv te) :=
  PEi (pe_callB (call_isX hx ec) hg hm (by decide +kernel) (pa_cons he (pa_cons hc pa_nil hs2) hs) (by decide) (by decide) hs hpl) fun σ H Q => by
    rintro ⟨Z, G, τ, x, q, S, R, h, cl, cx⟩
    refine ⟨Z, G, τ, x, _, S, R, h, fun d G1 H1 v q1 s1 R1 r1 => ?_, cx⟩
    obtain ⟨at_, y, rfl, rfl, hd, ra, q1⟩ := exIs_e r1 q1
    obtain ⟨b, e1, q1⟩ := IsB_e q1
    exact ⟨y, hd, .inl ⟨c, cv, b, rfl, hv, e1, cl _ _ _ _ q1 s1 R1 (.bl _)⟩⟩
theorem pd_isEA {es : List Expr} {k : Nat} {p2 : Pos} (cs : List V) (ws : List Value) (hl : cs.length ≤ 100) (hx : HotX X a dd C) (ec : ExcC X.K C) (hm : X.mg "isinstance" = none) (hg : Gl X "isinstance") (he : PEd X W e te) (hc : PA X es (tClss cs)) (hv : Paired ClsV cs ws)
    (hs : starEach [e, .Tuple es k p2] X.env = (false, eval e X.env) :: starEach [.Tuple es k p2] X.env := by rfl) (hs2 : starEach [.Tuple es k p2] X.env = (false, eval (.Tuple es k p2) X.env) :: starEach [] X.env := by rfl)
    (hpl : (backTo pos (starEach [.Tuple es k p2] X.env)).any (·.1) = false := by rfl) : PEd X W (.Call (.Name "isinstance" p) [e, .Tuple es k p2] [] pos) (gIsEA X.K a dd C ws te) :=
  PEi (pe_callB (call_isX hx ec) hg hm (by decide +kernel) (pa_cons he (pa_cons (pe_tup hc) pa_nil hs2) hs) (by decide) (by decide) hs hpl) fun σ H Q => by
    rintro ⟨Z, G, τ, x, q, S, R, h, cl, cx⟩
    refine ⟨Z, G, τ, x, _, S, R, h, fun d G1 H1 v q1 s1 R1 r1 => ?_, cx⟩
    obtain ⟨at_, y, rfl, rfl, hd, ra, q1⟩ := exIs_e r1 q1
    obtain ⟨b, e1, q1⟩ := IsA_e q1
    refine tClss_run σ H1 _ cs ⟨Nat.le_trans hl (by decide), fun p hp => ?_⟩
    have s2 := step_new (u := HO.tup cs) R1 hp
    exact ⟨y, by rw [upd_ne (ne_of_none hd hp)]; exact hd, .inr ⟨p, cs, ws, b, rfl, upd_same, hv, e1, cl _ _ _ _ q1 (s1.trans s2) (rel_new R1 hp) (.bl _)⟩⟩
/-- e.at -/
theorem pd_at (hx : HotX X a dd C) (T : XfC X.K C) (hno : PySem.W.findIn X.K (.ref C) "at" = some none) (he : PEd X W e te) (hb : attributeBase e "at" X.env (eval e X.env) = eval e X.env := by rfl) : PEd X W (.Attribute e "at" pos) (gAtE a dd C te) := by
  have base : PE X (.Attribute e "at" pos) (fun σ H Q => Lf X.K W te σ H fun x H1 => ∃ y, x = .ref a ∧ H1 dd = some (.xd [(("at" : Str), y)]) ∧ Q y H1) := by
    refine ⟨fun pins s σ H Q I h => ?_⟩
    refine attr_of hb (thn (he.run pins s σ H _ I h) fun u s1 hh => ?_)
    obtain ⟨x, H1, I1, rx, y, ex, hd, q⟩ := hh
    subst ex
    obtain rfl : u = Value.ref a := rx
    obtain ⟨oe, od, w, J, hl, rw'⟩ := hx.inst I1 hd
    exact PySem.HandSPX.exc_get I1.kIn J T.ga T.gg T.exC (PySem.W.findObj_own T.hdC hno rfl hl) (handed_of rw') ⟨y, H1, I1.tok _, rw', q⟩
  refine PEi base fun σ H Q => ?_
  rintro ⟨Z, G, τ, x, q, S, R, h, cl, cx⟩
  refine ⟨Z, G, τ, x, _, S, R, h, fun d G1 H1 v q1 s1 R1 r1 => ?_, cx⟩
  obtain ⟨at_, y, rfl, rfl, hd, ra, q1⟩ := exIs_e r1 q1
  exact ⟨y, rfl, hd, cl _ _ _ _ q1 s1 R1 ra⟩
end
end N
namespace N
open PySem PySem.Spec PyProof.Rows L2
abbrev SpH := Addr → Addr → Addr → SpD
/-- a def called while the exception at a (of class C, its dict at dd) is handled -/
structure FnX (P : Program) (w : World) (K : PySem.W.Frag) (mg : Str → Option Value) (base : Heap) (k : Nat) (f : Addr) (fd : FuncData) (ps : List Str) (sp : SpH) : Prop where
  len : ∀ a dd C vs H Q E, liftSp K (sp a dd C) vs H Q E → vs.length = ps.length
  run : ∀ (A : Around) (outer : List Env) (s : Shared) (H : Hp) (args : Args) (us : List Value) (vs : List V) (Q : VK) (E : XK) (a dd C : Addr) (oe : Obj), L2H.RoomH k A → L2H.Hot1 A (a, oe) → L2H.PinOk outer H s (a, oe) → XcOk K C → L2N.Zn (.ref C) (some dd) oe → Env0 P w K mg base A outer s H →
    BindsTo s fd args (ps.zip us) → Vals vs us → liftSp K (sp a dd C) vs H Q E → codeAny (model P w) A (.call (.ref f) args) (CR (L2N.CX P w) outer P w H s Q E) s
abbrev cxX (P : Program) (w : World) (K : PySem.W.Frag) (mg : Str → Option Value) (base : Heap) (Nm : List Str) (qual : Str) (scope : Scope) (f : Addr) (cd : Value) (A : Around) (outer : List Env) (s : Shared) (H : Hp) (E : XK) (p : Addr × Obj) : Cx :=
  L2H.cxH (L2N.CX P w) P w K mg base Nm qual scope f cd A outer s H E p
section
variable {P : Program} {w : World} {K : PySem.W.Frag} {mg : Str → Option Value} {base : Heap} {x qual : Str} {params : Arguments} {body : List Stmt} {scope : Scope} {dvs : List V} {kws : List (Str × V)} {f : Addr} {fd : FuncData}
theorem fnx {Nm ps : List Str} {k : Nat} {sp : SpH} {t : THD} {n : Nat} (F : FunD K x qual params body scope dvs kws f fd) (S : FnScope Nm ps scope) (sn : ∀ a dd C, SpN n (sp a dd C)) (e : ps.length = n)
    (hd : ∀ (cdv : Value) (A : Around) (outer : List Env) (s : Shared) (H : Hp) (E : XK) (a dd C : Addr) (oe : Obj), L2H.RoomH k (A.deeper (envOfC qual scope s.heap.objs.size f cdv)) → XcOk K C → HotX (cxX P w K mg base Nm qual scope f cdv A outer s H E (a, oe)).nox a dd C →
      PSsd (cxX P w K mg base Nm qual scope f cdv A outer s H E (a, oe)).nox (WD E) body (t a dd C)) (pure_ : ∀ a dd C ds G q x, sp a dd C ds G q x → t a dd C (dEnds q x) (startD Nm ds) G) : FnX P w K mg base (k + 1) f fd ps sp := by
  obtain ⟨oc, od, dV, kV, doc, pm, an, cdv, ct, osl, rfl, lk, hcd, _, _⟩ := F.ex
  refine ⟨fun a dd C => (sn a dd C).lift e, fun A outer s H args us vs Q E a dd C oe hr hot hpin xc hz e0 hb r hsp => ?_⟩
  have hl := (sn a dd C).lift e _ _ _ _ hsp
  have kin : K.In s.heap := e0.mod.kin.keeps fun b o z => (e0.bs b o z).1
  have nl : s.heap.NoLimit := e0.mod.nolimit.keeps fun b o z => (e0.bs b o z).1
  have kinds : ∀ y ∈ ps.zip us, scope.names.lookup y.1 = some .local ∨ (scope.names.lookup y.1 = some .cell ∧ ((cellsFrom (s.heap.objs.size + 1) scope.names []).lookup y.1).isSome = true) := by
    rintro ⟨n, v⟩ hy
    rcases S.par n (List.of_mem_zip hy).1 with q | q
    · exact .inl q
    · exact .inr ⟨q, PySem.W.cellsFrom_some _ _ _ (.inl q)⟩
  have hx : HotX (cxX P w K mg base Nm qual scope f cdv A outer s H E (a, oe)).nox a dd C := by
    obtain ⟨hh, vs, v1, v2⟩ := hot
    exact ⟨oe, List.mem_cons_self, hh, hz, vs, v1, v2⟩
  refine codeAny_call_function hr.depth (kin _ _ lk) rfl S.co S.gen rfl (PySem.W.codeRec_of kin hcd) (hb _ _ _ _ ?_)
  refine wpAny_newFunctionEnv_cells S.kind kinds fun env he s1 z => ?_
  subst he
  refine ⟨nl.keeps z.toInCall.keep, codeAny_func ?_⟩
  have ht := (hd cdv A outer s H E a dd C oe (hr.deeper _) xc hx).nox
  have I := L2H.inv_startH (CX := L2N.CX P w) (E := E) S hpin e0 hl r z
  refine wpAny_mono (ht.run [] s1 (L2.start Nm vs) H _ I (body_of hsp (pure_ a dd C))) (fun fl s' hs => ?_) fun _ _ hs => hs
  cases fl with
  | ret u =>
    obtain ⟨v, σ', H', J, rv, q⟩ := hs
    exact ⟨v, H', J.os, J.bare, J.base, J.hok, rv, q⟩
  | next =>
    obtain ⟨σ', H', J, q⟩ := hs
    exact ⟨.non, H', J.os, J.bare, J.base, J.hok, rfl, q⟩
  | brk =>
    obtain ⟨_, _, _, q⟩ := hs
    exact False.elim q
  | cont =>
    obtain ⟨_, _, _, q⟩ := hs
    exact False.elim q
end
structure FgH (P : Program) (w : World) (K : PySem.W.Frag) (mg : Str → Option Value) (base : Heap) (k : Nat) (f : Addr) (sp : SpH) : Prop where
  ex : ∃ (fd : FuncData) (ps : List Str), FnX P w K mg base k f fd ps sp ∧ PySem.W.keepIn K (.ref f) = true ∧ Binds K fd ps []
theorem fgh_n {P : Program} {w : World} {K : PySem.W.Frag} {mg : Str → Option Value} {base : Heap} {k : Nat} {f : Addr} {fd : FuncData} {ps : List Str} {sp : SpH} {x qual : Str} {params : Arguments} {body : List Stmt} {scope : Scope} (F : FunD K x qual params body scope [] [] f fd)
    (hb : ∀ (kV doc pm : Value) (an : Option Addr) (cdv ct : Value) (us : List Value), us.length = ps.length → bindArgs (PySem.W.fnOf x qual params body scope .none kV doc pm an cdv ct) ⟨us, []⟩ = pure (ps.zip us)) (ok : FnX P w K mg base k f fd ps sp) : FgH P w K mg base k f sp :=
  ⟨fd, ps, ok, F.kp, F.bindsN hb⟩
section
variable {X : Cx} {W : WX} {k : Nat} {f a dd C : Addr} {sp : SpH} {x : Str} {q pos : Pos} {e : Expr} {es : List Expr} {ta : TAD}
theorem pd_clH (F : FgH X.prog X.w X.K X.mg X.base k f sp) (hr : L2H.RoomH k X.A) (xc : XcOk X.K C) (hx : HotX X a dd C) (hg : Gl X x) (hm : X.mg x = some (.ref f)) (ha : PAd X W (e :: es) ta) (hdb : (x == ("__debug__" : Str)) = false := by decide)
    (he : starEach (e :: es) X.env = (false, eval e X.env) :: starEach es X.env := by rfl) (hpl : (backTo pos (starEach es X.env)).any (·.1) = false := by rfl) : PEd X W (.Call (.Name x q) (e :: es) [] pos) (gCallD (sp a dd C) [] ta) := by
  obtain ⟨fd, ps, ok, hk, hb⟩ := F.ex
  have base : PE X (.Call (.Name x q) (e :: es) [] pos) (fun σ H Q => LfA X.K W ta σ H fun vs H1 => liftSp X.K (sp a dd C) vs H1 Q E0) := by
    refine ⟨fun pins s σ H Q I h => ?_⟩
    refine wpAny_Call_Name_kw (ld_glob I hg hm ?_ hdb)
    refine PySem.W.callWith_K (h₀ := X.base) I.ok.mod.kin hk (thn (ha.run pos pins s σ H _ I h) fun us s1 ⟨vs, H1, I1, r, z⟩ => ⟨I1.kIn, ?_⟩) he hpl
    obtain ⟨oe, hp, hh, hz, vs0, v1, v2⟩ := hx.ex
    have hl : us.length = ps.length := by rw [← r.length]; exact ok.len _ _ _ _ _ _ _ z
    have b := hb s1 us I1.kIn (by rw [List.append_nil]; exact hl)
    rw [List.append_nil] at b
    have P1 := I1.pin (a, oe) (List.mem_append_left _ hp)
    have pin : L2H.PinOk X.stack H1 s1 (a, oe) := ⟨P1.1, P1.2.1, fun hm => (List.mem_cons.mp (I1.stkSub a hm)).elim P1.2.2.1 P1.2.2.2.1, P1.2.2.2.2⟩
    refine wpAny_call (codeAny_mono (ok.run X.A X.stack s1 H1 ⟨us, []⟩ us vs Q E0 a dd C oe hr ⟨hh, vs0, v1, v2⟩ pin xc hz I1.env0 b r z) fun r s' hq => ?_)
    cases r with
    | error er => exact (cx_none hq).elim
    | ok fl =>
      cases fl with
      | ret u => exact I1.after hq
      | next => exact False.elim hq
      | brk => exact False.elim hq
      | cont => exact False.elim hq
  refine PEi base fun σ H Q => ?_
  rintro ⟨Z, G, τ, x, q, S, R, hw, cl, cx⟩
  refine ⟨Z, G, τ, x, _, S, R, hw, fun ds G1 H1 vs q1 s1 R1 r1 => ?_, cx⟩
  have r2 : RlA X.K Z G1 H1 (ds ++ []) vs := by rw [List.append_nil]; exact r1
  exact lift_ok (σ := []) R1 r2 q1 (cl.step s1) fun _ _ _ _ _ _ z => z.elim
end
end N
namespace N
open PySem PySem.Spec PyProof.Rows L2
/-! ### walks and comprehensions while an exception is handled -/
theorem list_end_hot {prog : Program} {w : World} {A : Around} {E : Value → Shared → Prop} {s : Shared} {it l x1 : Addr} {i : Nat} {items : Array Value} {Q : Option Value → Shared → Prop} (hot : _root_.HotX.HotAt A x1 s.heap) (hit : s.heap.IsListIter it l i) (hl : s.heap.IsList l items) (hx : items[i]? = none)
    (nx : x1 ≠ it) (hQ : ∀ h', (∀ b o, b ≠ it → s.heap.get? b = some o → h'.get? b = some o) → Q none { s with heap := h' }) : wpAny (model prog w) A (pyNext (.ref it)) Q E s := by
  obtain ⟨hh, o1, vs1, h1, d1, c1⟩ := hot
  obtain ⟨o, ho, hc, hd⟩ := id hit
  obtain ⟨ol, hol, _, nl, hdl⟩ := hl
  unfold pyNext
  refine wpAny_bind (wpAny_attempt ?_)
  refine wpAny_callSpecial?_slot (name := Str.ofString "__next__") hit.typeIs slot_listiter_next (wpAny_call_entry slot_listiter_next hit.typeIs entry_listiter_next ?_ (args_listiter_next _))
  show wpAny _ _ (field (.ref it) 0 >>= _) _ _ s
  refine wpAny_bind (wpAny_field ho hd (x := .ref l) rfl ?_)
  show wpAny _ _ (if (Value.ref l == Value.none) = true then _ else _) _ _ s
  rw [if_neg (show ¬ ((Value.ref l == Value.none) = true) from Bool.false_ne_true)]
  show wpAny _ _ (field (.ref it) 1 >>= _) _ _ s
  refine wpAny_bind (wpAny_field ho hd (x := .int i 0) rfl ?_)
  show wpAny _ _ (seqItems? (.ref l) >>= _) _ _ s
  refine wpAny_bind (wpAny_seqItems hol hdl ?_)
  simp only [Int.toNat_natCast, hx]
  refine wpAny_bind (wpAny_rule (wpAny_bind (wpAny_setField ho hd (by simp) ?_)))
  show wpAny _ _ (newExc (.type "StopIteration") [] >>= _) _ _ _
  refine wpAny_bind ?_
  simp only [newExc, newTuple]
  refine wpAny_bind (wpAny_newObj_type ?_ (by size_fits))
  refine wpAny_bind (m := firstArgMember _ _) (wpAny_of_eq (a := Value.none) (by first | rfl | (simp only [firstArgMember]; rfl)) ?_)
  refine wpAny_newObj_type ?_ (by size_fits)
  have kept : ∀ b u, b ≠ it → s.heap.get? b = some u → (s.heap.update it (Obj.mapFields (·.setIfInBounds 0 .none))).get? b = some u := fun b u ne e => by
    rw [Heap.get?_update_other _ _ (Ne.symm ne)]
    exact e
  refine _root_.HotX.raiseNew_hot ⟨hh, o1, vs1, Heap.get?_push_of_some _ (Heap.get?_push_of_some _ (kept x1 o1 nx h1)), d1, c1⟩ (Nat.ne_of_lt (Heap.lt_size (Heap.get?_push_of_some _ (kept x1 o1 nx h1)))) (Heap.get?_push_size _ rfl) rfl (by first | (simp; done) | (simp; omega)) ?_
  refine wpAny_bind (wpAny_isInstance (T := "StopIteration") (b := true) ⟨_, Heap.get?_update_self _ (Heap.get?_push_size _ rfl) rfl, rfl⟩ isSubtype_stop ?_)
  refine wpAny_pure (hQ _ fun b u ne e => ?_)
  rw [Heap.get?_update_other _ _ (Nat.ne_of_gt (Heap.lt_size (Heap.get?_push_of_some _ (kept b u ne e))))]
  exact Heap.get?_push_of_some _ (Heap.get?_push_of_some _ (kept b u ne e))
/-- the pinned exception is handled -/
def HotP (A : Around) (ps : List (Addr × Obj)) : Prop := ∃ p ∈ ps, L2H.Hot1 A p
structure TurnP (P : Program) (w : World) (K : PySem.W.Frag) (tg : Expr) (J : It) (fp : List Addr) (it : Addr) (tn : Nat → Heap → Prop) : Prop where
  mem : it ∈ fp
  obj : ∀ i h, tn i h → ∀ b ∈ fp, ∃ o, h.get? b = some o ∧ ∀ v, o.data ≠ .cell v
  keep : ∀ i h h', tn i h → (∀ b ∈ fp, ∀ o, h.get? b = some o → h'.get? b = some o) → tn i h'
  item : ∀ (X : Cx) (i : Nat) (pins : List (Addr × Obj)) (s : Shared) (σ : L2.St) (H : Hp) (E : Value → Shared → Prop), X.prog = P → X.w = w → X.K = K → HotP X.A (X.pn ++ pins) → Inv X pins σ H s → (∀ b ∈ fp, FpOk X pins H b) → tn i s.heap → J.go i H →
    wpAny (model P w) X.A (pyNext (.ref it)) (fun r s1 => ∃ u, r = some u ∧ wpAny (model P w) X.A (letOwnedTupleGo tg (.ref it) u) (fun _ s2 => ∃ x H', Inv X pins σ H' s2 ∧ RelV x u ∧ J.yld i H x H' ∧ tn (i + 1) s2.heap ∧ ∀ b ∈ fp, H' b = none) E s1) E s
  done : ∀ (X : Cx) (i : Nat) (pins : List (Addr × Obj)) (s : Shared) (σ : L2.St) (H : Hp) (E : Value → Shared → Prop), X.prog = P → X.w = w → X.K = K → HotP X.A (X.pn ++ pins) → Inv X pins σ H s → (∀ b ∈ fp, FpOk X pins H b) → tn i s.heap → J.stop i H →
    wpAny (model P w) X.A (pyNext (.ref it)) (fun r s1 => r = none ∧ Inv X pins σ H s1) E s
  self : ∀ (A : Around) (i : Nat) (s : Shared) (Q : Value → Shared → Prop) (E : Value → Shared → Prop), tn i s.heap → Q (.ref it) s → wpAny (model P w) A (pyIter (.ref it)) Q E s
theorem turn_listP {P : Program} {w : World} {K : PySem.W.Frag} {tg : Expr} (a it : Addr) : TurnP P w K tg (Itl K a) [it] it (fun i h => h.IsListIter it a i) := by
  refine ⟨by simp, fun i h st b hb => ?_, fun i h h' st k => st.at fun o e => k it (by simp) o e, ?_, ?_, fun _ _ _ _ _ st h => wpAny_pyIter_listiter st h⟩
  · have e : b = it := by simpa using hb
    rw [e]
    obtain ⟨o, eo, c, d⟩ := st
    exact ⟨o, eo, fun v z => by rw [d] at z; cases z⟩
  · intro X i pins s σ H E hP hw hK _ I hf st hg
    subst hP hw hK
    obtain ⟨xs, x, hq, hx⟩ := hg
    obtain ⟨its, rv, p, hz⟩ := I.list hq
    obtain ⟨u, hu, ru⟩ := rv.get hx
    obtain ⟨f0, f1, f2, f3, f4, f5⟩ := hf it (by simp)
    refine wpAny_pyNext_list_item st p.isList (x := u) (by simpa using hu) fun h' st' sb => ?_
    have J := I.turned (t' := s.toks) (h' := h') (fun b o hb e => (sb.2 b hb).trans e) f0 f1 f3 f4 f5
    obtain ⟨o, e, c, d⟩ := id st'
    refine ⟨u, rfl, go_of (s := { s with heap := h' }) e c d (by decide) ⟨x, H, J, ru, ⟨rfl, fun ys hy => ?_⟩, st', fun b hb => (hf b hb).1⟩⟩
    rw [I.list_inj hy hq]
    exact hx
  · intro X i pins s σ H E hP hw hK hh I hf st hg
    subst hP hw hK
    obtain ⟨xs, hq, hx⟩ := hg
    obtain ⟨its, rv, p, hz⟩ := I.list hq
    obtain ⟨f0, f1, f2, f3, f4, f5⟩ := hf it (by simp)
    have hl := rv.length
    obtain ⟨pp, hpp, hot, vs, v1, v2⟩ := hh
    refine list_end_hot ⟨hot, pp.2, vs, (I.pin pp hpp).1, v1, v2⟩ st p.isList (by simp; omega) (f5 pp hpp) fun h' eb => ⟨rfl, I.turned (t' := s.toks) (fun b o hb e => eb b o hb e) f0 f1 f3 f4 f5⟩
def PIEP (X : Cx) (pins : List (Addr × Obj)) (σ : L2.St) (tg : Expr) (R : It → Hp → Prop) (itv : Value) (s2 : Shared) : Prop :=
  ∃ (it : Addr) (fp : List Addr) (tn : Nat → Heap → Prop) (J : It) (H' : Hp), itv = .ref it ∧ Inv X pins σ H' s2 ∧ TurnP X.prog X.w X.K tg J fp it tn ∧ tn 0 s2.heap ∧ (∀ b ∈ fp, FpOk X pins H' b) ∧ R J H'
structure PIP (X : Cx) (tg iter : Expr) (wi : TI) : Prop where
  run : ∀ (pins : List (Addr × Obj)) (s : Shared) (σ : L2.St) (H : Hp) (R : It → Hp → Prop), Inv X pins σ H s → wi σ H R → wpAny (model X.prog X.w) X.A (eval iter X.env) (fun v s1 => wpAny (model X.prog X.w) X.A (pyIter v) (PIEP X pins σ tg R) X.xe s1) X.xe s
theorem pip_list {X : Cx} {tg l : Expr} {tl : TE} (hl : PE X l tl) : PIP X tg l (iList X.K tl) := by
  refine ⟨fun pins s σ H R I h => ?_⟩
  refine thn (hl.run pins s σ H _ I h) fun v s1 ⟨x, H1, I1, r1, a, e, ⟨xs, hq⟩, q⟩ => ?_
  subst e
  cases r1
  obtain ⟨its, rv, p, hz⟩ := I1.list hq
  refine wpAny_pyIter_list p.isList ?_
  refine ⟨s1.heap.objs.size, [s1.heap.objs.size], _, _, H1, rfl, I1.kept (t' := s1.toks) fun b o e => Heap.get?_push_of_some _ e, turn_listP a _, ⟨_, Heap.get?_push_size _ rfl, rfl, rfl⟩, fun b hb => ?_, q⟩
  rw [show b = s1.heap.objs.size by simpa using hb]
  exact I1.fpOk (Nat.le_refl _) (I1.hok.fresh (Nat.le_refl _))
abbrev PIPd (X : Cx) (W : WX) (tg iter : Expr) (t : TID) : Prop := PIP X tg iter (LfI X.K W t)
theorem pipd_list {X : Cx} {W : WX} {tg e : Expr} {t : TED} (he : PEd X W e t) : PIPd X W tg e (iSeq t) := ⟨fun pins s σ H R' I hw => (pip_list he).run pins s σ H R' I (by
  obtain ⟨Z, G, τ, x, q, S, R, h, c, cx⟩ := hw
  refine ⟨Z, G, τ, x, _, S, R, h, fun d G1 H1 v q1 s1 R1 r1 => ?_, cx⟩
  cases d with
  | lst ds =>
    cases r1 with
    | @lst a xs _ hx hg hz rx =>
      exact ⟨_, rfl, ⟨_, SqL.of hx⟩, c ds _ G1 H1 _ q1 s1 R1 (itl_ok fun Z G H m R _ => ⟨xs, SqL.of (m.all _ _ hx hg hz).1, rx.mv m⟩)⟩
  | ro ds =>
    cases r1 with
    | @ro a xs _ hx rx => exact ⟨_, rfl, ⟨_, hx.sq⟩, c ds _ G1 H1 _ q1 s1 R1 (itl_ok fun Z G H m R _ => ⟨xs, (hx.mv m.frzs).sq, rx.mv m⟩)⟩
  | ref a =>
    obtain ⟨ds, e, q1⟩ := LkL_e q1
    obtain ⟨_, xs, hx, rx⟩ := R1.ob a _ e
    cases r1
    refine ⟨_, rfl, ⟨_, SqL.of hx⟩, c ds _ G1 H1 _ q1 s1 R1 (itl_ok fun Z G H m R s => ?_)⟩
    obtain ⟨_, ys, hy, ry⟩ := R.ob a _ s
    exact ⟨ys, SqL.of hy, ry⟩
  | _ => exact (show False from q1).elim)⟩
end N
namespace N
open PySem PySem.Spec PyProof.Rows L2
theorem pe_lcP {X : Cx} {a dd C : Addr} {elt tg iter : Expr} {ifs : List Expr} {scope : Scope} {own : List (Str × Nat)} {pos : Pos} {wi : TI} {g : TG} {tt : TT} {te : TE} (hc : HotX X a dd C) (hN : X.N.Nodup) (hi : PIP X tg iter wi) (ok : BlkOk X.N X.env.scope scope own)
    (hg : ∀ (s : Shared) (H : Hp) (C : Addr) (cl : List (Str × Addr)) (fp : List Addr), PG (X.blk s H scope (compEnvC scope cl C X.env) fp) tg g) (ht : ∀ (s : Shared) (H : Hp) (C : Addr) (cl : List (Str × Addr)) (fp : List Addr), PTs (X.blk s H scope (compEnvC scope cl C X.env) fp) ifs tt)
    (he : ∀ (s : Shared) (H : Hp) (C : Addr) (cl : List (Str × Addr)) (fp : List Addr), PE (X.blk s H scope (compEnvC scope cl C X.env) fp) elt te) (hs : ∀ x, foldedSetIterable iter X.env x = pure x := by intro _; rfl) :
    PE X (.ListComp elt [⟨tg, iter, ifs, 0⟩] scope pos) (tLc wi g tt te (own.map (·.2))) := by
  obtain ⟨oe, hp, hh, _, vs0, v1, v2⟩ := hc.ex
  have hot1 : L2H.Hot1 X.A (a, oe) := ⟨hh, vs0, v1, v2⟩
  refine ⟨fun pins s σ H Q I h => ?_⟩
  rw [eval_ListComp]
  have clo : ∀ y ∈ scope.names, y.2 = .free → ∃ c, X.env.cells.lookup y.1 = some c := fun y hy e => (ok.free y hy e).elim (fun k => I.ok.has _ (.inl k)) fun k => I.ok.has _ (.inr k)
  refine wpAny_comprehension_free rfl hs (closure_ok clo) ok.kind (fun y hy e => by rw [ok.uniq y hy, e]) (thn (hi.run pins s σ H _ I h) fun xv s1 hx => thn hx fun itv s2 h2 => ?_)
  obtain ⟨it, fp, tn, J, H2, rfl, I2, T, st2, f2, q⟩ := h2
  refine wpAny_newObj_type (newEnv_comp ?_) (by show 0 ≤ sizeLine; decide)
  generalize hL' : s2.heap.objs.size = L
  have hL : L = s2.heap.objs.size := hL'.symm
  have hLn : H2 L = none := I2.hok.fresh (Nat.le_of_eq hL.symm)
  obtain ⟨W, ⟨m0, w0⟩, turn⟩ := q L hLn
  generalize hs3' : ({ s2 with heap := s2.heap.push { cls := .type "list", data := .seq ([] : List Value).toArray } } : Shared) = s3
  have hs3 : s3 = { s2 with heap := s2.heap.push { cls := .type "list", data := .seq ([] : List Value).toArray } } := hs3'.symm
  have h3 : s3.heap = s2.heap.push { cls := .type "list", data := .seq ([] : List Value).toArray } := by rw [hs3]
  have I3 : Inv X pins σ (upd H2 L (.lst [])) s3 := by
    rw [hs3]
    refine I2.laid (t' := s2.toks) (fun b o e => Heap.get?_push_of_some _ e) (Nat.le_of_eq hL.symm) ⟨Nat.zero_le _, [], 0, .nil, ?_⟩
    rw [hL]
    exact Heap.get?_push_size _ rfl
  have old : ∀ b ∈ fp, b < s2.heap.objs.size := fun b hb => by
    obtain ⟨o, e, _⟩ := T.obj _ _ st2 b hb
    exact Heap.lt_size e
  have f3 : ∀ b ∈ fp, FpOk X pins (upd H2 L (.lst [])) b ∧ b < s3.heap.objs.size := fun b hb => by
    have lt := old b hb
    refine ⟨⟨?_, (f2 b hb).2⟩, by rw [h3, Heap.size_push]; exact Nat.lt_succ_of_lt lt⟩
    rw [upd_ne (by rw [hL]; exact Nat.ne_of_lt lt)]
    exact (f2 b hb).1
  have st3 : tn 0 s3.heap := T.keep _ _ _ st2 fun b _ o e => by
    rw [h3]
    exact Heap.get?_push_of_some _ e
  obtain ⟨pG, pH, pL, pF, pC⟩ := I3.pin (a, oe) (List.mem_append_left _ hp)
  have pS : a < s3.heap.objs.size := Heap.lt_size pG
  have I4a := block_start I3 ok hN f3
  have pg := hg s3 (upd H2 L (.lst [])) s3.heap.objs.size (cellsFrom (s3.heap.objs.size + 1) scope.names (cloFrom X.env.cells scope.names [])) fp
  have pt := ht s3 (upd H2 L (.lst [])) s3.heap.objs.size (cellsFrom (s3.heap.objs.size + 1) scope.names (cloFrom X.env.cells scope.names [])) fp
  have pe := he s3 (upd H2 L (.lst [])) s3.heap.objs.size (cellsFrom (s3.heap.objs.size + 1) scope.names (cloFrom X.env.cells scope.names [])) fp
  refine (show codeAny (model X.prog X.w) X.A (.compStart (.ListComp elt [⟨tg, iter, ifs, 0⟩] scope pos) 0 (.ref it) (.ref L) (compEnvC scope (cellsFrom (s3.heap.objs.size + 1) scope.names (cloFrom X.env.cells scope.names [])) s3.heap.objs.size X.env)) (compPost (model X.prog X.w) X.A X.xe none (EP X pins σ Q) (.ref L) s3.heap.objs.size) { s3 with heap := pushCells (s3.heap.push { cls := .type "dict", data := .dict #[] }) scope.names } from ?_)
  have nfp : ∀ b ∈ fp, (upd H2 L (.lst [])) b = none := fun b hb => (f3 b hb).1.1
  generalize hce : compEnvC scope (cellsFrom (s3.heap.objs.size + 1) scope.names (cloFrom X.env.cells scope.names [])) s3.heap.objs.size X.env = ce at I4a pg pt pe ⊢
  have cL : ce.locals = s3.heap.objs.size := by
    subst hce
    rfl
  generalize hH3 : upd H2 L (.lst []) = H3 at I3 I4a pg pt pe w0 nfp f3 pH
  generalize hs4 : ({ s3 with heap := pushCells (s3.heap.push { cls := .type "dict", data := .dict #[] }) scope.names } : Shared) = s4 at I4a ⊢
  have k34 : ∀ b o, s3.heap.get? b = some o → s4.heap.get? b = some o := fun b o e => by
    rw [← hs4]
    exact pushCells_keeps _ _ _ _ (Heap.get?_push_of_some _ e)
  have st4 : tn 0 s4.heap := T.keep _ _ _ st3 fun b _ o e => k34 b o e
  obtain ⟨B, hB⟩ : ∃ B : Cx, B = X.blk s3 H3 scope ce fp := ⟨_, rfl⟩
  have bp : HotP B.A (B.pn ++ [(a, oe)]) := ⟨(a, oe), by simp, by rw [hB]; exact hot1⟩
  have aB : a ≠ B.env.locals := by
    rw [hB]
    show a ≠ ce.locals
    rw [cL]
    exact Nat.ne_of_lt pS
  have aF : a ∉ B.fs := by
    rw [hB]
    exact fun hm => (List.mem_cons.mp (I3.stkSub a hm)).elim pL pF
  rw [← hB] at I4a
  have I4 : Inv B [(a, oe)] (wipe σ (own.map (·.2))) H3 s4 := I4a.pins_of fun p hp => by
    rw [List.mem_singleton.mp hp]
    exact ⟨k34 a oe pG, pH, aB, aF, pC⟩
  have stat : ∀ {σ' : L2.St} {H' : Hp} {s' : Shared}, Inv B [(a, oe)] σ' H' s' → (∀ b ∈ fp, H' b = none) → ∀ b ∈ fp, FpOk B [(a, oe)] H' b := fun {σ' H' s'} I' hn b hb => by
    subst hB
    refine ⟨hn b hb, (I'.ok.exf b hb).1, I'.ok.exfs b hb, .inl hb, fun x c e => (I'.ok.exf b hb).2 x c e, fun p hp => ?_⟩
    rw [List.mem_singleton.mp (show p ∈ [(a, oe)] from hp)]
    exact (f3 b hb).1.2.2.2.2.2 (a, oe) (List.mem_append_left _ ‹(a, oe) ∈ X.pn›)
  have loop : codeAny (model X.prog X.w) X.A (.compLoop (.ListComp elt [⟨tg, iter, ifs, 0⟩] scope pos) 0 (.ref it) (.ref L) ce) (compPost (model X.prog X.w) X.A X.xe none (EP X pins σ Q) (.ref L) s3.heap.objs.size) s4 := by
    refine compLoop_any (fun n s' => ∃ i H', Inv B [(a, oe)] (wipe σ (own.map (·.2))) H' s' ∧ tn i s'.heap ∧ (∀ b ∈ fp, H' b = none) ∧ W i n H') ?_ m0 ⟨0, H3, I4, st4, nfp, w0⟩
    rintro n s5 ⟨i, H5, I5, st5, n5, w5⟩
    subst hB
    rcases turn i n H5 w5 with ⟨stop, qq⟩ | ⟨go, Nx, hNx, step⟩
    · refine thnF (T.done (X.blk s3 H3 scope ce fp) i [(a, oe)] s5 _ H5 (fun _ _ => False) rfl rfl rfl bp I5 (stat I5 n5) st5 stop) fun r s6 ⟨hr, I6⟩ => ?_
      subst hr
      have I7 : Inv X pins σ H5 s6 := I3.call' (ch := fp) I6.os I6.base I6.hok I6.bare fun b hb => ⟨(f3 b hb).1.2.2.2.1, (f3 b hb).1.2.1, (f3 b hb).1.2.2.2.2.1, (f3 b hb).1.2.2.2.2.2⟩
      have nC : H5 s3.heap.objs.size = none := by
        have z : H5 ce.locals = none := I6.free
        rw [cL] at z
        exact z
      obtain ⟨m, hn, _⟩ := I6.loc
      have hn : s6.heap.Ns ce.locals m := hn
      rw [cL] at hn
      obtain ⟨g0, g1, g2, g3, g4, g5⟩ := I3.fpOk (H' := H5) (Nat.le_refl _) nC
      exact ⟨m, hn, fun h'' sb => ⟨.ref L, H5, I7.turned (t' := s6.toks) (fun b o hb e => (sb.2 b hb).trans e) g0 g1 g3 g4 g5, rfl, qq⟩⟩
    · refine thnF (T.item (X.blk s3 H3 scope ce fp) i [(a, oe)] s5 _ H5 (fun _ _ => False) rfl rfl rfl bp I5 (stat I5 n5) st5 go) fun r s6 ⟨u, hr, h6⟩ => ?_
      subst hr
      refine thnF h6 fun _ s7 ⟨x, H7, I7, r7, y7, st7, n7⟩ => ?_
      have I7' := I7.pinned (stat I7 n7) (T.obj _ _ st7)
      refine thnF (pg.run _ s7 _ H7 x u _ I7' r7 (step x H7 y7)) fun _ s8 ⟨σ8, H8, I8, hw8, q8⟩ => ?_
      refine thnF (pt.run _ s8 σ8 H8 _ I8 q8) fun b s9 ⟨H9, I9, q9⟩ => ?_
      have fin : ∀ {s' : Shared} {H' : Hp}, Inv (X.blk s3 H3 scope ce fp) ([(a, oe)] ++ pinsAt fp s7.heap) σ8 H' s' → Nx H' → ∃ m, m < n ∧ ∃ i H', Inv (X.blk s3 H3 scope ce fp) [(a, oe)] (wipe σ (own.map (·.2))) H' s' ∧ tn i s'.heap ∧ (∀ b ∈ fp, H' b = none) ∧ W i m H' := fun {s' H'} I' nx => by
        obtain ⟨m', hm, w'⟩ := hNx H' nx
        have pin' : ∀ b ∈ fp, ∀ o, s7.heap.get? b = some o → s'.heap.get? b = some o ∧ H' b = none := fun b hb o e =>
          ⟨(I'.pin (b, o) (List.mem_append_right _ (List.mem_append_right _ (mem_pinsAt hb e)))).1, (I'.pin (b, o) (List.mem_append_right _ (List.mem_append_right _ (mem_pinsAt hb e)))).2.1⟩
        have hl : (wipe σ (own.map (·.2))).length = σ8.length := by rw [← hw8, wipe_length]
        refine ⟨m', hm, i + 1, H', (I'.unpinned (pins := [(a, oe)])).weak hl (fun j v e => ?_), T.keep _ _ _ st7 fun b hb o e => (pin' b hb o e).1, fun b hb => ?_, w'⟩
        · rw [← hw8] at e
          exact (wipe_some e).1
        · obtain ⟨o, e, _⟩ := T.obj _ _ st7 b hb
          exact (pin' b hb o e).2
      cases b with
      | false =>
        simp only [Bool.false_eq_true, if_false] at q9 ⊢
        exact fin I9 q9
      | true =>
        simp only [if_true] at q9 ⊢
        refine thnF (pe.run _ s9 σ8 H9 _ I9 q9) fun z s10 ⟨yv, H10, I10, r10, acc, hD10, hz10, nx⟩ => ?_
        exact app_ok (X := X.blk s3 H3 scope ce fp) I10 hD10 hz10 r10 fun s11 I11 => fin I11 nx
  exact codeAny_compStart_list loop (T.self X.A 0 _ _ _ st4 loop)
section
variable {X : Cx} {W : WX} {a dd C : Addr} {elt tg iter : Expr} {ifs : List Expr} {scope : Scope} {own : List (Str × Nat)} {pos : Pos} {wi : TID} {g : TG} {h : TGD} {tt : TTD} {te : TED}
theorem pd_lcH (hc : HotX X a dd C) (hN : X.N.Nodup) (hi : PIPd X W tg iter wi) (ok : BlkOk X.N X.env.scope scope own)
    (hg : ∀ (s : Shared) (H : Hp) (C : Addr) (cl : List (Str × Addr)) (fp : List Addr), PG (X.blk s H scope (compEnvC scope cl C X.env) fp) tg g) (ex : GEx X.K (own.map (·.2)) g h)
    (ht : ∀ (s : Shared) (H : Hp) (C : Addr) (cl : List (Str × Addr)) (fp : List Addr), PTsd (X.blk s H scope (compEnvC scope cl C X.env) fp) ifs tt)
    (he : ∀ (s : Shared) (H : Hp) (C : Addr) (cl : List (Str × Addr)) (fp : List Addr), PEd (X.blk s H scope (compEnvC scope cl C X.env) fp) W0 elt te) (hs : ∀ x, foldedSetIterable iter X.env x = pure x := by intro _; rfl) :
    PEd X W (.ListComp elt [⟨tg, iter, ifs, 0⟩] scope pos) (gLc wi h tt te (own.map (·.2))) :=
  PEi (pe_lcP hc hN hi ok hg (fun s H C cl fp => (ht s H C cl fp).h) he hs) fun _ _ _ w => lf_lc (fun z => z) ex w
end
end N
namespace N
open PySem PySem.Spec PyProof.Rows L2
/-! ### an own exception class, by a check -/
def oexB (K : PySem.W.Frag) (C : Addr) : Bool := match K.lookup C with
  | some ⟨.type "type", _, .cls cd, sl⟩ => (match cd.mro, sl.toList with
    | .ref C' :: bm, [_, _, _, _, some (.builtin n), _] => C' == C && n == "ValueError.__new__" && !cd.hasDel && cd.hasDict && PySem.HandSPX.refsVE bm
    | _, _ => false)
  | _ => false
theorem oexB_ok {K : PySem.W.Frag} {C : Addr} (q : oexB K C = true) : ∃ nm q N bs bm sn sub ab col dd k0 k1 k2 k3 k5, K.lookup C = some (excClassObj nm q C N bs bm true sn sub ab col dd k0 k1 k2 k3 k5 "ValueError.__new__") ∧ PySem.HandSPX.refsVE bm = true := by
  unfold oexB at q
  split at q
  · rename_i dd cd sl ho
    split at q
    · rename_i C' bm k0 k1 k2 k3 n k5 hm hs
      simp only [Bool.and_eq_true, beq_iff_eq, Bool.not_eq_true'] at q
      obtain ⟨⟨⟨⟨rfl, rfl⟩, hdel⟩, hdc⟩, ht⟩ := q
      obtain ⟨nm, bs, mro, ns, qn, hd, sn, sub, ab, col, del⟩ := cd
      dsimp only at hm hdel hdc
      subst hm hdel hdc
      have hsl : sl = #[k0, k1, k2, k3, some (.builtin "ValueError.__new__"), k5] := by
        obtain ⟨l⟩ := sl
        simp only at hs
        rw [hs]
      subst hsl
      exact ⟨nm, qn, ns, bs, bm, sn, sub, ab, col, dd, k0, k1, k2, k3, k5, ho, ht⟩
    · cases q
  · cases q
/-- the address of the base's __init__ -/
abbrev xI (K : PySem.W.Frag) : Addr := He.fAd K ("NonePassedError", some "__init__")
def excB (K : PySem.W.Frag) (C : Addr) : Bool :=
  oexB K C && (He.eqO (PySem.W.findIn K (.ref C) "__setattr__") (some (some (.builtin "object.__setattr__"))) && (decide (PySem.W.subIn K (.ref C) (.type "BaseException") = some true) && (decide (PySem.W.typeIn K (.ref C) = some (.type "type")) &&
  (PySem.W.keepIn K (.ref C) && (He.eqO (PySem.W.findIn K (.ref C) "at") (some none) && (He.eqO (PySem.W.findIn K (.ref C) "__init__") (some (some (.ref (xI K)))) && (decide (PySem.W.typeIn K (.ref (xI K)) = some (.type "function")) &&
  (He.eqO (PySem.W.findIn K (.ref C) "__getattribute__") (some (some (.builtin "BaseException.__getattribute__"))) && (He.eqO (PySem.W.findIn K (.ref C) "__getattr__") (some none) && (PySem.W.hasDictIn K C && (He.eqO (PySem.W.findIn K (.ref C) "__class__") (some (some (.builtin "object.__class__"))) &&
  (He.eqO (PySem.W.specialIn K (.builtin "object.__class__") "__get__") (some (some (.builtin "getset_descriptor.__get__"))) && (decide (PySem.W.takesIn K (.builtin "object.__class__") = some true) && decide (PySem.W.mroIn K C (.type "object") = some true))))))))))))))
theorem excB_ok {K : PySem.W.Frag} {C : Addr} (c : excB K C = true) : XcOk K C ∧ RaC K C (xI K) := by
  obtain ⟨c1, c⟩ := He.ba c
  obtain ⟨c2, c⟩ := He.ba c
  obtain ⟨c3, c⟩ := He.ba c
  obtain ⟨c4, c⟩ := He.ba c
  obtain ⟨c5, c⟩ := He.ba c
  obtain ⟨c6, c⟩ := He.ba c
  obtain ⟨c7, c⟩ := He.ba c
  obtain ⟨c8, c⟩ := He.ba c
  obtain ⟨c9, c⟩ := He.ba c
  obtain ⟨c10, c⟩ := He.ba c
  obtain ⟨c11, c⟩ := He.ba c
  obtain ⟨c12, c⟩ := He.ba c
  obtain ⟨c13, c⟩ := He.ba c
  obtain ⟨c14, c15⟩ := He.ba c
  exact ⟨⟨⟨He.eqO_ok c9, He.eqO_ok c10, of_decide_eq_true c3, c11, He.eqO_ok c12, He.eqO_ok c13, of_decide_eq_true c14, of_decide_eq_true c15⟩, ⟨He.eqO_ok c9, He.eqO_ok c10, of_decide_eq_true c3, c11⟩, He.eqO_ok c6⟩,
    ⟨oexB_ok c1, He.eqO_ok c2, of_decide_eq_true c3, of_decide_eq_true c4, c5⟩, He.eqO_ok c6, He.eqO_ok c7, of_decide_eq_true c8⟩
abbrev kExc (x : Str) : Ck := fun K => excB K (He.ga K x)
abbrev kExm (x y : Str) (b : Bool) : Ck := fun K => (He.Fa.exm x y b).ok K
/-- isinstance of a class against one class -/
abbrev kKit (x y : Str) (b : Bool) : Ck := fun K => decide (PySem.W.kitOne K (.ref (He.ga K x)) (.ref (He.ga K y)) = some b)
abbrev kKitT (x : Str) (T : String) (b : Bool) : Ck := fun K => decide (PySem.W.kitOne K (.ref (He.ga K x)) (.type T) = some b)
abbrev kKitA (x : Str) (ys : List Str) (b : Bool) : Ck := fun K => decide (PySem.W.kitAny K (.ref (He.ga K x)) (ys.map fun y => .ref (He.ga K y)) = some b)
end N
namespace N
open PySem PySem.Spec PyProof.Rows L2
/-! ### the base's __init__, and raise by it -/
structure RaI (P : Program) (w : World) (K : PySem.W.Frag) (mg : Str → Option Value) (base : Heap) (k : Nat) : Prop where
  ex : ∃ fd : FuncData, FnOk P w K mg base (L2N.CX P w) k (xI K) fd ["self", "at"] (spInit K) ∧ Binds K fd ["self", "at"] []
section
variable {P : Program} {w : World} {K : PySem.W.Frag} {mg : Str → Option Value} {base : Heap} {x qual : Str} {params : Arguments} {body : List Stmt} {scope : Scope} {f : Addr} {fd : FuncData}
theorem raI (F : FunD K x qual params body scope [] [] (xI K) fd) (S : FnScope ["self", "at"] ["self", "at"] scope)
    (hb : ∀ (kV doc pm : Value) (an : Option Addr) (cdv ct : Value) (us : List Value), us.length = 2 → bindArgs (PySem.W.fnOf x qual params body scope .none kV doc pm an cdv ct) ⟨us, []⟩ = pure ((["self", "at"] : List Str).zip us))
    (hd : ∀ (cdv : Value) (A : Around) (outer : List Env) (s : Shared) (H : Hp) (E : XK), PSs (cxOf (L2N.CX P w) P w K mg base ["self", "at"] qual scope (xI K) cdv A outer s H E) body (tOst K "at" (tVar 0) (tVar 1))) : RaI P w K mg base 1 := by
  refine ⟨fd, F.ok (k := 0) S (fun vs H Q E h => ?_) fun cdv A outer s H vs Q E hr h => ⟨_, hd cdv A outer s H E, ?_⟩, F.bindsN hb⟩
  · obtain ⟨a, C, v, rfl, _⟩ := h
    rfl
  · obtain ⟨a, C, v, rfl, T, na, ea, h⟩ := h
    refine ⟨v, rfl, .ref a, rfl, a, C, rfl, T, na, .inl ⟨ea, fun dx n ne => ?_⟩⟩
    exact h dx n ne
end
section
variable {X : Cx} {W : WX} {C : Addr} {k : Nat} {x : Str} {e : Expr} {t : TED} {p pos rpos : Pos}
theorem psd_rz (hc : X.calm = true) (tk : L2N.Takes X W) (T : RaC X.K C (xI X.K)) (F : RaI X.prog X.w X.K X.mg X.base k) (hr : Room (k + 1) X.A) (hg : Gl X x) (hm : X.mg x = some (.ref C)) (he : PEd X W e t)
    (hdb : (x == ("__debug__" : Str)) = false := by decide) (hs : starEach [e] X.env = (false, eval e X.env) :: starEach [] X.env := by rfl) :
    PSd X W (.Raise (some (.Call (.Name x p) [e] [] pos)) none rpos) (gRaise C t) := by
  obtain ⟨fd, F1, hb⟩ := F.ex
  exact psd_raise hc tk T F1 hr hb hg hm he hdb hs
end
end N
theorem L2H.RoomH.units {k : Nat} {A : PySem.Around} (r : L2H.RoomH k A) : A.units + 64 < PySem.cLine := by have := r.un; omega
namespace N
open PySem PySem.Spec PyProof.Rows L2
/-! ### the classes that a law's calls raise (xs), the classes that it asks for (ys) -/
/-- does y stand above x: itself, or the base -/
def isUp (x y : Str) : Bool := y == x || y == ("NonePassedError" : Str)
structure XF1 (K : PySem.W.Frag) (ys : List Str) (x : Str) : Prop where
  xc : XcOk K (He.ga K x)
  ra : RaC K (He.ga K x) (xI K)
  ex : PySem.W.exmOne K (.ref (He.ga K x)) (.ref (He.ga K "NonePassedError")) = some true
  ve : PySem.W.kitOne K (.ref (He.ga K x)) (.type "ValueError") = some true
  ks : ∀ y ∈ ys, PySem.W.kitOne K (.ref (He.ga K x)) (.ref (He.ga K y)) = some (isUp x y)
def XF (K : PySem.W.Frag) (xs ys : List Str) : Prop := ∀ x ∈ xs, XF1 K ys x
abbrev kXF (xs ys : List Str) : Ck := fun K => xs.all fun x => excB K (He.ga K x) && ((He.Fa.exm x "NonePassedError" true).ok K && (decide (PySem.W.kitOne K (.ref (He.ga K x)) (.type "ValueError") = some true) &&
  ys.all fun y => decide (PySem.W.kitOne K (.ref (He.ga K x)) (.ref (He.ga K y)) = some (isUp x y))))
theorem xf_ok {K : PySem.W.Frag} {xs ys : List Str} (c : kXF xs ys K = true) : XF K xs ys := fun x hx => by
  have c := List.all_eq_true.mp c x hx
  obtain ⟨c1, c⟩ := He.ba c
  obtain ⟨c2, c⟩ := He.ba c
  obtain ⟨c3, c4⟩ := He.ba c
  obtain ⟨a, b⟩ := excB_ok c1
  exact ⟨a, b, He.exm_ok c2, of_decide_eq_true c3, fun y hy => of_decide_eq_true (List.all_eq_true.mp c4 y hy)⟩
theorem kitAny_of {K : PySem.W.Frag} {t : Value} {g : Str → Value} {f : Str → Bool} : ∀ {zs : List Str}, (∀ y ∈ zs, PySem.W.kitOne K t (g y) = some (f y)) → PySem.W.kitAny K t (zs.map g) = some (zs.any f)
  | [], _ => rfl
  | z :: zs, h => by
    have h1 := h z List.mem_cons_self
    have h2 := kitAny_of (zs := zs) fun y hy => h y (List.mem_cons_of_mem _ hy)
    show (match PySem.W.kitOne K t (g z) with | some true => some true | some false => PySem.W.kitAny K t (zs.map g) | none => none) = _
    rw [h1, List.any_cons]
    cases f z with
    | true => rfl
    | false => exact h2
/-- the values of a list of classes -/
abbrev clsV (K : PySem.W.Frag) (zs : List Str) : List V := zs.map fun y => V.ref (He.ga K y)
abbrev clsU (K : PySem.W.Frag) (zs : List Str) : List Value := zs.map fun y => Value.ref (He.ga K y)
theorem XF1.any {K : PySem.W.Frag} {ys zs : List Str} {x : Str} (h : XF1 K ys x) (s : ∀ y ∈ zs, y ∈ ys) : PySem.W.kitAny K (.ref (He.ga K x)) (clsU K zs) = some (zs.any (isUp x)) := kitAny_of fun y hy => h.ks y (s y hy)
theorem cls_pair {K : PySem.W.Frag} : ∀ zs : List Str, Paired ClsV (clsV K zs) (clsU K zs)
  | [] => .nil
  | _ :: zs => .cons (.own _) (cls_pair zs)
section
variable {X : Cx} {x : Str} {C : Addr} {pos : Pos}
theorem pe_own (hm : X.mg x = some (.ref C)) (hg : Gl X x := by rfl) (hd : (x == ("__debug__" : Str)) = false := by decide) : PE X (.Name x pos) (tC (.ref C)) := pe_glob hg hm rfl hd
theorem names_own (hm : X.mg x = some (.ref C)) (hg : Gl X x := by rfl) (hd : (x == ("__debug__" : Str)) = false := by decide) : Names X x (.ref C) := ⟨hg, hd, .inl hm⟩
end
end N
namespace N
open PySem PySem.Spec PyProof.Rows L2
/-! ### text * number -/
def repS (a : Str) (n : Int) : Str := ⟨(List.replicate n.toNat a.cps.toList).flatten.toArray⟩
theorem repS_foldl (a : Array Nat) : ∀ (k : Nat) (b : Array Nat), ((List.replicate k a).foldl (· ++ ·) b).toList = b.toList ++ (List.replicate k a.toList).flatten
  | 0, b => by simp
  | k + 1, b => by
    rw [List.replicate_succ, List.foldl_cons, repS_foldl a k (b ++ a)]
    simp [List.replicate_succ]
theorem repS_one (a : Str) : repS a 1 = a := by
  obtain ⟨c⟩ := a
  simp [repS]
theorem repS_zero (a : Str) {n : Int} (h : n < 1) : repS a n = Str.empty := by
  have : n.toNat = 0 := by omega
  simp [repS, this, Str.empty]
theorem repS_empty (a : Str) (n : Int) (h : a.length = 0) : repS a n = a := by
  obtain ⟨c⟩ := a
  have : c = #[] := Array.eq_empty_of_size_eq_zero h
  subst this
  simp [repS]
theorem repS_len (a : Str) (n : Int) : (repS a n).length = a.length * n.toNat := by
  obtain ⟨c⟩ := a
  show ((List.replicate n.toNat c.toList).flatten.toArray).size = c.size * n.toNat
  rw [List.size_toArray, List.length_flatten, List.map_replicate, List.sum_replicate_nat, Array.length_toList, Nat.mul_comm]
def rMulS : R2 := fun x y H Q => ∃ a n, x = .str a ∧ y = .int n ∧ -(2 ^ 63) ≤ n ∧ n < 2 ^ 63 ∧ a.length * n.toNat ≤ 16777216 ∧ Q (.str (repS a n)) H
theorem op_mulS {X : Cx} : OpR X (binaryOp .Mult) rMulS := by
  intro pins s σ H x y v u Q I rx ry h
  obtain ⟨a, n, rfl, rfl, h1, h2, h3, q⟩ := h
  obtain ⟨t, rfl⟩ := rx
  obtain ⟨k, rfl⟩ := ry
  refine P.mul_str ?_ ?_ ?_ ?_
  · rw [decide_eq_false (by omega), decide_eq_false (by omega)]; rfl
  · intro hn _ hgt
    have hn0 : (0 : Int) < n := by omega
    have e : ((n.toNat : Nat) : Int) = n := Int.toNat_of_nonneg (by omega)
    have h4 : (a.length : Int) * n ≤ ((16777216 : Nat) : Int) := by
      rw [← e, ← Int.natCast_mul]
      exact Int.ofNat_le.mpr h3
    have h5 : (a.length : Int) ≤ (2 ^ 63 - 1) / n := (Int.le_ediv_iff_mul_le hn0).mpr (by omega)
    omega
  · intro hn _
    show decide (_ > sizeLine) = false
    exact decide_eq_false (by rw [sizeLine_eq]; omega)
  · by_cases hn : n < 1
    · rw [if_pos hn]
      refine ⟨by decide, ?_⟩
      exact ⟨.str (repS a n), H, I.tok _, ⟨_, by rw [repS_zero a hn]⟩, q⟩
    · rw [if_neg hn]
      by_cases h1 : (n == 1 || a.length == 0) = true
      · rw [if_pos h1]
        have e : repS a n = a := by
          rcases Bool.or_eq_true_iff.mp h1 with h | h
          · rw [beq_iff_eq.mp h]; exact repS_one a
          · exact repS_empty a n (beq_iff_eq.mp h)
        rw [e] at q
        exact ⟨.str a, H, I, ⟨_, rfl⟩, q⟩
      · rw [if_neg h1]
        have e : (⟨(List.replicate n.toNat a.cps).foldl (· ++ ·) #[]⟩ : Str) = repS a n := by
          unfold repS
          congr 1
          apply Array.ext'
          rw [repS_foldl]
          simp
        rw [e]
        refine ⟨?_, ?_⟩
        · rw [repS_len, sizeLine_eq]; omega
        · exact ⟨.str (repS a n), H, I.tok _, ⟨_, rfl⟩, q⟩
def nMulT : R2D := fun x y G q => match x with
  | .str a => (match y with | .int n => Sd (-(2 ^ 63) ≤ n ∧ n < 2 ^ 63 ∧ a.length * n.toNat ≤ 16777216) (q (.str (repS a n)) G) | _ => False)
  | x => nMul x y G q
theorem op_mulT {X : Cx} : OpR X (binaryOp .Mult) (fun x y H Q => rMulA X.K x y H Q ∨ rMulS x y H Q) := op_mulA.or op_mulS
theorem ok_mulT {K : PySem.W.Frag} : R2Ok K (fun x y H Q => rMulA K x y H Q ∨ rMulS x y H Q) nMulT := by
  intro Z G H x y v u q Q R rx ry h c
  cases x with
  | str a => cases y with
    | int n =>
      cases rx; cases ry
      obtain ⟨⟨h1, h2, h3⟩, h⟩ := Sd_e h
      exact .inr ⟨a, n, rfl, rfl, h1, h2, h3, c _ _ _ _ h (Step.refl _ _) R (.str _)⟩
    | _ => exact (show False from h).elim
  | _ => exact .inl (ok_mul Z G H _ y v u q Q R rx ry h c)
theorem pd_mulT {X : Cx} {W : WX} {a b : Expr} {ta tb : TED} {pos : Pos} (ha : PEd X W a ta) (hb : PEd X W b tb) : PEd X W (.BinOp a .Mult b pos) (gOp nMulT ta tb) := pd_op op_mulT ok_mulT ha hb
/-! ### methods of texts -/
def gM0 (t : Str → GH → QD → Prop) (to : TED) : TED := fun τ G x q => to τ G x fun d G1 => match d with
  | .str a => t a G1 q
  | _ => False
def gM1 (t : Str → D → GH → QD → Prop) (to te : TED) : TED := fun τ G x q => to τ G x fun d G1 => match d with
  | .str a => te τ G1 x fun e G2 => t a e G2 q
  | _ => False
def M0Ok (K : PySem.W.Frag) (r : V → List V → Hp → VK → Prop) (t : Str → GH → QD → Prop) : Prop := ∀ Z G H a q Q, Rel K Z G H → t a G q → ClE K Z G H q Q → r (.str a) [] H Q
def M1Ok (K : PySem.W.Frag) (r : V → List V → Hp → VK → Prop) (t : Str → D → GH → QD → Prop) : Prop := ∀ Z G H a e u q Q, Rel K Z G H → Rl K Z G H e u → t a e G q → ClE K Z G H q Q → r (.str a) [u] H Q
section
variable {X : Cx} {W : WX} {o e : Expr} {to te : TED} {id : String} {name : Str} {apos pos : Pos} {r : V → List V → Hp → VK → Prop}
theorem pd_m0 {t : Str → GH → QD → Prop} (slot : Slot "str" name id) (ty : typeOf (.builtin id) = pure (.type "method_descriptor")) (rule : MtR X id r) (ok : M0Ok X.K r t) (ho : PEd X W o to)
    (hbase : attributeBase o name X.env (eval o X.env) = eval o X.env := by rfl) (hline : (apos.endLine == pos.line) = true := by rfl) : PEd X W (.Call (.Attribute o name apos) [] [] pos) (gM0 t to) :=
  PEi (pe_m0 slot ty rule ho hbase hline) fun σ H Q => by
    rintro ⟨Z, G, τ, x, q, S, R, hw, c, cx⟩
    refine ⟨Z, G, τ, x, _, S, R, hw, fun d G1 H1 v q1 s1 R1 r1 => ?_, cx⟩
    cases d with
    | str a =>
      cases r1
      exact ⟨⟨a, rfl⟩, ok Z G1 H1 a q Q R1 q1 (c.step s1)⟩
    | _ => exact (show False from q1).elim
theorem pd_m1 {t : Str → D → GH → QD → Prop} (slot : Slot "str" name id) (ty : typeOf (.builtin id) = pure (.type "method_descriptor")) (rule : MtR X id r) (ok : M1Ok X.K r t) (ho : PEd X W o to) (he : PEd X W e te)
    (hs : starEach [e] X.env = [(false, eval e X.env)] := by rfl) (hbase : attributeBase o name X.env (eval o X.env) = eval o X.env := by rfl) (hline : (apos.endLine == pos.line) = true := by rfl) :
    PEd X W (.Call (.Attribute o name apos) [e] [] pos) (gM1 t to te) :=
  PEi (pe_m1 slot ty rule ho he hs hbase hline) fun σ H Q => by
    rintro ⟨Z, G, τ, x, q, S, R, hw, c, cx⟩
    refine ⟨Z, G, τ, x, _, S, R, hw, fun d G1 H1 v q1 s1 R1 r1 => ?_, cx⟩
    cases d with
    | str a =>
      cases r1
      refine ⟨⟨a, rfl⟩, Z, G1, τ, x, _, S.mv (s1.mv R), R1, q1, fun e2 G2 H2 u q2 s2 R2 r2 => ?_, cx.step s1⟩
      exact ok Z G2 H2 a e2 u q Q R2 r2 q2 (c.step (s1.trans s2))
    | _ => exact (show False from q1).elim
end
/-- of a text and a text -/
def mSS (g : Str → Str → D) : Str → D → GH → QD → Prop := fun a e G q => match e with
  | .str b => q (g a b) G
  | _ => False
theorem ok_SS {K : PySem.W.Frag} {g : Str → Str → D} {g' : Str → Str → V} (h : ∀ a b, CstD (g a b) (g' a b)) : M1Ok K (fun x xs H Q => ∃ a b, x = .str a ∧ xs = [.str b] ∧ Q (g' a b) H) (mSS g) := by
  intro Z G H a e u q Q R r hq c
  cases e with
  | str b =>
    cases r
    exact ⟨a, b, rfl, rfl, c _ _ _ _ hq (Step.refl _ _) R ((h a b).rl)⟩
  | _ => exact (show False from hq).elim
section
variable {X : Cx} {W : WX} {o e : Expr} {to te : TED} {apos pos : Pos}
abbrev mFind := mSS fun a b => .int (Txt.find a b)
abbrev mRfind := mSS fun a b => .int (Txt.rfind a b)
abbrev mCountS := mSS fun a b => .int (Txt.count a b)
abbrev mStartsw := mSS fun a b => .bl (Txt.startswith a b)
abbrev mEndsw := mSS fun a b => .bl (Txt.endswith a b)
theorem pd_find (ho : PEd X W o to) (he : PEd X W e te) (hs : starEach [e] X.env = [(false, eval e X.env)] := by rfl) (hbase : attributeBase o "find" X.env (eval o X.env) = eval o X.env := by rfl) (hline : (apos.endLine == pos.line) = true := by rfl) :
    PEd X W (.Call (.Attribute o "find" apos) [e] [] pos) (gM1 mFind to te) := pd_m1 F.slot_str_find F.type_str_find mt_find (ok_SS fun _ _ => rfl) ho he hs hbase hline
theorem pd_rfind (ho : PEd X W o to) (he : PEd X W e te) (hs : starEach [e] X.env = [(false, eval e X.env)] := by rfl) (hbase : attributeBase o "rfind" X.env (eval o X.env) = eval o X.env := by rfl) (hline : (apos.endLine == pos.line) = true := by rfl) :
    PEd X W (.Call (.Attribute o "rfind" apos) [e] [] pos) (gM1 mRfind to te) := pd_m1 F.slot_str_rfind F.type_str_rfind mt_rfind (ok_SS fun _ _ => rfl) ho he hs hbase hline
theorem pd_startswith (ho : PEd X W o to) (he : PEd X W e te) (hs : starEach [e] X.env = [(false, eval e X.env)] := by rfl) (hbase : attributeBase o "startswith" X.env (eval o X.env) = eval o X.env := by rfl) (hline : (apos.endLine == pos.line) = true := by rfl) :
    PEd X W (.Call (.Attribute o "startswith" apos) [e] [] pos) (gM1 mStartsw to te) := pd_m1 F.slot_str_startswith F.type_str_startswith mt_startswith (ok_SS fun _ _ => rfl) ho he hs hbase hline
theorem pd_endswith (ho : PEd X W o to) (he : PEd X W e te) (hs : starEach [e] X.env = [(false, eval e X.env)] := by rfl) (hbase : attributeBase o "endswith" X.env (eval o X.env) = eval o X.env := by rfl) (hline : (apos.endLine == pos.line) = true := by rfl) :
    PEd X W (.Call (.Attribute o "endswith" apos) [e] [] pos) (gM1 mEndsw to te) := pd_m1 F.slot_str_endswith F.type_str_endswith mt_endswith (ok_SS fun _ _ => rfl) ho he hs hbase hline
end
/-! ### join -/
def txts : List D → Option (List Str)
  | [] => some []
  | .str s :: ds => (txts ds).map (s :: ·)
  | _ :: _ => none
theorem txts_rl {K : PySem.W.Frag} {Z : ZS} {G : GH} {H : Hp} : ∀ {ds : List D} {vs : List V} {ys : List Str}, txts ds = some ys → RlA K Z G H ds vs → vs = ys.map V.str
  | [], _, ys, h, .nil => by cases h; rfl
  | d :: ds, v :: vs, ys, h, .cons r t => by
    cases d with
    | str s =>
      cases r
      cases e : txts ds with
      | none => rw [txts, e] at h; cases h
      | some zs =>
        rw [txts, e] at h
        have h := Option.some.inj h
        subst h
        rw [txts_rl e t]
        rfl
    | _ => cases h
def mJoin : Str → D → GH → QD → Prop := fun a e G q => AsQ e G fun ds => ∃ ys, txts ds = some ys ∧ (ys.map (·.length)).sum + ys.length * a.length ≤ 16777216 ∧ q (.str (Txt.join a ys)) G
theorem ok_join {K : PySem.W.Frag} : M1Ok K (fun x xs H Q => ∃ a p, ∃ ys : List Str, x = .str a ∧ xs = [.ref p] ∧ (SqL K H p (ys.map V.str) ∨ SqT K H p (ys.map V.str)) ∧
      (ys.map (·.length)).sum + ys.length * a.length ≤ 16777216 ∧ Q (.str (Txt.join a ys)) H) mJoin := by
  intro Z G H a e u q Q R r hq c
  obtain ⟨p, xs, ds, rfl, hs, rd, ys, ey, hl, hq⟩ := asQ_e R r hq
  have := txts_rl ey rd
  subst this
  exact ⟨a, p, ys, rfl, rfl, hs, hl, c _ _ _ _ hq (Step.refl _ _) R (.str _)⟩
theorem pd_join {X : Cx} {W : WX} {o e : Expr} {to te : TED} {apos pos : Pos} (ho : PEd X W o to) (he : PEd X W e te) (hs : starEach [e] X.env = [(false, eval e X.env)] := by rfl) (hbase : attributeBase o "join" X.env (eval o X.env) = eval o X.env := by rfl) (hline : (apos.endLine == pos.line) = true := by rfl) :
    PEd X W (.Call (.Attribute o "join" apos) [e] [] pos) (gM1 mJoin to te) := pd_m1 F.slot_str_join F.type_str_join mt_join ok_join ho he hs hbase hline
end N
namespace N
open PySem PySem.Spec PyProof.Rows L2
/-! ### x += e of numbers -/
section
variable {X : Cx} {W : WX} {e : Expr} {te : TED} {pos pos' : Pos} {x : Str} {op : Operator} {f : Int → Int → Int}
theorem psd_augI (ip : PIp X op (ipI f)) (hN : X.N.Nodup) (i : Nat) (he : PEd X W e te) (hi : X.N[i]? = some x := by rfl) (hx : Loc X.env.scope x := by first | exact Or.inl rfl | exact Or.inr rfl)
    (hf : X.fn x = true ∨ X.env.scope.names.lookup x = some .local := by first | exact .inl rfl | exact .inr rfl) : PSd X W (.AugAssign (.Name x pos') op e pos) (gAsg (gOp (nI fun a b => .int (f a b)) (gVar i) te) (hName i)) :=
  PSi (ps_aug hN hi hx he ip hf) fun D σ H => by
    rintro ⟨Z, G, τ, e, S, R, h, c⟩
    have h : (match τ[i]? with
      | some (some d) => te τ G (xOf e τ) fun b G2 => nI (fun a b => .int (f a b)) d b G2 fun r G3 => e.nx (τ.set i (some r)) G3
      | _ => False) := h
    cases hd : τ[i]? with
    | none => rw [hd] at h; exact h.elim
    | some o =>
      rw [hd] at h
      cases o with
      | none => exact h.elim
      | some d =>
        obtain ⟨u, hu, ru⟩ := S.val i d hd
        refine ⟨u, hu, Z, G, τ, _, _, S, R, h, fun b G1 H1 v q1 s1 R1 r1 => ?_, c.ex.x R S⟩
        cases d with
        | int m => cases b with
          | int n =>
            cases ru; cases r1
            exact ⟨m, n, rfl, rfl, c.nx _ G1 H1 _ q1 s1 R1 ((S.mv (s1.mv R)).set i (.int _))⟩
          | _ => exact (show False from q1).elim
        | _ => exact (show False from q1).elim
theorem psd_addI (hN : X.N.Nodup) (i : Nat) (he : PEd X W e te) (hi : X.N[i]? = some x := by rfl) (hx : Loc X.env.scope x := by first | exact Or.inl rfl | exact Or.inr rfl)
    (hf : X.fn x = true ∨ X.env.scope.names.lookup x = some .local := by first | exact .inl rfl | exact .inr rfl) : PSd X W (.AugAssign (.Name x pos') .Add e pos) (gAsg (gOp (nI fun a b => .int (a + b)) (gVar i) te) (hName i)) := psd_augI ip_add hN i he hi hx hf
theorem psd_subI (hN : X.N.Nodup) (i : Nat) (he : PEd X W e te) (hi : X.N[i]? = some x := by rfl) (hx : Loc X.env.scope x := by first | exact Or.inl rfl | exact Or.inr rfl)
    (hf : X.fn x = true ∨ X.env.scope.names.lookup x = some .local := by first | exact .inl rfl | exact .inr rfl) : PSd X W (.AugAssign (.Name x pos') .Sub e pos) (gAsg (gOp (nI fun a b => .int (a - b)) (gVar i) te) (hName i)) := psd_augI ip_sub hN i he hi hx hf
end
end N
namespace N
open PySem PySem.Spec PyProof.Rows L2
/-! ### x[::-1] of texts and lists -/
def revS (a : Str) : Str := ⟨a.cps.toList.reverse.toArray⟩
theorem rev_made (a : Str) (t k : Tok) : sliceMade a t none none (some (-1, k)) = .str (revS a) := by
  unfold sliceMade
  refine (if_neg (show ¬ (((-1 : Int) == 1 && (slicePicked a none none (some (-1, k))).length == a.length) = true) from by rw [show ((-1 : Int) == 1) = false from rfl, Bool.false_and]; exact Bool.false_ne_true)).trans ?_
  unfold slicePicked
  have e : Builtin.Str.strSliceIndices none none (-1) a.length = (List.range a.length).reverse := by
    show sliceRange ((a.length : Int) - 1) (-1) (-1) = _
    rw [PySem.W.krv_sliceRange, PySem.W.krv_range]
  show Made.str ⟨((Builtin.Str.strSliceIndices none none (-1) a.length).filterMap (a.cps[·]?)).toArray⟩ = _
  rw [e, List.filterMap_reverse]
  have := PySem.W.krv_all a.cps
  show Made.str ⟨((List.range a.cps.size).filterMap (a.cps[·]?)).reverse.toArray⟩ = _
  rw [this]
  rfl
def tRevA (K : PySem.W.Frag) (te : TE) : TE := fun σ H Q => te σ H fun x H1 => (∃ a xs, x = .ref a ∧ SqL K H1 a xs ∧ ∀ p, H1 p = none → Q (.ref p) (upd H1 p (.lst xs.reverse))) ∨ ∃ a, x = .str a ∧ a.length ≤ sizeLine ∧ Q (.str (revS a)) H1
theorem pe_revA {X : Cx} {e : Expr} {te : TE} {k : Nat} {p1 p2 p3 pos : Pos} (he : PE X e te) : PE X (.Subscript e (.Slice none none (some (.UnaryOp .USub (.Constant (.int 1) k p1) p2)) p3) pos) (tRevA X.K te) := by
  refine ⟨fun pins s σ H Q I h => ?_⟩
  refine Subscript_ (thn (he.run pins s σ H _ I h) fun v s1 ⟨x, H1, I1, r1, q1⟩ => ?_)
  have hst : PO X (some (.UnaryOp .USub (.Constant (.int 1) k p1) p2)) (tPart (tUn (rU fun i => .int (-i)) (tC (.int 1)))) := po_some (pe_un un_neg pe_int)
  refine wpAny_Slice (thn (po_none.run pins s1 σ H1 (fun o H2 => o = none ∧ H2 = H1) I1 ⟨rfl, rfl⟩) fun vl s2 ⟨l, H2, I2, pl, el, e2⟩ => ?_)
  subst el e2
  refine thn (po_none.run pins s2 σ H2 (fun o H3 => o = none ∧ H3 = H2) I2 ⟨rfl, rfl⟩) fun vu s3 ⟨u, H3, I3, pu, eu, e3⟩ => ?_
  subst eu e3
  refine thn (hst.run pins s3 σ H3 (fun o H4 => o = some (-1) ∧ H4 = H3) I3 ⟨1, rfl, -1, rfl, rfl, rfl⟩) fun vs s4 ⟨o, H4, I4, ps, eo, e4⟩ => ?_
  subst eo e4
  have I5 : Inv X pins σ H4 { s4 with heap := s4.heap.push { cls := .type "slice", data := .fields #[vl, vu, vs] } } := I4.kept (t' := s4.toks) fun b ob q => Heap.get?_push_of_some _ q
  rcases q1 with ⟨a, xs, ex, hx, q⟩ | ⟨a, ex, hl, q⟩
  · subst ex
    cases r1
    obtain ⟨its, r, ht, hz⟩ := I5.list hx
    have hlen := r.length
    show wpAny (model X.prog X.w) X.A (subscriptTail e (.Slice none none (some (.UnaryOp .USub (.Constant (.int 1) k p1) p2)) p3) (.ref a) (.ref s4.heap.objs.size)) (EP X pins σ Q) X.xe { s4 with heap := s4.heap.push { cls := .type "slice", data := .fields #[vl, vu, vs] } }
    refine PyProof.Rows.tail_any (ops := [.ref a, .ref s4.heap.objs.size]) ht.isList.typeIs (PySem.slot_list_getitem.lookup) ?_ (by with_unfolding_all rfl)
    refine wpAny_getItem_list_slice ht.isList (Heap.IsSliceOf.new _ vl vu vs) pl pu ps (by decide) ?_ (by rw [List.size_toArray]; omega)
    rw [PySem.W.krv_pick]
    refine ⟨.ref _, _, I5.laid (t' := s4.toks) (o := .lst xs.reverse) (fun b ob q => Heap.get?_push_of_some _ q) (Nat.le_refl _) ?_, rfl, q _ (I5.hok.fresh (Nat.le_refl _))⟩
    exact ⟨by rw [List.length_reverse]; exact hz, _, 0, r.reverse, Heap.get?_push_size _ rfl⟩
  · subst ex
    obtain ⟨t, rfl⟩ := r1
    obtain ⟨ks, rfl, e1⟩ := IsPart.raw ps
    obtain ⟨ls, rfl, e2⟩ := IsPart.raw pl
    obtain ⟨us, rfl, e3⟩ := IsPart.raw pu
    cases ls with
    | some z => cases e2
    | none =>
    cases us with
    | some z => cases e3
    | none =>
    cases ks with
    | none => cases e1
    | some z =>
    obtain ⟨z, tz⟩ := z
    have e1 : some z = some (-1 : Int) := by first | exact e1 | exact e1.symm
    cases e1
    show wpAny (model X.prog X.w) X.A (subscriptTail e (.Slice none none (some (.UnaryOp .USub (.Constant (.int 1) k p1) p2)) p3) (.str a t) (.ref s4.heap.objs.size)) (EP X pins σ Q) X.xe _
    refine PyProof.Rows.tail_any (T := "str") (ops := [.str a t, .ref s4.heap.objs.size]) (typeIs_str _ _ _) F.slot_str_getitem.lookup ?_ (by with_unfolding_all rfl)
    refine wpAny_getItem_str_slice (l := none) (u := none) (st := some (-1, tz)) ⟨_, Heap.get?_push_size _ rfl, rfl, rfl⟩ rfl ?_
    rw [rev_made]
    refine ⟨?_, .str (revS a), H4, I5.tok _, ⟨_, rfl⟩, q⟩
    show (a.cps.toList.reverse.toArray).size ≤ sizeLine
    rw [List.size_toArray, List.length_reverse]
    exact hl
def nRev (x : D) (G : GH) (q : QD) : Prop := match x with
  | .str s => Sd (s.length ≤ sizeLine) (q (.str (revS s)) G)
  | x => AsL x G fun ds => NewL ds.reverse G q
def gRev (t : TED) : TED := fun τ G x q => t τ G x fun d G1 => nRev d G1 q
theorem rla_rev {K : PySem.W.Frag} {Z : ZS} {G : GH} {H : Hp} : ∀ {ds : List D} {vs : List V}, RlA K Z G H ds vs → RlA K Z G H ds.reverse vs.reverse
  | _, _, .nil => .nil
  | _, _, .cons r t => by
    rw [List.reverse_cons, List.reverse_cons]
    exact (rla_rev t).append (.cons r .nil)
theorem pd_rev {X : Cx} {W : WX} {e : Expr} {t : TED} {k : Nat} {p1 p2 p3 pos : Pos} (he : PEd X W e t) : PEd X W (.Subscript e (.Slice none none (some (.UnaryOp .USub (.Constant (.int 1) k p1) p2)) p3) pos) (gRev t) :=
  PEi (pe_revA he) fun σ H Q => by
    rintro ⟨Z, G, τ, x, q, S, R, h, c, cx⟩
    refine ⟨Z, G, τ, x, _, S, R, h, fun d G1 H1 v q1 s1 R1 r1 => ?_, cx⟩
    have lst : (AsL d G1 fun ds => NewL ds.reverse G1 q) → (∃ a xs, v = .ref a ∧ SqL X.K H1 a xs ∧ ∀ p, H1 p = none → Q (.ref p) (upd H1 p (.lst xs.reverse))) := fun z => by
      obtain ⟨a, xs, ds, ev, ha, rd, z⟩ := asL_e R1 r1 z
      exact ⟨a, xs, ev, SqL.of ha, fun p hp => new_list R1 (rla_rev rd) z (c.step s1) p hp⟩
    cases d with
    | str a =>
      cases r1
      obtain ⟨hl, q1⟩ := Sd_e q1
      exact .inr ⟨a, rfl, hl, c _ _ _ _ q1 s1 R1 (.str _)⟩
    | _ => exact .inl (lst q1)
end N
namespace N
open PySem PySem.Spec PyProof.Rows L2
/-! ### list(text), tuple(text) -/
def signsV (z : Str) : List V := z.cps.toList.map fun c => .str ⟨#[c]⟩
theorem signs_vals {z : Str} {acc : Array Value} (h : ItemsOf (SignAt z) acc z.cps.size) : Vals (signsV z) acc.toList := by
  refine vals_of_idx _ _ (by unfold signsV; rw [List.length_map, Array.length_toList, Array.length_toList]; exact h.1) fun j u hj => ?_
  obtain ⟨c, t, hc, rfl⟩ := h.2 j u (by rw [← Array.getElem?_toList]; exact hj)
  refine ⟨.str ⟨#[c]⟩, ?_, ⟨_, rfl⟩⟩
  unfold signsV
  rw [List.getElem?_map, Array.getElem?_toList, hc]
  rfl
theorem signs_rla {K : PySem.W.Frag} {Z : ZS} {G : GH} {H : Hp} (z : Str) : RlA K Z G H (signs z) (signsV z) := by
  unfold signs signsV
  induction z.cps.toList with
  | nil => exact .nil
  | cons c cs ih => exact .cons (.str _) ih
theorem call_list_txt {X : Cx} (hc : X.calm = true) : CallR X (.type "list") (fun xs H Q => ∃ z, xs = [.str z] ∧ z.length ≤ sizeLine ∧ ∀ l, H l = none → Q (.ref l) (upd H l (.lst (signsV z)))) := by
  intro pins s σ H xs us Q I r h
  obtain ⟨z, rfl, hz, q⟩ := h
  obtain ⟨u, rfl, t, rfl⟩ := vals1 r
  refine PySem.call_list_str (I.ok.hd hc) z t (fun h' tk acc c' hk e hi => ?_) hz
  refine ⟨.ref s.heap.objs.size, upd H s.heap.objs.size (.lst (signsV z)), I.laid hk (Nat.le_refl _) ⟨?_, acc.toList, c', signs_vals hi, by rw [Array.toArray_toList]; exact e⟩, rfl, q _ (I.hok.fresh (Nat.le_refl _))⟩
  unfold signsV
  rw [List.length_map, Array.length_toList]
  exact hz
def cListT : CAD := fun ds G q => A1 ds fun x => match x with
  | .str z => Sd (z.length ≤ sizeLine) (NewL (signs z) G q)
  | x => AsQ x G fun ds => NewL ds G q
theorem call_list_any {X : Cx} (hc : X.calm = true) : CallR X (.type "list") (fun xs H Q => (∃ p ys, xs = [.ref p] ∧ (SqL X.K H p ys ∨ SqT X.K H p ys) ∧ ∀ l, H l = none → Q (.ref l) (upd H l (.lst ys))) ∨ ∃ z, xs = [.str z] ∧ z.length ≤ sizeLine ∧ ∀ l, H l = none → Q (.ref l) (upd H l (.lst (signsV z)))) :=
  call_list_of.or (call_list_txt hc)
theorem ok_listT {K : PySem.W.Frag} : CAOk K (fun xs H Q => (∃ p ys, xs = [.ref p] ∧ (SqL K H p ys ∨ SqT K H p ys) ∧ ∀ l, H l = none → Q (.ref l) (upd H l (.lst ys))) ∨ ∃ z, xs = [.str z] ∧ z.length ≤ sizeLine ∧ ∀ l, H l = none → Q (.ref l) (upd H l (.lst (signsV z)))) cListT := by
  intro Z G H ds vs q Q R r h c
  obtain ⟨d, v, rfl, rfl, r1, h⟩ := A1_e r h
  cases d with
  | str z =>
    cases r1
    obtain ⟨hz, h⟩ := Sd_e h
    exact .inr ⟨z, rfl, hz, fun p hp => new_list R (signs_rla z) h c p hp⟩
  | _ => exact .inl (ok_list Z G H _ _ q Q R r h c)
def cListTM : CAD := fun ds G q => A1 ds fun x => match x with
  | .str z => Sd (z.length ≤ sizeLine) (NewM (signs z) G q)
  | x => AsQ x G fun ds => NewM ds G q
theorem ok_listTM {K : PySem.W.Frag} : CAOk K (fun xs H Q => (∃ p ys, xs = [.ref p] ∧ (SqL K H p ys ∨ SqT K H p ys) ∧ ∀ l, H l = none → Q (.ref l) (upd H l (.lst ys))) ∨ ∃ z, xs = [.str z] ∧ z.length ≤ sizeLine ∧ ∀ l, H l = none → Q (.ref l) (upd H l (.lst (signsV z)))) cListTM := by
  intro Z G H ds vs q Q R r h c
  obtain ⟨d, v, rfl, rfl, r1, h⟩ := A1_e r h
  cases d with
  | str z =>
    cases r1
    obtain ⟨hz, h⟩ := Sd_e h
    exact .inr ⟨z, rfl, hz, fun p hp => new_list R (signs_rla z) (NewM_n h) c p hp⟩
  | _ => exact .inl (ok_listM Z G H _ _ q Q R r h c)
end N
namespace N
open PySem PySem.Spec PyProof.Rows L2
/-! ### zip of two texts -/
def ItzS (x y : Str) : It :=
  ⟨fun i _ => i < min x.cps.size y.cps.size,
    fun i H v H' => ∃ T c e, v = .ref T ∧ H T = none ∧ H' = upd H T (.tup [.str ⟨#[c]⟩, .str ⟨#[e]⟩]) ∧ x.cps[i]? = some c ∧ y.cps[i]? = some e,
    fun i _ => min x.cps.size y.cps.size ≤ i⟩
theorem draws_txt {prog : Program} {w : World} {A : Around} (hh : A.handled = none) (it : Addr) (x : Str) (t : Tok) :
    Draws prog w A it [it] x.cps.size (fun i v => ∃ c u, x.cps[i]? = some c ∧ v = .str ⟨#[c]⟩ u) (fun i h => h.IsStrIter it (strIterType x) x t i) := by
  unfold strIterType
  split
  · exact Draws.strAscii hh it x t
  · exact Draws.strWide hh it x t
abbrev zsSt (z TI TO i1 i2 : Addr) (x y : Str) (t u : Tok) : Nat → Heap → Prop := fun i h => IsZip h z TI TO .none ∧ IsTupOf2 h TI (.ref i1) (.ref i2) ∧ (∃ a1 a2, IsTupOf2 h TO a1 a2) ∧ h.IsStrIter i1 (strIterType x) x t i ∧ h.IsStrIter i2 (strIterType y) y u i
theorem turn_zipS {P : Program} {w : World} {K : PySem.W.Frag} {elts : List Expr} {kk : Nat} {tpos : Pos} {z TI TO i1 i2 : Addr} {x y : Str} {t u : Tok} (S : ZipSep2 z TI TO i1 i2 [i1] [i2]) :
    Turn P w K (.Tuple elts kk tpos) (ItzS x y) [z, TI, TO, i1, i2] z (fun i h => i ≤ min x.cps.size y.cps.size ∧ zsSt z TI TO i1 i2 x y t u i h) where
  mem := by simp
  obj := fun i h st c hc => by
    obtain ⟨_, hz, hTI, ⟨_, _, hTO⟩, ⟨o1, e1, _, d1⟩, ⟨o2, e2, _, d2⟩⟩ := st
    have e' : c = z ∨ c = TI ∨ c = TO ∨ c = i1 ∨ c = i2 := by simpa using hc
    rcases e' with q | q | q | q | q
    · rw [q]; exact ⟨_, hz, fun v q => nomatch q⟩
    · rw [q]; exact ⟨_, hTI, fun v q => nomatch q⟩
    · rw [q]; exact ⟨_, hTO, fun v q => nomatch q⟩
    · rw [q]; exact ⟨o1, e1, fun v q => by rw [d1] at q; cases q⟩
    · rw [q]; exact ⟨o2, e2, fun v q => by rw [d2] at q; cases q⟩
  keep := fun i h h' st k => by
    obtain ⟨hi, hz, hTI, ⟨a, b, hTO⟩, ⟨o1, e1, r1⟩, ⟨o2, e2, r2⟩⟩ := st
    exact ⟨hi, k z (by simp) _ hz, k TI (by simp) _ hTI, ⟨a, b, k TO (by simp) _ hTO⟩, ⟨o1, k i1 (by simp) _ e1, r1⟩, ⟨o2, k i2 (by simp) _ e2, r2⟩⟩
  item := by
    intro X hP hw hK hc i pins s σ H E I hf st hg
    subst hP hw hK
    have hh := I.ok.hd hc
    have W := WalksT.zipD2 (prog := X.prog) (w := X.w) (A := X.A) S (draws_txt (A := X.A.in1) hh i1 x t) (draws_txt (A := X.A.in1) hh i2 y u)
    have hgi : i < min x.cps.size y.cps.size := hg
    refine W.item i s _ _ hgi st.2 fun T vals h' tk hPt hT hTup hMid hk => ?_
    obtain ⟨v1, v2, ⟨c1, t1, hc1, rfl⟩, ⟨c2, t2, hc2, rfl⟩, rfl⟩ := hPt
    refine ⟨_, rfl, W.go elts kk tpos i T { s with heap := h', toks := tk } _ _ hMid fun h'' st'' hk2 => ?_⟩
    have hTw := W.apart i T h' hMid
    have hsub : ∀ b, b ∉ ([z, TI, TO, i1, i2] : List Addr) → b ∉ ([z, TO, i1, i2] : List Addr) := fun b hb hm => hb (by
      have := hm
      simp only [List.mem_cons, List.not_mem_nil, or_false] at this ⊢
      rcases this with q | q | q | q
      · exact .inl q
      · exact .inr (.inr (.inl q))
      · exact .inr (.inr (.inr (.inl q)))
      · exact .inr (.inr (.inr (.inr q))))
    obtain ⟨oT, hoT, hcT, nT, hdT⟩ := hTup
    have hoT2 := hk2 T oT hTw hoT
    have new : ObjOk X.prog X.w (upd H T (.tup [.str ⟨#[c1]⟩, .str ⟨#[c2]⟩])) h'' T (.tup [.str ⟨#[c1]⟩, .str ⟨#[c2]⟩]) :=
      ⟨by show 2 ≤ sizeLine; decide, [.str ⟨#[c1]⟩ t1, .str ⟨#[c2]⟩ t2], .cons ⟨_, rfl⟩ (.cons ⟨_, rfl⟩ .nil), ⟨oT, hoT2, hcT, nT, hdT⟩⟩
    have I1 : Inv X pins σ (upd H T (.tup [.str ⟨#[c1]⟩, .str ⟨#[c2]⟩])) { s with heap := h'', toks := tk } :=
      I.turnedNew (t' := tk) (ch := [z, TI, TO, i1, i2]) (fun c o hb q => hk2 c o (hsub c hb) (hk c o (hsub c hb) q)) hf hT new
    refine ⟨.ref T, _, I1, rfl, ⟨T, c1, c2, rfl, I.hok.fresh hT, rfl, hc1, hc2⟩, ⟨hgi, st''⟩, fun c hcm => ?_⟩
    obtain ⟨o, ho, _⟩ : ∃ o, s.heap.get? c = some o ∧ True := by
      obtain ⟨_, hz, hTI, ⟨_, _, hTO⟩, ⟨o1, e1, _⟩, ⟨o2, e2, _⟩⟩ := st
      have e' : c = z ∨ c = TI ∨ c = TO ∨ c = i1 ∨ c = i2 := by simpa using hcm
      rcases e' with q | q | q | q | q
      · rw [q]; exact ⟨_, hz, trivial⟩
      · rw [q]; exact ⟨_, hTI, trivial⟩
      · rw [q]; exact ⟨_, hTO, trivial⟩
      · rw [q]; exact ⟨_, e1, trivial⟩
      · rw [q]; exact ⟨_, e2, trivial⟩
    have hlt := Heap.lt_size ho
    rw [upd_ne (Nat.ne_of_lt (Nat.lt_of_lt_of_le hlt hT))]
    exact (hf c hcm).1
  done := by
    intro X hP hw hK hc i pins s σ H E I hf st hg
    subst hP hw hK
    have hh := I.ok.hd hc
    have W := WalksT.zipD2 (prog := X.prog) (w := X.w) (A := X.A) S (draws_txt (A := X.A.in1) hh i1 x t) (draws_txt (A := X.A.in1) hh i2 y u)
    have hgi : min x.cps.size y.cps.size ≤ i := hg
    have e : i = min x.cps.size y.cps.size := Nat.le_antisymm st.1 hgi
    subst e
    refine W.done s _ _ st.2 fun h' tk hk => ⟨rfl, I.turnedL (t' := tk) (ch := [z, TI, TO, i1, i2]) (fun c o hb q => hk c o (fun hm => hb ?_) q) hf⟩
    simp only [List.mem_cons, List.not_mem_nil, or_false] at hm ⊢
    rcases hm with q | q | q | q
    · exact .inl q
    · exact .inr (.inr (.inl q))
    · exact .inr (.inr (.inr (.inl q)))
    · exact .inr (.inr (.inr (.inr q)))
  self := fun A i s Q E st h => wpAny_pyIter_zip st.2.1 h
end N
namespace N
open PySem PySem.Spec PyProof.Rows L2
/-! ### zip of two texts: the rule -/
def iZipV (ta : TA) : TI := fun σ H R => ta σ H fun vs H1 => ∃ x y, vs = [.str x, .str y] ∧ R (ItzS x y) H1
section
variable {X : Cx} {W : WX} {e e2 : Expr} {p pos tpos : Pos} {elts : List Expr} {kk : Nat}
theorem pi_zipS {ta : TA} (hg : Gl X "zip") (hm : X.mg "zip" = none) (ha : PA X [e, e2] ta)
    (hs : starEach [e, e2] X.env = (false, eval e X.env) :: starEach [e2] X.env := by rfl) (hpl : (backTo pos (starEach [e2] X.env)).any (·.1) = false := by rfl) :
    PI X (.Tuple elts kk tpos) (.Call (.Name "zip" p) [e, e2] [] pos) (iZipV ta) := by
  refine ⟨fun pins s σ H R I h => ?_⟩
  refine Call_ (ld_blt I hg hm PyProof.Rows.boot_zip (PyProof.Rows.callWith_type1 (thn (ha.run pos pins s σ H _ I h) fun us s1 ⟨vs, H1, I1, r1, q1⟩ => ?_) hs hpl))
  obtain ⟨x, y, ex, q⟩ := q1
  subst ex
  obtain ⟨u1, u2, rfl, ⟨t, rfl⟩, ⟨u, rfl⟩⟩ := vals2 r1
  have fresh5 : ∀ c, c ∈ [s1.heap.objs.size + 4, s1.heap.objs.size + 2, s1.heap.objs.size + 3, s1.heap.objs.size, s1.heap.objs.size + 1] → FpOk X pins H1 c := fun c hcm => by
    have e' : c = s1.heap.objs.size + 4 ∨ c = s1.heap.objs.size + 2 ∨ c = s1.heap.objs.size + 3 ∨ c = s1.heap.objs.size ∨ c = s1.heap.objs.size + 1 := by simpa using hcm
    have hle : s1.heap.objs.size ≤ c := by
      rcases e' with z | z | z | z | z <;> (rw [z]; omega)
    exact I1.fpOk hle (I1.hok.fresh hle)
  refine zip_begins2 (begins_text x t) (begins_text y u) trivial trivial fun h' hz hTI hTO h1 h2 hsz hk => wpAny_pyIter_zip hz ?_
  have I2 : Inv X pins σ H1 { s1 with heap := h' } := I1.kept (t' := s1.toks) hk
  exact ⟨s1.heap.objs.size + 4, [s1.heap.objs.size + 4, s1.heap.objs.size + 2, s1.heap.objs.size + 3, s1.heap.objs.size, s1.heap.objs.size + 1], _, _, H1, rfl, I2,
    turn_zipS (x := x) (y := y) (t := t) (u := u) (zip_sep2 (N := s1.heap.objs.size) (fp1 := []) (fp2 := []) (fun _ h => nomatch h) (fun _ h => nomatch h)),
    ⟨Nat.zero_le _, hz, hTI, ⟨_, _, hTO⟩, ⟨_, h1, rfl, rfl⟩, ⟨_, h2, rfl, rfl⟩⟩, fresh5, q⟩
def iZipS (ta : TAD) : TID := fun τ G x q => ta τ G x fun as G1 => A2 as fun d e => match d, e with
  | .str x, .str y => q (zipD (signs x) (signs y)) (fun _ => True) G1
  | _, _ => False
theorem signs_len (z : Str) : (signs z).length = z.cps.size := by unfold signs; rw [List.length_map, Array.length_toList]
theorem signs_at {z : Str} {i c : Nat} (h : z.cps[i]? = some c) : (signs z)[i]? = some (.str ⟨#[c]⟩) := by
  unfold signs
  rw [List.getElem?_map, Array.getElem?_toList, h]
  rfl
theorem pid_zipS {ta : TAD} (hg : Gl X "zip") (hm : X.mg "zip" = none) (ha : PAd X W [e, e2] ta)
    (hs : starEach [e, e2] X.env = (false, eval e X.env) :: starEach [e2] X.env := by rfl) (hpl : (backTo pos (starEach [e2] X.env)).any (·.1) = false := by rfl) :
    PId X W (.Tuple elts kk tpos) (.Call (.Name "zip" p) [e, e2] [] pos) (iZipS ta) := PIi (pi_zipS hg hm ha hs hpl) fun σ H R' => by
  rintro ⟨Z, G, τ, x, q, S, R, h, c, cx⟩
  refine ⟨Z, G, τ, x, _, S, R, h, fun ds G1 H1 vs q1 s1 R1 r1 => ?_, cx⟩
  obtain ⟨d, e, v, u, rfl, rfl, r, r', q1⟩ := A2_e r1 q1
  cases d with
  | str x => cases e with
    | str y =>
      cases r; cases r'
      have hl : (zipD (signs x) (signs y)).length = min x.cps.size y.cps.size := by unfold zipD; rw [List.length_zipWith, signs_len, signs_len]
      refine ⟨x, y, rfl, c _ _ G1 H1 _ q1 s1 R1 ⟨fun Z i G H hi m R s => ?_, fun Z i G H x' H' hi m R s yl => ?_, fun Z G H m R s => ?_⟩⟩
      · rw [hl] at hi
        exact hi
      · obtain ⟨T, c1, c2, ev, hT, eH, h1, h2⟩ := yl
        subst ev eH
        obtain ⟨a1, a2, a3⟩ := pair_rl R hT (.str ⟨#[c1]⟩) (.str ⟨#[c2]⟩)
        exact ⟨_, zip_at (signs_at h1) (signs_at h2), a1, a2, a3⟩
      · show min x.cps.size y.cps.size ≤ _
        rw [hl]
        exact Nat.le_refl _
    | _ => exact (show False from q1).elim
  | _ => exact (show False from q1).elim
end
end N
namespace N
open PySem PySem.Spec PyProof.Rows L2
/-! ### list.insert -/
section
variable {X : Cx} {W : WX} {o e1 e2 : Expr} {to : TED} {ta : TAD} {apos cpos : Pos}
theorem pd_insert (ho : PEd X W o to) (ha : PAd X W [e1, e2] ta) (hbase : attributeBase o "insert" X.env (eval o X.env) = eval o X.env := by rfl) (hline : (apos.endLine == cpos.line) = true := by rfl)
    (hfew : ((backTo cpos (starEach [e1, e2] X.env)).all (fun x => !x.1) && (backToKw cpos (keywordEach [] X.env)).all (fun x => x.1.isSome)
      && decide ([e1, e2].length + ([] : List Keyword).length + (if ([] : List Keyword).isEmpty then 0 else 1) < 30)) = true := by rfl) (hs : starEach [e1, e2] X.env = (false, eval e1 X.env) :: starEach [e2] X.env := by rfl)
    (hplain : (backTo cpos (starEach [e2] X.env)).any (·.1) = false := by rfl) :
    PEd X W (.Call (.Attribute o "insert" apos) [e1, e2] [] cpos) (gBL mInsert to ta) := pd_blm PySem.F.plainAttrs_list PySem.F.slot_list_insert PySem.F.type_list_insert mt_insert ok_insert ho ha hbase hfew hline hs hplain
end
end N
namespace N
open PySem PySem.Spec PyProof.Rows L2
theorem forIn_last (P : Nat → Prop) [DecidablePred P] : ∀ (l : List Nat) (o : Option Nat), (forIn (m := Id) l o fun i s => if P i then pure (ForInStep.yield (some i)) else pure (ForInStep.yield s)).run = l.foldl (fun s i => if P i then some i else s) o
  | [], o => rfl
  | i :: l, o => by
    rw [List.forIn_cons, List.foldl_cons, ← forIn_last P l]
    by_cases h : P i
    · simp [h]
    · simp [h]
theorem lastOcc_fold (s c : Str) (lo hi : Nat) : Builtin.Str.lastOccurrence s c lo hi = (List.range' lo (hi + 1 - lo)).foldl (fun last i => if i + c.length ≤ hi ∧ Builtin.Str.subAt s c i = true then some i else last) none := by
  unfold Builtin.Str.lastOccurrence
  simp
  exact forIn_last _ _ _
/-- the last of a list of places with P -/
theorem foldl_last (P : Nat → Prop) [DecidablePred P] : ∀ (l : List Nat) (o : Option Nat), l.foldl (fun s i => if P i then some i else s) o = match l.reverse.find? (fun i => decide (P i)) with | some i => some i | none => o
  | [], o => rfl
  | i :: l, o => by
    rw [List.foldl_cons, foldl_last P l, List.reverse_cons, List.find?_append]
    cases h : l.reverse.find? (fun i => decide (P i)) with
    | some j => rfl
    | none =>
      by_cases hp : P i
      · simp [hp]
      · simp [hp]
theorem subAt_one (s : Str) (c i : Nat) : Builtin.Str.subAt s ⟨#[c]⟩ i = decide (s.cps[i]? = some c) := by
  show (s.cps.extract i (i + 1) == #[c]) = _
  by_cases h : i < s.cps.size
  · have e : s.cps.extract i (i + 1) = #[s.cps[i]] := by
      apply Array.ext
      · simp; omega
      · intro j h1 h2
        have : j = 0 := by simp at h2; omega
        subst this
        simp
    rw [e, Array.getElem?_eq_getElem h]
    by_cases hc : s.cps[i] = c
    · simp [hc]
    · simp [hc]
  · have e : s.cps.extract i (i + 1) = #[] := by
      apply Array.eq_empty_of_size_eq_zero
      simp; omega
    rw [e, Array.getElem?_eq_none (by omega)]
    rfl
/-- text.rfind(sign): the last place of the sign, else -1 -/
def lastAt (l : List Nat) (c : Nat) : Option Nat := (List.range l.length).reverse.find? fun i => decide (l[i]? = some c)
theorem rfind_one (s : Str) (c : Nat) : Txt.rfind s ⟨#[c]⟩ = match lastAt s.cps.toList c with | some i => (i : Int) | none => -1 := by
  have e : Builtin.Str.lastOccurrence s ⟨#[c]⟩ 0 s.length = lastAt s.cps.toList c := by
    rw [lastOcc_fold, foldl_last]
    unfold lastAt
    have h1 : (List.range' 0 (s.length + 1 - 0)).reverse = s.length :: (List.range s.cps.toList.length).reverse := by
      rw [show s.length + 1 - 0 = s.length + 1 from rfl, ← List.range_eq_range', List.range_succ, List.reverse_append, Array.length_toList]
      rfl
    rw [h1, List.find?_cons_of_neg (by simp [Str.length]; intro h; omega)]
    have h2 : ∀ l : List Nat, (∀ i ∈ l, i < s.length) → l.find? (fun i => decide (i + (⟨#[c]⟩ : Str).length ≤ s.length ∧ Builtin.Str.subAt s ⟨#[c]⟩ i = true)) = l.find? (fun i => decide (s.cps.toList[i]? = some c)) := by
      intro l
      induction l with
      | nil => intro _; rfl
      | cons i l ih =>
        intro hl
        have hi := hl i List.mem_cons_self
        have e : decide (i + (⟨#[c]⟩ : Str).length ≤ s.length ∧ Builtin.Str.subAt s ⟨#[c]⟩ i = true) = decide (s.cps.toList[i]? = some c) := by
          rw [subAt_one, Array.getElem?_toList]
          have : i + (⟨#[c]⟩ : Str).length ≤ s.length := hi
          simp [this]
        rw [List.find?_cons, List.find?_cons, e, ih fun j hj => hl j (List.mem_cons_of_mem _ hj)]
    rw [h2 _ fun i hi => by simpa [Str.length] using hi]
    cases (List.range s.cps.toList.length).reverse.find? (fun i => decide (s.cps.toList[i]? = some c)) <;> rfl
  show (match Builtin.Str.lastOccurrence s ⟨#[c]⟩ 0 s.length with | some i => (i : Int) | none => -1) = _
  rw [e]
end N
namespace N
open PySem PySem.Spec PyProof.Rows L2
/-! ### text.find(sign): the first place of the sign, else -1 -/
theorem occ_stays (s c : Str) (hi : Nat) : ∀ (l : List Nat) (st : Array Nat × Nat), 1 ≤ st.fst.size → (forIn (m := Id) l st (StrLaws.occBody s c hi 1)).run.fst = st.fst
  | [], st, h => rfl
  | a :: l, st, h => by
    rw [List.forIn_cons]
    unfold StrLaws.occBody
    rw [if_neg (fun z => by omega)]
    exact occ_stays s c hi l _ h
theorem occ_first (s c : Str) (hi : Nat) : ∀ (l : List Nat) (free : Nat), (∀ i ∈ l, free ≤ i) → (forIn (m := Id) l ((#[] : Array Nat), free) (StrLaws.occBody s c hi 1)).run.fst.toList = (l.find? fun i => decide (i + c.length ≤ hi ∧ Builtin.Str.subAt s c i = true)).toList
  | [], _, _ => rfl
  | a :: l, free, hf => by
    rw [List.forIn_cons, List.find?_cons]
    have ha : free ≤ a := hf a List.mem_cons_self
    by_cases hc : a + c.length ≤ hi ∧ Builtin.Str.subAt s c a = true
    · have e : StrLaws.occBody s c hi 1 a ((#[] : Array Nat), free) = pure (ForInStep.yield (#[a], a + c.length)) := by
        unfold StrLaws.occBody
        rw [if_pos ⟨⟨⟨by simp, ha⟩, hc.1⟩, hc.2⟩]
        rfl
      rw [e, decide_eq_true hc]
      show (forIn (m := Id) l (#[a], a + c.length) (StrLaws.occBody s c hi 1)).run.fst.toList = _
      rw [occ_stays s c hi l _ (by simp)]
      rfl
    · have e : StrLaws.occBody s c hi 1 a ((#[] : Array Nat), free) = pure (ForInStep.yield (#[], free)) := by
        unfold StrLaws.occBody
        rw [if_neg fun z => hc ⟨z.1.2, z.2⟩]
      rw [e, decide_eq_false hc]
      exact occ_first s c hi l free fun i hi' => hf i (List.mem_cons_of_mem _ hi')
def firstAt (l : List Nat) (c : Nat) : Option Nat := (List.range l.length).find? fun i => decide (l[i]? = some c)
theorem find_one (s : Str) (c : Nat) : Txt.find s ⟨#[c]⟩ = match firstAt s.cps.toList c with | some i => (i : Int) | none => -1 := by
  have e : Builtin.Str.occurrences s ⟨#[c]⟩ 0 s.length 1 = (firstAt s.cps.toList c).toList := by
    rw [StrLaws.occ_eq, occ_first _ _ _ _ _ fun _ _ => Nat.zero_le _]
    unfold firstAt
    have h1 : List.range' 0 (s.length + 1 - 0) = List.range s.cps.toList.length ++ [s.length] := by
      rw [show s.length + 1 - 0 = s.length + 1 from rfl, ← List.range_eq_range', List.range_succ, Array.length_toList]
      rfl
    have hp : (fun i => decide (i + (⟨#[c]⟩ : Str).length ≤ s.length ∧ Builtin.Str.subAt s ⟨#[c]⟩ i = true)) = fun i => decide (s.cps.toList[i]? = some c) := funext fun i => by
      by_cases h : s.cps.toList[i]? = some c
      · rw [decide_eq_true h, decide_eq_true ((StrLaws.subAt_one s c i).mpr h)]
      · rw [decide_eq_false h, decide_eq_false fun z => h ((StrLaws.subAt_one s c i).mp z)]
    rw [h1, hp, List.find?_append]
    have h2 : [s.length].find? (fun i => decide (s.cps.toList[i]? = some c)) = none := by
      rw [List.find?_cons_of_neg (by simp [Str.length])]
      rfl
    rw [h2, Option.or_none]
  show (match Builtin.Str.occurrences s ⟨#[c]⟩ 0 s.length 1 with | i :: _ => (i : Int) | [] => -1) = _
  rw [e]
  cases firstAt s.cps.toList c <;> rfl
end N
namespace N
open PySem PySem.Spec PyProof.Rows L2
/-! ### texts as rows of signs -/
def tx (l : List Nat) : Str := ⟨l.toArray⟩
theorem tx_toL (l : List Nat) : (tx l).cps.toList = l := by simp [tx]
theorem tx_of (s : Str) : tx s.cps.toList = s := by obtain ⟨c⟩ := s; simp [tx]
theorem tx_len (l : List Nat) : (tx l).length = l.length := by simp [tx, Str.length]
theorem tx_inj {a b : List Nat} : tx a = tx b ↔ a = b := ⟨fun h => by have := congrArg (fun s : Str => s.cps.toList) h; simpa [tx] using this, fun h => by rw [h]⟩
theorem tx_app (a b : List Nat) : tx a ++ tx b = tx (a ++ b) := by
  show (⟨a.toArray ++ b.toArray⟩ : Str) = _
  simp [tx]
theorem cut_to (l : List Nat) {p : Nat} (h : p ≤ l.length) : cutS (tx l) none (some (p : Int)) = tx (l.take p) := by
  unfold cutS
  rw [HT.sIx_none, HT.sIx_nat, tx_len, tx_toL, List.drop_zero, Nat.sub_zero, Nat.min_eq_left h]
  rfl
theorem cut_from (l : List Nat) {p : Nat} (h : p ≤ l.length) : cutS (tx l) (some (p : Int)) none = tx (l.drop p) := by
  unfold cutS
  rw [HT.sIx_none, HT.sIx_nat, tx_len, tx_toL, Nat.min_eq_left h, List.take_of_length_le (by simp)]
  rfl
theorem rev_tx (l : List Nat) : revS (tx l) = tx l.reverse := by
  unfold revS
  rw [tx_toL]
  rfl
theorem signs_tx (l : List Nat) : signs (tx l) = l.map fun c => .str (tx [c]) := by
  unfold signs
  rw [tx_toL]
  rfl
theorem repS_tx (l : List Nat) (n : Int) : repS (tx l) n = tx (List.replicate n.toNat l).flatten := by
  unfold repS
  rw [tx_toL]
  rfl
end N
namespace N
open PySem PySem.Spec PyProof.Rows L2
/-! ### a stop between an if and what follows it -/
@[irreducible] def gSeqC (t u : TSD) : TSD := fun e τ G => ∃ P : SD → GH → Prop, t { e with nx := P } τ G ∧ ∀ τ G, P τ G → u e τ G
theorem Cut_g {t u : TSD} {e : EndsD} {τ : SD} {G : GH} (h : gSeq t u e τ G) : gSeqC t u e τ G := by unfold gSeqC; exact ⟨u e, h, fun _ _ z => z⟩
/-- what holds behind the first: P -/
theorem Cut_i {t u : TSD} {e : EndsD} {τ : SD} {G : GH} (P : SD → GH → Prop) (h1 : t { e with nx := P } τ G) (h2 : ∀ τ G, P τ G → u e τ G) : gSeqC t u e τ G := by unfold gSeqC; exact ⟨P, h1, h2⟩
theorem pssd_consC {X : Cx} {W : WX} {st : Stmt} {sts : List Stmt} {t u : TSD} (h1 : PSd X W st t) (h2 : PSsd X W sts u) : PSsd X W (st :: sts) (gSeqC t u) := PSsi (pss_cons h1 h2) fun D σ H => by
  rintro ⟨Z, G, τ, e, S, R, h, c⟩
  unfold gSeqC at h
  obtain ⟨P, ha, hb⟩ := h
  refine ⟨Z, G, τ, _, S, R, ha, ⟨fun τ1 G1 H1 σ1 q1 s1 R1 S1 => ?_, c.rt, c.bk, c.ct, c.ex⟩⟩
  exact ⟨Z, G1, τ1, e, S1, R1, hb _ _ q1, c.step s1⟩
end N
namespace N
open PySem PySem.Spec PyProof.Rows L2
/-! ### plain data -/
mutual
def tree : D → Bool
  | .non => true
  | .bl _ => true
  | .int _ => true
  | .str _ => true
  | .tup ds => trees ds
  | .lst ds => trees ds
  | _ => false
def trees : List D → Bool
  | [] => true
  | d :: ds => tree d && trees ds
end
mutual
def pyD : D → PyData
  | .bl b => .bool b
  | .int i => .int i
  | .str s => .str s
  | .tup ds => .tuple (pyDs ds)
  | .lst ds => .list (pyDs ds)
  | _ => .none
def pyDs : List D → List PyData
  | [] => []
  | d :: ds => pyD d :: pyDs ds
end
theorem pyDs_map : ∀ ds : List D, pyDs ds = ds.map pyD
  | [] => rfl
  | d :: ds => by
    show pyD d :: pyDs ds = _
    rw [pyDs_map ds]
    rfl
mutual
theorem tree_deep {G : GH} : ∀ {d : D}, tree d = true → Deep G d (pyD d)
  | .non, _ => .non
  | .bl b, _ => .bl b
  | .int i, _ => .int i
  | .str s, _ => .str s
  | .tup ds, h => .tup (trees_deep h)
  | .lst ds, h => .lst (trees_deep h)
  | .ro _, h => nomatch h
  | .obj _ _ _, h => nomatch h
  | .ref _, h => nomatch h
  | .fn _, h => nomatch h
  | .exc _ _ _ _, h => nomatch h
theorem trees_deep {G : GH} : ∀ {ds : List D}, trees ds = true → DeepA G ds (pyDs ds)
  | [], _ => .nil
  | d :: ds, h => by
    have h' : (tree d && trees ds) = true := h
    rw [Bool.and_eq_true] at h'
    exact .cons (tree_deep h'.1) (trees_deep h'.2)
end
theorem trees_mem : ∀ {xs : List D}, trees xs = true → ∀ t ∈ xs, tree t = true
  | [], _, t, h => by cases h
  | x :: xs, h, t, m => by
    unfold trees at h
    rw [Bool.and_eq_true] at h
    rcases List.mem_cons.mp m with rfl | m
    · exact h.1
    · exact trees_mem h.2 t m
theorem trees_of : ∀ {xs : List D}, (∀ t ∈ xs, tree t = true) → trees xs = true
  | [], _ => rfl
  | x :: xs, h => by
    show (tree x && trees xs) = true
    rw [h x (by simp), trees_of fun t m => h t (by simp [m])]
    rfl
/-! ### sorted -/
def rSortD (K : PySem.W.Frag) : List V → Hp → VK → Prop := fun vs H Q => ∃ (a : Addr) (β : Type) (bs : List β) (f : β → V) (enc : β → PyData), vs = [.ref a] ∧ SqL K H a (bs.map f) ∧ (∀ b ∈ bs, Dp K H (f b) (enc b)) ∧
  PySem.W.AllAlike (bs.map enc) ∧ PySem.W.Sortable (bs.map enc) ∧ (∀ b ∈ bs, (enc b).depth ≤ 32) ∧ ∀ p, H p = none → Q (.ref p) (upd H p (.lst ((bs.mergeSort (PySem.W.dataLe false enc)).map f)))
theorem each_of {β : Type} {f : β → V} : ∀ {bs : List β} {us : List Value}, Vals (bs.map f) us → PySem.W.EachIs (fun u b => RelV (f b) u) us bs
  | [], _, h => by cases h; exact .nil
  | b :: bs, _, h => by cases h with | cons h t => exact .cons h (each_of t)
theorem vals_each {β : Type} {f : β → V} : ∀ {bs : List β} {us : List Value}, PySem.W.EachIs (fun u b => RelV (f b) u) us bs → Vals (bs.map f) us
  | _, _, .nil => .nil
  | _, _, .cons h t => .cons h (vals_each t)
theorem each_mono {α β : Type} {R S : α → β → Prop} : ∀ {as : List α} {bs : List β}, PySem.W.EachIs R as bs → (∀ a b, b ∈ bs → R a b → S a b) → PySem.W.EachIs S as bs
  | _, _, .nil, _ => .nil
  | _, _, .cons h t, i => .cons (i _ _ (by simp) h) (each_mono t fun a b m => i a b (by simp [m]))
theorem cr_sortD {X : Cx} (hu : X.A.units + 64 < cLine) : CallR X (.builtin "sorted") (rSortD X.K) := by
  intro pins s σ H vs us Q I r h
  obtain ⟨a, β, bs, f, enc, rfl, hs, hd, hal, hk, hdp, q⟩ := h
  obtain ⟨its, rv, hl, hz⟩ := I.list hs
  rw [Vals.ref1 r]
  have e := each_of rv
  have er : PySem.W.EachIs (fun v b => ∃ as, Reads s.heap v (enc b) as) its bs := each_mono e fun v b m h => Dp.reads I (enc b) (f b) v (hd b m) h
  rw [List.length_map] at hz
  refine PySem.W.sorted_data hl.isList e er hal hk hz (fun b m => by have := hdp b m; omega) fun out ho eo => ?_
  obtain ⟨ep, he'⟩ := PyProof.Rows.sortedAll_at s.heap its out.toArray
  have hlen : ((bs.mergeSort (PySem.W.dataLe false enc)).map f).length ≤ sizeLine := by rw [List.length_map, List.length_mergeSort]; exact hz
  exact ⟨.ref _, upd H (s.heap.objs.size + 1) (.lst ((bs.mergeSort (PySem.W.dataLe false enc)).map f)), I.laid (t' := s.toks) (fun _ _ => PyProof.Rows.sortedAll_old) (Nat.le_succ _) ⟨hlen, out, ep, vals_each eo, he'⟩, rfl, q _ (I.hok.fresh (Nat.le_succ _))⟩
/-- sorted(text) -/
def rSortTx : List V → Hp → VK → Prop := fun vs H Q => ∃ z : Str, vs = [.str z] ∧ z.length ≤ sizeLine ∧ ∀ p, H p = none → Q (.ref p) (upd H p (.lst ((z.cps.toList.mergeSort fun a b => decide (a ≤ b)).map fun c => .str ⟨#[c]⟩)))
theorem dataLe_sg : (PySem.W.dataLe false fun c : Nat => PyData.str ⟨#[c]⟩) = fun a b => decide (a ≤ b) := by
  rw [PySem.W.dataLe_str fun c : Nat => (⟨#[c]⟩ : Str)]
  funext a b
  refine decide_eq_decide.mpr ?_
  show [a] ≤ [b] ↔ a ≤ b
  rw [List.cons_le_cons_iff]
  simp
  omega
theorem cr_sortTx {X : Cx} (hc : X.calm = true) (hu : X.A.units + 64 < cLine) : CallR X (.builtin "sorted") rSortTx := by
  intro pins s σ H vs us Q I r h
  obtain ⟨z, rfl, hz, q⟩ := h
  obtain ⟨u, rfl, t, rfl⟩ := vals1 r
  refine Calls.call_function_entry kind_sorted plain_sorted entry_sorted (args_sorted1 _) ?_
  unfold Builtin.«sorted»
  refine wpAny_bind (m := checkCount "sorted" 1 1 _) (wpAny_pure ?_)
  refine wpAny_bind (PySem.wpAny_collect_str (A := X.A.in1) (show X.A.in1.handled = none from I.ok.hd hc) z t (fun s' acc hk hg hd ho hi => ?_) hz)
  have hal : acc.toList.length = z.length := by rw [Array.length_toList]; exact hi.1
  refine wpAny_bind (wpAny_newList ?_ (by rw [hal]; exact hz))
  have hoL : (s'.heap.push (seqObj "list" acc.toList.toArray 0)).get? s'.heap.objs.size = some (seqObj "list" acc.toList.toArray 0) := Heap.get?_push_size _ rfl
  show wpAny _ _ _ _ _ { s' with heap := s'.heap.push (seqObj "list" acc.toList.toArray 0) }
  have rv : Vals (z.cps.toList.map fun c => V.str ⟨#[c]⟩) acc.toList := signs_vals hi
  have e := each_of rv
  refine wpAny_bind (wpAny_holding (PySem.W.list_sort_data (enc := fun c : Nat => PyData.str ⟨#[c]⟩) hoL e (each_mono e fun v b _ h => ?_) (PySem.W.AllAlike.of fun _ _ => rfl) (PySem.W.Sortable.others fun b => ⟨(fun h => nomatch h), (fun _ h => nomatch h)⟩) ?_ (fun b _ => ?_) fun out ho' eo => ?_))
  · obtain ⟨t, rfl⟩ : ∃ t, v = .str ⟨#[b]⟩ t := h
    exact ⟨[], .str _ _, by simp⟩
  · rw [Array.length_toList]; exact hz
  · show X.A.in1.units + 1 + 0 < cLine
    have : X.A.in1.units = X.A.units + 1 := rfl
    omega
  · have es : s' = { s with heap := s'.heap, toks := s'.toks } := by
      cases s
      cases s'
      cases hg
      cases hd
      cases ho
      rfl
    have I1 : L2.Inv X pins σ H s' := by
      rw [es]
      exact I.kept hk
    obtain ⟨e', he'⟩ := PyProof.Rows.sortedHeap_at (vs := acc.toList) (out := out.toArray) hoL
    have hlen : ((z.cps.toList.mergeSort fun a b => decide (a ≤ b)).map fun c => V.str ⟨#[c]⟩).length ≤ sizeLine := by
      rw [List.length_map, List.length_mergeSort, Array.length_toList]
      exact hz
    rw [dataLe_sg] at eo
    refine wpAny_pure ⟨_, rfl, .ref s'.heap.objs.size, upd H s'.heap.objs.size (.lst ((z.cps.toList.mergeSort fun a b => decide (a ≤ b)).map fun c => V.str ⟨#[c]⟩)), I1.laid (t' := s'.toks) (fun b u e => ?_) (Nat.le_refl _)
      (show ObjOk X.prog X.w _ _ _ (.lst ((z.cps.toList.mergeSort fun a b => decide (a ≤ b)).map fun c => V.str ⟨#[c]⟩)) from ⟨hlen, out, e', vals_each eo, he'⟩), rfl, q _ (I1.hok.fresh (Nat.le_refl _))⟩
    have hb : b < s'.heap.objs.size := Heap.lt_size e
    rw [PyProof.Rows.sortedHeap_old (Nat.ne_of_lt hb) (by rw [size_push']; exact Nat.lt_succ_of_lt hb)]
    exact Heap.get?_push_of_some _ e
/-- at the level of plain data -/
abbrev leD : D → D → Bool := PySem.W.dataLe false pyD
theorem rla_zip {K : PySem.W.Frag} {Z : ZS} {G : GH} {H : Hp} : ∀ {ds : List D} {vs : List V}, RlA K Z G H ds vs → ∃ ps : List (D × V), ds = ps.map (·.1) ∧ vs = ps.map (·.2) ∧ ∀ p ∈ ps, Rl K Z G H p.1 p.2
  | _, _, .nil => ⟨[], rfl, rfl, fun _ m => nomatch m⟩
  | _, _, .cons (d := d) (v := v) h t => by
    obtain ⟨ps, e1, e2, hp⟩ := rla_zip t
    exact ⟨(d, v) :: ps, by rw [e1]; rfl, by rw [e2]; rfl, fun p m => by
      rcases List.mem_cons.mp m with rfl | m
      · exact h
      · exact hp p m⟩
/-- the list can be sorted: what comes out -/
@[irreducible] def SrtQ (ds : List D) (k : List D → Prop) : Prop := trees ds = true ∧ PySem.W.AllAlike (ds.map pyD) ∧ PySem.W.Sortable (ds.map pyD) ∧ (∀ d ∈ ds, (pyD d).depth ≤ 32) ∧ k (ds.mergeSort leD)
theorem SrtQ_i {ds : List D} {k : List D → Prop} (h1 : trees ds = true) (h2 : PySem.W.AllAlike (ds.map pyD)) (h3 : PySem.W.Sortable (ds.map pyD)) (h4 : ∀ d ∈ ds, (pyD d).depth ≤ 32) (h : k (ds.mergeSort leD)) : SrtQ ds k := by
  unfold SrtQ
  exact ⟨h1, h2, h3, h4, h⟩
def cSort : CAD := fun ds G q => A1 ds fun x => match x with
  | .str z => Sd (z.length ≤ sizeLine) (NewL ((z.cps.toList.mergeSort fun a b => decide (a ≤ b)).map fun c => .str ⟨#[c]⟩) G q)
  | x => AsL x G fun ds => SrtQ ds fun ds' => NewL ds' G q
def rSortA (K : PySem.W.Frag) : List V → Hp → VK → Prop := fun xs H Q => rSortD K xs H Q ∨ rSortTx xs H Q
theorem call_sortA {X : Cx} (hc : X.calm = true) (hu : X.A.units + 64 < cLine) : CallR X (.builtin "sorted") (rSortA X.K) := callR_or (cr_sortD hu) (cr_sortTx hc hu)
theorem rla_sg {K : PySem.W.Frag} {Z : ZS} {G : GH} {H : Hp} : ∀ l : List Nat, RlA K Z G H (l.map fun c => D.str ⟨#[c]⟩) (l.map fun c => V.str ⟨#[c]⟩)
  | [] => .nil
  | _ :: l => .cons (.str _) (rla_sg l)
theorem ok_sortA {K : PySem.W.Frag} : CAOk K (rSortA K) cSort := by
  intro Z G H ds vs q Q R r h c
  obtain ⟨d, v, rfl, rfl, r1, h⟩ := A1_e r h
  have seq : (AsL d G fun ds => SrtQ ds fun ds' => NewL ds' G q) → rSortA K [v] H Q := fun h => by
    obtain ⟨a, xs, ds, rfl, hs, rd, h⟩ := asL_e R r1 h
    unfold SrtQ at h
    obtain ⟨h1, h2, h3, h4, h⟩ := h
    obtain ⟨ps, rfl, rfl, hp⟩ := rla_zip rd
    have e1 : (ps.map (·.1)).map pyD = ps.map fun p => pyD p.1 := by rw [List.map_map]; rfl
    rw [e1] at h2 h3
    refine .inl ⟨a, D × V, ps, (·.2), fun p => pyD p.1, rfl, SqL.of hs, fun p m => Deep.dp R (tree_deep (trees_mem h1 _ (List.mem_map.mpr ⟨p, m, rfl⟩))) (hp p m), h2, h3, fun p m => h4 _ (List.mem_map.mpr ⟨p, m, rfl⟩), fun g hg => ?_⟩
    have e2 : (ps.map (·.1)).mergeSort leD = (ps.mergeSort (PySem.W.dataLe false fun p : D × V => pyD p.1)).map (·.1) := by
      rw [List.map_mergeSort (r := PySem.W.dataLe false fun p : D × V => pyD p.1) (s := leD) (f := (·.1)) (fun a _ b _ => rfl)]
    rw [e2] at h
    exact new_list R (rla_map fun p m => hp p ((List.mergeSort_perm _ _).mem_iff.mp m)) h c g hg
  cases d with
  | str z =>
    cases r1
    obtain ⟨hl, h⟩ := Sd_e h
    exact .inr ⟨z, rfl, hl, fun g hg => new_list R (rla_sg _) h c g hg⟩
  | _ => exact seq h
end N
namespace N
open PySem PySem.Spec PyProof.Rows L2
/-! ### typed data: α's values as plain D -/
class DE (α : Type) [DecidableEq α] [PySem.W.DatumOrd α] where
  e : α → D
  tr : ∀ a, tree (e a) = true
  py : ∀ a, pyD (e a) = PySem.W.Datum.toD a
  srt : (∀ a : α, ∃ x r, PySem.W.Datum.toD a = .tuple (x :: r)) ∨ ∀ a : α, ∀ xs, PySem.W.Datum.toD a ≠ .tuple xs
theorem e_pys {α : Type} [DecidableEq α] [PySem.W.DatumOrd α] [DE α] (l : List α) : pyDs (l.map DE.e) = l.map PySem.W.Datum.toD := by
  rw [pyDs_map, List.map_map]
  exact List.map_congr_left fun a _ => DE.py a
instance : DE Int where
  e := D.int
  tr _ := rfl
  py _ := rfl
  srt := .inr fun _ _ h => nomatch h
instance : DE Bool where
  e := D.bl
  tr _ := rfl
  py _ := rfl
  srt := .inr fun _ _ h => nomatch h
instance : DE Str where
  e := D.str
  tr _ := rfl
  py _ := rfl
  srt := .inr fun _ _ h => nomatch h
section
variable {α β : Type} [DecidableEq α] [PySem.W.DatumOrd α] [DE α] [DecidableEq β] [PySem.W.DatumOrd β] [DE β]
theorem e_shaped (hd : PySem.W.Datum.depth α ≤ 30) (a : α) : plOk (pyD (DE.e a)) := by
  rw [DE.py]
  exact ⟨PySem.W.Datum.plain a, Nat.le_trans (PySem.W.Datum.depth_le a) (Nat.le_trans hd (by decide))⟩
/-- == of typed data -/
theorem EqD_e {a b : α} {G : GH} {k : Bool → Prop} (hd : PySem.W.Datum.depth α ≤ 30) (h : k (decide (a = b))) : EqD (DE.e a) (DE.e b) G k := by
  refine EqD_p (tree_deep (DE.tr a)) (tree_deep (DE.tr b)) (e_shaped hd a) (e_shaped hd b) ?_
  rw [DE.py, DE.py, PySem.W.Datum.eqv]
  exact h
theorem list_shaped (hd : PySem.W.Datum.depth α ≤ 30) (l : List α) : plOk (.list (l.map PySem.W.Datum.toD)) := by
  refine ⟨PySem.W.plainAll_map l, ?_⟩
  have h1 := PySem.W.depthAll_map l
  show PyData.depthAll _ + 1 ≤ 64
  omega
/-- == of lists of typed data -/
theorem EqD_l {a b : List α} {G : GH} {k : Bool → Prop} (hd : PySem.W.Datum.depth α ≤ 30) (h : k (decide (a = b))) : EqD (.lst (a.map DE.e)) (.lst (b.map DE.e)) G k := by
  refine EqD_p (d := .list (pyDs (a.map DE.e))) (e := .list (pyDs (b.map DE.e))) (.lst (trees_deep (trees_of fun t m => ?_))) (.lst (trees_deep (trees_of fun t m => ?_))) ?_ ?_ ?_
  · obtain ⟨z, _, rfl⟩ := List.mem_map.mp m; exact DE.tr z
  · obtain ⟨z, _, rfl⟩ := List.mem_map.mp m; exact DE.tr z
  · rw [e_pys]; exact list_shaped hd a
  · rw [e_pys]; exact list_shaped hd b
  · rw [e_pys, e_pys]
    have : PyData.eqv (.list (a.map PySem.W.Datum.toD)) (.list (b.map PySem.W.Datum.toD)) = decide (a = b) := PySem.W.Datum.eqv (α := List α) a b
    rw [this]
    exact h
theorem EqD_t {a b : List α} {G : GH} {k : Bool → Prop} (hd : PySem.W.Datum.depth α ≤ 30) (h : k (decide (a = b))) : EqD (.tup (a.map DE.e)) (.tup (b.map DE.e)) G k := by
  refine EqD_p (d := .tuple (pyDs (a.map DE.e))) (e := .tuple (pyDs (b.map DE.e))) (.tup (trees_deep (trees_of fun t m => ?_))) (.tup (trees_deep (trees_of fun t m => ?_))) ?_ ?_ ?_
  · obtain ⟨z, _, rfl⟩ := List.mem_map.mp m; exact DE.tr z
  · obtain ⟨z, _, rfl⟩ := List.mem_map.mp m; exact DE.tr z
  · rw [e_pys]; exact list_shaped hd a
  · rw [e_pys]; exact list_shaped hd b
  · rw [e_pys, e_pys]
    have : PyData.eqv (.tuple (a.map PySem.W.Datum.toD)) (.tuple (b.map PySem.W.Datum.toD)) = decide (a = b) := (PySem.W.Datum.eqv (α := List α) a b : _)
    rw [this]
    exact h
/-- sorted of typed data -/
def leT (a b : α) : Bool := !PySem.W.DatumOrd.lt b a
theorem SrtQ_e {l : List α} {k : List D → Prop} (hd : PySem.W.Datum.depth α ≤ 30) (h : k ((l.mergeSort leT).map DE.e)) : SrtQ (l.map DE.e) k := by
  have ep : (l.map DE.e).map pyD = l.map PySem.W.Datum.toD := by rw [← pyDs_map, e_pys]
  refine SrtQ_i (trees_of fun t m => ?_) ?_ ?_ (fun d m => ?_) ?_
  · obtain ⟨z, _, rfl⟩ := List.mem_map.mp m; exact DE.tr z
  · rw [ep]; exact PySem.W.AllAlike.of fun a b => PySem.W.DatumOrd.alike a b
  · rw [ep]
    rcases DE.srt (α := α) with z | z
    · exact PySem.W.Sortable.tuples z
    · exact PySem.W.Sortable.others fun b => ⟨PySem.W.DatumOrd.notNone b, z b⟩
  · obtain ⟨z, _, rfl⟩ := List.mem_map.mp m
    rw [DE.py]
    exact Nat.le_trans (PySem.W.Datum.depth_le z) (Nat.le_trans hd (by decide))
  · have e2 : (l.map DE.e).mergeSort leD = (l.mergeSort leT).map DE.e := by
      rw [List.map_mergeSort (r := leT) (s := leD) (f := DE.e) (fun a _ b _ => ?_)]
      unfold leT
      show _ = (PySem.W.dataLe false pyD) _ _
      rw [PySem.W.dataLe_eq]
      show _ = !PySem.W.dataLt (pyD (DE.e b)) (pyD (DE.e a))
      rw [DE.py, DE.py, PySem.W.DatumOrd.lt_eq]
    rw [e2]
    exact h
instance : DE (α × β) where
  e p := .tup [DE.e p.1, DE.e p.2]
  tr p := by
    show (tree (DE.e p.1) && (tree (DE.e p.2) && true)) = true
    rw [DE.tr, DE.tr]; rfl
  py p := by
    show PyData.tuple [pyD (DE.e p.1), pyD (DE.e p.2)] = _
    rw [DE.py, DE.py]; rfl
  srt := .inl fun p => ⟨_, _, rfl⟩
/-! ### min, max of data -/
theorem minD_mem (x : PyData) : ∀ xs : List PyData, PySem.W.minD x xs ∈ x :: xs := fun xs => by
  unfold PySem.W.minD
  induction xs generalizing x with
  | nil => simp
  | cons y ys ih =>
    rw [List.foldl_cons]
    have := ih (if PySem.W.dataLt y x then y else x)
    rcases List.mem_cons.mp this with h | h
    · rw [h]; split <;> simp
    · simp [h]
end
def rMinX (K : PySem.W.Frag) : List V → Hp → VK → Prop := fun vs H Q => ∃ (a : Addr) (xs : List V) (p : PyData) (ps : List PyData), vs = [.ref a] ∧ (SqL K H a xs ∨ SqT K H a xs) ∧ DpAll K H xs (p :: ps) ∧ PySem.W.AlikeAll (p :: ps) ∧ PyData.depthAll (p :: ps) ≤ 32 ∧
  ∀ (i : Nat) v, xs[i]? = some v → (p :: ps)[i]? = some (PySem.W.minD p ps) → Q v H
theorem vals_get : ∀ {xs : List V} {us : List Value} {i : Nat} {u : Value}, Vals xs us → us[i]? = some u → ∃ x, xs[i]? = some x ∧ RelV x u := vals_getV
theorem cr_minX {X : Cx} (hc : X.calm = true) (hu : X.A.units + 64 < cLine) : CallR X (.builtin "min") (rMinX X.K) := by
  intro pins s σ H vs us Q I r h
  obtain ⟨a, xs, p, ps, rfl, hs, hd, hal, hdp, q⟩ := h
  rw [Vals.ref1 r]
  have fin : ∀ its : List Value, Vals xs its → (∃ as, ReadsAll s.heap its (p :: ps) as) → ∀ (i : Nat) v h' tk bs, its.toArray[i]? = some v → Reads h' v (PySem.W.minD p ps) bs → (∀ b o, s.heap.get? b = some o → h'.get? b = some o) → EP X pins σ Q v { s with heap := h', toks := tk } := by
    intro its rv hr i v h' tk bs hv hm hk
    obtain ⟨as, hr⟩ := hr
    have hv' : its[i]? = some v := by simpa using hv
    obtain ⟨x, hx, rx⟩ := vals_getV rv hv'
    obtain ⟨cs, h1, h2, h3, h4⟩ := PySem.W.readsAll_at hr i v hv'
    have e : (p :: ps).getD i .none = PySem.W.minD p ps := by
      refine PySem.W.alike_unique _ _ v _ _ (hal.1 _ h3 _ (minD_mem p ps)) (PyProof.Rows.Reads.keeps hk h1) hm
    refine ⟨x, H, I.kept hk, rx, q i x hx ?_⟩
    rw [← e, List.getD_eq_getElem?_getD, List.getElem?_eq_getElem h2]
    rfl
  rcases hs with hs | hs
  · obtain ⟨its, rv, hl, hz⟩ := I.list hs
    exact PySem.W.min_list_data (I.ok.hd hc) hl.isList (Dp.readsAll I _ _ _ hd rv).choose_spec hal (by omega) (fin its rv (Dp.readsAll I _ _ _ hd rv))
  · obtain ⟨its, rv, hl, hz⟩ := I.tuple hs
    exact PySem.W.min_tuple_data (I.ok.hd hc) hl (Dp.readsAll I _ _ _ hd rv).choose_spec hal (by omega) (fin its rv (Dp.readsAll I _ _ _ hd rv))
/-- the least of a list or a tuple of data -/
@[irreducible] def MinQ (x : D) (G : GH) (q : QD) : Prop := AsQ x G fun ds => ∃ d ds', ds = d :: ds' ∧ trees ds = true ∧ PySem.W.AlikeAll (ds.map pyD) ∧ PyData.depthAll (ds.map pyD) ≤ 32 ∧ ∀ e ∈ ds, pyD e = PySem.W.minD (pyD d) (ds'.map pyD) → q e G
def cMinX : CAD := fun ds G q => A1 ds fun x => MinQ x G q
theorem ok_minX {K : PySem.W.Frag} : CAOk K (rMinX K) cMinX := by
  intro Z G H ds vs q Q R r h c
  obtain ⟨d, v, rfl, rfl, r1, h⟩ := A1_e r h
  unfold MinQ at h
  obtain ⟨a, xs, ds, rfl, hs, rd, d, ds', rfl, ht, hal, hdp, h⟩ := asQ_e R r1 h
  refine ⟨a, xs, pyD d, ds'.map pyD, rfl, hs, ?_, hal, hdp, fun i v hv hm => ?_⟩
  · have := DeepA.dp R (trees_deep ht) rd
    rw [pyDs_map] at this
    exact this
  · obtain ⟨e, he, re⟩ := rd.getV hv
    refine c _ _ _ _ (h e (List.mem_of_getElem? he) ?_) (Step.refl _ _) R re
    have e2 : ((d :: ds').map pyD)[i]? = some (pyD e) := by rw [List.getElem?_map, he]; rfl
    exact Option.some.inj (e2.symm.trans hm)
section
variable {α : Type} [DecidableEq α] [PySem.W.DatumOrd α] [DE α]
theorem minq_aux {a : α} {l : List α} {G : GH} {q : QD} (hd : PySem.W.Datum.depth α ≤ 30) (inj : ∀ b c : α, PySem.W.Datum.toD b = PySem.W.Datum.toD c → b = c) (h : q (DE.e (PySem.W.minOf a l)) G) : ∃ d ds', (a :: l).map DE.e = d :: ds' ∧ trees ((a :: l).map DE.e) = true ∧ PySem.W.AlikeAll (((a :: l).map DE.e).map pyD) ∧ PyData.depthAll (((a :: l).map DE.e).map pyD) ≤ 32 ∧ ∀ e ∈ (a :: l).map (DE.e (α := α)), pyD e = PySem.W.minD (pyD d) (ds'.map pyD) → q e G := by
  have ep : ∀ l : List α, (l.map DE.e).map pyD = l.map PySem.W.Datum.toD := fun l => by rw [← pyDs_map, e_pys]
  refine ⟨DE.e a, l.map DE.e, rfl, trees_of fun t m => ?_, ?_, ?_, fun e m he => ?_⟩
  · obtain ⟨z, _, rfl⟩ := List.mem_map.mp m; exact DE.tr z
  · rw [ep]; exact PySem.W.alikeAll_datum _
  · rw [ep]; exact Nat.le_trans (PySem.W.depthAll_map _) (by omega)
  · obtain ⟨z, _, rfl⟩ := List.mem_map.mp m
    rw [ep, DE.py, DE.py, PySem.W.minD_map] at he
    rw [inj _ _ he]
    exact h
theorem MinQ_l {a : α} {l : List α} {G : GH} {q : QD} (hd : PySem.W.Datum.depth α ≤ 30) (inj : ∀ b c : α, PySem.W.Datum.toD b = PySem.W.Datum.toD c → b = c) (h : q (DE.e (PySem.W.minOf a l)) G) : MinQ (.lst ((a :: l).map DE.e)) G q := by
  unfold MinQ
  exact minq_aux hd inj h
theorem MinQ_t {a : α} {l : List α} {G : GH} {q : QD} (hd : PySem.W.Datum.depth α ≤ 30) (inj : ∀ b c : α, PySem.W.Datum.toD b = PySem.W.Datum.toD c → b = c) (h : q (DE.e (PySem.W.minOf a l)) G) : MinQ (.tup ((a :: l).map DE.e)) G q := by
  unfold MinQ
  exact minq_aux hd inj h
end
/-! ### list.index of flat things -/
def mIdx : MTD := fun d ds G q => A1 ds fun y => AsL d G fun xs => Sd (flatD y = true ∧ xs.all flatD = true) (∃ j : Nat, (xs.findIdx? fun z => eqV (vOf z) (vOf y)) = some j ∧ q (.int (j : Int)) G)
theorem ok_idx {K : PySem.W.Frag} : MTOk K (rIndex K) mIdx := by
  intro Z G H d ds v vs q Q R r rs h c
  obtain ⟨y, u, rfl, rfl, r1, h⟩ := A1_e rs h
  obtain ⟨a, xs, ds, rfl, hs, rd, h⟩ := asL_e R r h
  obtain ⟨⟨f1, f2⟩, j, hj, h⟩ := Sd_e h
  obtain ⟨e1, g1⟩ := flat_rl f1 r1
  obtain ⟨e2, g2⟩ := flat_rla f2 rd
  subst e1 e2
  obtain ⟨hl, h1, h2⟩ := List.findIdx?_eq_some_iff_getElem.mp hj
  refine ⟨a, ds.map vOf, vOf y, j, vOf (ds[j]), rfl, rfl, SqL.of hs, g1, g2, ?_, h1, fun m z' hm hz => ?_, c _ _ _ _ h (Step.refl _ _) R (.int _)⟩
  · rw [List.getElem?_map, List.getElem?_eq_getElem hl]; rfl
  · rw [List.getElem?_map, List.getElem?_eq_getElem (show m < ds.length by omega)] at hz
    cases hz
    have := h2 m hm
    simpa using this
section
variable {X : Cx} {W : WX} {o e : Expr} {to : TED} {ta : TAD} {apos cpos : Pos}
theorem pd_index (ho : PEd X W o to) (ha : PAd X W [e] ta) (hbase : attributeBase o "index" X.env (eval o X.env) = eval o X.env := by rfl) (hline : (apos.endLine == cpos.line) = true := by rfl)
    (hfew : ((backTo cpos (starEach [e] X.env)).all (fun x => !x.1) && (backToKw cpos (keywordEach [] X.env)).all (fun x => x.1.isSome)
      && decide ([e].length + ([] : List Keyword).length + (if ([] : List Keyword).isEmpty then 0 else 1) < 30)) = true := by rfl) (hs : starEach [e] X.env = (false, eval e X.env) :: starEach [] X.env := by rfl) :
    PEd X W (.Call (.Attribute o "index" apos) [e] [] cpos) (gBL mIdx to ta) := pd_blm PySem.F.plainAttrs_list PySem.F.slot_list_index PySem.F.type_list_index mt_index ok_idx ho ha hbase hfew hline hs
end
end N
namespace N
open PySem PySem.Spec PyProof.Rows L2
/-! ### calls with keywords of methods and classes, calls that may raise -/
def EwB (b : Bool) (W : WX) : L2.St → XK := fun σ => match b with | true => WE W σ | false => E0
def xB (b : Bool) (x : XD) : XD := match b with | true => x | false => X0
section
variable {X : Cx} {W : WX} {b : Bool}
theorem passB (tk : b = true → L2N.Takes X W) : ∀ σ, PassesAt (L2N.CX X.prog X.w) X σ (EwB b W σ) := by
  cases b with
  | true => exact fun σ => L2N.passAt (tk rfl) σ
  | false => exact fun σ pins H s e s' _ c => (cx_none c).elim
theorem clB {K : PySem.W.Frag} {Z : ZS} {G : GH} {H : Hp} {x : XD} {σ : L2.St} (cx : ClX K Z G H x W σ) : ClX K Z G H (xB b x) (fun c d _ H => EwB b W σ c d H) σ := by
  cases b with
  | true => exact cx
  | false => exact fun _ _ _ _ _ _ z => z.elim
end
section
variable {X : Cx} {W : WX} {b : Bool} {k n : Nat} {f C : Addr} {fd : FuncData} {ps ks : List Str} {sp : SpD} {x m : Str} {p pos apos : Pos} {e o : Expr} {es : List Expr} {kws : List Keyword} {to : TED} {ta tk : TAD} {g : List Value → List Value → List Value} {gV : List V → List V → List V} {spV : Sp} {E : L2.St → XK} {CX : CXT}
theorem run_NS {pins : List (Addr × Obj)} {σ : L2.St} {H : Hp} {s : Shared} {Q : VK} {us ws : List Value} {vs zs : List V} (F : FnOk X.prog X.w X.K X.mg X.base CX k f fd ps spV) (hr : Room k X.A) (hb : KBn X.K fd ps n ks g gV) (hx : PassesAt CX X σ (E σ))
    (I : L2.Inv X pins σ H s) (r : Vals vs us) (rz : Vals zs ws) (l1 : vs.length = n) (l2 : zs.length = ks.length) (h : spV (gV vs zs) H Q (E σ)) : wpAny (model X.prog X.w) X.A (call (.ref f) us (ks.zip ws)) (EP X pins σ Q) X.xe s := by
  have r2 := hb.rel r rz
  refine wpAny_call (codeAny_mono (F.run X.A X.stack s H ⟨us, ks.zip ws⟩ (g us ws) (gV vs zs) Q (E σ) hr I.env0 (hb.to s us ws I.kIn (r.length.symm.trans l1) (rz.length.symm.trans l2)) r2 h) fun r s' hq => ?_)
  cases r with
  | error e => exact hx pins H s e s' I hq
  | ok fl =>
    cases fl with
    | ret u => exact I.after hq
    | next => exact False.elim hq
    | brk => exact False.elim hq
    | cont => exact False.elim hq
/-- o.m(.., k = v, ..): by values -/
def tMethU (C : Addr) (m : Str) (n j : Nat) (sp : Sp) (gV : List V → List V → List V) (E : L2.St → XK) (to : TE) (t tk : TA) : TE := fun σ H Q => to σ H fun x H1 => ∃ a dx fs, x = .ref a ∧ H1 a = some (.ins C dx fs) ∧ fs.lookup m = none ∧
  t σ H1 fun vs H2 => tk σ H2 fun zs H3 => vs.length = n ∧ zs.length = j ∧ sp (gV (.ref a :: vs) zs) H3 Q (E σ)
theorem pe_methK0 {pl : Sem Bool} {tV : TE} {tkV : TA} (he : PE X o tV) (c : Cls X.K C) (hm : Meth X.K C m f) (F : FnOk X.prog X.w X.K X.mg X.base CX k f fd ps spV) (hr : Room k X.A) (hb : KBn X.K fd ps 1 ks g gV) (hx : ∀ σ, PassesAt CX X σ (E σ)) (hkw : PK X kws tkV)
    (hall : (backToKw pos (keywordEach kws X.env)).all (·.1.isSome) = true := by rfl) (hks : (backToKw pos (keywordEach kws X.env)).filterMap (·.1) = ks := by rfl)
    (hpl : ((backTo pos (starEach [] X.env)).any (·.1) || (backToKw pos (keywordEach kws X.env)).any (·.1.isNone)) = false := by rfl)
    (ht : eval (.Call (.Attribute o m apos) [] kws pos) X.env = (do
      let ov ← eval o X.env
      standAt apos.atName
      let (f, first) ← holding [ov] (getMethod ov m pl)
      callWith pos f first (backTo pos (starEach [] X.env)) (backToKw pos (keywordEach kws X.env))) := by rfl) :
    PE X (.Call (.Attribute o m apos) [] kws pos) (tMethU C m 0 ks.length spV gV E tV tNil tkV) := by
  refine ⟨fun pins s σ H Q I h => ?_⟩
  refine PySem.W.methodCall_KW (pl := pl) (thn (he.run pins s σ H _ I h) fun u s1 ⟨x, H1, I1, rx, a, dx, fs, ex, ea, l, q⟩ => ?_) ht
  subst ex
  obtain rfl : u = Value.ref a := rx
  refine getmeth_ok I1 ea c hm l ?_
  refine PySem.W.callWith_KW0 (first := [.ref a]) (h₀ := X.base) I.ok.mod.kin hm.kp hall ?_ hpl
  refine thn (hkw.run pos pins s1 σ H1 _ I1 q) fun ws s2 ⟨zs, H2, I2, rz, _, l2, q2⟩ => ⟨I2.kIn, ?_⟩
  rw [hks]
  exact run_NS (us := [.ref a]) (vs := [.ref a]) F hr hb (hx σ) I2 (.cons rfl .nil) rz rfl l2 q2
theorem pe_methKN {pl : Sem Bool} {tV : TE} {taV tkV : TA} (he : PE X o tV) (c : Cls X.K C) (hm : Meth X.K C m f) (F : FnOk X.prog X.w X.K X.mg X.base CX k f fd ps spV) (hr : Room k X.A) (hb : KBn X.K fd ps (n + 1) ks g gV) (hx : ∀ σ, PassesAt CX X σ (E σ)) (ha : PA X (e :: es) taV) (hkw : PK X kws tkV)
    (hall : (backToKw pos (keywordEach kws X.env)).all (·.1.isSome) = true := by rfl) (hks : (backToKw pos (keywordEach kws X.env)).filterMap (·.1) = ks := by rfl)
    (hst : starEach (e :: es) X.env = (false, eval e X.env) :: starEach es X.env := by rfl)
    (hpl : ((backTo pos (starEach (e :: es) X.env)).any (·.1) || (backToKw pos (keywordEach kws X.env)).any (·.1.isNone)) = false := by rfl)
    (ht : eval (.Call (.Attribute o m apos) (e :: es) kws pos) X.env = (do
      let ov ← eval o X.env
      standAt apos.atName
      let (f, first) ← holding [ov] (getMethod ov m pl)
      callWith pos f first (backTo pos (starEach (e :: es) X.env)) (backToKw pos (keywordEach kws X.env))) := by rfl) :
    PE X (.Call (.Attribute o m apos) (e :: es) kws pos) (tMethU C m n ks.length spV gV E tV taV tkV) := by
  refine ⟨fun pins s σ H Q I h => ?_⟩
  refine PySem.W.methodCall_KW (pl := pl) (thn (he.run pins s σ H _ I h) fun u s1 ⟨x, H1, I1, rx, a, dx, fs, ex, ea, l, q⟩ => ?_) ht
  subst ex
  obtain rfl : u = Value.ref a := rx
  refine getmeth_ok I1 ea c hm l ?_
  refine PySem.W.callWith_KW (first := [.ref a]) (h₀ := X.base) I.ok.mod.kin hm.kp hall (thn (ha.run pos pins s1 σ H1 _ I1 q) fun us s2 ⟨vs, H2, I2, r, q⟩ => ?_) hpl hst
  refine thn (hkw.run pos pins s2 σ H2 _ I2 q) fun ws s3 ⟨zs, H3, I3, rz, l1, l2, q3⟩ => ⟨I3.kIn, ?_⟩
  rw [hks]
  exact run_NS (us := .ref a :: us) (vs := .ref a :: vs) F hr hb (hx σ) I3 (.cons rfl r) rz (by rw [List.length_cons, l1]) l2 q3
/-- at the level of plain data -/
def gMethU (b : Bool) (C : Addr) (m : Str) (sp : SpD) (n j : Nat) (idx : List Nat) (to : TED) (ta tk : TAD) : TED := fun τ G x q => to τ G x fun d G1 => Sd (IsIns C d G1 fun ks _ => m ∉ ks) (ta τ G1 x fun ds G2 => tk τ G2 x fun es G3 =>
  Sd (ds.length = n ∧ es.length = j) (Call sp (pk idx (d :: ds ++ es)) G3 q (xB b x)))
theorem lf_methU {K : PySem.W.Frag} {idx : List Nat} {j : Nat} {σ : L2.St} {H : Hp} {Q : VK} (w : Lf K W (gMethU b C m sp n j idx to ta tk) σ H Q) : tMethU C m n j (liftSp K sp) (fun vs zs => pk idx (vs ++ zs)) (EwB b W) (Lf K W to) (LfA K W ta) (LfA K W tk) σ H Q := by
  obtain ⟨Z, G, τ, x, q, S, R, hw, cl, cx⟩ := w
  refine ⟨Z, G, τ, x, _, S, R, hw, fun d G1 H1 v q1 s1 R1 r1 => ?_, cx⟩
  obtain ⟨i1, q1⟩ := Sd_e q1
  obtain ⟨a, dx, ks, ds, xs, rfl, hx, hl, rx, nm⟩ := isIns_e R1 r1 i1
  refine ⟨a, dx, _, rfl, hx, lookup_zip_none nm, Z, G1, τ, x, _, S.mv (s1.mv R), R1, q1, fun es G2 H2 vs q2 s2 R2 r2 => ?_, cx.step s1⟩
  have s12 := s1.trans s2
  refine ⟨Z, G2, τ, x, _, S.mv (s12.mv R), R2, q2, fun fs G3 H3 zs q3 s3 R3 r3 => ?_, cx.step s12⟩
  have s13 := s12.trans s3
  obtain ⟨⟨l1, l2⟩, q3⟩ := Sd_e q3
  have ra : RlA K Z G3 H3 (d :: es ++ fs) (V.ref a :: vs ++ zs) := (RlA.cons (r1.mv ((s2.trans s3).mv R1)) (r2.mv (s3.mv R2))).append r3
  exact ⟨by rw [← r2.length]; exact l1, by rw [← r3.length]; exact l2, lift_ok (σ := σ) R3 (rla_pk ra idx) q3 (cl.step s13) (clB (cx.step s13))⟩
theorem pd_mU0 {pl : Sem Bool} {idx : List Nat} (b : Bool) (tk_ : b = true → L2N.Takes X W) (c : Cls X.K C) (hm : Meth X.K C m f) (F : Fk X.prog X.w X.K X.mg X.base k f sp 1 ks idx) (hr : Room k X.A) (ho : PEd X W o to) (hkw : PKd X W kws tk)
    (hall : (backToKw pos (keywordEach kws X.env)).all (·.1.isSome) = true := by rfl) (hks : (backToKw pos (keywordEach kws X.env)).filterMap (·.1) = ks := by rfl)
    (hpl : ((backTo pos (starEach [] X.env)).any (·.1) || (backToKw pos (keywordEach kws X.env)).any (·.1.isNone)) = false := by rfl)
    (ht : eval (.Call (.Attribute o m apos) [] kws pos) X.env = (do
      let ov ← eval o X.env
      standAt apos.atName
      let (f, first) ← holding [ov] (getMethod ov m pl)
      callWith pos f first (backTo pos (starEach [] X.env)) (backToKw pos (keywordEach kws X.env))) := by rfl) :
    PEd X W (.Call (.Attribute o m apos) [] kws pos) (gMethU b C m sp 0 ks.length idx to gNil tk) := by
  obtain ⟨fd, ps, ok, hk, hb⟩ := F.ex
  refine PEi (pe_methK0 ho c hm ok hr hb (passB tk_) hkw hall hks hpl ht) fun σ H Q w => ?_
  have w := lf_methU w
  unfold tMethU at w ⊢
  obtain ⟨Z, G, τ, x, q, S, R, hw, cl, cx⟩ := w
  refine ⟨Z, G, τ, x, q, S, R, hw, fun d G1 H1 v q1 s1 R1 r1 => ?_, cx⟩
  obtain ⟨a, dx, fs, e1, e2, e3, h⟩ := cl d G1 H1 v q1 s1 R1 r1
  refine ⟨a, dx, fs, e1, e2, e3, ?_⟩
  obtain ⟨Z, G, τ, x, q, S, R, hw, cl, cx⟩ := h
  exact cl _ _ _ _ hw (Step.refl _ _) R .nil
theorem pd_mU {pl : Sem Bool} {idx : List Nat} (b : Bool) (tk_ : b = true → L2N.Takes X W) (c : Cls X.K C) (hm : Meth X.K C m f) (F : Fk X.prog X.w X.K X.mg X.base k f sp (n + 1) ks idx) (hr : Room k X.A) (ho : PEd X W o to) (ha : PAd X W (e :: es) ta) (hkw : PKd X W kws tk)
    (hall : (backToKw pos (keywordEach kws X.env)).all (·.1.isSome) = true := by rfl) (hks : (backToKw pos (keywordEach kws X.env)).filterMap (·.1) = ks := by rfl)
    (hst : starEach (e :: es) X.env = (false, eval e X.env) :: starEach es X.env := by rfl)
    (hpl : ((backTo pos (starEach (e :: es) X.env)).any (·.1) || (backToKw pos (keywordEach kws X.env)).any (·.1.isNone)) = false := by rfl)
    (ht : eval (.Call (.Attribute o m apos) (e :: es) kws pos) X.env = (do
      let ov ← eval o X.env
      standAt apos.atName
      let (f, first) ← holding [ov] (getMethod ov m pl)
      callWith pos f first (backTo pos (starEach (e :: es) X.env)) (backToKw pos (keywordEach kws X.env))) := by rfl) :
    PEd X W (.Call (.Attribute o m apos) (e :: es) kws pos) (gMethU b C m sp n ks.length idx to ta tk) := by
  obtain ⟨fd, ps, ok, hk, hb⟩ := F.ex
  exact PEi (pe_methKN ho c hm ok hr hb (passB tk_) ha hkw hall hks hst hpl ht) fun σ H Q w => lf_methU w
/-! ### C(.., k = v, ..) -/
def gMakeU (C : Addr) (sp : SpD) (n j : Nat) (idx : List Nat) (ta tk : TAD) : TED := fun τ G x q => ta τ G x fun ds G1 => tk τ G1 x fun es G2 => Sd (ds.length = n ∧ es.length = j) (∀ p, G2 p = none →
  Call sp (pk idx (.ref p :: ds ++ es)) (gup G2 p (.ins C [] [])) (fun d G3 => d = .non ∧ Ret (.ref p) G3 q) X0)
theorem newU_ok {K : PySem.W.Frag} {Z : ZS} {G : GH} {H : Hp} {ds es : List D} {vs zs : List V} {q : QD} {Q : VK} {idx : List Nat} (R : Rel K Z G H) (r : RlA K Z G H ds vs) (r2 : RlA K Z G H es zs) (h : ∀ p, G p = none →
    Call sp (pk idx (.ref p :: ds ++ es)) (gup G p (.ins C [] [])) (fun d G3 => d = .non ∧ Ret (.ref p) G3 q) X0) (c : ClE K Z G H q Q) (y dx : Addr) (hy : H y = none) (hdx : H dx = none) (ne : dx ≠ y) :
    liftSp K sp (pk idx (.ref y :: vs ++ zs)) (upd (upd H dx (.own y)) y (.ins C dx [])) (fun v H2 => v = .non ∧ Q (.ref y) H2) E0 := by
  have h1 := Call_e (h y (R.fresh hy))
  have sA := step_new (u := .own y) R hdx
  have RA := rel_new (u := .own y) R hdx
  have hy' : upd H dx (.own y) y = none := by rw [upd_ne (Ne.symm ne)]; exact hy
  have sB := step_newG (u := .ins C dx []) (o := .ins C [] []) RA hy'
  have RB := rel_newG (u := .ins C dx []) (o := .ins C [] []) RA hy' ⟨dx, [], upd_same, rfl, .nil⟩
  have sAB := sA.trans sB
  refine ⟨Z, _, _, _, X0, rla_pk ((RlA.cons (.ref y) (r.mv (sAB.mv R))).append (r2.mv (sAB.mv R))) idx, RB, h1, fun d G' H' v hq s' R' r' => ?_, fun _ _ _ _ _ _ z => z.elim⟩
  obtain ⟨rfl, hq⟩ := hq
  cases r'
  exact ⟨rfl, ret_ok R' (.ref y) hq (c.step (sAB.trans s'))⟩
theorem pd_mkU {idx : List Nat} (M : Mk X.K C f) (F : Fk X.prog X.w X.K X.mg X.base k f sp (n + 1) ks idx) (hr : Room (k + 1) X.A) (hg : Gl X x) (hm : X.mg x = some (.ref C)) (ha : PAd X W (e :: es) ta) (hkw : PKd X W kws tk)
    (hall : (backToKw pos (keywordEach kws X.env)).all (·.1.isSome) = true := by rfl) (hks : (backToKw pos (keywordEach kws X.env)).filterMap (·.1) = ks := by rfl) (hdb : (x == ("__debug__" : Str)) = false := by decide)
    (he : starEach (e :: es) X.env = (false, eval e X.env) :: starEach es X.env := by rfl) (hpl : ((backTo pos (starEach (e :: es) X.env)).any (·.1) || (backToKw pos (keywordEach kws X.env)).any (·.1.isNone)) = false := by rfl) :
    PEd X W (.Call (.Name x p) (e :: es) kws pos) (gMakeU C sp n ks.length idx ta tk) := by
  obtain ⟨fd, ps, ok, hk, hb⟩ := F.ex
  refine PEi (pe_makeK M ok hr hg hm hb passN ha hkw hall hks hdb he hpl) fun σ H Q w => ?_
  obtain ⟨Z, G, τ, x, q, S, R, hw, cl, cx⟩ := w
  refine ⟨Z, G, τ, x, _, S, R, hw, fun ds G1 H1 vs q1 s1 R1 r1 => ?_, cx⟩
  refine ⟨Z, G1, τ, x, _, S.mv (s1.mv R), R1, q1, fun es G2 H2 zs q2 s2 R2 r2 => ?_, cx.step s1⟩
  obtain ⟨⟨l1, l2⟩, q2⟩ := Sd_e q2
  refine ⟨by rw [← r1.length]; exact l1, by rw [← r2.length]; exact l2, fun y dx hy hdx ne => ?_⟩
  exact newU_ok R2 (r1.mv (s2.mv R1)) r2 q2 (cl.step (s1.trans s2)) y dx hy hdx ne
end
/-! ### sum of a tuple of ints -/
theorem sum_rawT {prog : Program} {w : World} {A : Around} {E : Value → Shared → Prop} {s : Shared} {l : Addr} {its : List Value} {ns : List Int} {Q : Value → Shared → Prop} (hh : A.handled = none) (hl : s.heap.IsTuple l its.toArray) (hi : IntsAre its ns)
    (h : ∀ h' tk t', (∀ b o, s.heap.get? b = some o → h'.get? b = some o) → Q (.int ns.sum t') { s with heap := h', toks := tk }) : wpAny (model prog w) A (call (.builtin "sum") [.ref l]) Q E s := by
  obtain ⟨xs, e⟩ := hi.allInts.items
  have hn : numsOf (intItems xs).toList = ns := by rw [← e]; exact hi.numsOf
  rw [nums_intItems] at hn
  rw [e] at hl
  refine call_sum_walkG (iter_intTup hl fun s₂ e st hfp hlI => ?_)
  subst e
  refine ⟨_, _, _, _, _, _, numAt xs, rfl, Walks.tuple (A := A.in1) hh _ l hlI (intItems xs), st, hfp, (fun _ _ => intItems_at), fun h' tk t' hk => ?_⟩
  have := h h' tk t' (old_keptT hk)
  rw [← hn, ← List.take_of_length_le (l := List.map _ xs.toList) (i := xs.size) (by simp), ← preSum_eq] at this
  simpa [intItems] using this
def rSumT (K : PySem.W.Frag) : List V → Hp → VK → Prop := fun vs H Q => ∃ (a : Addr) (ns : List Int), vs = [V.ref a] ∧ SqT K H a (ns.map V.int) ∧ Q (.int ns.sum) H
theorem cr_sumT {X : Cx} (hc : X.calm = true) : CallR X (.builtin "sum") (rSumT X.K) := by
  intro pins s σ H vs us Q I r h
  obtain ⟨a, ns, rfl, hs, q⟩ := h
  obtain ⟨its, rv, hl, _⟩ := I.tuple hs
  rw [Vals.ref1 r]
  exact sum_rawT (I.ok.hd hc) hl rv.ints fun h' tk t' hk => ⟨.int _, H, I.kept hk, ⟨_, rfl⟩, q⟩
def cSumQ : CAD := fun ds G q => A1 ds fun x => IntsQ x G fun ns => q (.int ns.sum) G
theorem call_sumQ {X : Cx} (hc : X.calm = true) : CallR X (.builtin "sum") (fun xs H Q => rSum X.K xs H Q ∨ rSumT X.K xs H Q) := callR_or (cr_sum hc) (cr_sumT hc)
theorem ok_sumQ {K : PySem.W.Frag} : CAOk K (fun xs H Q => rSum K xs H Q ∨ rSumT K xs H Q) cSumQ := by
  intro Z G H ds vs q Q R r h c
  obtain ⟨d, v, rfl, rfl, r1, h⟩ := A1_e r h
  obtain ⟨a, ns, rfl, hs, h⟩ := intsQ_e R r1 h
  rcases hs with hs | hs
  · exact .inl ⟨a, ns, rfl, hs, c _ _ _ _ h (Step.refl _ _) R (.int _)⟩
  · exact .inr ⟨a, ns, rfl, hs, c _ _ _ _ h (Step.refl _ _) R (.int _)⟩
end N
namespace N
open PySem PySem.Spec PyProof.Rows L2
/-! ### len(o), x in o, o == p of own objects -/
section
variable {X : Cx} {W : WX} {k : Nat} {f C : Addr} {fd : FuncData} {ps : List Str} {sp : SpD} {spV : Sp} {x : Str} {p pos : Pos} {e o : Expr} {to te : TED}
theorem run_in1 {pins : List (Addr × Obj)} {σ : L2.St} {H : Hp} {s : Shared} {Q : VK} {vs : List V} {us : List Value} (F : FnOk X.prog X.w X.K X.mg X.base (L2N.CX X.prog X.w) k f fd ps spV) (hr : Room (k + 1) X.A) (hb : Binds X.K fd ps [])
    (I : L2.Inv X pins σ H s) (r : Vals vs us) (h : spV vs H Q E0) {E : Value → Shared → Prop} : wpAny (model X.prog X.w) X.A.in1 (call (.ref f) us) (EP X pins σ Q) E s := by
  have hl : us.length = ps.length := by rw [← r.length]; exact F.len _ _ _ _ h
  have b := hb s us I.kIn (by rw [List.append_nil]; exact hl)
  rw [List.append_nil] at b
  refine wpAny_call (codeAny_mono (F.run X.A.in1 X.stack s H ⟨us, []⟩ us vs Q E0 hr.in1 I.env0.in1 b r h) fun r s' hq => ?_)
  cases r with
  | error e => exact (cx_none hq).elim
  | ok fl =>
    cases fl with
    | ret u => exact I.after hq
    | next => exact False.elim hq
    | brk => exact False.elim hq
    | cont => exact False.elim hq
def rLenO (C : Addr) (sp : Sp) : List V → Hp → VK → Prop := fun xs H Q => ∃ a dx fs, xs = [.ref a] ∧ H a = some (.ins C dx fs) ∧ sp [.ref a] H (fun v H' => ∃ n : Nat, v = .int n ∧ n < 2 ^ 62 ∧ Q v H') E0
theorem call_lenO (c : Meth X.K C "__len__" f) (F : FnOk X.prog X.w X.K X.mg X.base (L2N.CX X.prog X.w) k f fd ps spV) (hr : Room (k + 1) X.A) (hb : Binds X.K fd ps []) : CallR X (.builtin "len") (rLenO C spV) := by
  intro pins s σ H vs us Q I r h
  obtain ⟨a, dx, fs, rfl, ea, h⟩ := h
  rw [Vals.ref1 r]
  obtain ⟨mA, J, _⟩ := ins_get I.hok ea
  obtain ⟨od, J, _⟩ := J.look
  obtain ⟨m, hF⟩ := I.fr
  refine PySem.W.len_K hF I.ok.mod.kin J c.at_ c.fn (wpAny_mono (run_in1 (vs := [.ref a]) (us := [.ref a]) F hr hb I (.cons rfl .nil) h) (fun u s' hq => ?_) fun _ _ z => z)
  obtain ⟨v, H', I', rv, n, rfl, hn, q⟩ := hq
  obtain ⟨t, rfl⟩ := rv
  exact ⟨⟨by omega, by omega⟩, .int n, H', I'.tok _, ⟨_, rfl⟩, q⟩
def cLenO (C : Addr) (sp : SpD) : CAD := fun ds G q => A1 ds fun d => Sd (IsIns C d G fun _ _ => True) (Call sp [d] G (fun v G' => match v with | .int n => Sd (0 ≤ n ∧ n < 2 ^ 62) (q (.int n) G') | _ => False) X0)
theorem ok_lenO {K : PySem.W.Frag} {C : Addr} {sp : SpD} : CAOk K (rLenO C (liftSp K sp)) (cLenO C sp) := by
  intro Z G H ds vs q Q R r h c
  obtain ⟨d, v, rfl, rfl, r1, h⟩ := A1_e r h
  obtain ⟨i1, h⟩ := Sd_e h
  obtain ⟨a, dx, ks, ds, xs, rfl, hx, hl, rx, _⟩ := isIns_e R r1 i1
  refine ⟨a, dx, _, rfl, hx, lift_ok (σ := []) R (.cons r1 .nil) h (fun d G' H' v hd st R' r' => ?_) fun _ _ _ _ _ _ z => z.elim⟩
  cases d with
  | int n =>
    obtain ⟨⟨h0, h1⟩, hd⟩ := Sd_e hd
    cases r'
    obtain ⟨j, rfl⟩ := Int.eq_ofNat_of_zero_le h0
    exact ⟨j, rfl, by omega, c _ _ _ _ hd st R' (.int _)⟩
  | _ => exact (show False from hd).elim
theorem pd_lenO (c : Meth X.K C "__len__" f) (F : FgX X k f sp []) (hr : Room (k + 1) X.A) (hg : Gl X "len") (hm : X.mg "len" = none) {ta : TAD} (ha : PAd X W [e] ta)
    (hs : starEach [e] X.env = (false, eval e X.env) :: starEach [] X.env := by rfl) (hpl : (backTo pos (starEach [] X.env)).any (·.1) = false := by rfl) : PEd X W (.Call (.Name "len" p) [e] [] pos) (gCB (cLenO C sp) ta) := by
  obtain ⟨fd, ps, dvs, dfl, ok, hk, hv, hb, hd⟩ := F.ex
  cases dvs with
  | nil =>
    cases hv
    exact pd_callB (call_lenO c ok hr hb) ok_lenO hg hm (by decide +kernel) ha (by decide) (by decide) hs hpl
  | cons v vs => exact hd.elim
end
/-! ### f(.., k = v, ..) that may raise; C() -/
section
variable {X : Cx} {W : WX} {b : Bool} {k n : Nat} {f C : Addr} {fd : FuncData} {ps ks : List Str} {sp : SpD} {x : Str} {p pos : Pos} {e : Expr} {es : List Expr} {kws : List Keyword} {ta tk : TAD} {g : List Value → List Value → List Value} {gV : List V → List V → List V} {spV : Sp} {E : L2.St → XK} {CX : CXT}
def tCallU (n j : Nat) (sp : Sp) (gV : List V → List V → List V) (E : L2.St → XK) (t tk : TA) : TE := fun σ H Q => t σ H fun vs H1 => tk σ H1 fun zs H2 => vs.length = n ∧ zs.length = j ∧ sp (gV vs zs) H2 Q (E σ)
theorem pe_callU0 {tkV : TA} (F : FnOk X.prog X.w X.K X.mg X.base CX k f fd ps spV) (hr : Room k X.A) (hg : Gl X x) (hm : X.mg x = some (.ref f)) (hk : PySem.W.keepIn X.K (.ref f) = true) (hb : KBn X.K fd ps 0 ks g gV) (hx : ∀ σ, PassesAt CX X σ (E σ))
    (hkw : PK X kws tkV) (hall : (backToKw pos (keywordEach kws X.env)).all (·.1.isSome) = true := by rfl) (hks : (backToKw pos (keywordEach kws X.env)).filterMap (·.1) = ks := by rfl) (hdb : (x == ("__debug__" : Str)) = false := by decide)
    (hpl : ((backTo pos (starEach [] X.env)).any (·.1) || (backToKw pos (keywordEach kws X.env)).any (·.1.isNone)) = false := by rfl) :
    PE X (.Call (.Name x p) [] kws pos) (tCallU 0 ks.length spV gV E tNil tkV) := by
  refine ⟨fun pins s σ H Q I h => ?_⟩
  refine wpAny_Call_Name_kw (ld_glob I hg hm ?_ hdb)
  refine PySem.W.callWith_KW0 (h₀ := X.base) I.ok.mod.kin hk hall ?_ hpl
  refine thn (hkw.run pos pins s σ H _ I h) fun ws s2 ⟨zs, H2, I2, rz, _, l2, q2⟩ => ⟨I2.kIn, ?_⟩
  rw [hks]
  exact run_NS (us := []) (vs := []) F hr hb (hx σ) I2 .nil rz rfl l2 q2
theorem pe_callU {taV tkV : TA} (F : FnOk X.prog X.w X.K X.mg X.base CX k f fd ps spV) (hr : Room k X.A) (hg : Gl X x) (hm : X.mg x = some (.ref f)) (hk : PySem.W.keepIn X.K (.ref f) = true) (hb : KBn X.K fd ps n ks g gV) (hx : ∀ σ, PassesAt CX X σ (E σ))
    (ha : PA X (e :: es) taV) (hkw : PK X kws tkV) (hall : (backToKw pos (keywordEach kws X.env)).all (·.1.isSome) = true := by rfl) (hks : (backToKw pos (keywordEach kws X.env)).filterMap (·.1) = ks := by rfl)
    (hdb : (x == ("__debug__" : Str)) = false := by decide) (he : starEach (e :: es) X.env = (false, eval e X.env) :: starEach es X.env := by rfl)
    (hpl : ((backTo pos (starEach (e :: es) X.env)).any (·.1) || (backToKw pos (keywordEach kws X.env)).any (·.1.isNone)) = false := by rfl) :
    PE X (.Call (.Name x p) (e :: es) kws pos) (tCallU n ks.length spV gV E taV tkV) := by
  refine ⟨fun pins s σ H Q I h => ?_⟩
  refine wpAny_Call_Name_kw (ld_glob I hg hm ?_ hdb)
  refine PySem.W.callWith_KW (h₀ := X.base) I.ok.mod.kin hk hall (thn (ha.run pos pins s σ H _ I h) fun us s1 ⟨vs, H1, I1, r, q⟩ => ?_) hpl he
  refine thn (hkw.run pos pins s1 σ H1 _ I1 q) fun ws s2 ⟨zs, H2, I2, rz, l1, l2, q2⟩ => ⟨I2.kIn, ?_⟩
  rw [hks]
  exact run_NS F hr hb (hx σ) I2 r rz l1 l2 q2
def gCallU (b : Bool) (sp : SpD) (n j : Nat) (idx : List Nat) (ta tk : TAD) : TED := fun τ G x q => ta τ G x fun ds G1 => tk τ G1 x fun es G2 => Sd (ds.length = n ∧ es.length = j) (Call sp (pk idx (ds ++ es)) G2 q (xB b x))
theorem lf_callU {K : PySem.W.Frag} {idx : List Nat} {j : Nat} {σ : L2.St} {H : Hp} {Q : VK} (w : Lf K W (gCallU b sp n j idx ta tk) σ H Q) : tCallU n j (liftSp K sp) (fun vs zs => pk idx (vs ++ zs)) (EwB b W) (LfA K W ta) (LfA K W tk) σ H Q := by
  obtain ⟨Z, G, τ, x, q, S, R, hw, cl, cx⟩ := w
  refine ⟨Z, G, τ, x, _, S, R, hw, fun es G2 H2 vs q2 s2 R2 r2 => ?_, cx⟩
  refine ⟨Z, G2, τ, x, _, S.mv (s2.mv R), R2, q2, fun fs G3 H3 zs q3 s3 R3 r3 => ?_, cx.step s2⟩
  have s13 := s2.trans s3
  obtain ⟨⟨l1, l2⟩, q3⟩ := Sd_e q3
  exact ⟨by rw [← r2.length]; exact l1, by rw [← r3.length]; exact l2, lift_ok (σ := σ) R3 (rla_pk ((r2.mv (s3.mv R2)).append r3) idx) q3 (cl.step s13) (clB (cx.step s13))⟩
theorem pd_cU0 {idx : List Nat} (b : Bool) (tk_ : b = true → L2N.Takes X W) (F : Fk X.prog X.w X.K X.mg X.base k f sp 0 ks idx) (hr : Room k X.A) (hg : Gl X x) (hm : X.mg x = some (.ref f)) (hkw : PKd X W kws tk)
    (hall : (backToKw pos (keywordEach kws X.env)).all (·.1.isSome) = true := by rfl) (hks : (backToKw pos (keywordEach kws X.env)).filterMap (·.1) = ks := by rfl) (hdb : (x == ("__debug__" : Str)) = false := by decide)
    (hpl : ((backTo pos (starEach [] X.env)).any (·.1) || (backToKw pos (keywordEach kws X.env)).any (·.1.isNone)) = false := by rfl) :
    PEd X W (.Call (.Name x p) [] kws pos) (gCallU b sp 0 ks.length idx gNil tk) := by
  obtain ⟨fd, ps, ok, hk, hb⟩ := F.ex
  refine PEi (pe_callU0 ok hr hg hm hk hb (passB tk_) hkw hall hks hdb hpl) fun σ H Q w => ?_
  have w := lf_callU w
  obtain ⟨Z, G, τ, x, q, S, R, hw, cl, cx⟩ := w
  exact cl _ _ _ _ hw (Step.refl _ _) R .nil
theorem pd_cU {idx : List Nat} (b : Bool) (tk_ : b = true → L2N.Takes X W) (F : Fk X.prog X.w X.K X.mg X.base k f sp n ks idx) (hr : Room k X.A) (hg : Gl X x) (hm : X.mg x = some (.ref f)) (ha : PAd X W (e :: es) ta) (hkw : PKd X W kws tk)
    (hall : (backToKw pos (keywordEach kws X.env)).all (·.1.isSome) = true := by rfl) (hks : (backToKw pos (keywordEach kws X.env)).filterMap (·.1) = ks := by rfl) (hdb : (x == ("__debug__" : Str)) = false := by decide)
    (he : starEach (e :: es) X.env = (false, eval e X.env) :: starEach es X.env := by rfl)
    (hpl : ((backTo pos (starEach (e :: es) X.env)).any (·.1) || (backToKw pos (keywordEach kws X.env)).any (·.1.isNone)) = false := by rfl) :
    PEd X W (.Call (.Name x p) (e :: es) kws pos) (gCallU b sp n ks.length idx ta tk) := by
  obtain ⟨fd, ps, ok, hk, hb⟩ := F.ex
  exact PEi (pe_callU ok hr hg hm hk hb (passB tk_) ha hkw hall hks hdb he hpl) fun σ H Q w => lf_callU w
theorem pd_mk0 (M : Mk X.K C f) (F : FgX X k f sp []) (hr : Room (k + 1) X.A) (hg : Gl X x) (hm : X.mg x = some (.ref C)) (hdb : (x == ("__debug__" : Str)) = false := by decide) : PEd X W (.Call (.Name x p) [] [] pos) (gMakeD C sp [] gNil) := by
  obtain ⟨fd, ps, dvs, dfl, ok, hk, hv, hb, hd⟩ := F.ex
  cases dvs with
  | nil =>
    cases hv
    refine PEi (pe_make0 M ok hr hg hm hb .nil passN hdb) fun σ H Q w => ?_
    obtain ⟨Z, G, τ, x, q, S, R, hw, cl, cx⟩ := w
    intro y dx hy hdx ne
    exact newO_ok R .nil hw cl y dx hy hdx ne
  | cons v vs => exact hd.elim
end
section
variable {P : Program} {w : World} {K : PySem.W.Frag} {mg : Str → Option Value} {base : Heap} {k : Nat} {f : Addr} {fd : FuncData} {ps : List Str} {sp : SpD} {x qual : Str} {params : Arguments} {body : List Stmt} {scope : Scope}
/-- .. of a def with keyword-only parameters that have defaults: all of them written -/
theorem fk_k {kws : List (Str × V)} (F : FunD K x qual params body scope [] kws f fd) (hk : kws ≠ []) (n : Nat) (ks : List Str) (idx : List Nat)
    (h : ∀ (D : Addr) (doc pm : Value) (an : Option Addr) (cdv ct : Value) (us ws : List Value), us.length = n → ws.length = ks.length →
      bindArgs (PySem.W.fnOf x qual params body scope .none (.ref D) doc pm an cdv ct) ⟨us, ks.zip ws⟩ = pure (ps.zip (pk idx (us ++ ws))))
    (ok : FnOk P w K mg base (L2N.CX P w) k f fd ps (liftSp K sp)) : Fk P w K mg base k f sp n ks idx := by
  obtain ⟨mv, hb⟩ := F.kbinds0 n ks [] (fun us _ ws => pk idx (us ++ ws)) hk (fun _ m => nomatch m) (fun r1 _ r3 => vals_pk (vals_app r1 r3) idx) (fun D doc pm an cdv ct us mv ws l1 _ l3 => h D doc pm an cdv ct us ws l1 l3)
  exact ⟨fd, ps, ok, F.kp, hb⟩
end
end N
namespace N
open PySem PySem.Spec PyProof.Rows L2
/-! ### a pair handed back whose second is a list of the ledger -/
@[irreducible] def RetS (d : D) (G : GH) (q : QD) : Prop := Ret d G q ∨ ∃ x p ds G', SubG G' G ∧ d = .tup [x, .ref p] ∧ G p = some (.lst ds) ∧ G' p = none ∧ q (.tup [x, .lst ds]) G'
theorem RetS_i {d : D} {G : GH} {q : QD} (h : Ret d G q) : RetS d G q := by unfold RetS; exact .inl h
theorem RetS_lw {x : D} {p : Addr} {ds : List D} {G : GH} {q : QD} (G' : GH) (s : SubG G' G) (n : G' p = none) (e : G p = some (.lst ds)) (h : q (.tup [x, .lst ds]) G') : RetS (.tup [x, .ref p]) G q := by
  unfold RetS
  exact .inr ⟨x, p, ds, G', s, rfl, e, n, h⟩
theorem retS_ok {K : PySem.W.Frag} {Z : ZS} {G : GH} {H : Hp} {d : D} {v : V} {q : QD} {Q : VK} (R : Rel K Z G H) (r : Rl K Z G H d v) (h : RetS d G q) (c : ClE K Z G H q Q) : Q v H := by
  unfold RetS at h
  rcases h with h | ⟨x, p, ds, G', s, rfl, e, n, h⟩
  · exact ret_ok R r h c
  · have st := step_sub (H := H) s
    have R' := rel_sub s R
    obtain ⟨z, xs, hx, rx⟩ := R.ob p _ e
    cases r with
    | tup hy ry =>
      cases ry with
      | cons r1 r2 =>
        cases r2 with
        | cons r2 r3 =>
          cases r3
          cases r2
          exact c _ _ _ _ h st R' (.tup hy (.cons (r1.mv (st.mv R)) (.cons (.lst hx n z (rx.mv (st.mv R))) .nil)))
section
variable {X : Cx} {W : WX} {pos : Pos}
def gRetS (t : TED) : TSD := fun e τ G => t τ G (xOf e τ) fun d G1 => RetS d G1 e.rt
theorem psd_retS {e : Expr} {t : TED} (he : PEd X W e t) : PSd X W (.Return (some e) pos) (gRetS t) := PSi (ps_ret he) fun D σ H => by
  rintro ⟨Z, G, τ, e, S, R, h, c⟩
  exact ⟨Z, G, τ, _, _, S, R, h, fun d G1 H1 v q1 s1 R1 r1 => retS_ok R1 r1 q1 (c.rt.step s1), c.ex.x R S⟩
end
end N
namespace N
open PySem PySem.Spec PyProof.Rows L2
/-! ### dicts of the ledger: what stands at a key -/
section
variable {κ : Type} [DecidableEq κ] {K : PySem.W.Frag} {Z : ZS} {G : GH} {H : Hp}
def valD (kvs : List (κ × D)) (k : κ) : Option D := (kvs.find? fun kv => decide (kv.1 = k)).map (·.2)
def putD (kvs : List (κ × D)) (k : κ) (d : D) : List (κ × D) := if (kvs.any fun kv => decide (kv.1 = k)) = true then kvs.map (fun kv => if kv.1 = k then (kv.1, d) else kv) else kvs ++ [(k, d)]
theorem valD_rl : ∀ {kvs : List (κ × D)} {xs : List V}, RlA K Z G H (kvs.map (·.2)) xs → ∀ k, (valD kvs k = none ∧ valV ((kvs.map (·.1)).zip xs) k = none) ∨ ∃ d v, valD kvs k = some d ∧ valV ((kvs.map (·.1)).zip xs) k = some v ∧ Rl K Z G H d v
  | [], _, .nil, _ => .inl ⟨rfl, rfl⟩
  | (k', d) :: kvs, _ :: xs, .cons r rs, k => by
    by_cases e : k' = k
    · exact .inr ⟨d, _, by simp [valD, e], by simp [valV, e], r⟩
    · rcases valD_rl (kvs := kvs) rs k with ⟨h1, h2⟩ | ⟨d', v', h1, h2, h3⟩
      · exact .inl ⟨by simpa [valD, e] using h1, by simpa [valV, e] using h2⟩
      · exact .inr ⟨d', v', by simpa [valD, e] using h1, by simpa [valV, e] using h2, h3⟩
theorem any_keys (k : κ) : ∀ {kvs : List (κ × D)} {xs : List V}, kvs.length = xs.length → (((kvs.map (·.1)).zip xs).any fun kv => decide (kv.1 = k)) = kvs.any fun kv => decide (kv.1 = k)
  | [], [], _ => rfl
  | (k', d) :: kvs, x :: xs, h => by
    have h : kvs.length = xs.length := by simpa using h
    simp only [List.map_cons, List.zip_cons_cons, List.any_cons]
    rw [any_keys k h]
  | [], _ :: _, h => by simp at h
  | _ :: _, [], h => by simp at h
theorem put_map {k : κ} {d : D} {v : V} (rd : Rl K Z G H d v) : ∀ {kvs : List (κ × D)} {xs : List V}, RlA K Z G H (kvs.map (·.2)) xs →
    ∃ ys, ((kvs.map (·.1)).zip xs).map (fun kv => if kv.1 = k then (kv.1, v) else kv) = ((kvs.map fun kv => if kv.1 = k then (kv.1, d) else kv).map (·.1)).zip ys ∧ RlA K Z G H ((kvs.map fun kv => if kv.1 = k then (kv.1, d) else kv).map (·.2)) ys
  | [], _, .nil => ⟨[], rfl, .nil⟩
  | (k', d') :: kvs, x :: xs, .cons r rs => by
    obtain ⟨ys, h1, h2⟩ := put_map rd (kvs := kvs) rs
    by_cases e : k' = k
    · refine ⟨v :: ys, ?_, ?_⟩
      · show (if k' = k then (k', v) else (k', x)) :: _ = ((if k' = k then (k', d) else (k', d')).1 :: _).zip (v :: ys)
        rw [if_pos e, if_pos e]
        exact congrArg (List.cons (k', v)) h1
      · simp only [List.map_cons, if_pos e]
        exact .cons rd h2
    · refine ⟨x :: ys, ?_, ?_⟩
      · show (if k' = k then (k', v) else (k', x)) :: _ = ((if k' = k then (k', d) else (k', d')).1 :: _).zip (x :: ys)
        rw [if_neg e, if_neg e]
        exact congrArg (List.cons (k', x)) h1
      · simp only [List.map_cons, if_neg e]
        exact .cons r h2
theorem putD_rl {k : κ} {d : D} {v : V} {kvs : List (κ × D)} {xs : List V} (rd : Rl K Z G H d v) (r : RlA K Z G H (kvs.map (·.2)) xs) :
    ∃ ys, L2.putK ((kvs.map (·.1)).zip xs) k v = ((putD kvs k d).map (·.1)).zip ys ∧ RlA K Z G H ((putD kvs k d).map (·.2)) ys := by
  have hl : kvs.length = xs.length := by have := r.length; simpa using this
  unfold L2.putK putD
  rw [any_keys k hl]
  split
  · exact put_map rd r
  · refine ⟨xs ++ [v], ?_, ?_⟩
    · rw [List.map_append, List.zip_append (by simpa using hl)]
      rfl
    · rw [List.map_append]
      exact r.append (.cons rd .nil)
end
/-! ### {} -/
@[irreducible] def NewK (G : GH) (q : QD) : Prop := ∀ p, G p = none → q (.ref p) (gup G p (.dK []))
theorem NewK_i {G : GH} {q : QD} (h : ∀ p, G p = none → q (.ref p) (gup G p (.dK []))) : NewK G q := by unfold NewK; exact h
def gDNew : TED := fun _ G _ q => NewK G q
section
variable {X : Cx} {W : WX} {pos : Pos}
theorem pd_dnew : PEd X W (.Dict [] [] pos) gDNew := PEi pe_dnewK fun σ H Q w => by
  obtain ⟨Z, G, τ, x, q, S, R, h, c, _⟩ := w
  intro p hp
  unfold gDNew NewK at h
  exact c _ _ _ _ (h p (R.fresh hp)) (step_newG R hp) (rel_newG R hp ⟨[], upd_same, .nil⟩) (.ref p)
end
/-! ### d[k], one key: a number or a text -/
def keyD : D → Option Key
  | .int i => some (.inl i)
  | .str x => some (.inr x)
  | _ => none
theorem keyD_rl {K : PySem.W.Frag} {Z : ZS} {G : GH} {H : Hp} {y : D} {u : V} {k : Key} (h : keyD y = some k) (r : Rl K Z G H y u) : u = kV k := by
  cases y <;> first | (cases h; cases r; rfl) | cases h
def DkK (d y : D) (G : GH) (P : Addr → List (Key × D) → Key → Prop) : Prop := match d with
  | .ref a => ∃ kvs k, G a = some (.dK kvs) ∧ keyD y = some k ∧ P a kvs k
  | _ => False
theorem DkK_e {K : PySem.W.Frag} {Z : ZS} {G : GH} {H : Hp} {d y : D} {v u : V} {P : Addr → List (Key × D) → Key → Prop} (R : Rel K Z G H) (r : Rl K Z G H d v) (r2 : Rl K Z G H y u) (h : DkK d y G P) :
    ∃ a kvs xs k, v = .ref a ∧ u = kV k ∧ G a = some (.dK kvs) ∧ H a = some (.dK ((kvs.map (·.1)).zip xs)) ∧ RlA K Z G H (kvs.map (·.2)) xs ∧ P a kvs k := by
  cases d with
  | ref a =>
    obtain ⟨kvs, k, e, hk, h⟩ := h
    obtain ⟨_, xs, hx, rx⟩ := R.ob a _ e
    cases r
    exact ⟨a, kvs, xs, k, rfl, keyD_rl hk r2, e, hx, rx, h⟩
  | _ => exact (show False from h).elim
section
variable {X : Cx} {W : WX} {o i e f value : Expr} {to ti te tf tv : TED} {pos pos' apos cpos : Pos}
def gDGet (to ti : TED) : TED := fun τ G x q => to τ G x fun d G1 => ti τ G1 x fun y G2 => DkK d y G2 fun _ kvs k => ∃ z, valD kvs k = some z ∧ q z G2
theorem pd_dget (hu : X.A.units + 1 < cLine) (ho : PEd X W o to) (hi : PEd X W i ti) (hs : NoSl i) : PEd X W (.Subscript o i pos) (gDGet to ti) := PEi (pe_dget hu ho hi hs) fun σ H Q w => by
  obtain ⟨Z, G, τ, x, q, S, R, hw, c, cx⟩ := w
  refine ⟨Z, G, τ, x, _, S, R, hw, fun d G1 H1 v q1 s1 R1 r1 => ?_, cx⟩
  refine ⟨Z, G1, τ, x, _, S.mv (s1.mv R), R1, q1, fun y G2 H2 u q2 s2 R2 r2 => ?_, cx.step s1⟩
  obtain ⟨a, kvs, xs, k, rfl, rfl, _, hx, rx, z, hz, q3⟩ := DkK_e R2 (r1.mv (s2.mv R1)) r2 q2
  rcases valD_rl rx k with ⟨h1, _⟩ | ⟨d', v', h1, h2, h3⟩
  · rw [hz] at h1; cases h1
  · rw [hz] at h1
    cases h1
    exact ⟨a, v', rfl, by rw [← h2]; exact DGet.k hx, c _ _ _ _ q3 (s1.trans s2) R2 h3⟩
/-- d[k] = v -/
def gDPut (to ti tv : TED) : TSD := fun e τ G => tv τ G (xOf e τ) fun v G1 => to τ G1 (xOf e τ) fun d G2 => ti τ G2 (xOf e τ) fun y G3 => DkK d y G3 fun a kvs k => Sd (kvs.length < sizeLine) (e.nx τ (gup G3 a (.dK (putD kvs k v))))
theorem psd_dput (hu : X.A.units + 1 < cLine) (ho : PEd X W o to) (hi : PEd X W i ti) (hv : PEd X W value tv) (hs : swapsWith value (some (.Subscript o i pos')) pos.line X.env = pure false) :
    PSd X W (.Assign [.Subscript o i pos'] value pos) (gDPut to ti tv) := PSi (ps_dput hu ho hi hv hs) fun D σ H => by
  rintro ⟨Z, G, τ, e, S, R, h, c⟩
  refine ⟨Z, G, τ, _, _, S, R, h, fun v G1 H1 u q1 s1 R1 r1 => ?_, c.ex.x R S⟩
  refine ⟨Z, G1, τ, _, _, S.mv (s1.mv R), R1, q1, fun d G2 H2 w q2 s2 R2 r2 => ?_, (c.ex.x R S).step s1⟩
  refine ⟨Z, G2, τ, _, _, S.mv ((s1.trans s2).mv R), R2, q2, fun y G3 H3 z q3 s3 R3 r3 => ?_, (c.ex.x R S).step (s1.trans s2)⟩
  obtain ⟨a, kvs, xs, k, rfl, rfl, he, hx, rx, q4⟩ := DkK_e R3 (r2.mv (s3.mv R2)) r3 q3
  obtain ⟨hl, q4⟩ := Sd_e q4
  have s23 := s2.trans s3
  have s13 := s1.trans s23
  obtain ⟨ys, h1, h2⟩ := putD_rl (k := k) (r1.mv (s23.mv R1)) rx
  have hlen : ((kvs.map (·.1)).zip xs).length < sizeLine := by
    rw [List.length_zip, List.length_map]
    exact Nat.lt_of_le_of_lt (Nat.min_le_left _ _) hl
  refine ⟨a, _, rfl, DPut.k hx hlen, ?_⟩
  rw [h1]
  have s4 := step_set (u := .dK (((putD kvs k v).map (·.1)).zip ys)) (o' := .dK (putD kvs k v)) R3 he
  exact c.nx _ _ _ _ q4 (s13.trans s4) (rel_set R3 he ⟨ys, upd_same, h2.mv (s4.mv R3)⟩) (S.mv ((s13.trans s4).mv R))
end
/-! ### d.get(k, z), d.setdefault(k, z) -/
def IsDk (d : D) (G : GH) : Prop := match d with
  | .ref a => ∃ kvs, G a = some (.dK kvs)
  | _ => False
theorem IsDk_e {K : PySem.W.Frag} {Z : ZS} {G : GH} {H : Hp} {d : D} {v : V} (R : Rel K Z G H) (r : Rl K Z G H d v) (h : IsDk d G) : ∃ a, v = .ref a ∧ L2.IsD H a := by
  cases d with
  | ref a =>
    obtain ⟨kvs, e⟩ := h
    obtain ⟨_, xs, hx, _⟩ := R.ob a _ e
    cases r
    exact ⟨a, rfl, .inl ⟨_, .inl hx⟩⟩
  | _ => exact (show False from h).elim
section
variable {X : Cx} {W : WX} {o i e f value : Expr} {to ti te tf tv : TED} {pos pos' apos cpos : Pos}
def gDGet2 (to te tf : TED) : TED := fun τ G x q => to τ G x fun d G1 => Sd (IsDk d G1) (te τ G1 x fun y G2 => tf τ G2 x fun z G3 => DkK d y G3 fun _ kvs k => q ((valD kvs k).getD z) G3)
theorem pd_dget2 (hu : X.A.units + 1 < cLine) (ho : PEd X W o to) (he : PEd X W e te) (hf : PEd X W f tf) (m : M2 X o "get" apos e f cpos) : PEd X W (.Call (.Attribute o "get" apos) [e, f] [] cpos) (gDGet2 to te tf) := PEi (pe_dget2 hu ho he hf m) fun σ H Q w => by
  obtain ⟨Z, G, τ, x, q, S, R, hw, c, cx⟩ := w
  refine ⟨Z, G, τ, x, _, S, R, hw, fun d G1 H1 v q1 s1 R1 r1 => ?_, cx⟩
  obtain ⟨hd, q1⟩ := Sd_e q1
  obtain ⟨a, rfl, ia⟩ := IsDk_e R1 r1 hd
  refine ⟨a, rfl, ia, Z, G1, τ, x, _, S.mv (s1.mv R), R1, q1, fun y G2 H2 u q2 s2 R2 r2 => ?_, cx.step s1⟩
  refine ⟨Z, G2, τ, x, _, S.mv ((s1.trans s2).mv R), R2, q2, fun z G3 H3 w q3 s3 R3 r3 => ?_, cx.step (s1.trans s2)⟩
  obtain ⟨a', kvs, xs, k, ea, rfl, _, hx, rx, q4⟩ := DkK_e R3 (r1.mv ((s2.trans s3).mv R1)) (r2.mv (s3.mv R2)) q3
  cases ea
  refine ⟨_, DGet.k (k := k) hx, ?_⟩
  have s13 := (s1.trans s2).trans s3
  rcases valD_rl rx k with ⟨h1, h2⟩ | ⟨d', v', h1, h2, h3⟩
  · rw [h2]
    rw [h1] at q4
    exact c _ _ _ _ q4 s13 R3 r3
  · rw [h2]
    rw [h1] at q4
    exact c _ _ _ _ q4 s13 R3 h3
def gDSetd (to te tf : TED) : TED := fun τ G x q => to τ G x fun d G1 => Sd (IsDk d G1) (te τ G1 x fun y G2 => tf τ G2 x fun z G3 => DkK d y G3 fun a kvs k => Sd (kvs.length < sizeLine) (match valD kvs k with
  | some v => q v G3
  | none => q z (gup G3 a (.dK (putD kvs k z)))))
theorem pd_dsetd (ho : PEd X W o to) (he : PEd X W e te) (hf : PEd X W f tf) (m : M2 X o "setdefault" apos e f cpos) : PEd X W (.Call (.Attribute o "setdefault" apos) [e, f] [] cpos) (gDSetd to te tf) := PEi (pe_dsetd ho he hf m) fun σ H Q w => by
  obtain ⟨Z, G, τ, x, q, S, R, hw, c, cx⟩ := w
  refine ⟨Z, G, τ, x, _, S, R, hw, fun d G1 H1 v q1 s1 R1 r1 => ?_, cx⟩
  obtain ⟨hd, q1⟩ := Sd_e q1
  obtain ⟨a, rfl, ia⟩ := IsDk_e R1 r1 hd
  refine ⟨a, rfl, ia, Z, G1, τ, x, _, S.mv (s1.mv R), R1, q1, fun y G2 H2 u q2 s2 R2 r2 => ?_, cx.step s1⟩
  refine ⟨Z, G2, τ, x, _, S.mv ((s1.trans s2).mv R), R2, q2, fun z G3 H3 w q3 s3 R3 r3 => ?_, cx.step (s1.trans s2)⟩
  obtain ⟨a', kvs, xs, k, ea, rfl, he, hx, rx, q4⟩ := DkK_e R3 (r1.mv ((s2.trans s3).mv R1)) (r2.mv (s3.mv R2)) q3
  cases ea
  obtain ⟨hl, q4⟩ := Sd_e q4
  have hlen : ((kvs.map (·.1)).zip xs).length < sizeLine := by
    rw [List.length_zip, List.length_map]
    exact Nat.lt_of_le_of_lt (Nat.min_le_left _ _) hl
  have s13 := (s1.trans s2).trans s3
  refine ⟨_, k, hx, rfl, hlen, fun v0 hv => ?_, fun hn => ?_⟩
  · rcases valD_rl rx k with ⟨h1, h2⟩ | ⟨d', v', h1, h2, h3⟩
    · rw [hv] at h2; cases h2
    · rw [hv] at h2
      cases h2
      rw [h1] at q4
      exact c _ _ _ _ q4 s13 R3 h3
  · rcases valD_rl rx k with ⟨h1, h2⟩ | ⟨d', v', h1, h2, h3⟩
    · rw [h1] at q4
      obtain ⟨ys, g1, g2⟩ := putD_rl (k := k) r3 rx
      rw [g1]
      have s4 := step_set (u := .dK (((putD kvs k z).map (·.1)).zip ys)) (o' := .dK (putD kvs k z)) R3 he
      exact c _ _ _ _ q4 (s13.trans s4) (rel_set R3 he ⟨ys, upd_same, g2.mv (s4.mv R3)⟩) (r3.mv (s4.mv R3))
    · rw [hn] at h2; cases h2
end
end N
namespace N
open PySem PySem.Spec PyProof.Rows L2
/-! ### dicts whose keys are tuples written where they are used -/
@[irreducible] def NewT (G : GH) (q : QD) : Prop := ∀ p, G p = none → q (.ref p) (gup G p (.dT []))
theorem NewT_i {G : GH} {q : QD} (h : ∀ p, G p = none → q (.ref p) (gup G p (.dT []))) : NewT G q := by unfold NewT; exact h
def gDNewT : TED := fun _ G _ q => NewT G q
section
variable {X : Cx} {W : WX} {pos : Pos}
theorem pd_dnewT : PEd X W (.Dict [] [] pos) gDNewT := PEi pe_dnewT fun σ H Q w => by
  obtain ⟨Z, G, τ, x, q, S, R, h, c, _⟩ := w
  intro p hp
  unfold gDNewT NewT at h
  exact c _ _ _ _ (h p (R.fresh hp)) (step_newG R hp) (rel_newG R hp ⟨[], upd_same, .nil⟩) (.ref p)
end
theorem u1 {n : Nat} (h : n + 64 < cLine) : n + 1 < cLine := by omega
def keysD : List D → Option (List Key)
  | [] => some []
  | d :: ds => match keyD d, keysD ds with
    | some k, some ks => some (k :: ks)
    | _, _ => none
theorem keysD_rl {K : PySem.W.Frag} {Z : ZS} {G : GH} {H : Hp} : ∀ {ds : List D} {vs : List V} {ks : List Key}, keysD ds = some ks → RlA K Z G H ds vs → vs = ks.map kV
  | [], _, _, h, .nil => by cases h; rfl
  | d :: ds, _, ks, h, .cons r rs => by
    unfold keysD at h
    cases e1 : keyD d with
    | none => rw [e1] at h; cases h
    | some k => cases e2 : keysD ds with
      | none => rw [e1, e2] at h; cases h
      | some l =>
        rw [e1, e2] at h
        cases h
        rw [keyD_rl e1 r, keysD_rl e2 rs]
        rfl
def DkT (d : D) (ys : List D) (G : GH) (P : Addr → List (List Key × D) → List Key → Prop) : Prop := match d with
  | .ref a => ∃ kvs k, G a = some (.dT kvs) ∧ keysD ys = some k ∧ P a kvs k
  | _ => False
theorem DkT_e {K : PySem.W.Frag} {Z : ZS} {G : GH} {H : Hp} {d : D} {ys : List D} {v : V} {us : List V} {P : Addr → List (List Key × D) → List Key → Prop} (R : Rel K Z G H) (r : Rl K Z G H d v) (r2 : RlA K Z G H ys us) (h : DkT d ys G P) :
    ∃ a kvs xs k, v = .ref a ∧ us = k.map kV ∧ G a = some (.dT kvs) ∧ H a = some (.dT ((kvs.map (·.1)).zip xs)) ∧ RlA K Z G H (kvs.map (·.2)) xs ∧ P a kvs k := by
  cases d with
  | ref a =>
    obtain ⟨kvs, k, e, hk, h⟩ := h
    obtain ⟨_, xs, hx, rx⟩ := R.ob a _ e
    cases r
    exact ⟨a, kvs, xs, k, rfl, keysD_rl hk r2, e, hx, rx, h⟩
  | _ => exact (show False from h).elim
theorem ref_up {H : Hp} {a p : Addr} {o u : HO} (h : H a = some o) (hp : H p = none) : upd H p u a = some o := by
  rw [upd_ne (ne_of_none h hp)]; exact h
section
variable {X : Cx} {W : WX} {o e f value : Expr} {is : List Expr} {n : Nat} {to te tf tv : TED} {ti : TAD} {pos pos' tpos apos cpos : Pos}
def gDGetT (to : TED) (ti : TAD) : TED := fun τ G x q => to τ G x fun d G1 => ti τ G1 x fun ys G2 => DkT d ys G2 fun _ kvs k => Sd (k.length ≤ sizeLine) (∃ z, valD kvs k = some z ∧ q z G2)
theorem pd_dgetT (hu : X.A.units + 1 < cLine) (ho : PEd X W o to) (hi : PAd X W is ti) (hs : NoSl (.Tuple is n tpos)) : PEd X W (.Subscript o (.Tuple is n tpos) pos) (gDGetT to ti) := PEi (pe_dget hu ho (pe_tup hi) hs) fun σ H Q w => by
  obtain ⟨Z, G, τ, x, q, S, R, hw, c, cx⟩ := w
  refine ⟨Z, G, τ, x, _, S, R, hw, fun d G1 H1 v q1 s1 R1 r1 => ?_, cx⟩
  refine ⟨Z, G1, τ, x, _, S.mv (s1.mv R), R1, q1, fun ys G2 H2 us q2 s2 R2 r2 => ?_, cx.step s1⟩
  obtain ⟨a, kvs, xs, k, rfl, rfl, _, hx, rx, q3⟩ := DkT_e R2 (r1.mv (s2.mv R1)) r2 q2
  obtain ⟨hk, z, hz, q3⟩ := Sd_e q3
  refine ⟨by rw [List.length_map]; exact hk, fun p hp => ?_⟩
  have s3 := step_new (u := HO.tup (k.map kV)) R2 hp
  rcases valD_rl rx k with ⟨h1, _⟩ | ⟨d', v', h1, h2, h3⟩
  · rw [hz] at h1; cases h1
  · rw [hz] at h1
    cases h1
    exact ⟨a, v', rfl, by rw [← h2]; exact DGet.t (ref_up hx hp) upd_same, c _ _ _ _ q3 ((s1.trans s2).trans s3) (rel_new R2 hp) (h3.mv (s3.mv R2))⟩
def gDPutT (to : TED) (ti : TAD) (tv : TED) : TSD := fun e τ G => tv τ G (xOf e τ) fun v G1 => to τ G1 (xOf e τ) fun d G2 => ti τ G2 (xOf e τ) fun ys G3 => DkT d ys G3 fun a kvs k => Sd (k.length ≤ sizeLine ∧ kvs.length < sizeLine) (e.nx τ (gup G3 a (.dT (putD kvs k v))))
theorem psd_dputT (hu : X.A.units + 1 < cLine) (ho : PEd X W o to) (hi : PAd X W is ti) (hv : PEd X W value tv) (hs : swapsWith value (some (.Subscript o (.Tuple is n tpos) pos')) pos.line X.env = pure false) :
    PSd X W (.Assign [.Subscript o (.Tuple is n tpos) pos'] value pos) (gDPutT to ti tv) := PSi (ps_dput hu ho (pe_tup hi) hv hs) fun D σ H => by
  rintro ⟨Z, G, τ, e, S, R, h, c⟩
  refine ⟨Z, G, τ, _, _, S, R, h, fun v G1 H1 u q1 s1 R1 r1 => ?_, c.ex.x R S⟩
  refine ⟨Z, G1, τ, _, _, S.mv (s1.mv R), R1, q1, fun d G2 H2 w q2 s2 R2 r2 => ?_, (c.ex.x R S).step s1⟩
  refine ⟨Z, G2, τ, _, _, S.mv ((s1.trans s2).mv R), R2, q2, fun ys G3 H3 us q3 s3 R3 r3 => ?_, (c.ex.x R S).step (s1.trans s2)⟩
  obtain ⟨a, kvs, xs, k, rfl, rfl, he, hx, rx, q4⟩ := DkT_e R3 (r2.mv (s3.mv R2)) r3 q3
  obtain ⟨⟨hk, hl⟩, q4⟩ := Sd_e q4
  refine ⟨by rw [List.length_map]; exact hk, fun p hp => ?_⟩
  have s23 := s2.trans s3
  have s4 := step_new (u := HO.tup (k.map kV)) R3 hp
  have R4 := rel_new (u := HO.tup (k.map kV)) R3 hp
  have s24 := s23.trans s4
  obtain ⟨ys, h1, h2⟩ := putD_rl (k := k) (r1.mv (s24.mv R1)) (rx.mv (s4.mv R3))
  have hlen : ((kvs.map (·.1)).zip xs).length < sizeLine := by
    rw [List.length_zip, List.length_map]
    exact Nat.lt_of_le_of_lt (Nat.min_le_left _ _) hl
  refine ⟨a, _, rfl, DPut.t (ref_up hx hp) upd_same hlen, ?_⟩
  rw [h1]
  have s5 := step_set (u := .dT (((putD kvs k v).map (·.1)).zip ys)) (o' := .dT (putD kvs k v)) R4 he
  have s15 := (s1.trans s24).trans s5
  exact c.nx _ _ _ _ q4 s15 (rel_set R4 he ⟨ys, upd_same, h2.mv (s5.mv R4)⟩) (S.mv (s15.mv R))
end
/-! ### k in d, len(d) -/
section
variable {X : Cx} {W : WX} {o i e f value : Expr} {is : List Expr} {n : Nat} {to tk te tf tv : TED} {ti : TAD} {pos pos' tpos apos cpos : Pos}
/-- the key first, then the dict -/
def gDIn (neg : Bool) (tk to : TED) : TED := fun τ G x q => tk τ G x fun y G1 => to τ G1 x fun d G2 => DkK d y G2 fun _ kvs k => q (.bl (if neg then !(valD kvs k).isSome else (valD kvs k).isSome)) G2
theorem din_aux {K : PySem.W.Frag} {σ : L2.St} {H : Hp} {Q : VK} {neg : Bool} (w : Lf K W (gDIn neg tk to) σ H Q) : (Lf K W tk) σ H fun y H1 => (Lf K W to) σ H1 fun x H2 => ∃ a o, x = .ref a ∧ DGet H2 a y o ∧ Q (.bl (if neg then !o.isSome else o.isSome)) H2 := by
  obtain ⟨Z, G, τ, x, q, S, R, hw, c, cx⟩ := w
  refine ⟨Z, G, τ, x, _, S, R, hw, fun y G1 H1 u q1 s1 R1 r1 => ?_, cx⟩
  refine ⟨Z, G1, τ, x, _, S.mv (s1.mv R), R1, q1, fun d G2 H2 v q2 s2 R2 r2 => ?_, cx.step s1⟩
  obtain ⟨a, kvs, xs, k, rfl, rfl, _, hx, rx, q3⟩ := DkK_e R2 r2 (r1.mv (s2.mv R1)) q2
  refine ⟨a, _, rfl, DGet.k hx, ?_⟩
  have e : (valV ((kvs.map (·.1)).zip xs) k).isSome = (valD kvs k).isSome := by
    rcases valD_rl rx k with ⟨h1, h2⟩ | ⟨d', v', h1, h2, h3⟩
    · rw [h1, h2]; rfl
    · rw [h1, h2]; rfl
  rw [e]
  exact c _ _ _ _ q3 (s1.trans s2) R2 (.bl _)
theorem pd_din (hu : X.A.units + 1 < cLine) (hi : PEd X W i tk) (ho : PEd X W o to) (hm : behindInMarks .In o = false := by rfl) : PEd X W (.Compare i [.In] [o] pos) (gDIn false tk to) := PEi (pe_cmp (pc_din hu hi ho) hm) fun _ _ _ w => din_aux w
theorem pd_dnotin (hu : X.A.units + 1 < cLine) (hi : PEd X W i tk) (ho : PEd X W o to) (hm : behindInMarks .NotIn o = false := by rfl) : PEd X W (.Compare i [.NotIn] [o] pos) (gDIn true tk to) := PEi (pe_cmp (pc_dnotin hu hi ho) hm) fun _ _ _ w => din_aux w
theorem pt_din (hu : X.A.units + 1 < cLine) (hi : PEd X W i tk) (ho : PEd X W o to) (hm : behindInMarks .In o = false := by rfl) : PTd X W (.Compare i [.In] [o] pos) (gTst (gDIn false tk to)) := PTi (pt_cmp (pc_din hu hi ho) hm) fun _ _ _ w => lf_tst (fun _ _ _ z => din_aux z) w
theorem pt_dnotin (hu : X.A.units + 1 < cLine) (hi : PEd X W i tk) (ho : PEd X W o to) (hm : behindInMarks .NotIn o = false := by rfl) : PTd X W (.Compare i [.NotIn] [o] pos) (gTst (gDIn true tk to)) := PTi (pt_cmp (pc_dnotin hu hi ho) hm) fun _ _ _ w => lf_tst (fun _ _ _ z => din_aux z) w
end
end N
namespace N
open PySem PySem.Spec PyProof.Rows L2
/-! ### a text's signs are walked while an exception is handled; sorted(text) there -/
section
variable {prog : Program} {w : World} {A : Around} {E : Value → Shared → Prop} {s : Shared}
theorem ascii_end_hot {it x1 : Addr} {x : Str} {t : Tok} {i : Nat} {Q : Option Value → Shared → Prop} (hot : _root_.HotX.HotAt A x1 s.heap) (nx : x1 ≠ it) (hit : s.heap.IsStrIter it "str_ascii_iterator" x t i) (hx : x.cps[i]? = none)
    (hQ : ∀ h', (∀ b o, b ≠ it → s.heap.get? b = some o → h'.get? b = some o) → Q none { s with heap := h' }) : wpAny (model prog w) A (pyNext (.ref it)) Q E s := by
  obtain ⟨hh, o1, vs1, h1, d1, c1⟩ := hot
  obtain ⟨o, ho, hc, hd⟩ := id hit
  unfold pyNext
  refine wpAny_bind (wpAny_attempt (wpAny_callSpecial?_slot (name := Str.ofString "__next__") hit.typeIs F.slot_str_ascii_iterator_next (wpAny_call_entry F.slot_str_ascii_iterator_next hit.typeIs F.entry_str_ascii_iterator_next ?_ (F.args_str_ascii_iterator_next_1 _))))
  show wpAny _ _ (field (.ref it) 0 >>= _) _ _ s
  refine wpAny_bind (wpAny_field ho hd (x := .str x t) rfl ?_)
  show wpAny _ _ (field (.ref it) 1 >>= _) _ _ s
  refine wpAny_bind (wpAny_field ho hd (x := .int i 0) rfl ?_)
  simp only [Int.toNat_natCast, hx]
  refine wpAny_bind (wpAny_rule (wpAny_bind (wpAny_setField ho hd (by simp) (wpAny_bind (wpAny_letGo ?_)))))
  show wpAny _ _ (newExc (.type "StopIteration") [] >>= _) _ _ _
  refine wpAny_bind ?_
  simp only [newExc, newTuple]
  refine wpAny_bind (wpAny_newObj_type ?_ (by size_fits))
  refine wpAny_bind (m := firstArgMember _ _) (wpAny_of_eq (a := Value.none) (by first | rfl | (simp only [firstArgMember]; rfl)) ?_)
  refine wpAny_newObj_type ?_ (by size_fits)
  have kept : ∀ b u, b ≠ it → s.heap.get? b = some u → (s.heap.update it (Obj.mapFields (·.setIfInBounds 0 .none))).get? b = some u := fun b u ne e => by
    rw [Heap.get?_update_other _ _ (Ne.symm ne)]
    exact e
  refine _root_.HotX.raiseNew_hot ⟨hh, o1, vs1, Heap.get?_push_of_some _ (Heap.get?_push_of_some _ (kept x1 o1 nx h1)), d1, c1⟩ (Nat.ne_of_lt (Heap.lt_size (Heap.get?_push_of_some _ (kept x1 o1 nx h1)))) (Heap.get?_push_size _ rfl) rfl (by first | (simp; done) | (simp; omega)) ?_
  refine wpAny_bind (wpAny_isInstance (T := "StopIteration") (b := true) ⟨_, Heap.get?_update_self _ (Heap.get?_push_size _ rfl) rfl, rfl⟩ isSubtype_stop ?_)
  refine wpAny_pure (hQ _ fun b u ne e => ?_)
  rw [Heap.get?_update_other _ _ (Nat.ne_of_gt (Heap.lt_size (Heap.get?_push_of_some _ (kept b u ne e))))]
  exact Heap.get?_push_of_some _ (Heap.get?_push_of_some _ (kept b u ne e))
theorem wide_end_hot {it x1 : Addr} {x : Str} {t : Tok} {i : Nat} {Q : Option Value → Shared → Prop} (hot : _root_.HotX.HotAt A x1 s.heap) (nx : x1 ≠ it) (hit : s.heap.IsStrIter it "str_iterator" x t i) (hx : x.cps[i]? = none)
    (hQ : ∀ h', (∀ b o, b ≠ it → s.heap.get? b = some o → h'.get? b = some o) → Q none { s with heap := h' }) : wpAny (model prog w) A (pyNext (.ref it)) Q E s := by
  obtain ⟨hh, o1, vs1, h1, d1, c1⟩ := hot
  obtain ⟨o, ho, hc, hd⟩ := id hit
  unfold pyNext
  refine wpAny_bind (wpAny_attempt (wpAny_callSpecial?_slot (name := Str.ofString "__next__") hit.typeIs F.slot_str_iterator_next (wpAny_call_entry F.slot_str_iterator_next hit.typeIs F.entry_str_iterator_next ?_ (F.args_str_iterator_next_1 _))))
  show wpAny _ _ (field (.ref it) 0 >>= _) _ _ s
  refine wpAny_bind (wpAny_field ho hd (x := .str x t) rfl ?_)
  show wpAny _ _ (field (.ref it) 1 >>= _) _ _ s
  refine wpAny_bind (wpAny_field ho hd (x := .int i 0) rfl ?_)
  simp only [Int.toNat_natCast, hx]
  refine wpAny_bind (wpAny_rule (wpAny_bind (wpAny_setField ho hd (by simp) (wpAny_bind (wpAny_letGo ?_)))))
  show wpAny _ _ (newExc (.type "StopIteration") [] >>= _) _ _ _
  refine wpAny_bind ?_
  simp only [newExc, newTuple]
  refine wpAny_bind (wpAny_newObj_type ?_ (by size_fits))
  refine wpAny_bind (m := firstArgMember _ _) (wpAny_of_eq (a := Value.none) (by first | rfl | (simp only [firstArgMember]; rfl)) ?_)
  refine wpAny_newObj_type ?_ (by size_fits)
  have kept : ∀ b u, b ≠ it → s.heap.get? b = some u → (s.heap.update it (Obj.mapFields (·.setIfInBounds 0 .none))).get? b = some u := fun b u ne e => by
    rw [Heap.get?_update_other _ _ (Ne.symm ne)]
    exact e
  refine _root_.HotX.raiseNew_hot ⟨hh, o1, vs1, Heap.get?_push_of_some _ (Heap.get?_push_of_some _ (kept x1 o1 nx h1)), d1, c1⟩ (Nat.ne_of_lt (Heap.lt_size (Heap.get?_push_of_some _ (kept x1 o1 nx h1)))) (Heap.get?_push_size _ rfl) rfl (by first | (simp; done) | (simp; omega)) ?_
  refine wpAny_bind (wpAny_isInstance (T := "StopIteration") (b := true) ⟨_, Heap.get?_update_self _ (Heap.get?_push_size _ rfl) rfl, rfl⟩ isSubtype_stop ?_)
  refine wpAny_pure (hQ _ fun b u ne e => ?_)
  rw [Heap.get?_update_other _ _ (Nat.ne_of_gt (Heap.lt_size (Heap.get?_push_of_some _ (kept b u ne e))))]
  exact Heap.get?_push_of_some _ (Heap.get?_push_of_some _ (kept b u ne e))
end
/-- the walk of a text's iterator, the exception that is handled standing beside it -/
theorem walk_str_hot {prog : Program} {w : World} {A : Around} {x1 : Addr} {o1 : Obj} {vs1 : Array Value} (hh : A.handled = some (.ref x1)) (d1 : o1.data = .fields vs1) (c1 : vs1[2]? = some .none) {I : Addr} (ne : x1 ≠ I) (x : Str) (t : Tok) {ty : String} (hty : ty = "str_ascii_iterator" ∨ ty = "str_iterator") :
    WalksS prog w A I [I, x1] [I] (fun a b => b = a) x.cps.size (SignAt x) (fun i s => s.heap.IsStrIter I ty x t i ∧ s.heap.get? x1 = some o1) where
  sub := fun b hb => by simp at hb; simp [hb]
  grefl := fun _ => rfl
  gtrans := fun _ _ _ h1 h2 => h2.trans h1
  frame := fun i s h' tk st _ hk => ⟨let ⟨o, ho, r⟩ := st.1; ⟨o, hk I (by simp) o ho, r⟩, hk x1 (by simp) o1 st.2⟩
  item := fun i s Q E hi st hQ => by
    rcases hty with rfl | rfl
    · refine wpAny_pyNext_ascii_item st.1 (c := x.cps[i]) (by simp [hi]) fun h' hit' hs' => ?_
      exact hQ _ _ ⟨_, _, by simp [hi], rfl⟩ ⟨hit', hs'.extBut x1 o1 ne st.2⟩ ⟨fun b o hb e => hs'.extBut b o (fun h => hb (by simp [h])) e, rfl, rfl, rfl, Nat.le_succ _⟩
    · refine wpAny_pyNext_wide_item st.1 (c := x.cps[i]) (by simp [hi]) fun h' hit' hs' => ?_
      exact hQ _ _ ⟨_, _, by simp [hi], rfl⟩ ⟨hit', hs'.extBut x1 o1 ne st.2⟩ ⟨fun b o hb e => hs'.extBut b o (fun h => hb (by simp [h])) e, rfl, rfl, rfl, Nat.le_succ _⟩
  done := fun s Q E st hQ => by
    have hot : _root_.HotX.HotAt A x1 s.heap := ⟨hh, o1, vs1, st.2, d1, c1⟩
    rcases hty with rfl | rfl
    · exact ascii_end_hot hot ne st.1 (by simp) fun h' he => hQ _ ⟨fun b o hb e => he b o (fun h => hb (by simp [h])) e, rfl, rfl, rfl, Nat.le_refl _⟩
    · exact wide_end_hot hot ne st.1 (by simp) fun h' he => hQ _ ⟨fun b o hb e => he b o (fun h => hb (by simp [h])) e, rfl, rfl, rfl, Nat.le_refl _⟩
  self := fun i s Q E st hQ => by
    rcases hty with rfl | rfl
    · exact wpAny_pyIter_striter_ascii st.1 hQ
    · exact wpAny_pyIter_striter_wide st.1 hQ
theorem iter_str_any {prog : Program} {w : World} {A : Around} {E : Value → Shared → Prop} {s : Shared} {x : Str} {t : Tok} {Q : Value → Shared → Prop}
    (hQ : ∀ (o : Obj) (ty : String), (ty = "str_ascii_iterator" ∨ ty = "str_iterator") → (s.heap.push o).IsStrIter s.heap.objs.size ty x t 0 → Q (.ref s.heap.objs.size) { s with heap := s.heap.push o }) : wpAny (model prog w) A (pyIter (.str x t)) Q E s := by
  cases ha : x.cps.all (· < 128)
  · exact wpAny_pyIter_wide ha (hQ _ "str_iterator" (.inr rfl) ⟨_, Heap.get?_push_size _ rfl, rfl, rfl⟩)
  · exact wpAny_pyIter_ascii ha (hQ _ "str_ascii_iterator" (.inl rfl) ⟨_, Heap.get?_push_size _ rfl, rfl, rfl⟩)
theorem collect_str_hot {prog : Program} {w : World} {A : Around} {E : Value → Shared → Prop} {s : Shared} {x1 : Addr} {Q : List Value → Shared → Prop} (hot : _root_.HotX.HotAt A x1 s.heap) (x : Str) (t : Tok)
    (hQ : ∀ s' acc, (∀ b o, s.heap.get? b = some o → s'.heap.get? b = some o) → s'.gens = s.gens → s'.drawn = s.drawn → s'.os = s.os → ItemsOf (SignAt x) acc x.cps.size → Q acc.toList s') (hn : x.cps.size ≤ sizeLine) :
    wpAny (model prog w) A (collect (.str x t)) Q E s := by
  obtain ⟨hh, o1, vs1, h1, d1, c1⟩ := hot
  unfold collect
  refine wpAny_bind (wpAny_runValue (codeAny_builtin F.entry_proto_collect ?_))
  rw [Around.under_plainId F.plain_proto_collect _]
  show wpAny _ A.in1 (newList [] >>= fun l => again (.builtin "list.__iadd__" ⟨[l, .str x t], []⟩)) _ _ s
  refine wpAny_bind (wpAny_newObj_type ?_)
  refine wpAny_pure ⟨plainId_quiet F.plain_list_iadd _, codeAny_builtin F.entry_list_iadd ?_⟩
  rw [Around.under_plainId F.plain_list_iadd _]
  show wpAny _ A.in1 (Builtin.List.listExtendWith (.ref s.heap.objs.size) (.str x t) (.ref s.heap.objs.size)) _ _ _
  unfold Builtin.List.listExtendWith
  refine wpAny_bind (wpAny_typeOf (T := "str") (v := .str x t) rfl ?_)
  have e1 : Builtin.List.listSameRef (.ref s.heap.objs.size) (.str x t) = false := rfl
  have e2 : (Value.type "str" == Value.type "list") = false := by decide
  have e3 : (Value.type "str" == Value.type "tuple") = false := by decide
  simp only [e1, e2, e3, Bool.or_false, Bool.false_eq_true, if_false]
  refine wpAny_bind (iter_str_any fun o ty hty hst => ?_)
  refine wpAny_bind (wpAny_holding ?_)
  unfold Builtin.List.listLengthHint
  refine wpAny_bind (wpAny_specialOf (T := "str") (v := .str x t) rfl F.str_len ?_)
  wp_delta
  refine wpAny_bind (wpAny_isInstance (T := "str") (v := .str x t) (b := true) rfl (by rw [isSubtype_type]; kernel_rfl) ?_)
  show wpAny _ A.in1 (typeOf (Value.str x t) >>= _) _ _ _
  refine wpAny_bind (wpAny_typeOf (T := "str") (v := .str x t) rfl ?_)
  refine wpAny_pure ?_
  rw [if_neg (by decide)]
  generalize hH : s.heap.push { cls := .type "list", data := .seq ([] : List Value).toArray } = H at hst ⊢
  have hHs : H.objs.size = s.heap.objs.size + 1 := by rw [← hH, Heap.size_push]
  have l1 := Heap.lt_size h1
  have hSf : s.heap.objs.size ∉ [H.objs.size, x1] := fun hm => by
    rcases List.mem_cons.mp hm with z | z
    · omega
    · rw [List.mem_singleton.mp z] at l1; exact Nat.lt_irrefl _ l1
  have hS : (H.push o).get? s.heap.objs.size = some { cls := .type "list", data := .seq ([] : List Value).toArray } := Heap.get?_push_of_some _ (hH ▸ Heap.get?_push_size _ rfl)
  have hx1 : (H.push o).get? x1 = some o1 := Heap.get?_push_of_some _ (hH ▸ Heap.get?_push_of_some _ h1)
  have W := walk_str_hot (prog := prog) (w := w) (A := A.in1) (I := H.objs.size) hh d1 c1 (fun z => by rw [z, hHs] at l1; exact absurd l1 (Nat.not_lt.mpr (Nat.le_succ _))) x t hty
  refine wpAny_pure ⟨plainId_quiet F.plain_extend_loop _, codeAny_extend_loopS W hn _ hSf _ x.cps.size 0 _ _ _ rfl (Nat.zero_le _) ⟨hst, hx1⟩ hS (ItemsOf.nil _) fun s' acc' c' hm hS' hacc => ?_⟩
  show wpAny _ A (load s.heap.objs.size >>= _) _ _ s'
  refine wpAny_bind (wpAny_load hS' ?_)
  refine wpAny_pure (hQ s' acc' (fun b ob e => hm.heap b ob (fun hb => ?_) (Heap.get?_push_of_some _ (hH ▸ Heap.get?_push_of_some _ e))) hm.gens hm.drawn hm.os hacc)
  have hlt := Heap.lt_size e
  rcases List.mem_cons.mp hb with h | h
  · exact absurd hlt (h ▸ Nat.lt_irrefl _)
  · rw [List.mem_singleton.mp h, hHs] at hlt; exact absurd hlt (Nat.not_lt.mpr (Nat.le_succ _))
theorem cr_sortTxH {X : Cx} {a dd C : Addr} (hx : HotX X a dd C) (hu : X.A.units + 64 < cLine) : CallR X (.builtin "sorted") rSortTx := by
  intro pins s σ H vs us Q I r h
  obtain ⟨z, rfl, hz, q⟩ := h
  obtain ⟨u, rfl, t, rfl⟩ := vals1 r
  obtain ⟨oe, hm, hh, _, ve, v1, v2⟩ := hx
  have hot : _root_.HotX.HotAt X.A.in1 a s.heap := ⟨hh, oe, ve, (I.pin _ (List.mem_append_left _ hm)).1, v1, v2⟩
  refine Calls.call_function_entry kind_sorted plain_sorted entry_sorted (args_sorted1 _) ?_
  unfold Builtin.«sorted»
  refine wpAny_bind (m := checkCount "sorted" 1 1 _) (wpAny_pure ?_)
  refine wpAny_bind (collect_str_hot hot z t (fun s' acc hk hg hd ho hi => ?_) hz)
  have hal : acc.toList.length = z.length := by rw [Array.length_toList]; exact hi.1
  refine wpAny_bind (wpAny_newList ?_ (by rw [hal]; exact hz))
  have hoL : (s'.heap.push (seqObj "list" acc.toList.toArray 0)).get? s'.heap.objs.size = some (seqObj "list" acc.toList.toArray 0) := Heap.get?_push_size _ rfl
  show wpAny _ _ _ _ _ { s' with heap := s'.heap.push (seqObj "list" acc.toList.toArray 0) }
  have rv : Vals (z.cps.toList.map fun c => V.str ⟨#[c]⟩) acc.toList := signs_vals hi
  have e := each_of rv
  refine wpAny_bind (wpAny_holding (PySem.W.list_sort_data (enc := fun c : Nat => PyData.str ⟨#[c]⟩) hoL e (each_mono e fun v b _ h => ?_) (PySem.W.AllAlike.of fun _ _ => rfl) (PySem.W.Sortable.others fun b => ⟨(fun h => nomatch h), (fun _ h => nomatch h)⟩) ?_ (fun b _ => ?_) fun out ho' eo => ?_))
  · obtain ⟨t, rfl⟩ : ∃ t, v = .str ⟨#[b]⟩ t := h
    exact ⟨[], .str _ _, by simp⟩
  · rw [Array.length_toList]; exact hz
  · show X.A.in1.units + 1 + 0 < cLine
    have : X.A.in1.units = X.A.units + 1 := rfl
    omega
  · have es : s' = { s with heap := s'.heap, toks := s'.toks } := by
      cases s
      cases s'
      cases hg
      cases hd
      cases ho
      rfl
    have I1 : L2.Inv X pins σ H s' := by
      rw [es]
      exact I.kept hk
    obtain ⟨e', he'⟩ := PyProof.Rows.sortedHeap_at (vs := acc.toList) (out := out.toArray) hoL
    have hlen : ((z.cps.toList.mergeSort fun a b => decide (a ≤ b)).map fun c => V.str ⟨#[c]⟩).length ≤ sizeLine := by
      rw [List.length_map, List.length_mergeSort, Array.length_toList]
      exact hz
    rw [dataLe_sg] at eo
    refine wpAny_pure ⟨_, rfl, .ref s'.heap.objs.size, upd H s'.heap.objs.size (.lst ((z.cps.toList.mergeSort fun a b => decide (a ≤ b)).map fun c => V.str ⟨#[c]⟩)), I1.laid (t' := s'.toks) (fun b u e => ?_) (Nat.le_refl _)
      (show ObjOk X.prog X.w _ _ _ (.lst ((z.cps.toList.mergeSort fun a b => decide (a ≤ b)).map fun c => V.str ⟨#[c]⟩)) from ⟨hlen, out, e', vals_each eo, he'⟩), rfl, q _ (I1.hok.fresh (Nat.le_refl _))⟩
    have hb : b < s'.heap.objs.size := Heap.lt_size e
    rw [PyProof.Rows.sortedHeap_old (Nat.ne_of_lt hb) (by rw [size_push']; exact Nat.lt_succ_of_lt hb)]
    exact Heap.get?_push_of_some _ e
theorem call_sortAH {X : Cx} {a dd C : Addr} (hx : HotX X a dd C) (hu : X.A.units + 64 < cLine) : CallR X (.builtin "sorted") (rSortA X.K) := callR_or (cr_sortD hu) (cr_sortTxH hx hu)
end N
namespace N
open PySem PySem.Spec PyProof.Rows L2
/-! ### enumerate(zip(text, text)) -/
/-- a zip, whatever became of the tuple that it handed out -/
abbrev IsZG (h : Heap) (z TI TO : Addr) (f0 : Value) (b : Bool) : Prop := h.get? z = some { cls := .type "zip", dict := none, data := .fields #[f0, .bool b, .bool false, .ref TI, .ref TO], slots := #[] }
def ZF (f0 : Value) : Prop := f0 = .none ∨ ∃ T : Addr, f0 = rawInt T
section
variable {prog : Program} {w : World} {A : Around} {E : Value → Shared → Prop} {s : Shared} {z TI TO i1 i2 e it : Addr} {fp1 fp2 : List Addr} {n1 n2 i : Nat} {P1 P2 : Nat → Value → Prop} {St1 St2 : Nat → Heap → Prop} {f0 : Value} {b : Bool}
theorem alive_any {a : Addr} {Q : Option Obj → Shared → Prop} (h : Q (s.heap.get? a) s) : wpAny (model prog w) A (loadIfAlive a) Q E s := fun _ _ _ => h
theorem zg_free {Q : Bool → Shared → Prop} (hz : IsZG s.heap z TI TO f0 b) (hf : ZF f0) (h1 : Q true s) (h2 : ∀ h', IsZG h' z TI TO f0 true → Heap.SameBut z s.heap h' → Q false { s with heap := h' }) :
    wpAny (model prog w) A (Builtin.SmallTypes.ownedTupleIsFree (.ref z)) Q E s := by
  unfold Builtin.SmallTypes.ownedTupleIsFree
  rcases hf with rfl | ⟨T, rfl⟩
  · exact wpAny_bind (wpAny_field hz rfl (x := .none) rfl (wpAny_pure h1))
  · refine wpAny_bind (wpAny_field hz rfl (x := rawInt T) rfl ?_)
    show wpAny _ _ (loadIfAlive ((T : Int).toNat) >>= _) _ _ _
    rw [Int.toNat_natCast]
    refine wpAny_bind (alive_any ?_)
    cases s.heap.get? T with
    | none => exact wpAny_pure h1
    | some o =>
      simp only [Option.isNone_some, Bool.false_eq_true, if_false]
      refine wpAny_bind (wpAny_field hz rfl (x := .bool b) rfl ?_)
      cases b with
      | true =>
        rw [if_neg (show ¬ ((Value.bool true != Value.bool true) = true) from Bool.false_ne_true)]
        exact wpAny_pure (h2 s.heap hz (Heap.SameBut.refl _ _))
      | false =>
        rw [if_pos (show (Value.bool false != Value.bool true) = true from rfl)]
        exact wpAny_bind (wpAny_setField_rec hz (by simp) fun h₁ hz₁ hs₁ => wpAny_pure (h2 h₁ hz₁ hs₁))
theorem zg_item {Q : Value → Shared → Prop} (S : ZipSep2 z TI TO i1 i2 fp1 fp2) (D1 : Draws prog w A i1 fp1 n1 P1 St1) (D2 : Draws prog w A i2 fp2 n2 P2 St2)
    (hz : IsZG s.heap z TI TO f0 b) (hf : ZF f0) (hTI : IsTupOf2 s.heap TI (.ref i1) (.ref i2)) (hTO : ∃ a1 a2, IsTupOf2 s.heap TO a1 a2) (st1 : St1 i s.heap) (st2 : St2 i s.heap) (hlt1 : i < n1) (hlt2 : i < n2)
    (hQ : ∀ x1 x2 h' tk f b', ZF f → P1 i x1 → P2 i x2 → IsZG h' z TI TO f b' → (∃ a1 a2, IsTupOf2 h' TO a1 a2) → St1 (i + 1) h' → St2 (i + 1) h' → IsTupOf2 h' s.heap.objs.size x1 x2 → h'.objs.size = s.heap.objs.size + 1 →
      (∀ c o, c ≠ z → c ≠ TO → c ≠ i1 → c ≠ i2 → s.heap.get? c = some o → h'.get? c = some o) → Q (.ref s.heap.objs.size) { s with heap := h', toks := tk }) :
    wpAny (model prog w) A (Builtin.«zip.__next__» ⟨[.ref z], []⟩) (fun fin s' => ∃ v, fin = .done (.ret v) ∧ Q v s') E s := by
  obtain ⟨hp, g, d, tk0, os⟩ := s
  obtain ⟨a1, a2, hTO⟩ := hTO
  show wpAny _ _ (field (.ref z) 2 >>= _) _ _ _
  refine wpAny_bind (wpAny_field hz rfl (x := .bool false) rfl ?_)
  show wpAny _ _ (field (.ref z) 3 >>= _) _ _ _
  refine wpAny_bind (wpAny_field hz rfl (x := .ref TI) rfl ?_)
  refine wpAny_bind (wpAny_seqItems hTI rfl ?_)
  show wpAny _ _ (Builtin.SmallTypes.ownedTupleIsFree (.ref z) >>= _) _ _ _
  refine wpAny_bind (zg_free hz hf ?_ fun g0 hz0 hs0 => ?_)
  · simp only [if_true]
    refine wpAny_bind (wpAny_rule ?_)
    refine wpAny_bind (wpAny_field hz rfl (x := .ref TO) rfl ?_)
    refine wpAny_bind (wpAny_setField_rec hz (by simp) fun g0 hz0 hs0 => ?_)
    replace hz0 : IsZG g0 z TI TO .ellipsis b := hz0
    replace hs0 : Heap.SameBut z hp g0 := hs0
    refine wpAny_bind ?_
    simp only [List.zipIdx_cons, List.zipIdx_nil, List.forIn_cons, List.forIn_nil]
    refine wpAny_bind (wpAny_bind (wpAny_onRaise ?_))
    show wpAny _ _ (Builtin.SmallTypes.nextOf (.ref i1) >>= _) _ _ ⟨g0, g, d, tk0, os⟩
    refine wpAny_bind (D1.item i _ _ _ hlt1 (D1.over st1 hs0 S.zf1) fun x1 p1 tk1 hx1 sn1 hp1 => wpAny_pure ?_)
    replace hp1 : Heap.SameBut i1 g0 p1 := hp1
    have hU1 : IsTupOf2 p1 TO a1 a2 := hp1.extBut _ _ S.Ti1 (hs0.extBut _ _ S.TOz hTO)
    refine wpAny_bind (wpAny_seqItems (s := ⟨p1, g, d, tk1, os⟩) hU1 rfl ?_)
    refine wpAny_bind (updateSeq_IsTupOf2 (s := ⟨p1, g, d, tk1, os⟩) hU1 fun g1 hT1 hs1 => ?_)
    replace hT1 : IsTupOf2 g1 TO x1 a2 := hT1
    replace hs1 : Heap.SameBut TO p1 g1 := hs1
    refine wpAny_bind (wpAny_letGo (wpAny_pure ?_))
    refine wpAny_bind (wpAny_bind (wpAny_onRaise ?_))
    show wpAny _ _ (Builtin.SmallTypes.nextOf (.ref i2) >>= _) _ _ ⟨g1, g, d, tk1, os⟩
    refine wpAny_bind (D2.item i _ _ _ hlt2 (D2.over (D2.over (D2.over st2 hs0 S.zf2) hp1 S.sep1_2) hs1 S.Tf2) fun x2 p2 tk2 hx2 sn2 hp2 => wpAny_pure ?_)
    replace hp2 : Heap.SameBut i2 g1 p2 := hp2
    have hU2 : IsTupOf2 p2 TO x1 a2 := hp2.extBut _ _ S.Ti2 hT1
    refine wpAny_bind (wpAny_seqItems (s := ⟨p2, g, d, tk2, os⟩) hU2 rfl ?_)
    refine wpAny_bind (updateSeq_IsTupOf2 (s := ⟨p2, g, d, tk2, os⟩) hU2 fun g2 hT2 hs2 => ?_)
    replace hT2 : IsTupOf2 g2 TO x1 x2 := hT2
    replace hs2 : Heap.SameBut TO p2 g2 := hs2
    refine wpAny_bind (wpAny_letGo (wpAny_pure (wpAny_pure ?_)))
    refine wpAny_bind (wpAny_seqItems (s := ⟨g2, g, d, tk2, os⟩) hT2 rfl ?_)
    refine wpAny_bind (wpAny_newTuple ?_)
    have hsz : g2.objs.size = hp.objs.size := by rw [hs2.1, hp2.1, hs1.1, hp1.1, hs0.1]
    have hzz : IsZG g2 z TI TO .ellipsis b := (hs2.extBut _ _ S.TOz.symm (hp2.extBut _ _ S.zi2 (hs1.extBut _ _ S.TOz.symm (hp1.extBut _ _ S.zi1 hz0))))
    have hkk : ∀ c o, c ≠ z → c ≠ TO → c ≠ i1 → c ≠ i2 → hp.get? c = some o → g2.get? c = some o := fun c o cz cT c1 c2 e =>
      (hs2.extBut _ _ cT (hp2.extBut _ _ c2 (hs1.extBut _ _ cT (hp1.extBut _ _ c1 (hs0.extBut _ _ cz e)))))
    have hj1 : St1 (i + 1) g2 := (D1.over (D1.over (D1.over sn1 hs1 S.Tf1) hp2 S.sep2_1) hs2 S.Tf1)
    have hj2 : St2 (i + 1) g2 := (D2.over sn2 hs2 S.Tf2)
    have hzlt : z < g2.objs.size := Heap.lt_size hzz
    show wpAny _ _ (Builtin.SmallTypes.ownedTupleHandOut (.ref z) (.ref g2.objs.size) >>= _) _ _ ⟨g2.push { cls := .type "tuple", data := .seq #[x1, x2] }, g, d, tk2, os⟩
    refine wpAny_bind ?_
    unfold Builtin.SmallTypes.ownedTupleHandOut
    have hz6 : IsZG (g2.push { cls := .type "tuple", data := .seq #[x1, x2] }) z TI TO .ellipsis b := Heap.get?_push_of_some _ hzz
    refine wpAny_bind (wpAny_setField_rec hz6 (by simp) fun h7 hz7 hs7 => ?_)
    replace hz7 : IsZG h7 z TI TO (rawInt g2.objs.size) b := hz7
    refine wpAny_setField_rec hz7 (by simp) fun h8 hz8 hs8 => ?_
    replace hz8 : IsZG h8 z TI TO (rawInt g2.objs.size) false := hz8
    replace hs7 : Heap.SameBut z (g2.push { cls := .type "tuple", data := .seq #[x1, x2] }) h7 := hs7
    replace hs8 : Heap.SameBut z h7 h8 := hs8
    have up : ∀ c o, c ≠ z → g2.get? c = some o → h8.get? c = some o := fun c o c1 e => hs8.extBut _ _ c1 (hs7.extBut _ _ c1 (Heap.get?_push_of_some _ e))
    have hT8 : IsTupOf2 h8 g2.objs.size x1 x2 := hs8.extBut _ _ (Nat.ne_of_gt hzlt) (hs7.extBut _ _ (Nat.ne_of_gt hzlt) (Heap.get?_push_size _ rfl))
    have e8 : h8.objs.size = g2.objs.size + 1 := by rw [hs8.1, hs7.1, Heap.size_push]
    rw [hsz] at hz8 hT8 e8
    refine wpAny_pure ⟨_, rfl, ?_⟩
    show Q (.ref g2.objs.size) ⟨h8, g, d, tk2, os⟩
    rw [hsz]
    exact hQ x1 x2 h8 tk2 _ _ (.inr ⟨_, rfl⟩) hx1 hx2 hz8 ⟨_, _, up _ _ S.TOz hT2⟩ (D1.frame _ _ _ hj1 fun b hb o e => up b o (fun q => S.zf1 (q ▸ hb)) e) (D2.frame _ _ _ hj2 fun b hb o e => up b o (fun q => S.zf2 (q ▸ hb)) e) hT8 e8 fun c o cz cT c1 c2 e => up c o cz (hkk c o cz cT c1 c2 e)
  · replace hs0 : Heap.SameBut z hp g0 := hs0
    simp only [Bool.false_eq_true, if_false]
    refine wpAny_bind ?_
    rw [← Array.forIn_toList]
    simp only [List.forIn_cons, List.forIn_nil]
    refine wpAny_bind (wpAny_bind (wpAny_holding ?_))
    show wpAny _ _ (Builtin.SmallTypes.nextOf (.ref i1) >>= _) _ _ ⟨g0, g, d, tk0, os⟩
    refine wpAny_bind (D1.item i _ _ _ hlt1 (D1.over st1 hs0 S.zf1) fun x1 p1 tk1 hx1 sn1 hp1 => wpAny_pure ?_)
    replace hp1 : Heap.SameBut i1 g0 p1 := hp1
    refine wpAny_pure ?_
    refine wpAny_bind (wpAny_bind (wpAny_holding ?_))
    show wpAny _ _ (Builtin.SmallTypes.nextOf (.ref i2) >>= _) _ _ ⟨p1, g, d, tk1, os⟩
    refine wpAny_bind (D2.item i _ _ _ hlt2 (D2.over (D2.over st2 hs0 S.zf2) hp1 S.sep1_2) fun x2 p2 tk2 hx2 sn2 hp2 => wpAny_pure ?_)
    replace hp2 : Heap.SameBut i2 p1 p2 := hp2
    refine wpAny_pure (wpAny_pure ?_)
    show wpAny _ _ (newTuple [x1, x2] >>= _) _ _ ⟨p2, g, d, tk2, os⟩
    refine wpAny_bind (wpAny_newTuple ?_)
    have hsz : p2.objs.size = hp.objs.size := by rw [hp2.1, hp1.1, hs0.1]
    have hzz : IsZG p2 z TI TO f0 true := hp2.extBut _ _ S.zi2 (hp1.extBut _ _ S.zi1 hz0)
    have hTOp : IsTupOf2 p2 TO a1 a2 := hp2.extBut _ _ S.Ti2 (hp1.extBut _ _ S.Ti1 (hs0.extBut _ _ S.TOz hTO))
    have hj1 : St1 (i + 1) p2 := D1.over sn1 hp2 S.sep2_1
    refine wpAny_pure ⟨_, rfl, ?_⟩
    show Q (.ref p2.objs.size) ⟨p2.push { cls := .type "tuple", data := .seq #[x1, x2] }, g, d, tk2, os⟩
    have hT : IsTupOf2 (p2.push { cls := .type "tuple", data := .seq #[x1, x2] }) p2.objs.size x1 x2 := Heap.get?_push_size _ rfl
    have e8 : (p2.push { cls := .type "tuple", data := .seq #[x1, x2] }).objs.size = p2.objs.size + 1 := Heap.size_push ..
    rw [hsz] at hT e8 ⊢
    exact hQ x1 x2 _ tk2 _ _ hf hx1 hx2 (Heap.get?_push_of_some _ hzz) ⟨_, _, Heap.get?_push_of_some _ hTOp⟩ (D1.frame _ _ _ hj1 fun b hb o e => Heap.get?_push_of_some _ e) (D2.frame _ _ _ sn2 fun b hb o e => Heap.get?_push_of_some _ e) hT e8
      fun c o cz cT c1 c2 e => Heap.get?_push_of_some _ (hp2.extBut _ _ c2 (hp1.extBut _ _ c1 (hs0.extBut _ _ cz e)))
theorem zg_end {Q : Fin → Shared → Prop} (S : ZipSep2 z TI TO i1 i2 fp1 fp2) (D1 : Draws prog w A i1 fp1 n1 P1 St1) (D2 : Draws prog w A i2 fp2 n2 P2 St2)
    (hz : IsZG s.heap z TI TO f0 b) (hf : ZF f0) (hTI : IsTupOf2 s.heap TI (.ref i1) (.ref i2)) (hTO : ∃ a1 a2, IsTupOf2 s.heap TO a1 a2) (st1 : St1 i s.heap) (st2 : St2 i s.heap) (hle1 : i ≤ n1) (hle2 : i ≤ n2) (hend : i = n1 ∨ i = n2)
    (hE : ∀ h' tk e, (∀ c o, c ≠ z → c ≠ TO → c ≠ i1 → c ≠ i2 → s.heap.get? c = some o → h'.get? c = some o) → (∃ o, h'.get? e = some o ∧ o.cls = .type "StopIteration") → E (.ref e) { s with heap := h', toks := tk }) :
    wpAny (model prog w) A (Builtin.«zip.__next__» ⟨[.ref z], []⟩) Q E s := by
  obtain ⟨hp, g, d, tk0, os⟩ := s
  obtain ⟨a1, a2, hTO⟩ := hTO
  show wpAny _ _ (field (.ref z) 2 >>= _) _ _ _
  refine wpAny_bind (wpAny_field hz rfl (x := .bool false) rfl ?_)
  show wpAny _ _ (field (.ref z) 3 >>= _) _ _ _
  refine wpAny_bind (wpAny_field hz rfl (x := .ref TI) rfl ?_)
  refine wpAny_bind (wpAny_seqItems hTI rfl ?_)
  show wpAny _ _ (Builtin.SmallTypes.ownedTupleIsFree (.ref z) >>= _) _ _ _
  refine wpAny_bind (zg_free hz hf ?_ fun g0 hz0 hs0 => ?_)
  · simp only [if_true]
    refine wpAny_bind (wpAny_rule ?_)
    refine wpAny_bind (wpAny_field hz rfl (x := .ref TO) rfl ?_)
    refine wpAny_bind (wpAny_setField_rec hz (by simp) fun g0 hz0 hs0 => ?_)
    replace hz0 : IsZG g0 z TI TO .ellipsis b := hz0
    replace hs0 : Heap.SameBut z hp g0 := hs0
    refine wpAny_bind ?_
    simp only [List.zipIdx_cons, List.zipIdx_nil, List.forIn_cons, List.forIn_nil]
    refine wpAny_bind (wpAny_bind (wpAny_onRaise ?_))
    show wpAny _ _ (Builtin.SmallTypes.nextOf (.ref i1) >>= _) _ _ ⟨g0, g, d, tk0, os⟩
    by_cases hlt1 : i < n1
    · refine wpAny_bind (D1.item i _ _ _ hlt1 (D1.over st1 hs0 S.zf1) fun x1 p1 tk1 hx1 sn1 hp1 => wpAny_pure ?_)
      replace hp1 : Heap.SameBut i1 g0 p1 := hp1
      have hU1 : IsTupOf2 p1 TO a1 a2 := hp1.extBut _ _ S.Ti1 (hs0.extBut _ _ S.TOz hTO)
      refine wpAny_bind (wpAny_seqItems (s := ⟨p1, g, d, tk1, os⟩) hU1 rfl ?_)
      refine wpAny_bind (updateSeq_IsTupOf2 (s := ⟨p1, g, d, tk1, os⟩) hU1 fun g1 hT1 hs1 => ?_)
      replace hs1 : Heap.SameBut TO p1 g1 := hs1
      refine wpAny_bind (wpAny_letGo (wpAny_pure ?_))
      have hi2 : i = n2 := by omega
      refine wpAny_bind (wpAny_bind (wpAny_onRaise ?_))
      show wpAny _ _ (Builtin.SmallTypes.nextOf (.ref i2) >>= _) _ _ ⟨g1, g, d, tk1, os⟩
      refine wpAny_bind (D2.done ⟨g1, g, d, tk1, os⟩ _ _ (by rw [← hi2]; exact (D2.over (D2.over (D2.over st2 hs0 S.zf2) hp1 S.sep1_2) hs1 S.Tf2)) fun q e hq he => ?_)
      replace hq : Heap.ExtBut i2 g1 q := hq
      obtain ⟨oe, hoe, hce⟩ := he
      replace hoe : q.get? e = some oe := hoe
      have hzq : IsZG q z TI TO .ellipsis b := hq _ _ S.zi2 (hs1.extBut _ _ S.TOz.symm (hp1.extBut _ _ S.zi1 hz0))
      have hez : e ≠ z := fun x => by subst x; rw [hzq] at hoe; cases hoe; simp at hce
      refine wpAny_setField_rec (s := ⟨q, g, d, tk1, os⟩) hzq (by simp) fun q' _ hq' => ?_
      replace hq' : Heap.SameBut z q q' := hq'
      exact hE q' tk1 e (fun c o cz cT c1 c2 x => hq'.extBut _ _ cz (hq _ _ c2 (hs1.extBut _ _ cT (hp1.extBut _ _ c1 (hs0.extBut _ _ cz x))))) ⟨oe, hq'.extBut _ _ hez hoe, hce⟩
    · have hi1 : i = n1 := by omega
      refine wpAny_bind (D1.done ⟨g0, g, d, tk0, os⟩ _ _ (by rw [← hi1]; exact (D1.over st1 hs0 S.zf1)) fun q e hq he => ?_)
      replace hq : Heap.ExtBut i1 g0 q := hq
      obtain ⟨oe, hoe, hce⟩ := he
      replace hoe : q.get? e = some oe := hoe
      have hzq : IsZG q z TI TO .ellipsis b := hq _ _ S.zi1 hz0
      have hez : e ≠ z := fun x => by subst x; rw [hzq] at hoe; cases hoe; simp at hce
      refine wpAny_setField_rec (s := ⟨q, g, d, tk0, os⟩) hzq (by simp) fun q' _ hq' => ?_
      replace hq' : Heap.SameBut z q q' := hq'
      exact hE q' tk0 e (fun c o cz cT c1 c2 x => hq'.extBut _ _ cz (hq _ _ c1 (hs0.extBut _ _ cz x))) ⟨oe, hq'.extBut _ _ hez hoe, hce⟩
  · replace hs0 : Heap.SameBut z hp g0 := hs0
    simp only [Bool.false_eq_true, if_false]
    refine wpAny_bind ?_
    rw [← Array.forIn_toList]
    simp only [List.forIn_cons, List.forIn_nil]
    refine wpAny_bind (wpAny_bind (wpAny_holding ?_))
    show wpAny _ _ (Builtin.SmallTypes.nextOf (.ref i1) >>= _) _ _ ⟨g0, g, d, tk0, os⟩
    by_cases hlt1 : i < n1
    · refine wpAny_bind (D1.item i _ _ _ hlt1 (D1.over st1 hs0 S.zf1) fun x1 p1 tk1 hx1 sn1 hp1 => wpAny_pure ?_)
      replace hp1 : Heap.SameBut i1 g0 p1 := hp1
      refine wpAny_pure ?_
      have hi2 : i = n2 := by omega
      refine wpAny_bind (wpAny_bind (wpAny_holding ?_))
      show wpAny _ _ (Builtin.SmallTypes.nextOf (.ref i2) >>= _) _ _ ⟨p1, g, d, tk1, os⟩
      refine wpAny_bind (D2.done ⟨p1, g, d, tk1, os⟩ _ _ (by rw [← hi2]; exact (D2.over (D2.over st2 hs0 S.zf2) hp1 S.sep1_2)) fun q e hq he => ?_)
      replace hq : Heap.ExtBut i2 p1 q := hq
      exact hE q tk1 e (fun c o cz cT c1 c2 x => hq _ _ c2 (hp1.extBut _ _ c1 (hs0.extBut _ _ cz x))) he
    · have hi1 : i = n1 := by omega
      refine wpAny_bind (D1.done ⟨g0, g, d, tk0, os⟩ _ _ (by rw [← hi1]; exact (D1.over st1 hs0 S.zf1)) fun q e hq he => ?_)
      replace hq : Heap.ExtBut i1 g0 q := hq
      exact hE q tk0 e (fun c o cz cT c1 c2 x => hq _ _ c1 (hs0.extBut _ _ cz x)) he
theorem nextOf_zip {Q : Value → Shared → Prop} (hT : s.TypeIs (.ref z) "zip") (h : wpAny (model prog w) A.in1 (Builtin.«zip.__next__» ⟨[.ref z], []⟩) (fun fin s' => ∃ v, fin = .done (.ret v) ∧ Q v s') E s) :
    wpAny (model prog w) A (Builtin.SmallTypes.nextOf (.ref z)) Q E s := by
  unfold Builtin.SmallTypes.nextOf
  refine wpAny_bind (wpAny_callSpecial?_slot (name := Str.ofString "__next__") hT F.slot_zip_next (wpAny_call_entry F.slot_zip_next hT F.entry_zip_next (wpAny_mono h (fun fin s' ⟨v, e, q⟩ => ⟨v, e, wpAny_pure q⟩) fun _ _ x => x) (F.args_zip_next_1 _)))
/-- the next pair of an enumerate, whatever its iterator does -/
theorem enumG_item {c : Int} {old : Value} {Pin : Value → Heap → Nat → Prop} {Q : Value → Shared → Prop} (he : IsEnum s.heap e it c old)
    (hin : ∀ Q' : Value → Shared → Prop, (∀ x h1 tk, IsEnum h1 e it c old → Pin x h1 tk → Q' x { s with heap := h1, toks := tk }) → wpAny (model prog w) A (Builtin.SmallTypes.nextOf (.ref it)) Q' E s)
    (hQ : ∀ x h1 tk h', Pin x h1 tk → IsEnumOut h' e it (c + 1) x h1.objs.size → h'.get? h1.objs.size = some { cls := .type "tuple", data := .seq #[.int c tk, x] } → h'.objs.size = h1.objs.size + 1 →
      (∀ b o, b ≠ e → h1.get? b = some o → h'.get? b = some o) → Q (.ref h1.objs.size) { s with heap := h', toks := tk + 1 }) :
    wpAny (model prog w) A (Builtin.«enumerate.__next__» ⟨[.ref e], []⟩) (fun fin s' => ∃ v, fin = .done (.ret v) ∧ Q v s') E s := by
  obtain ⟨hp, g, d, tk0, os⟩ := s
  show wpAny _ _ (field (.ref e) 2 >>= _) _ _ _
  refine wpAny_bind (wpAny_field he rfl (x := .ref it) rfl ?_)
  refine wpAny_bind (hin _ fun x h1 tk he1 hx => ?_)
  show wpAny _ _ (field (.ref e) 3 >>= _) _ _ ⟨h1, g, d, tk, os⟩
  refine wpAny_bind (wpAny_field he1 rfl (x := rawInt c) rfl ?_)
  show wpAny _ _ (field (.ref e) 4 >>= _) _ _ ⟨h1, g, d, tk, os⟩
  refine wpAny_bind (wpAny_field he1 rfl (x := .none) rfl ?_)
  show wpAny _ _ (mkInt c >>= _) _ _ ⟨h1, g, d, tk, os⟩
  refine wpAny_bind (wpAny_mkInt ?_)
  show wpAny _ _ (setField (.ref e) 3 (rawInt (c + 1)) >>= _) _ _ ⟨h1, g, d, tk + 1, os⟩
  refine wpAny_bind (wpAny_setField_rec he1 (by simp) fun h2 he2 hs2 => ?_)
  replace hs2 : Heap.SameBut e h1 h2 := hs2
  replace he2 : IsEnum h2 e it (c + 1) old := he2
  show wpAny _ _ (setField (.ref e) 4 .none >>= _) _ _ ⟨h2, g, d, tk + 1, os⟩
  refine wpAny_bind (wpAny_setField_rec he2 (by simp) fun h3 he3 hs3 => ?_)
  replace hs3 : Heap.SameBut e h2 h3 := hs3
  replace he3 : IsEnum h3 e it (c + 1) old := he3
  show wpAny _ _ (newTuple [.int c tk, x] >>= _) _ _ ⟨h3, g, d, tk + 1, os⟩
  refine wpAny_bind (wpAny_newTuple ?_)
  have he4 : IsEnum (h3.push { cls := .type "tuple", data := .seq #[.int c tk, x] }) e it (c + 1) old := Heap.get?_push_of_some _ he3
  generalize hh4 : h3.push { cls := .type "tuple", data := .seq #[.int c tk, x] } = h4 at he4
  have hsz : h3.objs.size = h1.objs.size := by rw [hs3.1, hs2.1]
  have hel : e < h1.objs.size := Heap.lt_size he1
  have ht4 : h4.get? h1.objs.size = some { cls := .type "tuple", data := .seq #[.int c tk, x] } := by rw [← hh4, ← hsz]; exact Heap.get?_push_size _ rfl
  have hz4 : h4.objs.size = h1.objs.size + 1 := by rw [← hh4, Heap.size_push, hsz]
  have hk4 : ∀ b o, b ≠ e → h1.get? b = some o → h4.get? b = some o := fun b o hbe hb => by
    rw [← hh4]; exact Heap.get?_push_of_some _ (hs3.extBut b o hbe (hs2.extBut b o hbe hb))
  show wpAny _ _ (Builtin.SmallTypes.ownedTupleIsFree (.ref e) >>= _) _ _ ⟨h4, g, d, tk + 1, os⟩
  rw [hsz]
  refine wpAny_bind ?_
  unfold Builtin.SmallTypes.ownedTupleIsFree
  refine wpAny_bind (wpAny_field he4 rfl (x := .none) rfl (wpAny_pure ?_))
  simp only [if_true]
  refine wpAny_bind (wpAny_rule ?_)
  refine wpAny_bind (wpAny_field he4 rfl (x := old) rfl ?_)
  refine wpAny_bind (wpAny_setField_rec he4 (by simp) fun h5 he5 hs5 => ?_)
  replace hs5 : Heap.SameBut e h4 h5 := hs5
  replace he5 : IsEnum h5 e it (c + 1) x := he5
  show wpAny _ _ (Builtin.SmallTypes.ownedTupleHandOut (.ref e) (.ref h1.objs.size) >>= _) _ _ ⟨h5, g, d, tk + 1, os⟩
  refine wpAny_bind ?_
  unfold Builtin.SmallTypes.ownedTupleHandOut
  refine wpAny_bind (wpAny_setField_rec he5 (by simp) fun h6 he6 hs6 => ?_)
  replace hs6 : Heap.SameBut e h5 h6 := hs6
  replace he6 : IsEnumOut h6 e it (c + 1) x h1.objs.size := he6
  refine wpAny_setField_rec he6 (by simp) fun h7 he7 hs7 => ?_
  replace hs7 : Heap.SameBut e h6 h7 := hs7
  replace he7 : IsEnumOut h7 e it (c + 1) x h1.objs.size := he7
  refine wpAny_bind (wpAny_letGo (wpAny_pure ⟨_, rfl, hQ x h1 tk h7 hx he7 ?_ ?_ ?_⟩))
  · exact hs7.extBut _ _ (Nat.ne_of_gt hel) (hs6.extBut _ _ (Nat.ne_of_gt hel) (hs5.extBut _ _ (Nat.ne_of_gt hel) ht4))
  · rw [hs7.1, hs6.1, hs5.1, hz4]
  · exact fun b o hbe hb => hs7.extBut b o hbe (hs6.extBut b o hbe (hs5.extBut b o hbe (hk4 b o hbe hb)))
theorem enumG_next {c : Int} {old : Value} {Pin : Value → Heap → Nat → Prop} {Q : Option Value → Shared → Prop} (he : IsEnum s.heap e it c old)
    (hin : ∀ (E' : Value → Shared → Prop) (Q' : Value → Shared → Prop), (∀ x h1 tk, IsEnum h1 e it c old → Pin x h1 tk → Q' x { s with heap := h1, toks := tk }) → wpAny (model prog w) A.in1 (Builtin.SmallTypes.nextOf (.ref it)) Q' E' s)
    (hQ : ∀ x h1 tk h', Pin x h1 tk → IsEnumOut h' e it (c + 1) x h1.objs.size → h'.get? h1.objs.size = some { cls := .type "tuple", data := .seq #[.int c tk, x] } → h'.objs.size = h1.objs.size + 1 →
      (∀ b o, b ≠ e → h1.get? b = some o → h'.get? b = some o) → Q (some (.ref h1.objs.size)) { s with heap := h', toks := tk + 1 }) : wpAny (model prog w) A (pyNext (.ref e)) Q E s := by
  have hT : s.TypeIs (.ref e) "enumerate" := ⟨_, he, rfl⟩
  unfold pyNext
  exact wpAny_bind (wpAny_attempt (wpAny_callSpecial?_slot (name := Str.ofString "__next__") hT F.slot_enumerate_next
    (wpAny_call_entry F.slot_enumerate_next hT F.entry_enumerate_next (enumG_item he (hin _) fun x h1 tk h' a b c d k => wpAny_pure (hQ x h1 tk h' a b c d k)) (F.args_enumerate_next_1 _))))
theorem enumG_end {c : Int} {old : Value} {Q : Option Value → Shared → Prop} (he : IsEnum s.heap e it c old)
    (hin : ∀ (E' : Value → Shared → Prop) (Q' : Value → Shared → Prop), (∀ x h' tk, (∃ o, h'.get? x = some o ∧ o.cls = .type "StopIteration") → Q none { s with heap := h', toks := tk } → E' (.ref x) { s with heap := h', toks := tk }) → wpAny (model prog w) A.in1 (Builtin.SmallTypes.nextOf (.ref it)) Q' E' s) :
    wpAny (model prog w) A (pyNext (.ref e)) Q E s := by
  have hT : s.TypeIs (.ref e) "enumerate" := ⟨_, he, rfl⟩
  unfold pyNext
  refine wpAny_bind (wpAny_attempt (wpAny_callSpecial?_slot (name := Str.ofString "__next__") hT F.slot_enumerate_next (wpAny_call_entry F.slot_enumerate_next hT F.entry_enumerate_next ?_ (F.args_enumerate_next_1 _))))
  show wpAny _ _ (field (.ref e) 2 >>= _) _ _ _
  refine wpAny_bind (wpAny_field he rfl (x := .ref it) rfl ?_)
  refine wpAny_bind (hin _ _ fun x h' tk hx hq => ?_)
  obtain ⟨o, ho, hc⟩ := hx
  refine wpAny_bind (wpAny_isInstance (T := "StopIteration") (b := true) ⟨o, ho, hc⟩ isSubtype_stop ?_)
  exact wpAny_pure hq
end
end N
namespace N
open PySem PySem.Spec PyProof.Rows L2
/-! ### enumerate(zip(text, text)): the rule -/
def IteZ (x y : Str) : It :=
  ⟨fun i _ => i < min x.cps.size y.cps.size,
    fun i H v H' => ∃ T P c e, v = .ref P ∧ H T = none ∧ H P = none ∧ P ≠ T ∧ H' = upd (upd H T (.tup [.str ⟨#[c]⟩, .str ⟨#[e]⟩])) P (.tup [.int (i : Nat), .ref T]) ∧ x.cps[i]? = some c ∧ y.cps[i]? = some e,
    fun i _ => min x.cps.size y.cps.size ≤ i⟩
abbrev ezSt (e z TI TO i1 i2 : Addr) (x y : Str) (t u : Tok) : Nat → Heap → Prop := fun i h => i ≤ min x.cps.size y.cps.size ∧ (∃ old, IsEnum h e z ((i : Nat) : Int) old) ∧ (∃ f b, ZF f ∧ IsZG h z TI TO f b) ∧ IsTupOf2 h TI (.ref i1) (.ref i2) ∧ (∃ a1 a2, IsTupOf2 h TO a1 a2) ∧ h.IsStrIter i1 (strIterType x) x t i ∧ h.IsStrIter i2 (strIterType y) y u i
theorem turn_enumZ {P : Program} {w : World} {K : PySem.W.Frag} {elts : List Expr} {kk : Nat} {tpos : Pos} {e z TI TO i1 i2 : Addr} {x y : Str} {t u : Tok} (S : ZipSep2 z TI TO i1 i2 [i1] [i2]) (ne : e ∉ [z, TI, TO, i1, i2]) :
    Turn P w K (.Tuple elts kk tpos) (IteZ x y) [e, z, TI, TO, i1, i2] e (ezSt e z TI TO i1 i2 x y t u) where
  mem := by simp
  obj := fun i h st c hc => by
    obtain ⟨_, ⟨_, he⟩, ⟨_, _, _, hz⟩, hTI, ⟨_, _, hTO⟩, ⟨o1, e1, _, d1⟩, ⟨o2, e2, _, d2⟩⟩ := st
    have e' : c = e ∨ c = z ∨ c = TI ∨ c = TO ∨ c = i1 ∨ c = i2 := by simpa using hc
    rcases e' with q | q | q | q | q | q
    · rw [q]; exact ⟨_, he, fun v q => nomatch q⟩
    · rw [q]; exact ⟨_, hz, fun v q => nomatch q⟩
    · rw [q]; exact ⟨_, hTI, fun v q => nomatch q⟩
    · rw [q]; exact ⟨_, hTO, fun v q => nomatch q⟩
    · rw [q]; exact ⟨o1, e1, fun v q => by rw [d1] at q; cases q⟩
    · rw [q]; exact ⟨o2, e2, fun v q => by rw [d2] at q; cases q⟩
  keep := fun i h h' st k => by
    obtain ⟨hi, ⟨old, he⟩, ⟨f, b, hf, hz⟩, hTI, ⟨a1, a2, hTO⟩, ⟨o1, e1, r1⟩, ⟨o2, e2, r2⟩⟩ := st
    exact ⟨hi, ⟨old, k e (by simp) _ he⟩, ⟨f, b, hf, k z (by simp) _ hz⟩, k TI (by simp) _ hTI, ⟨a1, a2, k TO (by simp) _ hTO⟩, ⟨o1, k i1 (by simp) _ e1, r1⟩, ⟨o2, k i2 (by simp) _ e2, r2⟩⟩
  item := by
    intro X hP hw hK hc i pins s σ H E I hf st hg
    subst hP hw hK
    have hh := I.ok.hd hc
    obtain ⟨hi, ⟨old, he⟩, ⟨f, b, hzf, hz⟩, hTI, hTO, st1, st2⟩ := st
    have hgi : i < min x.cps.size y.cps.size := hg
    have en : e ≠ z ∧ e ≠ TI ∧ e ≠ TO ∧ e ≠ i1 ∧ e ≠ i2 := by
      simp only [List.mem_cons, List.not_mem_nil, or_false, not_or] at ne
      exact ne
    have hel := Heap.lt_size he
    refine enumG_next (it := z) (Pin := fun v h1 tk => ∃ c1 t1 c2 t2, v = .ref s.heap.objs.size ∧ x.cps[i]? = some c1 ∧ y.cps[i]? = some c2 ∧ IsTupOf2 h1 s.heap.objs.size (.str ⟨#[c1]⟩ t1) (.str ⟨#[c2]⟩ t2) ∧ h1.objs.size = s.heap.objs.size + 1 ∧
      (∃ f b, ZF f ∧ IsZG h1 z TI TO f b) ∧ (∃ a1 a2, IsTupOf2 h1 TO a1 a2) ∧ h1.IsStrIter i1 (strIterType x) x t (i + 1) ∧ h1.IsStrIter i2 (strIterType y) y u (i + 1) ∧ ∀ c o, c ≠ z → c ≠ TO → c ≠ i1 → c ≠ i2 → s.heap.get? c = some o → h1.get? c = some o) he (fun E' Q' hQ' => ?_) (fun v h1 tk h' hp he' hT' hsz hk => ?_)
    · have D1 := draws_txt (prog := X.prog) (w := X.w) (A := X.A.in1.in1) hh i1 x t
      have D2 := draws_txt (prog := X.prog) (w := X.w) (A := X.A.in1.in1) hh i2 y u
      refine nextOf_zip ⟨_, hz, rfl⟩ (zg_item S D1 D2 hz hzf hTI hTO st1 st2 (by omega) (by omega) fun x1 x2 h1 tk f' b' hzf' p1 p2 hz1 hTO1 j1 j2 hT1 hs1 hk1 => ?_)
      obtain ⟨c1, t1, hc1, rfl⟩ := p1
      obtain ⟨c2, t2, hc2, rfl⟩ := p2
      exact hQ' _ h1 tk (hk1 e _ en.1 en.2.2.1 en.2.2.2.1 en.2.2.2.2 he) ⟨c1, t1, c2, t2, rfl, hc1, hc2, hT1, hs1, ⟨f', b', hzf', hz1⟩, hTO1, j1, j2, hk1⟩
    obtain ⟨c1, t1, c2, t2, rfl, hc1, hc2, hT1, hs1, ⟨f', b', hzf', hz1⟩, ⟨a1, a2, hTO1⟩, j1, j2, hk1⟩ := hp
    refine ⟨_, rfl, wpAny_letOwnedTupleGo_enum (s := { s with heap := h', toks := tk + 1 }) he' fun h'' he'' sb => ?_⟩
    have up : ∀ c o, c ≠ e → h1.get? c = some o → h''.get? c = some o := fun c o ce q => (sb.2 c ce).trans (hk c o ce q)
    have newT : ObjOk X.prog X.w (upd H s.heap.objs.size (.tup [.str ⟨#[c1]⟩, .str ⟨#[c2]⟩])) h1 s.heap.objs.size (.tup [.str ⟨#[c1]⟩, .str ⟨#[c2]⟩]) :=
      ⟨by show 2 ≤ sizeLine; decide, [.str ⟨#[c1]⟩ t1, .str ⟨#[c2]⟩ t2], .cons ⟨_, rfl⟩ (.cons ⟨_, rfl⟩ .nil), ⟨_, hT1, rfl, _, rfl⟩⟩
    have hfz : ∀ c ∈ [z, TI, TO, i1, i2], FpOk X pins H c := fun c hc => hf c (List.mem_cons_of_mem _ hc)
    have I1 : Inv X pins σ (upd H s.heap.objs.size (.tup [.str ⟨#[c1]⟩, .str ⟨#[c2]⟩])) { s with heap := h1, toks := tk } :=
      I.turnedNew (t' := tk) (ch := [z, TI, TO, i1, i2]) (fun c o hb q => by
        simp only [List.mem_cons, List.not_mem_nil, or_false, not_or] at hb
        exact hk1 c o hb.1 hb.2.2.1 hb.2.2.2.1 hb.2.2.2.2 q) hfz (Nat.le_refl _) newT
    have hT2 : h''.get? h1.objs.size = some { cls := .type "tuple", data := .seq #[.int ((i : Nat) : Int) tk, .ref s.heap.objs.size] } := (sb.2 _ (by rw [hs1]; exact Nat.ne_of_gt (Nat.lt_succ_of_lt hel))).trans hT'
    have newP : ObjOk X.prog X.w (upd (upd H s.heap.objs.size (.tup [.str ⟨#[c1]⟩, .str ⟨#[c2]⟩])) h1.objs.size (.tup [.int (i : Nat), .ref s.heap.objs.size])) h'' h1.objs.size (.tup [.int (i : Nat), .ref s.heap.objs.size]) :=
      ⟨by show 2 ≤ sizeLine; decide, [.int ((i : Nat) : Int) tk, .ref s.heap.objs.size], .cons ⟨_, rfl⟩ (.cons rfl .nil), ⟨_, hT2, rfl, _, rfl⟩⟩
    have lt6 : ∀ c ∈ [e, z, TI, TO, i1, i2], c < s.heap.objs.size := fun c hc => by
      have e' : c = e ∨ c = z ∨ c = TI ∨ c = TO ∨ c = i1 ∨ c = i2 := by simpa using hc
      obtain ⟨b1, b2, hTO0⟩ := hTO
      obtain ⟨o1, q1, _⟩ := st1
      obtain ⟨o2, q2, _⟩ := st2
      rcases e' with q | q | q | q | q | q
      · rw [q]; exact hel
      · rw [q]; exact Heap.lt_size hz
      · rw [q]; exact Heap.lt_size hTI
      · rw [q]; exact Heap.lt_size hTO0
      · rw [q]; exact Heap.lt_size q1
      · rw [q]; exact Heap.lt_size q2
    have hfe : ∀ c ∈ [e], FpOk X pins (upd H s.heap.objs.size (.tup [.str ⟨#[c1]⟩, .str ⟨#[c2]⟩])) c := fun c hc => by
      have ec : c = e := by simpa using hc
      subst ec
      have q := hf c (by simp)
      exact ⟨by rw [upd_ne (Nat.ne_of_lt hel)]; exact q.1, q.2⟩
    have I2 : Inv X pins σ (upd (upd H s.heap.objs.size (.tup [.str ⟨#[c1]⟩, .str ⟨#[c2]⟩])) h1.objs.size (.tup [.int (i : Nat), .ref s.heap.objs.size])) { s with heap := h'', toks := tk + 1 } :=
      I1.turnedNew (t' := tk + 1) (ch := [e]) (fun c o hb q => up c o (by simpa using hb) q) hfe (Nat.le_refl _) newP
    have nTP : h1.objs.size ≠ s.heap.objs.size := by rw [hs1]; exact Nat.succ_ne_self _
    refine ⟨.ref h1.objs.size, _, I2, rfl, ⟨s.heap.objs.size, h1.objs.size, c1, c2, rfl, I.hok.fresh (Nat.le_refl _), ?_, nTP, rfl, hc1, hc2⟩, ⟨hgi, ⟨.ref s.heap.objs.size, ?_⟩, ⟨f', b', hzf', up _ _ (Ne.symm en.1) hz1⟩, up _ _ (Ne.symm en.2.1) (hk1 _ _ S.TIz S.TITO S.TIi1 S.TIi2 hTI), ⟨a1, a2, up _ _ (Ne.symm en.2.2.1) hTO1⟩, ?_, ?_⟩, fun c hcm => ?_⟩
    · exact I.hok.fresh (by rw [hs1]; exact Nat.le_succ _)
    · have e1 : ((i + 1 : Nat) : Int) = (i : Int) + 1 := by omega
      rw [e1]; exact he''
    · obtain ⟨o, ho, r⟩ := j1
      exact ⟨o, up _ _ (Ne.symm en.2.2.2.1) ho, r⟩
    · obtain ⟨o, ho, r⟩ := j2
      exact ⟨o, up _ _ (Ne.symm en.2.2.2.2) ho, r⟩
    · have hlt := lt6 c hcm
      rw [upd_ne (by rw [hs1]; exact Nat.ne_of_lt (Nat.lt_succ_of_lt hlt)), upd_ne (Nat.ne_of_lt hlt)]
      exact (hf c hcm).1
  done := by
    intro X hP hw hK hc i pins s σ H E I hf st hg
    subst hP hw hK
    have hh := I.ok.hd hc
    obtain ⟨hi, ⟨old, he⟩, ⟨f, b, hzf, hz⟩, hTI, hTO, st1, st2⟩ := st
    have hgi : min x.cps.size y.cps.size ≤ i := hg
    refine enumG_end (it := z) he fun E' Q' hE' => ?_
    have D1 := draws_txt (prog := X.prog) (w := X.w) (A := X.A.in1.in1) hh i1 x t
    have D2 := draws_txt (prog := X.prog) (w := X.w) (A := X.A.in1.in1) hh i2 y u
    refine nextOf_zip ⟨_, hz, rfl⟩ (zg_end S D1 D2 hz hzf hTI hTO st1 st2 (by omega) (by omega) (by omega) fun h' tk x' hk hx => hE' x' h' tk hx ⟨rfl, ?_⟩)
    exact I.turnedL (t' := tk) (ch := [z, TI, TO, i1, i2]) (fun c o hb q => by
      simp only [List.mem_cons, List.not_mem_nil, or_false, not_or] at hb
      exact hk c o hb.1 hb.2.2.1 hb.2.2.2.1 hb.2.2.2.2 q) fun c hc => hf c (List.mem_cons_of_mem _ hc)
  self := fun A i s Q E st h => let ⟨_, ⟨_, he⟩, _⟩ := st; wpAny_pyIter_enum he h
/-- enumerate of a zip that stands -/
theorem meets_enumZ {z : Addr} :
    Meets (Builtin.«enumerate.__new__» ⟨[.type "enumerate", .ref z], []⟩) (fun _ R s => (∃ TI TO, IsZip s.heap z TI TO .none) ∧
      R (.ok (.ret (.ref s.heap.objs.size))) { s with heap := s.heap.push { cls := .type "enumerate", data := .fields #[.none, .bool false, .ref z, rawInt 0, .none, .none] } }) :=
  .of_wp fun prog w A R s h => by
    obtain ⟨hp, g, d, tk, os⟩ := s; obtain ⟨⟨TI, TO, h1⟩, h⟩ := h
    have hsub := sub_enumerate
    have q1 : ∀ {A' : Around} {E : Value → Shared → Prop} {Q : Value → Shared → Prop}, Q (.ref z) ⟨hp, g, d, tk, os⟩ → wpAny (model prog w) A' (pyIter (.ref z)) Q E ⟨hp, g, d, tk, os⟩ :=
      fun q => wpAny_pyIter_zip h1 q
    wp_walk using q1
    refine wpAny_stack_any fun st => wpAny_pure ?_
    split
    · rename_i c _ _ _ _ _
      cases (c == Value.type "enumerate")
      · wp_walk using q1
        exact ⟨_, rfl, h⟩
      · wp_walk using q1
        exact ⟨_, rfl, h⟩
    · wp_walk using q1
      exact ⟨_, rfl, h⟩
theorem call_enumZ {prog : Program} {w : World} {A : Around} {E : Value → Shared → Prop} {s : Shared} {z TI TO : Addr} {Q : Value → Shared → Prop} (hz : IsZip s.heap z TI TO .none)
    (h : ∀ h', IsEnum h' s.heap.objs.size z 0 .none → (∀ b o, s.heap.get? b = some o → h'.get? b = some o) → Q (.ref s.heap.objs.size) { s with heap := h' }) :
    wpAny (model prog w) A (call (.type "enumerate") [.ref z]) Q E s := by
  refine callType_new F.called_enumerate (by decide) (F.typeCall_enumerate_1 _) (F.newCall_enumerate_1 _) (fun obj => F.args_object_init_2 obj _) F.entry_enumerate_new meets_enumZ ⟨⟨TI, TO, hz⟩, ?_⟩
  have he : IsEnum (s.heap.push { cls := .type "enumerate", data := .fields #[.none, .bool false, .ref z, rawInt 0, .none, .none] }) s.heap.objs.size z 0 .none := Heap.get?_push_size _ rfl
  exact ⟨⟨_, he, rfl⟩, h _ he fun b o x => Heap.get?_push_of_some _ x⟩
def iEnumZV (ta : TA) : TI := fun σ H R => ta σ H fun vs H1 => ∃ x y, vs = [.str x, .str y] ∧ R (IteZ x y) H1
section
variable {X : Cx} {W : WX} {e e2 : Expr} {p p2 pos pos2 tpos : Pos} {elts : List Expr} {kk : Nat}
theorem pi_enumZ {ta : TA} (hg : Gl X "zip") (hm : X.mg "zip" = none) (hg2 : Gl X "enumerate") (hm2 : X.mg "enumerate" = none) (ha : PA X [e, e2] ta)
    (hs : starEach [e, e2] X.env = (false, eval e X.env) :: starEach [e2] X.env := by rfl) (hpl : (backTo pos2 (starEach [e2] X.env)).any (·.1) = false := by rfl)
    (na : starEach [Expr.Call (.Name "zip" p2) [e, e2] [] pos2] X.env = (false, eval (Expr.Call (.Name "zip" p2) [e, e2] [] pos2) X.env) :: starEach [] X.env := by rfl) :
    PI X (.Tuple elts kk tpos) (.Call (.Name "enumerate" p) [.Call (.Name "zip" p2) [e, e2] [] pos2] [] pos) (iEnumZV ta) := by
  refine ⟨fun pins s σ H R I h => ?_⟩
  refine Call_ (ld_blt I hg2 hm2 boot_enumerate (PyProof.Rows.callWith_type1 (args_cons ?_ na) na))
  refine Call_ (ld_blt I hg hm PyProof.Rows.boot_zip (PyProof.Rows.callWith_type1 (thn (ha.run pos2 pins s σ H _ I h) fun us s1 ⟨vs, H1, I1, r1, q1⟩ => ?_) hs hpl))
  obtain ⟨x, y, ex, q⟩ := q1
  subst ex
  obtain ⟨u1, u2, rfl, ⟨t, rfl⟩, ⟨u, rfl⟩⟩ := vals2 r1
  refine zip_begins2 (begins_text x t) (begins_text y u) trivial trivial fun h' hz hTI hTO h1 h2 hsz hk => args_nil ?_
  refine call_enumZ (s := { s1 with heap := h' }) hz fun h'' he hk2 => wpAny_pyIter_enum he ?_
  have I2 : Inv X pins σ H1 { s1 with heap := h'' } := I1.kept (t' := s1.toks) fun b o e => hk2 b o (hk b o e)
  have es : (({ s1 with heap := h' } : Shared).heap.objs.size) = s1.heap.objs.size + 5 := hsz
  rw [es] at he ⊢
  have fresh6 : ∀ c, c ∈ [s1.heap.objs.size + 5, s1.heap.objs.size + 4, s1.heap.objs.size + 2, s1.heap.objs.size + 3, s1.heap.objs.size, s1.heap.objs.size + 1] → FpOk X pins H1 c := fun c hcm => by
    have e' : c = s1.heap.objs.size + 5 ∨ c = s1.heap.objs.size + 4 ∨ c = s1.heap.objs.size + 2 ∨ c = s1.heap.objs.size + 3 ∨ c = s1.heap.objs.size ∨ c = s1.heap.objs.size + 1 := by simpa using hcm
    have hle : s1.heap.objs.size ≤ c := by
      rcases e' with z | z | z | z | z | z <;> (rw [z]; omega)
    exact I1.fpOk hle (I1.hok.fresh hle)
  refine ⟨s1.heap.objs.size + 5, [s1.heap.objs.size + 5, s1.heap.objs.size + 4, s1.heap.objs.size + 2, s1.heap.objs.size + 3, s1.heap.objs.size, s1.heap.objs.size + 1], _, _, H1, rfl, I2,
    turn_enumZ (x := x) (y := y) (t := t) (u := u) (zip_sep2 (N := s1.heap.objs.size) (fp1 := []) (fp2 := []) (fun _ h => nomatch h) (fun _ h => nomatch h)) ?_,
    ⟨Nat.zero_le _, ⟨_, he⟩, ⟨_, _, .inl rfl, hk2 _ _ hz⟩, hk2 _ _ hTI, ⟨_, _, hk2 _ _ hTO⟩, ⟨_, hk2 _ _ h1, rfl, rfl⟩, ⟨_, hk2 _ _ h2, rfl, rfl⟩⟩, fresh6, q⟩
  simp
def eZipD (ds es : List D) : List D := enumD (zipD ds es)
def iEnumZ (ta : TAD) : TID := fun τ G x q => ta τ G x fun as G1 => A2 as fun d e => match d, e with
  | .str x, .str y => q (eZipD (signs x) (signs y)) (fun _ => True) G1
  | _, _ => False
theorem pid_enumZ {ta : TAD} (hg : Gl X "zip") (hm : X.mg "zip" = none) (hg2 : Gl X "enumerate") (hm2 : X.mg "enumerate" = none) (ha : PAd X W [e, e2] ta)
    (hs : starEach [e, e2] X.env = (false, eval e X.env) :: starEach [e2] X.env := by rfl) (hpl : (backTo pos2 (starEach [e2] X.env)).any (·.1) = false := by rfl)
    (na : starEach [Expr.Call (.Name "zip" p2) [e, e2] [] pos2] X.env = (false, eval (Expr.Call (.Name "zip" p2) [e, e2] [] pos2) X.env) :: starEach [] X.env := by rfl) :
    PId X W (.Tuple elts kk tpos) (.Call (.Name "enumerate" p) [.Call (.Name "zip" p2) [e, e2] [] pos2] [] pos) (iEnumZ ta) := PIi (pi_enumZ hg hm hg2 hm2 ha hs hpl na) fun σ H R' => by
  rintro ⟨Z, G, τ, x, q, S, R, h, c, cx⟩
  refine ⟨Z, G, τ, x, _, S, R, h, fun ds G1 H1 vs q1 s1 R1 r1 => ?_, cx⟩
  obtain ⟨d, e, v, u, rfl, rfl, r, r', q1⟩ := A2_e r1 q1
  cases d with
  | str x => cases e with
    | str y =>
      cases r; cases r'
      have hl : (eZipD (signs x) (signs y)).length = min x.cps.size y.cps.size := by unfold eZipD; rw [enum_len]; unfold zipD; rw [List.length_zipWith, signs_len, signs_len]
      refine ⟨x, y, rfl, c _ _ G1 H1 _ q1 s1 R1 ⟨fun Z i G H hi m R s => ?_, fun Z i G H x' H' hi m R s yl => ?_, fun Z G H m R s => ?_⟩⟩
      · rw [hl] at hi
        exact hi
      · obtain ⟨T, P, c1, c2, ev, hT, hP, hPT, eH, h1, h2⟩ := yl
        subst ev eH
        obtain ⟨a1, a2, a3⟩ := pair_rl R hT (.str ⟨#[c1]⟩) (.str ⟨#[c2]⟩)
        obtain ⟨b1, b2, b3⟩ := pair_rl (d := .int (i : Int)) a2 (T := P) (by rw [upd_ne hPT]; exact hP) (.int (i : Int)) a3
        exact ⟨_, enum_at (zip_at (signs_at h1) (signs_at h2)), a1.trans b1, b2, b3⟩
      · show min x.cps.size y.cps.size ≤ _
        rw [hl]
        exact Nat.le_refl _
    | _ => exact (show False from q1).elim
  | _ => exact (show False from q1).elim
end
end N
namespace N
open PySem PySem.Spec PyProof.Rows L2
/-! ### text.count(sign) -/
section
variable {X : Cx} {W : WX} {o e : Expr} {to te : TED} {apos pos : Pos}
theorem pd_countS (ho : PEd X W o to) (he : PEd X W e te) (hs : starEach [e] X.env = [(false, eval e X.env)] := by rfl) (hbase : attributeBase o "count" X.env (eval o X.env) = eval o X.env := by rfl) (hline : (apos.endLine == pos.line) = true := by rfl) :
    PEd X W (.Call (.Attribute o "count" apos) [e] [] pos) (gM1 mCountS to te) := pd_m1 F.slot_str_count F.type_str_count mt_count (ok_SS fun _ _ => rfl) ho he hs hbase hline
end
theorem count_tx (l : List Nat) (c : Nat) : Txt.count (tx l) (tx [c]) = (l.count c : Nat) := by
  have h : Txt.count (tx l) (tx [c]) = cnt c l := by
    have := count_is (tx l) c
    rw [tx_toL] at this
    exact this
  rw [h]
  induction l with
  | nil => rfl
  | cons a l ih =>
    rw [cnt_cons]
    have := count_is (tx l) c
    rw [tx_toL] at this
    rw [ih this, List.count_cons]
    by_cases e : a = c
    · subst e; simp; omega
    · rw [if_neg e, if_neg (by simpa using e)]; simp
end N
namespace N
open PySem PySem.Spec PyProof.Rows L2
/-! ### a text or a number of the module's own -/
abbrev kStr (x z : Str) : Ck := fun K => (He.Fa.str x z).ok K
abbrev kInt (x : Str) (i : Int) : Ck := fun K => (He.Fa.int x i).ok K
theorem Ev.str {fa : List Ck} {fn : List DefN} {K : PySem.W.Frag} {mg : Str → Option Value} (e : Ev fa fn K mg) {x z : Str} (c : (He.Fa.str x z).ok K = true) : ∃ t, mg x = some (.str z t) := let ⟨_, X, G⟩ := e.h; He.str_ok X G c
theorem Ev.int {fa : List Ck} {fn : List DefN} {K : PySem.W.Frag} {mg : Str → Option Value} (e : Ev fa fn K mg) {x : Str} {i : Int} (c : (He.Fa.int x i).ok K = true) : ∃ t, mg x = some (.int i t) := let ⟨_, X, G⟩ := e.h; He.int_ok X G c
section
variable {X : Cx} {W : WX} {x : Str} {pos : Pos}
theorem pd_gstr {z : Str} (hg : Gl X x) (hm : ∃ t, X.mg x = some (.str z t)) (hdb : (x == ("__debug__" : Str)) = false := by decide) : PEd X W (.Name x pos) (gC (.str z)) := by
  obtain ⟨t, e⟩ := hm
  exact pd_glo (v := .str z) hg e ⟨t, rfl⟩ (fun _ _ _ => .str _) hdb
theorem pd_gint {i : Int} (hg : Gl X x) (hm : ∃ t, X.mg x = some (.int i t)) (hdb : (x == ("__debug__" : Str)) = false := by decide) : PEd X W (.Name x pos) (gC (.int i)) := by
  obtain ⟨t, e⟩ := hm
  exact pd_glo (v := .int i) hg e ⟨t, rfl⟩ (fun _ _ _ => .int _) hdb
end
/-! ### shifts -/
section
variable {X : Cx} {W : WX} {a b : Expr} {ta tb : TED} {pos : Pos}
abbrev nShl : R2D := nIS CPow fun i j => .int (i * 2 ^ j.toNat)
abbrev nShr : R2D := nIS (fun _ j => 0 ≤ j) fun i j => .int (i / 2 ^ j.toNat)
theorem pd_shl (ha : PEd X W a ta) (hb : PEd X W b tb) : PEd X W (.BinOp a .LShift b pos) (gOp nShl ta tb) := pd_op op_shl (ok_IS fun _ _ => rfl) ha hb
theorem pd_shr (ha : PEd X W a ta) (hb : PEd X W b tb) : PEd X W (.BinOp a .RShift b pos) (gOp nShr ta tb) := pd_op op_shr (ok_IS fun _ _ => rfl) ha hb
end
/-! ### text.split(sep), text.index(text) where it stands -/
def mSplit : Str → D → GH → QD → Prop := fun a e G q => match e with
  | .str b => Sd ((b.length == 0) = false ∧ a.length + 2 ≤ sizeLine) (NewL ((Txt.split a b).map D.str) G q)
  | _ => False
theorem rla_strs {K : PySem.W.Frag} {Z : ZS} {G : GH} {H : Hp} : ∀ ys : List Str, RlA K Z G H (ys.map D.str) (ys.map V.str)
  | [] => .nil
  | y :: ys => .cons (.str y) (rla_strs ys)
theorem ok_split {K : PySem.W.Frag} : M1Ok K (fun x xs H Q => ∃ a b, x = .str a ∧ xs = [.str b] ∧ (b.length == 0) = false ∧ a.length + 2 ≤ sizeLine ∧ rNewStrs (Txt.split a b) H Q) mSplit := by
  intro Z G H a e u q Q R r h c
  cases e with
  | str b =>
    cases r
    obtain ⟨⟨h1, h2⟩, h⟩ := Sd_e h
    exact ⟨a, b, rfl, rfl, h1, h2, fun p hp => new_list R (rla_strs _) h c p hp⟩
  | _ => exact (show False from h).elim
def mIndexS : Str → D → GH → QD → Prop := fun a e G q => match e with
  | .str b => ∃ k, Txt.index0 a b = some k ∧ q (.int (k : Nat)) G
  | _ => False
theorem mt_indexS {X : Cx} : MtR X "str.index" (fun x xs H Q => ∃ (a b : Str) (k : Nat), x = .str a ∧ xs = [.str b] ∧ Txt.index0 a b = some k ∧ Q (.int (k : Nat)) H) := by
  intro pins s σ H x xs v us Q I rx rs h
  obtain ⟨a, b, k, rfl, rfl, hy, hq⟩ := h
  obtain ⟨t, rfl⟩ := rx
  cases rs with
  | cons r1 rs =>
    cases rs
    obtain ⟨u, rfl⟩ := r1
    cases q : Builtin.Str.occurrences a b 0 a.length 1 with
    | nil => unfold Txt.index0 at hy; rw [q] at hy; cases hy
    | cons k' rest =>
      have e : k' = k := by
        unfold Txt.index0 at hy
        rw [q] at hy
        exact Option.some.inj hy
      subst e
      exact PySem.SC.index q ⟨.int (k' : Nat), H, I.tok _, ⟨_, rfl⟩, hq⟩
theorem ok_indexS {K : PySem.W.Frag} : M1Ok K (fun x xs H Q => ∃ (a b : Str) (k : Nat), x = .str a ∧ xs = [.str b] ∧ Txt.index0 a b = some k ∧ Q (.int (k : Nat)) H) mIndexS := by
  intro Z G H a e u q Q R r h c
  cases e with
  | str b =>
    cases r
    obtain ⟨k, hk, h⟩ := h
    exact ⟨a, b, k, rfl, rfl, hk, c _ _ _ _ h (Step.refl _ _) R (.int _)⟩
  | _ => exact (show False from h).elim
section
variable {X : Cx} {W : WX} {o e : Expr} {to te : TED} {apos pos : Pos}
theorem pd_split (ho : PEd X W o to) (he : PEd X W e te) (hs : starEach [e] X.env = [(false, eval e X.env)] := by rfl) (hbase : attributeBase o "split" X.env (eval o X.env) = eval o X.env := by rfl) (hline : (apos.endLine == pos.line) = true := by rfl) :
    PEd X W (.Call (.Attribute o "split" apos) [e] [] pos) (gM1 mSplit to te) := pd_m1 F.slot_str_split F.type_str_split mt_split ok_split ho he hs hbase hline
theorem pd_indexS (ho : PEd X W o to) (he : PEd X W e te) (hs : starEach [e] X.env = [(false, eval e X.env)] := by rfl) (hbase : attributeBase o "index" X.env (eval o X.env) = eval o X.env := by rfl) (hline : (apos.endLine == pos.line) = true := by rfl) :
    PEd X W (.Call (.Attribute o "index" apos) [e] [] pos) (gM1 mIndexS to te) := pd_m1 F.slot_str_index F.type_str_index mt_indexS ok_indexS ho he hs hbase hline
end
/-! ### a comprehension over range while an exception is handled -/
theorem turn_rangeP {P : Program} {w : World} {K : PySem.W.Frag} {tg : Expr} (it : Addr) (lo : Int) (n : Nat) : TurnP P w K tg (Itr lo n) [it] it (fun i h => IsRangeIter h it (lo + (i : Nat) * 1) ((n : Int) - (i : Nat)) 1) where
  mem := by simp
  obj := fun i h st b hb => by
    have e : b = it := by simpa using hb
    subst e
    exact ⟨_, st, fun v z => by
      have z' : Data.fields _ = Data.cell v := z
      cases z'⟩
  keep := fun i h h' st k => k it (by simp) _ st
  item := by
    intro X i pins s σ H E hP hw hK _ I hf st hg
    subst hP hw hK
    obtain ⟨f0, f1, f2, f3, f4, f5⟩ := hf it (by simp)
    have hlt : i < n := hg
    refine wpAny_pyNext_range_item st (by omega) fun h' st' sb => ?_
    have st2 : IsRangeIter h' it (lo + ((i + 1 : Nat) : Int) * 1) ((n : Int) - ((i + 1 : Nat) : Int)) 1 := by
      have e1 : lo + ((i : Nat) : Int) * 1 + 1 = lo + ((i + 1 : Nat) : Int) * 1 := by omega
      have e2 : (n : Int) - ((i : Nat) : Int) - 1 = (n : Int) - ((i + 1 : Nat) : Int) := by omega
      rw [← e1, ← e2]
      exact st'
    have I1 : Inv X pins σ H { s with heap := h', toks := s.toks + 1 } := I.turned (fun b o hb e => (sb.2 b hb).trans e) f0 f1 f3 f4 f5
    refine ⟨_, rfl, go_of (s := { s with heap := h', toks := s.toks + 1 }) (n := "range_iterator") st2 rfl rfl (by decide) ⟨.int (lo + i), H, I1, ⟨s.toks, ?_⟩, ⟨rfl, rfl⟩, st2, fun b hb => (hf b hb).1⟩⟩
    rw [Int.mul_one]
  done := by
    intro X i pins s σ H E hP hw hK hh I hf st hg
    subst hP hw hK
    obtain ⟨f0, f1, f2, f3, f4, f5⟩ := hf it (by simp)
    obtain ⟨pp, hpp, hot, vs, v1, v2⟩ := hh
    exact _root_.HotX.pyNext_range_end_hot (x1 := pp.1) ⟨hot, pp.2, vs, (I.pin pp hpp).1, v1, v2⟩ st (by have : n ≤ i := hg; omega) fun h' eb => ⟨rfl, I.turned (t' := s.toks) (fun b o _ e => eb b o e) f0 f1 f3 f4 f5⟩
  self := fun _ _ _ _ _ st h => wpAny_pyIter_rangeiter st h
section
variable {X : Cx} {tg : Expr}
theorem range_itP {pins : List (Addr × Obj)} {σ : L2.St} {H : Hp} {s : Shared} {R : It → Hp → Prop} {E : Value → Shared → Prop} {lo hi : Int} {t u v : Tok} {tk : Nat} (I : Inv X pins σ H s) (h1 : -(2 ^ 62) ≤ lo) (h2 : lo < 2 ^ 62) (h3 : -(2 ^ 62) ≤ hi) (h4 : hi < 2 ^ 62)
    (q : R (Itr lo (hi - lo).toNat) H) : wpAny (model X.prog X.w) X.A (pyIter (.ref s.heap.objs.size)) (PIEP X pins σ tg R) E { s with heap := s.heap.push { cls := .type "range", data := .fields #[.int lo t, .int hi u, .int 1 v] }, toks := tk } := by
  refine wpAny_pyIter_range (IsRange.new ..) (small_one h1 h2 h3 h4) ?_
  have I1 : Inv X pins σ H { s with heap := s.heap.push { cls := .type "range", data := .fields #[.int lo t, .int hi u, .int 1 v] }, toks := tk } := I.kept fun b o e => Heap.get?_push_of_some _ e
  refine ⟨(s.heap.push { cls := .type "range", data := .fields #[.int lo t, .int hi u, .int 1 v] }).objs.size, [(s.heap.push { cls := .type "range", data := .fields #[.int lo t, .int hi u, .int 1 v] }).objs.size], _, _, H, rfl,
    I1.kept (t' := tk) fun b o e => Heap.get?_push_of_some _ e, turn_rangeP _ lo (hi - lo).toNat, ?_, fun b hb => ?_, q⟩
  · have e1 : lo + ((0 : Nat) : Int) * 1 = lo := by simp
    have e2 : (((hi - lo).toNat : Nat) : Int) - ((0 : Nat) : Int) = Builtin.Range.rangeSize lo hi 1 := by rw [rangeSize_one]; split <;> omega
    show IsRangeIter _ _ (lo + ((0 : Nat) : Int) * 1) ((((hi - lo).toNat : Nat) : Int) - ((0 : Nat) : Int)) 1
    rw [e1, e2]
    exact Heap.get?_push_size _ rfl
  · have e : b = (s.heap.push { cls := .type "range", data := .fields #[.int lo t, .int hi u, .int 1 v] }).objs.size := by simpa using hb
    subst e
    exact I1.fpOk (Nat.le_refl _) (I1.hok.fresh (Nat.le_refl _))
theorem pip_range1 {a : Expr} {ta : TA} {p pos : Pos} (hg : Gl X "range") (hm : X.mg "range" = none) (ha : PA X [a] ta) (hs : starEach [a] X.env = [(false, eval a X.env)] := by rfl) : PIP X tg (.Call (.Name "range" p) [a] [] pos) (iRng1 ta) := by
  refine ⟨fun pins s σ H R I h => ?_⟩
  refine Call_ (ld_blt I hg hm boot_range (PyProof.Rows.callWith_type1 (thn (ha.run pos pins s σ H _ I h) fun us s1 ⟨vs, H1, I1, r1, q1⟩ => ?_) hs rfl))
  obtain ⟨j, e, q1, q2, q⟩ := q1
  subst e
  cases r1 with
  | cons r rr =>
    cases rr
    obtain ⟨t, rfl⟩ := r
    exact call_range_1 (range_itP I1 (by omega) (by omega) q1 q2 (by simpa using q))
theorem pipd_rng1 {W : WX} {a : Expr} {ta : TAD} {p pos : Pos} (hg : Gl X "range") (hm : X.mg "range" = none) (ha : PAd X W [a] ta) (hs : starEach [a] X.env = [(false, eval a X.env)] := by rfl) : PIPd X W tg (.Call (.Name "range" p) [a] [] pos) (iRng1D ta) :=
  ⟨fun pins s σ H R' I hw => (pip_range1 hg hm ha hs).run pins s σ H R' I (by
    obtain ⟨Z, G, τ, x, q, S, R, h, c, cx⟩ := hw
    refine ⟨Z, G, τ, x, _, S, R, h, fun ds G1 H1 vs q1 s1 R1 r1 => ?_, cx⟩
    obtain ⟨d, v, rfl, rfl, r, q1⟩ := A1_e r1 q1
    obtain ⟨j, rfl, rfl, q1⟩ := I1_e r q1
    obtain ⟨⟨h1, h2⟩, q1⟩ := Sd_e q1
    exact ⟨j, rfl, h1, h2, c _ _ G1 H1 _ q1 s1 R1 itr_ok⟩)⟩
end
end N
namespace N
open PySem PySem.Spec PyProof.Rows L2
/-! ### comprehensions with two generators -/
@[irreducible] def LcF2 (F : FinL) (ds : List D) (stay : GH → Prop) (h : TGD) (tt : TTD) (wi1 : TID) (h1 : TGD) (tt1 : TTD) (te : TED) (vs vs1 : List Nat) (τ : SD) (G : GH) (q : QD) : Prop := ∃ P : Nat → List D → GH → Prop, P 0 [] G ∧ (∀ i acc G, i ≤ ds.length → P i acc G → stay G) ∧
  (∀ i d acc G, ds[i]? = some d → P i acc G → h d (wipeD τ vs) G fun τ2 _ => tt τ2 G X0 fun b G3 => Cond b (wi1 τ2 G3 X0 fun ds1 stay1 G4 => ∃ P1 : Nat → List D → GH → Prop, P1 0 acc G4 ∧ (∀ j acc G, j ≤ ds1.length → P1 j acc G → stay1 G) ∧
    (∀ j d acc G, ds1[j]? = some d → P1 j acc G → h1 d (wipeD τ2 vs1) G fun τ3 _ => tt1 τ3 G X0 fun b G6 => Cond b (te τ3 G6 X0 fun y G7 => acc.length < sizeLine ∧ P1 (j + 1) (acc ++ [y]) G7) (P1 (j + 1) acc G6)) ∧
    ∀ acc G, P1 ds1.length acc G → P (i + 1) acc G) (P (i + 1) acc G3)) ∧
  ∀ acc G, P ds.length acc G → F acc G q
theorem LcD2_i {F : FinL} {ds : List D} {stay : GH → Prop} {h : TGD} {tt : TTD} {wi1 : TID} {h1 : TGD} {tt1 : TTD} {te : TED} {vs vs1 : List Nat} {τ : SD} {G : GH} {q : QD} (P : Nat → List D → GH → Prop) (h0 : P 0 [] G) (hl : ∀ i acc G, i ≤ ds.length → P i acc G → stay G)
    (hs : ∀ i d acc G, ds[i]? = some d → P i acc G → h d (wipeD τ vs) G fun τ2 _ => tt τ2 G X0 fun b G3 => Cond b (wi1 τ2 G3 X0 fun ds1 stay1 G4 => ∃ P1 : Nat → List D → GH → Prop, P1 0 acc G4 ∧ (∀ j acc G, j ≤ ds1.length → P1 j acc G → stay1 G) ∧
      (∀ j d acc G, ds1[j]? = some d → P1 j acc G → h1 d (wipeD τ2 vs1) G fun τ3 _ => tt1 τ3 G X0 fun b G6 => Cond b (te τ3 G6 X0 fun y G7 => acc.length < sizeLine ∧ P1 (j + 1) (acc ++ [y]) G7) (P1 (j + 1) acc G6)) ∧
      ∀ acc G, P1 ds1.length acc G → P (i + 1) acc G) (P (i + 1) acc G3))
    (hd : ∀ acc G, P ds.length acc G → F acc G q) : LcF2 F ds stay h tt wi1 h1 tt1 te vs vs1 τ G q := by
  unfold LcF2
  exact ⟨P, h0, hl, hs, hd⟩
def gLcF2 (F : FinL) (wi : TID) (h : TGD) (tt : TTD) (wi1 : TID) (h1 : TGD) (tt1 : TTD) (te : TED) (vs vs1 : List Nat) : TED := fun τ G x q => wi τ G x fun ds stay G1 => LcF2 F ds stay h tt wi1 h1 tt1 te vs vs1 τ G1 q
abbrev gLc2 := gLcF2 NewL
abbrev gLc2M := gLcF2 NewM
theorem lf_lc2 {F : FinL} (hF : ∀ {ds G q}, F ds G q → NewL ds G q) {K : PySem.W.Frag} {W : WX} {wi wi1 : TID} {g g1 : TG} {h h1 : TGD} {tt tt1 : TTD} {te : TED} {vs vs1 : List Nat} (ex : GEx K vs g h) (ex1 : GEx K vs1 g1 h1) {σ : L2.St} {H : Hp} {Q : VK} (w : Lf K W (gLcF2 F wi h tt wi1 h1 tt1 te vs vs1) σ H Q) :
    tLc2 (LfI K W wi) g (LfT K W0 tt) (LfI K W0 wi1) g1 (LfT K W0 tt1) (Lf K W0 te) vs vs1 σ H Q := by
  obtain ⟨Z, G, τ, x, q, S, R, hw, c, cx⟩ := w
  refine ⟨Z, G, τ, x, _, S, R, hw, fun ds stay G1 H1 J q1 s1 R1 it => ?_, cx⟩
  unfold LcF2 at q1
  obtain ⟨P, h0, hl, hs, hd⟩ := q1
  intro D hD
  have c1 := c.step s1
  have S1 := S.mv (s1.mv R)
  have gD := R1.fresh hD
  have zD := R1.freshZ hD
  obtain ⟨Z1, hZ1⟩ : ∃ Z1 : ZS, Z1 = fun b => Z b ∨ b = D := ⟨_, rfl⟩
  have z1 : ∀ b, ¬ Z b → b ≠ D → ¬ Z1 b := fun b hz hb q => by
    rw [hZ1] at q
    exact q.elim hz hb
  have z1D : Z1 D := by rw [hZ1]; exact .inr rfl
  have z1Z : ∀ b, ¬ Z1 b → ¬ Z b := fun b hz q => hz (by rw [hZ1]; exact .inl q)
  have nD : ∀ b, ¬ Z1 b → b ≠ D := fun b hz q => hz (by rw [q]; exact z1D)
  have mvs : ∀ {G H}, Step G1 H1 G H → Mv Z Z1 G1 G H1 H := fun {G H} s => ⟨(s.mv R1).tups, (s.mv R1).frzs, fun b o e g z => ⟨(s b o e g).1, (s b o e g).2, z1 b z (ne_of_none e hD)⟩⟩
  have back : ∀ {G H}, Mv Z1 Z G G H H := fun {G H} => ⟨fun _ _ e => e, fun _ _ _ e => e, fun b o e g z => ⟨e, g, z1Z b z⟩⟩
  refine ⟨fun i m H => m = ds.length - i ∧ i ≤ ds.length ∧ ∃ G accD accV, Step G1 H1 G H ∧ Rel K Z1 G H ∧ H D = some (.lst accV) ∧ RlA K Z1 G H accD accV ∧ P i accD G, ⟨ds.length, by simp, Nat.zero_le _, G1, [], [], step_new R1 hD, ?_, upd_same, .nil, h0⟩, ?_⟩
  · refine ⟨fun a o e => ?_, fun z hz => ?_⟩
    · obtain ⟨za, ra⟩ := R1.ob a o e
      have na : a ≠ D := fun q => by rw [q, gD] at e; cases e
      exact ⟨z1 a za na, ra.mv (mvs (step_new R1 hD)) (upd_ne na)⟩
    · rw [hZ1] at hz
      by_cases hb : z = D
      · subst hb
        exact ⟨_, upd_same⟩
      · obtain ⟨o, e⟩ := R1.hid z (hz.resolve_right hb)
        exact ⟨o, by rw [upd_ne hb]; exact e⟩
  rintro i m H ⟨rfl, hi, G, accD, accV, s2, R2, hDl, rA, p⟩
  have outD : ∀ {G H}, Rel K Z1 G H → G D = none := fun {G H} R => by
    cases e : G D with
    | none => rfl
    | some o => exact absurd z1D (R.ob D o e).1
  by_cases hlt : i < ds.length
  · refine .inr ⟨it.go Z1 i G H hlt (mvs s2) R2 (hl i accD G hi p), fun H' => ∃ G' accD' accV', Step G1 H1 G' H' ∧ Rel K Z1 G' H' ∧ H' D = some (.lst accV') ∧ RlA K Z1 G' H' accD' accV' ∧ P (i + 1) accD' G',
      fun H' z => ⟨ds.length - (i + 1), by omega, rfl, hlt, z⟩, fun x H' y => ?_⟩
    obtain ⟨d, hd', s3, R3, rd⟩ := it.yld Z1 i G H x H' hlt (mvs s2) R2 (hl i accD G hi p) y
    have s23 := s2.trans s3
    refine ex Z1 G H' (wipeD τ vs) (wipe σ vs) d x _ _ (StR.wipe (S1.mv (mvs s23)) vs) R3 rd (hs i d accD G hd' p) fun τ2 σ2 q2 S2 ew => ?_
    refine ⟨ew.trans wipe_wipe, ?_⟩
    refine ⟨Z1, G, τ2, X0, _, S2, R3, q2, fun b G4 H4 q4 s4 R4 => ?_, fun _ _ _ _ _ _ z => z.elim⟩
    have q4 := Cond_e q4
    have s34 := s3.trans s4
    have s24 := s23.trans s4
    have hD4 := s34 D _ hDl (outD R2)
    have rA4 := rA.mv (s34.mv R2)
    have S4 := S2.mv (s4.mv R3)
    cases b with
    | true =>
      refine ⟨Z1, G4, τ2, X0, _, S4, R4, q4, fun ds1 stay1 G5 H5 J1 q5 s5 R5 it1 => ?_, fun _ _ _ _ _ _ z => z.elim⟩
      obtain ⟨P1, h10, hl1, hs1, hd1⟩ := q5
      have hD5 := s5 D _ hD4.1 hD4.2
      have rA5 := rA4.mv (s5.mv R4)
      have S5 := S4.mv (s5.mv R4)
      have s25 := s24.trans s5
      refine ⟨fun j k H => k = ds1.length - j ∧ j ≤ ds1.length ∧ ∃ G accD accV, Mv Z1 Z1 G5 G H5 H ∧ Step G1 H1 G H ∧ Rel K Z1 G H ∧ H D = some (.lst accV) ∧ RlA K Z1 G H accD accV ∧ P1 j accD G,
        ⟨ds1.length, by simp, Nat.zero_le _, G5, accD, accV, ⟨fun _ _ e => e, fun _ _ _ e => e, fun b o e g z => ⟨e, g, z⟩⟩, s25, R5, hD5.1, rA5, h10⟩, ?_⟩
      rintro j k H ⟨rfl, hj, G6, aD, aV, m6, s6, R6, hD6, rA6, p6⟩
      by_cases hlj : j < ds1.length
      · refine .inr ⟨it1.go Z1 j G6 H hlj m6 R6 (hl1 j aD G6 hj p6), fun H' => ∃ G' accD' accV', Mv Z1 Z1 G5 G' H5 H' ∧ Step G1 H1 G' H' ∧ Rel K Z1 G' H' ∧ H' D = some (.lst accV') ∧ RlA K Z1 G' H' accD' accV' ∧ P1 (j + 1) accD' G',
          fun H' z => ⟨ds1.length - (j + 1), by omega, rfl, hlj, z⟩, fun x H' y => ?_⟩
        obtain ⟨d1, hd1', s7, R7, rd1⟩ := it1.yld Z1 j G6 H x H' hlj m6 R6 (hl1 j aD G6 hj p6) y
        have m7 := m6.trans (s7.mv R6)
        refine ex1 Z1 G6 H' (wipeD τ2 vs1) (wipe σ2 vs1) d1 x _ _ (StR.wipe (S5.mv m7) vs1) R7 rd1 (hs1 j d1 aD G6 hd1' p6) fun τ3 σ3 q8 S8 ew8 => ?_
        refine ⟨ew8.trans wipe_wipe, ?_⟩
        refine ⟨Z1, G6, τ3, X0, _, S8, R7, q8, fun b G9 H9 q9 s9 R9 => ?_, fun _ _ _ _ _ _ z => z.elim⟩
        have q9 := Cond_e q9
        have s79 := s7.trans s9
        have m9 := m6.trans (s79.mv R6)
        have s69 := s6.trans s79
        have hD9 := s79 D _ hD6 (outD R6)
        have rA9 := rA6.mv (s79.mv R6)
        cases b with
        | true =>
          refine ⟨Z1, G9, τ3, X0, _, S8.mv (s9.mv R7), R9, q9, fun y' Ga Ha w qa sa Ra ra => ?_, fun _ _ _ _ _ _ z => z.elim⟩
          have hDa := sa D _ hD9.1 hD9.2
          have rAa := (rA9.mv (sa.mv R9)).append (.cons ra .nil)
          have mb : Mv Z1 Z1 Ga Ga Ha (upd Ha D (.lst (aV ++ [w]))) := ⟨fun b xs e => by rw [upd_ne (ne_of e hDa.1 (by intro z; cases z))]; exact e, fun b ob u e => by rw [upd_ne (ne_of e hDa.1 (by intro z; cases z))]; exact e,
            fun b o e g z => ⟨by rw [upd_ne (nD b z)]; exact e, g, z⟩⟩
          refine ⟨aV, hDa.1, by rw [← rA6.length]; exact qa.1, Ga, _, _, (m9.trans (sa.mv R9)).trans mb, fun b o e g => ?_, ⟨fun a o e => ?_, fun z hz => ?_⟩, upd_same, rAa.mv mb, qa.2⟩
          · have e5 := (s69.trans sa) b o e g
            rw [upd_ne (ne_of_none e hD)]
            exact e5
          · obtain ⟨za, ra⟩ := Ra.ob a o e
            exact ⟨za, ra.mv mb (upd_ne (nD a za))⟩
          · by_cases hb : z = D
            · subst hb
              exact ⟨_, upd_same⟩
            · obtain ⟨o, e⟩ := Ra.hid z hz
              exact ⟨o, by rw [upd_ne hb]; exact e⟩
        | false => exact ⟨G9, aD, aV, m9, s69, R9, hD9.1, rA9, q9⟩
      · have e : j = ds1.length := by omega
        subst e
        exact .inl ⟨it1.stop Z1 G6 H m6 R6 (hl1 _ aD G6 hj p6), G6, aD, aV, s6, R6, hD6, rA6, hd1 aD G6 p6⟩
    | false => exact ⟨G4, accD, accV, s24, R4, hD4.1, rA4, q4⟩
  · have e : i = ds.length := by omega
    subst e
    refine .inl ⟨it.stop Z1 G H (mvs s2) R2 (hl _ accD G hi p), ?_⟩
    have rZ : Rel K Z G H := ⟨fun a o e => ⟨z1Z a (R2.ob a o e).1, (R2.ob a o e).2.mv back rfl⟩, fun z hz => R2.hid z (by rw [hZ1]; exact .inl hz)⟩
    rcases NewL_e (hF (hd accD G p)) with n | n
    · exact c1 _ _ _ _ n s2 rZ (.lst hDl (outD R2) zD (rA.mv back))
    · have mg : Mv Z1 Z G (gup G D (.lst accD)) H H := ⟨fun _ _ e => e, fun _ _ _ e => e, fun b o e g z => ⟨e, by rw [gup_ne (nD b z)]; exact g, z1Z b z⟩⟩
      refine c1 _ _ _ _ (n D (outD R2)) (fun b o e g => ?_) ⟨fun a o e => ?_, rZ.hid⟩ (.ref D)
      · rw [gup_ne (ne_of_none e hD)]
        exact s2 b o e g
      · by_cases na : a = D
        · subst na
          rw [gup_same] at e
          cases e
          exact ⟨zD, accV, hDl, rA.mv mg⟩
        · rw [gup_ne na] at e
          obtain ⟨za, ra⟩ := R2.ob a o e
          exact ⟨z1Z a za, ra.mv mg rfl⟩
section
variable {X : Cx} {W : WX} {elt tg iter tg1 iter1 : Expr} {ifs ifs1 : List Expr} {scope : Scope} {own : List (Str × Nat)} {vs1 : List Nat} {pos spos : Pos} {wi wi1 : TID} {g g1 : TG} {h h1 : TGD} {tt tt1 : TTD} {te : TED}
theorem pd_lc2F {F : FinL} (hF : ∀ {ds G q}, F ds G q → NewL ds G q) (hc : X.calm = true) (hN : X.N.Nodup) (hi : PId X W tg iter wi) (ok : BlkOk X.N X.env.scope scope own) (hv : ∀ i ∈ vs1, i ∈ own.map (·.2))
    (hg : ∀ (s : Shared) (H : Hp) (C : Addr) (cl : List (Str × Addr)) (fp : List Addr), PG (X.blk s H scope (compEnvC scope cl C X.env) fp) tg g) (ex : GEx X.K (own.map (·.2)) g h)
    (ht : ∀ (s : Shared) (H : Hp) (C : Addr) (cl : List (Str × Addr)) (fp : List Addr), PTsd (X.blk s H scope (compEnvC scope cl C X.env) fp) ifs tt)
    (hi1 : ∀ (s : Shared) (H : Hp) (C : Addr) (cl : List (Str × Addr)) (fp : List Addr), PId (X.blk s H scope (compEnvC scope cl C X.env) fp) W0 tg1 iter1 wi1)
    (hg1 : ∀ (s : Shared) (H : Hp) (C : Addr) (cl : List (Str × Addr)) (fp : List Addr), PG (X.blk s H scope (compEnvC scope cl C X.env) fp) tg1 g1) (ex1 : GEx X.K vs1 g1 h1)
    (ht1 : ∀ (s : Shared) (H : Hp) (C : Addr) (cl : List (Str × Addr)) (fp : List Addr), PTsd (X.blk s H scope (compEnvC scope cl C X.env) fp) ifs1 tt1)
    (he : ∀ (s : Shared) (H : Hp) (C : Addr) (cl : List (Str × Addr)) (fp : List Addr), PEd (X.blk s H scope (compEnvC scope cl C X.env) fp) W0 elt te) (hs : ∀ x, foldedSetIterable iter X.env x = pure x := by intro _; rfl) (hs1 : ∀ env x, foldedSetIterable iter1 env x = pure x := by intro _ _; rfl) :
    PEd X W (.ListComp elt [⟨tg, iter, ifs, 0⟩, ⟨tg1, iter1, ifs1, 0⟩] scope pos) (gLcF2 F wi h tt wi1 h1 tt1 te (own.map (·.2)) vs1) :=
  PEi (pe_lc2 hc hN hi ok hv hg (fun s H C cl fp => (ht s H C cl fp).h) hi1 hg1 (fun s H C cl fp => (ht1 s H C cl fp).h) he hs hs1) fun _ _ _ w => lf_lc2 hF ex ex1 w
theorem psd_lc2F {F : FinL} (hF : ∀ {ds G q}, F ds G q → NewL ds G q) {i : Nat} {y : Str} {py : Pos} (hc : X.calm = true) (hN : X.N.Nodup) (hy : X.N[i]? = some y) (hyl : X.env.scope.names.lookup y = some .local)
    (hsw : swapsWith (.ListComp elt [⟨tg, iter, ifs, 0⟩, ⟨tg1, iter1, ifs1, 0⟩] scope pos) (some (.Name y py)) spos.line X.env = pure true) (hi : PId X W tg iter wi) (ok : BlkOk X.N X.env.scope scope own) (hv : ∀ i ∈ vs1, i ∈ own.map (·.2))
    (hg : ∀ (s : Shared) (H : Hp) (C : Addr) (cl : List (Str × Addr)) (fp : List Addr), PG (X.blk s H scope (compEnvC scope cl C X.env) fp) tg g) (ex : GEx X.K (own.map (·.2)) g h)
    (ht : ∀ (s : Shared) (H : Hp) (C : Addr) (cl : List (Str × Addr)) (fp : List Addr), PTsd (X.blk s H scope (compEnvC scope cl C X.env) fp) ifs tt)
    (hi1 : ∀ (s : Shared) (H : Hp) (C : Addr) (cl : List (Str × Addr)) (fp : List Addr), PId (X.blk s H scope (compEnvC scope cl C X.env) fp) W0 tg1 iter1 wi1)
    (hg1 : ∀ (s : Shared) (H : Hp) (C : Addr) (cl : List (Str × Addr)) (fp : List Addr), PG (X.blk s H scope (compEnvC scope cl C X.env) fp) tg1 g1) (ex1 : GEx X.K vs1 g1 h1)
    (ht1 : ∀ (s : Shared) (H : Hp) (C : Addr) (cl : List (Str × Addr)) (fp : List Addr), PTsd (X.blk s H scope (compEnvC scope cl C X.env) fp) ifs1 tt1)
    (he : ∀ (s : Shared) (H : Hp) (C : Addr) (cl : List (Str × Addr)) (fp : List Addr), PEd (X.blk s H scope (compEnvC scope cl C X.env) fp) W0 elt te) (hs : ∀ x, foldedSetIterable iter X.env x = pure x := by intro _; rfl) (hs1 : ∀ env x, foldedSetIterable iter1 env x = pure x := by intro _ _; rfl) :
    PSd X W (.Assign [.Name y py] (.ListComp elt [⟨tg, iter, ifs, 0⟩, ⟨tg1, iter1, ifs1, 0⟩] scope pos) spos) (gAsg (gLcF2 F wi h tt wi1 h1 tt1 te (own.map (·.2)) vs1) (hName i)) :=
  PSi (ps_setLc2 hc hN hy hyl hsw hi ok hv hg (fun s H C cl fp => (ht s H C cl fp).h) hi1 hg1 (fun s H C cl fp => (ht1 s H C cl fp).h) he hs hs1) fun D σ H => by
    rintro ⟨Z, G, τ, e, S, R, h, c⟩
    refine lf_lc2 hF ex ex1 ⟨Z, G, τ, _, _, S, R, h, fun d G1 H1 v q1 s1 R1 r1 => ?_, c.ex.x R S⟩
    exact c.nx _ G1 H1 _ q1 s1 R1 ((S.mv (s1.mv R)).set i r1)
end
end N
namespace N
open PySem PySem.Spec PyProof.Rows L2
/-! ### isinstance(x, C) for an own class, x == y by an own __eq__ -/
structure OwnC (K : PySem.W.Frag) (C : Addr) : Prop where
  cl : Cls K C
  ca : PySem.W.findIn K (.ref C) "__class__" = some (some (.builtin "object.__class__"))
  cn : PySem.W.specialIn K (.builtin "object.__class__") "__get__" = some (some (.builtin "getset_descriptor.__get__"))
  ct : PySem.W.takesIn K (.builtin "object.__class__") = some true
  cm : PySem.W.mroIn K C (.type "object") = some true
  self : PySem.W.kitOne K (.ref C) (.ref C) = some true
  no : ∀ t : Option Ty, PySem.W.kitOne K (.type (onm t)) (.ref C) = some false
  nf : ∀ t : Option Ty, PySem.W.notFirst K C (.type (onm t)) = true
def ownB (K : PySem.W.Frag) (C : Addr) : Bool :=
  He.eqO (PySem.W.findIn K (.ref C) "__class__") (some (some (.builtin "object.__class__"))) && (He.eqO (PySem.W.specialIn K (.builtin "object.__class__") "__get__") (some (some (.builtin "getset_descriptor.__get__"))) &&
  (decide (PySem.W.takesIn K (.builtin "object.__class__") = some true) && (decide (PySem.W.mroIn K C (.type "object") = some true) && (decide (PySem.W.kitOne K (.ref C) (.ref C) = some true) &&
  ([none, some Ty.bl, some .int, some .str, some .tup, some .lst].all fun t => decide (PySem.W.kitOne K (.type (onm t)) (.ref C) = some false) && PySem.W.notFirst K C (.type (onm t)))))))
abbrev kOwn (x : Str) : Ck := fun K => (He.Fa.cls x).ok K && ownB K (He.ga K x)
theorem own_ok {K : PySem.W.Frag} {x : Str} (c : kOwn x K = true) : OwnC K (He.ga K x) := by
  obtain ⟨c0, c⟩ := He.ba c
  obtain ⟨c1, c⟩ := He.ba c
  obtain ⟨c2, c⟩ := He.ba c
  obtain ⟨c3, c⟩ := He.ba c
  obtain ⟨c4, c⟩ := He.ba c
  obtain ⟨c5, c6⟩ := He.ba c
  have all : ∀ t : Option Ty, t ∈ [none, some Ty.bl, some .int, some .str, some .tup, some .lst] := by
    intro t
    cases t with
    | none => simp
    | some t => cases t <;> simp
  exact ⟨He.cls_ok c0, He.eqO_ok c1, He.eqO_ok c2, of_decide_eq_true c3, of_decide_eq_true c4, of_decide_eq_true c5,
    fun t => of_decide_eq_true (He.ba (List.all_eq_true.mp c6 t (all t))).1, fun t => (He.ba (List.all_eq_true.mp c6 t (all t))).2⟩
/-- whether the value is of the own class at C -/
def OwnTy (C : Addr) (d : D) (G : GH) (k : Bool → Prop) : Prop := match d with
  | .obj C' _ _ => C' = C ∧ k true
  | d => TyD d G fun _ => k false
theorem ownTy_e {K : PySem.W.Frag} {C : Addr} {Z : ZS} {G : GH} {H : Hp} {d : D} {v : V} {k : Bool → Prop} (o : OwnC K C) (R : Rel K Z G H) (r : Rl K Z G H d v) (h : OwnTy C d G k) : ∃ t b, TyX K H v t ∧ PySem.W.kitOne K t (.ref C) = some b ∧ PySem.W.notFirst K C t = true ∧ k b := by
  cases d with
  | obj C' ks ds =>
    obtain ⟨rfl, h⟩ := h
    cases r with
    | obj hx _ _ _ _ => exact ⟨_, true, .base (.ins hx o.cl o.ca o.cn o.ct o.cm), o.self, by simp [PySem.W.notFirst], h⟩
  | _ =>
    obtain ⟨t, ht, hk⟩ := tyD_e (k := fun _ => k false) R r h
    exact ⟨_, false, ht, o.no t, o.nf t, hk⟩
def gIsO (C : Addr) (te : TED) : TED := fun τ G x q => te τ G x fun d G1 => OwnTy C d G1 fun b => q (.bl b) G1
section
variable {X : Cx} {W : WX} {k : Nat} {f C : Addr} {fd : FuncData} {ps : List Str} {sp : SpD} {spV : Sp} {a b e c2 : Expr} {te ta tb : TED} {p pos : Pos}
theorem pd_isO (o : OwnC X.K C) (hm : X.mg "isinstance" = none) (hg : Gl X "isinstance") (he : PEd X W e te) (hc : PE X c2 (tC (.ref C)))
    (hs : starEach [e, c2] X.env = (false, eval e X.env) :: starEach [c2] X.env := by rfl) (hs2 : starEach [c2] X.env = (false, eval c2 X.env) :: starEach [] X.env := by rfl)
    (hpl : (backTo pos (starEach [c2] X.env)).any (·.1) = false := by rfl) : PEd X W (.Call (.Name "isinstance" p) [e, c2] [] pos) (gIsO C te) :=
  PEi (pe_callB call_isi hg hm (by decide +kernel) (pa_cons he (pa_cons hc pa_nil hs2) hs) (by decide) (by decide) hs hpl) fun σ H Q => by
    rintro ⟨Z, G, τ, x, q, S, R, h, c, cx⟩
    refine ⟨Z, G, τ, x, _, S, R, h, fun d G1 H1 v q1 s1 R1 r1 => ?_, cx⟩
    obtain ⟨t, b, ht, hk, _, q1⟩ := ownTy_e o R1 r1 q1
    exact ⟨v, .ref C, _, _, _, rfl, .own _, ht, hk, c _ _ _ _ q1 s1 R1 (.bl _)⟩
def rEqO (K : PySem.W.Frag) (C : Addr) (sp : Sp) : R2 := fun x y H Q => ∃ a dx fs t, x = .ref a ∧ H a = some (.ins C dx fs) ∧ TyX K H y t ∧ PySem.W.notFirst K C t = true ∧ sp [x, y] H Q E0
theorem op_eqO (c : Meth X.K C "__eq__" f) (F : FnOk X.prog X.w X.K X.mg X.base (L2N.CX X.prog X.w) k f fd ps spV) (hr : Room k X.A) (hb : Binds X.K fd ps []) : OpR X (compareOp .Eq) (rEqO X.K C spV) := by
  intro pins s σ H x y v u Q I rx ry h
  obtain ⟨a, dx, fs, t, rfl, ea, ty, hn, q⟩ := h
  cases (show v = Value.ref a from rx)
  obtain ⟨mA, J, _⟩ := ins_get I.hok ea
  obtain ⟨od, J, _⟩ := J.look
  obtain ⟨m, hF⟩ := I.fr
  obtain ⟨P, kx, hp, _⟩ := kit_of I ry ty
  refine PySem.W.cmp_K (op := .Eq) (tb := t) hr.units0 hF I.ok.mod.kin J (kx.ty _ _ I.kIn hp) hn c.at_ c.fn ?_
  have hl := F.len _ _ _ _ q
  refine wpAny_call (codeAny_mono (F.run X.A X.stack s H ⟨[.ref a, u], []⟩ [.ref a, u] [.ref a, y] Q E0 hr I.env0 (by
    have := hb s [.ref a, u] I.kIn (by simpa using hl)
    simpa using this) (.cons rfl (.cons ry .nil)) q) fun r s' hq => ?_)
  cases r with
  | error e => exact (cx_none hq).elim
  | ok fl =>
    cases fl with
    | ret w =>
      obtain ⟨z, H', I', rz, ez⟩ := I.after hq
      exact SlX.cmpback rz ⟨z, H', I', rz, ez⟩
    | next => exact False.elim hq
    | brk => exact False.elim hq
    | cont => exact False.elim hq
def nEqO (C : Addr) (sp : SpD) : R2D := fun x y G q => Sd (IsIns C x G fun _ _ => True) (OwnTy C y G fun _ => Call sp [x, y] G q X0)
theorem ok_eqO {K : PySem.W.Frag} (o : OwnC K C) : R2Ok K (rEqO K C (liftSp K sp)) (nEqO C sp) := by
  intro Z G H x y v u q Q R rx ry h c
  obtain ⟨i1, h⟩ := Sd_e h
  obtain ⟨a, dx, ks, ds, xs, rfl, hx, hl, rx', _⟩ := isIns_e R rx i1
  obtain ⟨t, b, ht, hk, hn, h⟩ := ownTy_e o R ry h
  exact ⟨a, dx, _, t, rfl, hx, ht, hn, lift_ok (σ := []) R (.cons rx (.cons ry .nil)) h c fun _ _ _ _ _ _ z => z.elim⟩
theorem pd_eqO (o : OwnC X.K C) (c : Meth X.K C "__eq__" f) (F : FgX X k f sp []) (hr : Room k X.A) (ha : PEd X W a ta) (hb : PEd X W b tb) : PEd X W (.Compare a [.Eq] [b] pos) (gOp (nEqO C sp) ta tb) := by
  obtain ⟨fd, ps, dvs, dfl, ok, hk, hv, hbn, hd⟩ := F.ex
  cases dvs with
  | nil =>
    cases hv
    exact pd_cmp (op_eqO c ok hr hbn) (ok_eqO o) ha hb (nomark _)
  | cons v vs => exact hd.elim
theorem pt_eqO (o : OwnC X.K C) (c : Meth X.K C "__eq__" f) (F : FgX X k f sp []) (hr : Room k X.A) (ha : PEd X W a ta) (hb : PEd X W b tb) : PTd X W (.Compare a [.Eq] [b] pos) (gTst (gOp (nEqO C sp) ta tb)) := by
  obtain ⟨fd, ps, dvs, dfl, ok, hk, hv, hbn, hd⟩ := F.ex
  cases dvs with
  | nil =>
    cases hv
    exact pd_cmpT (op_eqO c ok hr hbn) (ok_eqO o) ha hb (nomark _)
  | cons v vs => exact hd.elim
end
end N
namespace N
open PySem PySem.Spec PyProof.Rows L2
/-! ### C(..), C(.., k = v, ..) that may raise -/
section
variable {X : Cx} {W : WX} {CX : CXT} {b : Bool} {k n : Nat} {f C : Addr} {fd : FuncData} {ps ks : List Str} {sp : SpD} {spV : Sp} {E : L2.St → XK} {x : Str} {p pos : Pos} {e : Expr} {es : List Expr} {kws : List Keyword} {ta tk : TAD} {g : List Value → List Value → List Value} {gV : List V → List V → List V}
theorem run_makeU {pins : List (Addr × Obj)} {σ : L2.St} {H : Hp} {s : Shared} {Q : VK} {us ws : List Value} {vs zs : List V} (M : Mk X.K C f) (F : FnOk X.prog X.w X.K X.mg X.base CX k f fd ps spV) (hr : Room (k + 1) X.A) (hb : KBn X.K fd ps (n + 1) ks g gV) (hx : PassesAt CX X σ (E σ))
    (I : L2.Inv X pins σ H s) (r : Vals vs us) (rz : Vals zs ws) (l1 : vs.length = n) (l2 : zs.length = ks.length)
    (h : ∀ x dx, H x = none → H dx = none → dx ≠ x → spV (gV (.ref x :: vs) zs) (upd (upd H dx (.own x)) x (.ins C dx [])) (fun v H2 => v = .non ∧ Q (.ref x) H2) (E σ)) :
    wpAny (model X.prog X.w) X.A (call (.ref C) us (ks.zip ws)) (EP X pins σ Q) X.xe s := by
  have hq := h (s.heap.objs.size + 1) s.heap.objs.size (I.hok.fresh (Nat.le_succ _)) (I.hok.fresh (Nat.le_refl _)) (Nat.ne_of_lt (Nat.lt_succ_self _))
  have I2 := Inv.made (C := C) I
  have r1 : Vals (V.ref (s.heap.objs.size + 1) :: vs) (Value.ref (s.heap.objs.size + 1) :: us) := .cons rfl r
  have r2 := hb.rel r1 rz
  have n1 : (Value.ref (s.heap.objs.size + 1) :: us).length = n + 1 := by
    rw [List.length_cons, ← r.length, l1]
  refine wpAny_call (make_map (f := f) I.kIn M.makes M.init (beq_iff_eq.mp M.fn) (codeAny_mono (F.run _ X.stack _ _ ⟨Value.ref (s.heap.objs.size + 1) :: us, ks.zip ws⟩ (g (Value.ref (s.heap.objs.size + 1) :: us) ws) _ _ (E σ) (hr.make C us (ks.zip ws))
    (I2.env0.make C us (ks.zip ws)) (hb.to _ (Value.ref (s.heap.objs.size + 1) :: us) ws I2.kIn n1 (rz.length.symm.trans l2)) r2 hq) fun r s' hq' => ?_))
  cases r with
  | error e => exact hx pins _ _ e s' I2 hq'
  | ok fl =>
    cases fl with
    | ret u =>
      obtain ⟨v, H', I3, rv, ev, q3⟩ := I2.after hq'
      subst ev
      exact ⟨rv, ⟨V.ref (s.heap.objs.size + 1), H', I3, rfl, q3⟩⟩
    | next => exact False.elim hq'
    | brk => exact False.elim hq'
    | cont => exact False.elim hq'
/-- by values -/
def tMakeU (C : Addr) (n m : Nat) (sp : Sp) (gV : List V → List V → List V) (E : L2.St → XK) (t tk : TA) : TE := fun σ H Q => t σ H fun vs H1 => tk σ H1 fun zs H2 => vs.length = n ∧ zs.length = m ∧ ∀ x dx, H2 x = none → H2 dx = none → dx ≠ x →
  sp (gV (.ref x :: vs) zs) (upd (upd H2 dx (.own x)) x (.ins C dx [])) (fun v H3 => v = .non ∧ Q (.ref x) H3) (E σ)
theorem pe_makeUK0 {tkV : TA} (M : Mk X.K C f) (F : FnOk X.prog X.w X.K X.mg X.base CX k f fd ps spV) (hr : Room (k + 1) X.A) (hg : Gl X x) (hm : X.mg x = some (.ref C)) (hb : KBn X.K fd ps 1 ks g gV) (hx : ∀ σ, PassesAt CX X σ (E σ)) (hkw : PK X kws tkV)
    (hall : (backToKw pos (keywordEach kws X.env)).all (·.1.isSome) = true := by rfl) (hks : (backToKw pos (keywordEach kws X.env)).filterMap (·.1) = ks := by rfl) (hdb : (x == ("__debug__" : Str)) = false := by decide)
    (hpl : ((backTo pos (starEach [] X.env)).any (·.1) || (backToKw pos (keywordEach kws X.env)).any (·.1.isNone)) = false := by rfl) :
    PE X (.Call (.Name x p) [] kws pos) (tMakeU C 0 ks.length spV gV E tNil tkV) := by
  refine ⟨fun pins s σ H Q I h => ?_⟩
  refine wpAny_Call_Name_kw (ld_glob I hg hm ?_ hdb)
  refine PySem.W.callWith_KW0 (h₀ := X.base) I.ok.mod.kin M.kp hall ?_ hpl
  refine thn (hkw.run pos pins s σ H _ I h) fun ws s2 ⟨zs, H2, I2, rz, l1, l2, q2⟩ => ⟨I2.kIn, ?_⟩
  rw [hks]
  exact run_makeU (us := []) (vs := []) M F hr hb (hx σ) I2 .nil rz rfl l2 q2
theorem pe_makeUKN {taV tkV : TA} (M : Mk X.K C f) (F : FnOk X.prog X.w X.K X.mg X.base CX k f fd ps spV) (hr : Room (k + 1) X.A) (hg : Gl X x) (hm : X.mg x = some (.ref C)) (hb : KBn X.K fd ps (n + 1) ks g gV) (hx : ∀ σ, PassesAt CX X σ (E σ)) (ha : PA X (e :: es) taV) (hkw : PK X kws tkV)
    (hall : (backToKw pos (keywordEach kws X.env)).all (·.1.isSome) = true := by rfl) (hks : (backToKw pos (keywordEach kws X.env)).filterMap (·.1) = ks := by rfl) (hdb : (x == ("__debug__" : Str)) = false := by decide)
    (he : starEach (e :: es) X.env = (false, eval e X.env) :: starEach es X.env := by rfl) (hpl : ((backTo pos (starEach (e :: es) X.env)).any (·.1) || (backToKw pos (keywordEach kws X.env)).any (·.1.isNone)) = false := by rfl) :
    PE X (.Call (.Name x p) (e :: es) kws pos) (tMakeU C n ks.length spV gV E taV tkV) := by
  refine ⟨fun pins s σ H Q I h => ?_⟩
  refine wpAny_Call_Name_kw (ld_glob I hg hm ?_ hdb)
  refine PySem.W.callWith_KW (h₀ := X.base) I.ok.mod.kin M.kp hall (thn (ha.run pos pins s σ H _ I h) fun us s1 ⟨vs, H1, I1, r, q⟩ => ?_) hpl he
  refine thn (hkw.run pos pins s1 σ H1 _ I1 q) fun ws s2 ⟨zs, H2, I2, rz, l1, l2, q2⟩ => ⟨I2.kIn, ?_⟩
  rw [hks]
  exact run_makeU M F hr hb (hx σ) I2 r rz l1 l2 q2
/-- at the level of plain data -/
def gMakeB (b : Bool) (C : Addr) (sp : SpD) (n j : Nat) (idx : List Nat) (ta tk : TAD) : TED := fun τ G x q => ta τ G x fun ds G1 => tk τ G1 x fun es G2 => Sd (ds.length = n ∧ es.length = j) (∀ p, G2 p = none →
  Call sp (pk idx (.ref p :: ds ++ es)) (gup G2 p (.ins C [] [])) (fun d G3 => d = .non ∧ Ret (.ref p) G3 q) (xB b x))
theorem newB_ok {K : PySem.W.Frag} {Z : ZS} {G : GH} {H : Hp} {ds es : List D} {vs zs : List V} {q : QD} {Q : VK} {idx : List Nat} {x : XD} {σ : L2.St} (R : Rel K Z G H) (r : RlA K Z G H ds vs) (r2 : RlA K Z G H es zs) (h : ∀ p, G p = none →
    Call sp (pk idx (.ref p :: ds ++ es)) (gup G p (.ins C [] [])) (fun d G3 => d = .non ∧ Ret (.ref p) G3 q) (xB b x)) (c : ClE K Z G H q Q) (cx : ClX K Z G H x W σ) (y dx : Addr) (hy : H y = none) (hdx : H dx = none) (ne : dx ≠ y) :
    liftSp K sp (pk idx (.ref y :: vs ++ zs)) (upd (upd H dx (.own y)) y (.ins C dx [])) (fun v H2 => v = .non ∧ Q (.ref y) H2) (EwB b W σ) := by
  have h1 := h y (R.fresh hy)
  have sA := step_new (u := .own y) R hdx
  have RA := rel_new (u := .own y) R hdx
  have hy' : upd H dx (.own y) y = none := by rw [upd_ne (Ne.symm ne)]; exact hy
  have sB := step_newG (u := .ins C dx []) (o := .ins C [] []) RA hy'
  have RB := rel_newG (u := .ins C dx []) (o := .ins C [] []) RA hy' ⟨dx, [], upd_same, rfl, .nil⟩
  have sAB := sA.trans sB
  refine lift_ok (σ := σ) RB (rla_pk ((RlA.cons (.ref y) (r.mv (sAB.mv R))).append (r2.mv (sAB.mv R))) idx) h1 (fun d G' H' v hq s' R' r' => ?_) (clB (cx.step sAB))
  obtain ⟨rfl, hq⟩ := hq
  cases r'
  exact ⟨rfl, ret_ok R' (.ref y) hq (c.step (sAB.trans s'))⟩
theorem lf_makeB {K : PySem.W.Frag} {idx : List Nat} {j : Nat} {σ : L2.St} {H : Hp} {Q : VK} (w : Lf K W (gMakeB b C sp n j idx ta tk) σ H Q) : tMakeU C n j (liftSp K sp) (fun vs zs => pk idx (vs ++ zs)) (EwB b W) (LfA K W ta) (LfA K W tk) σ H Q := by
  obtain ⟨Z, G, τ, x, q, S, R, hw, cl, cx⟩ := w
  refine ⟨Z, G, τ, x, _, S, R, hw, fun ds G1 H1 vs q1 s1 R1 r1 => ?_, cx⟩
  refine ⟨Z, G1, τ, x, _, S.mv (s1.mv R), R1, q1, fun es G2 H2 zs q2 s2 R2 r2 => ?_, cx.step s1⟩
  obtain ⟨⟨l1, l2⟩, q2⟩ := Sd_e q2
  refine ⟨by rw [← r1.length]; exact l1, by rw [← r2.length]; exact l2, fun y dx hy hdx ne => ?_⟩
  exact newB_ok R2 (r1.mv (s2.mv R1)) r2 q2 (cl.step (s1.trans s2)) (cx.step (s1.trans s2)) y dx hy hdx ne
theorem pd_mkB0 {idx : List Nat} (b : Bool) (tk_ : b = true → L2N.Takes X W) (M : Mk X.K C f) (F : Fk X.prog X.w X.K X.mg X.base k f sp 1 ks idx) (hr : Room (k + 1) X.A) (hg : Gl X x) (hm : X.mg x = some (.ref C)) (hkw : PKd X W kws tk)
    (hall : (backToKw pos (keywordEach kws X.env)).all (·.1.isSome) = true := by rfl) (hks : (backToKw pos (keywordEach kws X.env)).filterMap (·.1) = ks := by rfl) (hdb : (x == ("__debug__" : Str)) = false := by decide)
    (hpl : ((backTo pos (starEach [] X.env)).any (·.1) || (backToKw pos (keywordEach kws X.env)).any (·.1.isNone)) = false := by rfl) :
    PEd X W (.Call (.Name x p) [] kws pos) (gMakeB b C sp 0 ks.length idx gNil tk) := by
  obtain ⟨fd, ps, ok, hk, hb⟩ := F.ex
  refine PEi (pe_makeUK0 M ok hr hg hm hb (passB tk_) hkw hall hks hdb hpl) fun σ H Q w => ?_
  have w := lf_makeB w
  unfold tMakeU at w ⊢
  obtain ⟨Z, G, τ, x, q, S, R, hw, cl, cx⟩ := w
  exact cl _ _ _ _ hw (Step.refl _ _) R .nil
theorem pd_mkB {idx : List Nat} (b : Bool) (tk_ : b = true → L2N.Takes X W) (M : Mk X.K C f) (F : Fk X.prog X.w X.K X.mg X.base k f sp (n + 1) ks idx) (hr : Room (k + 1) X.A) (hg : Gl X x) (hm : X.mg x = some (.ref C)) (ha : PAd X W (e :: es) ta) (hkw : PKd X W kws tk)
    (hall : (backToKw pos (keywordEach kws X.env)).all (·.1.isSome) = true := by rfl) (hks : (backToKw pos (keywordEach kws X.env)).filterMap (·.1) = ks := by rfl) (hdb : (x == ("__debug__" : Str)) = false := by decide)
    (he : starEach (e :: es) X.env = (false, eval e X.env) :: starEach es X.env := by rfl) (hpl : ((backTo pos (starEach (e :: es) X.env)).any (·.1) || (backToKw pos (keywordEach kws X.env)).any (·.1.isNone)) = false := by rfl) :
    PEd X W (.Call (.Name x p) (e :: es) kws pos) (gMakeB b C sp n ks.length idx ta tk) := by
  obtain ⟨fd, ps, ok, hk, hb⟩ := F.ex
  exact PEi (pe_makeUKN M ok hr hg hm hb (passB tk_) ha hkw hall hks hdb he hpl) fun σ H Q w => lf_makeB w
end
end N
namespace N
open PySem PySem.Spec PyProof.Rows L2
/-! ### list + list, changed later -/
theorem asL_mono {x : D} {G : GH} {k k' : List D → Prop} (h : AsL x G k) (f : ∀ ds, k ds → k' ds) : AsL x G k' := by
  cases x with
  | lst ds => exact f _ h
  | ref a => obtain ⟨ds, e, h⟩ := LkL_e h; exact LkL_i e (f _ h)
  | _ => exact (show False from h).elim
def nAddM : R2D := fun x y G q => match x with
  | .lst xs => AsL y G fun ys => Sd (xs.length + ys.length ≤ sizeLine) (NewM (xs ++ ys) G q)
  | .ref a => LkL a G fun xs => AsL y G fun ys => Sd (xs.length + ys.length ≤ sizeLine) (NewM (xs ++ ys) G q)
  | _ => False
theorem sd_mono {p q q' : Prop} (h : Sd p q) (f : q → q') : Sd p q' := let ⟨a, b⟩ := Sd_e h; Sd_i a (f b)
theorem nAddM_n {x y : D} {G : GH} {q : QD} (h : nAddM x y G q) : nAdd x y G q := by
  cases x with
  | lst xs => exact asL_mono h fun ys h => sd_mono h NewM_n
  | ref a =>
    obtain ⟨xs, e, h⟩ := LkL_e h
    exact LkL_i e (asL_mono h fun ys h => sd_mono h NewM_n)
  | _ => exact (show False from h).elim
theorem ok_addM {K : PySem.W.Frag} : R2Ok K (rAddA K) nAddM := fun Z G H x y v u q Q R rx ry h c => ok_add Z G H x y v u q Q R rx ry (nAddM_n h) c
theorem pd_addM {X : Cx} {W : WX} {a b : Expr} {ta tb : TED} {pos : Pos} (ha : PEd X W a ta) (hb : PEd X W b tb) : PEd X W (.BinOp a .Add b pos) (gOp nAddM ta tb) := pd_op op_addA ok_addM ha hb
/-! ### a text within a text -/
def inS (i j : Str) : Bool := !(Builtin.Str.occurrences j i 0 j.length 1).isEmpty
theorem inS_one (c : Nat) (z : Str) : inS ⟨#[c]⟩ z = decide (c ∈ z.cps.toList) := PySem.StrLaws.found_one z c
theorem inS_tx (c : Nat) (l : List Nat) : inS (tx [c]) (tx l) = decide (c ∈ l) := (inS_one c (tx l)).trans (by rw [tx_toL])
def nInS (neg : Bool) : R2D := fun x y G q => match x with
  | .str i => (match y with | .str j => q (.bl (if neg then !inS i j else inS i j)) G | _ => False)
  | _ => False
theorem ok_inS {K : PySem.W.Frag} : R2Ok K (fun x y H Q => ∃ i j, x = .str i ∧ y = .str j ∧ Q (.bl (!(Builtin.Str.occurrences j i 0 j.length 1).isEmpty)) H) (nInS false) := by
  intro Z G H x y v u q Q R rx ry h c
  cases x with
  | str i => cases y with
    | str j => cases rx; cases ry; exact ⟨i, j, rfl, rfl, c _ _ _ _ h (Step.refl _ _) R (.bl _)⟩
    | _ => exact (show False from h).elim
  | _ => exact (show False from h).elim
theorem ok_notinS {K : PySem.W.Frag} : R2Ok K (fun x y H Q => ∃ i j, x = .str i ∧ y = .str j ∧ Q (.bl (!(!(Builtin.Str.occurrences j i 0 j.length 1).isEmpty))) H) (nInS true) := by
  intro Z G H x y v u q Q R rx ry h c
  cases x with
  | str i => cases y with
    | str j => cases rx; cases ry; exact ⟨i, j, rfl, rfl, c _ _ _ _ h (Step.refl _ _) R (.bl _)⟩
    | _ => exact (show False from h).elim
  | _ => exact (show False from h).elim
section
variable {X : Cx} {W : WX} {a b : Expr} {ta tb : TED} {pos : Pos}
theorem pd_inS (ha : PEd X W a ta) (hb : PEd X W b tb) (hm : behindInMarks .In b = false := by rfl) : PEd X W (.Compare a [.In] [b] pos) (gOp (nInS false) ta tb) := pd_cmp op_in_str ok_inS ha hb hm
theorem pd_notinS (ha : PEd X W a ta) (hb : PEd X W b tb) (hm : behindInMarks .NotIn b = false := by rfl) : PEd X W (.Compare a [.NotIn] [b] pos) (gOp (nInS true) ta tb) := pd_cmp op_notin_str ok_notinS ha hb hm
theorem pt_inS (ha : PEd X W a ta) (hb : PEd X W b tb) (hm : behindInMarks .In b = false := by rfl) : PTd X W (.Compare a [.In] [b] pos) (gTst (gOp (nInS false) ta tb)) := pd_cmpT op_in_str ok_inS ha hb hm
theorem pt_notinS (ha : PEd X W a ta) (hb : PEd X W b tb) (hm : behindInMarks .NotIn b = false := by rfl) : PTd X W (.Compare a [.NotIn] [b] pos) (gTst (gOp (nInS true) ta tb)) := pd_cmpT op_notin_str ok_notinS ha hb hm
end
end N
namespace N
open PySem
abbrev xsN : List Str := (["BadRows"] : List Str)
abbrev ysN : List Str := ((["BadRows", "BadKinds", "BadKind", "BadRow", "BadLot", "BadParting", "BadLetters", "BadNumber", "BadName", "BadRoom", "BadDay", "TooLong", "BadStand", "BadRule", "BadCall", "TooManyStands", "BadText", "BadTree", "BadMachine", "BadException"] : List Str) ++ (["BadPolicy", "BadSpeech", "BadGraft", "NotSame", "NotGood", "IsGood", "BadPlaces", "Passed", "Empty", "NotEmpty", "BadPaper", "TooMany", "NotOneLine", "Endless", "BadTable", "BadBook", "Clash", "NothingToUndo", "BadLine"] : List Str))
end N
namespace Hd
open PySem PySem.Spec PyProof.Rows L2 N
def top (i : Nat) : Stmt := PySem.Challenge.pw_nonepassed_k17_fault_exactly_where_no_st.main.body.getD i (.Pass ⟨0, 0, 0, 0⟩)
abbrev s__law_mix : Stmt := (top 52)
def d__law_mix : DefN := ⟨fun K => He.fAd K ("_law_mix", none), "_law_mix", "_law_mix", defArgs s__law_mix, defBody s__law_mix, defScope s__law_mix, [], []⟩
abbrev s__law_take : Stmt := (top 54)
def d__law_take : DefN := ⟨fun K => He.fAd K ("_law_take", none), "_law_take", "_law_take", defArgs s__law_take, defBody s__law_take, defScope s__law_take, [], []⟩
abbrev s__law_of : Stmt := (top 57)
def d__law_of : DefN := ⟨fun K => He.fAd K ("_law_of", none), "_law_of", "_law_of", defArgs s__law_of, defBody s__law_of, defScope s__law_of, [], []⟩
abbrev s__law_ascii : Stmt := (top 59)
def d__law_ascii : DefN := ⟨fun K => He.fAd K ("_law_ascii", none), "_law_ascii", "_law_ascii", defArgs s__law_ascii, defBody s__law_ascii, defScope s__law_ascii, [], []⟩
abbrev s__law_due_error : Stmt := (top 69)
def d__law_due_error : DefN := ⟨fun K => He.fAd K ("_law_due_error", none), "_law_due_error", "_law_due_error", defArgs s__law_due_error, defBody s__law_due_error, defScope s__law_due_error, [], []⟩
abbrev s__law_ahead : Stmt := (top 63)
def d__law_ahead : DefN := ⟨fun K => He.fAd K ("_law_ahead", none), "_law_ahead", "_law_ahead", defArgs s__law_ahead, defBody s__law_ahead, defScope s__law_ahead, [], []⟩
abbrev s__law_fault : Stmt := (top 64)
def d__law_fault : DefN := ⟨fun K => He.fAd K ("_law_fault", none), "_law_fault", "_law_fault", defArgs s__law_fault, defBody s__law_fault, defScope s__law_fault, [], []⟩
abbrev s__law_marks : Stmt := (top 67)
def d__law_marks : DefN := ⟨fun K => He.fAd K ("_law_marks", none), "_law_marks", "_law_marks", defArgs s__law_marks, defBody s__law_marks, defScope s__law_marks, [], []⟩
abbrev s__law_like : Stmt := (top 68)
def d__law_like : DefN := ⟨fun K => He.fAd K ("_law_like", none), "_law_like", "_law_like", defArgs s__law_like, defBody s__law_like, defScope s__law_like, [], []⟩
abbrev s__law_struck : Stmt := (top 61)
def d__law_struck : DefN := ⟨fun K => He.fAd K ("_law_struck", none), "_law_struck", "_law_struck", defArgs s__law_struck, defBody s__law_struck, defScope s__law_struck, [], []⟩
abbrev s_NonePassedError____init__ : Stmt := (inClass (top 1) 0)
def d_NonePassedError____init__ : DefN := ⟨fun K => He.fAd K ("NonePassedError", some "__init__"), "__init__", "NonePassedError.__init__", defArgs s_NonePassedError____init__, defBody s_NonePassedError____init__, defScope s_NonePassedError____init__, [], []⟩
abbrev s_counts_ahead : Stmt := (top 47)
def d_counts_ahead : DefN := ⟨fun K => He.fAd K ("counts_ahead", none), "counts_ahead", "counts_ahead", defArgs s_counts_ahead, defBody s_counts_ahead, defScope s_counts_ahead, [], []⟩
abbrev s_shift_fault : Stmt := (top 49)
def d_shift_fault : DefN := ⟨fun K => He.fAd K ("shift_fault", none), "shift_fault", "shift_fault", defArgs s_shift_fault, defBody s_shift_fault, defScope s_shift_fault, [], []⟩
abbrev s_other_tokens : Stmt := (top 46)
def d_other_tokens : DefN := ⟨fun K => He.fAd K ("other_tokens", none), "other_tokens", "other_tokens", defArgs s_other_tokens, defBody s_other_tokens, defScope s_other_tokens, [], []⟩
abbrev s_swap_fault : Stmt := (top 48)
def d_swap_fault : DefN := ⟨fun K => He.fAd K ("swap_fault", none), "swap_fault", "swap_fault", defArgs s_swap_fault, defBody s_swap_fault, defScope s_swap_fault, [], []⟩
abbrev s_fault : Stmt := (top 50)
def d_fault : DefN := ⟨fun K => He.fAd K ("fault", none), "fault", "fault", defArgs s_fault, defBody s_fault, defScope s_fault, [], []⟩
abbrev s__law_fault_right : Stmt := (top 70)
def d__law_fault_right : DefN := ⟨fun K => He.fAd K ("_law_fault_right", none), "_law_fault_right", "_law_fault_right", defArgs s__law_fault_right, defBody s__law_fault_right, defScope s__law_fault_right, [], []⟩
abbrev s__law_moved : Stmt := (top 72)
def d__law_moved : DefN := ⟨fun K => He.fAd K ("_law_moved", none), "_law_moved", "_law_moved", defArgs s__law_moved, defBody s__law_moved, defScope s__law_moved, [], []⟩
abbrev s__law_order : Stmt := (top 58)
def d__law_order : DefN := ⟨fun K => He.fAd K ("_law_order", none), "_law_order", "_law_order", defArgs s__law_order, defBody s__law_order, defScope s__law_order, [], []⟩
abbrev s__law_shaken : Stmt := (top 66)
def d__law_shaken : DefN := ⟨fun K => He.fAd K ("_law_shaken", none), "_law_shaken", "_law_shaken", defArgs s__law_shaken, defBody s__law_shaken, defScope s__law_shaken, [], []⟩
abbrev s__law_span : Stmt := (top 56)
def d__law_span : DefN := ⟨fun K => He.fAd K ("_law_span", none), "_law_span", "_law_span", defArgs s__law_span, defBody s__law_span, defScope s__law_span, [], []⟩
abbrev s__law_text : Stmt := (top 60)
def d__law_text : DefN := ⟨fun K => He.fAd K ("_law_text", none), "_law_text", "_law_text", defArgs s__law_text, defBody s__law_text, defScope s__law_text, [], []⟩
abbrev s__law_yes : Stmt := (top 55)
def d__law_yes : DefN := ⟨fun K => He.fAd K ("_law_yes", none), "_law_yes", "_law_yes", defArgs s__law_yes, defBody s__law_yes, defScope s__law_yes, [], []⟩
abbrev s__law_strike : Stmt := (top 65)
def d__law_strike : DefN := ⟨fun K => He.fAd K ("_law_strike", none), "_law_strike", "_law_strike", defArgs s__law_strike, defBody s__law_strike, defScope s__law_strike, [], []⟩
abbrev s__law_struck_last : Stmt := (top 62)
def d__law_struck_last : DefN := ⟨fun K => He.fAd K ("_law_struck_last", none), "_law_struck_last", "_law_struck_last", defArgs s__law_struck_last, defBody s__law_struck_last, defScope s__law_struck_last, [], []⟩
abbrev s_strikes_last : Stmt := (top 42)
def d_strikes_last : DefN := ⟨fun K => He.fAd K ("strikes_last", none), "strikes_last", "strikes_last", defArgs s_strikes_last, defBody s_strikes_last, defScope s_strikes_last, [], []⟩
abbrev s_common_front : Stmt := (top 43)
def d_common_front : DefN := ⟨fun K => He.fAd K ("common_front", none), "common_front", "common_front", defArgs s_common_front, defBody s_common_front, defScope s_common_front, [], []⟩
abbrev s_free_places : Stmt := (top 44)
def d_free_places : DefN := ⟨fun K => He.fAd K ("free_places", none), "free_places", "free_places", defArgs s_free_places, defBody s_free_places, defScope s_free_places, [], []⟩
abbrev s_strikes_some : Stmt := (top 45)
def d_strikes_some : DefN := ⟨fun K => He.fAd K ("strikes_some", none), "strikes_some", "strikes_some", defArgs s_strikes_some, defBody s_strikes_some, defScope s_strikes_some, [], []⟩
abbrev s__law_strikes_right : Stmt := (top 71)
def d__law_strikes_right : DefN := ⟨fun K => He.fAd K ("_law_strikes_right", none), "_law_strikes_right", "_law_strikes_right", defArgs s__law_strikes_right, defBody s__law_strikes_right, defScope s__law_strikes_right, [], []⟩
abbrev s__law_round_right : Stmt := (top 73)
def d__law_round_right : DefN := ⟨fun K => He.fAd K ("_law_round_right", none), "_law_round_right", "_law_round_right", defArgs s__law_round_right, defBody s__law_round_right, defScope s__law_round_right, [], []⟩
abbrev s__law_rounds : Stmt := (top 74)
def d__law_rounds : DefN := ⟨fun K => He.fAd K ("_law_rounds", none), "_law_rounds", "_law_rounds", defArgs s__law_rounds, defBody s__law_rounds, defScope s__law_rounds, [], []⟩
abbrev s__law_store : Stmt := (top 53)
def d__law_store : DefN := ⟨fun K => He.fAd K ("_law_store", none), "_law_store", "_law_store", defArgs s__law_store, defBody s__law_store, defScope s__law_store, [], []⟩
abbrev s_law : Stmt := (top 75)
def d_law : DefN := ⟨fun K => He.fAd K ("law", none), "law", "law", defArgs s_law, defBody s_law, defScope s_law, [], []⟩
def fn : List DefN := [d__law_mix, d__law_take, d__law_of, d__law_ascii, d__law_due_error, d__law_ahead, d__law_fault, d__law_marks, d__law_like, d__law_struck, d_NonePassedError____init__, d_counts_ahead, d_shift_fault, d_other_tokens, d_swap_fault, d_fault, d__law_fault_right, d__law_moved, d__law_order, d__law_shaken, d__law_span, d__law_text, d__law_yes, d__law_strike, d__law_struck_last, d_strikes_last, d_common_front, d_free_places, d_strikes_some, d__law_strikes_right, d__law_round_right, d__law_rounds, d__law_store, d_law]
def fa0 : List Ck := [kGlo "_law_store", kGlo "_law_of", kFree "range", kGlo "_law_rounds", kGlo "_law_round_right", kGlo "_law_strike", kGlo "_law_take", kGlo "_law_moved", kGlo "_law_yes", kGlo "_law_fault_right", kGlo "_law_shaken", kFree "len", kGlo "_law_ascii", kGlo "_law_strikes_right", kGlo "_law_struck_last", kGlo "_law_struck", kGlo "strikes_last", kGlo "strikes_some", kGlo "_law_like", kGlo "free_places", kGlo "common_front", kFree "zip", kGlo "_law_marks", kFree "isinstance", kFree "list"]
def fa1 : List Ck := [kFree "tuple", kFree "str", kFree "int", kFree "bool", kGlo "_law_mix", kGlo "fault", kFree "sorted", kGlo "_law_due_error", kXF xsN ysN, kGlo "NonePassedError", kGlo "_law_fault", kGlo "_law_ahead", kGlo "BadRows", kGlo "BadLine", kGlo "NothingToUndo", kGlo "Clash", kGlo "BadBook", kGlo "BadTable", kGlo "Endless", kGlo "NotOneLine", kGlo "TooMany", kGlo "BadPaper", kGlo "NotEmpty", kGlo "Empty", kGlo "Passed"]
def fa2 : List Ck := [kGlo "BadPlaces", kGlo "IsGood", kGlo "NotGood", kGlo "NotSame", kGlo "BadGraft", kGlo "BadSpeech", kGlo "BadPolicy", kGlo "BadException", kGlo "BadMachine", kGlo "BadTree", kGlo "BadText", kGlo "TooManyStands", kGlo "BadCall", kGlo "BadRule", kGlo "BadStand", kGlo "TooLong", kGlo "BadDay", kGlo "BadRoom", kGlo "BadName", kGlo "BadNumber", kGlo "BadLetters", kGlo "BadParting", kGlo "BadLot", kGlo "BadRow", kGlo "BadKind"]
def fa3 : List Ck := [kGlo "BadKinds", kFree "ValueError", kGlo "swap_fault", kGlo "shift_fault", kGlo "counts_ahead", kFree "enumerate", kGlo "other_tokens", kGlo "_law_order", kGlo "_law_span", kGlo "_law_text", kFree "min", kGlo "law"]
abbrev fa : List Ck := fa0 ++ fa1 ++ fa2 ++ fa3
def nm0 : List Str := ["NonePassedError", "BadKinds", "BadKind", "BadRow", "BadLot", "BadParting", "BadLetters", "BadNumber", "BadName", "BadRoom", "BadDay", "TooLong", "BadStand", "BadRule", "BadCall", "TooManyStands", "BadText", "BadTree", "BadRows", "BadMachine", "BadException", "BadPolicy", "BadSpeech", "BadGraft", "NotSame", "NotGood", "IsGood", "BadPlaces", "Passed", "Empty"]
def nm1 : List Str := ["NotEmpty", "BadPaper", "TooMany", "NotOneLine", "Endless", "BadTable", "BadBook", "Clash", "NothingToUndo", "BadLine", "strikes_last", "common_front", "free_places", "strikes_some", "other_tokens", "counts_ahead", "swap_fault", "shift_fault", "fault", "_law_mix", "_law_store", "_law_take", "_law_yes", "_law_span", "_law_of", "_law_order", "_law_ascii", "_law_text", "_law_struck", "_law_struck_last"]
def nm2 : List Str := ["_law_ahead", "_law_fault", "_law_strike", "_law_shaken", "_law_marks", "_law_like", "_law_due_error", "_law_fault_right", "_law_strikes_right", "_law_moved", "_law_round_right", "_law_rounds"]
abbrev nms : List Str := nm0 ++ nm1 ++ nm2
abbrev R : PySem.W.OpenRow := PySem.W.OpenLaw.row PySem.Challenge.rw_nonepassed_k17_fault_exactly_where_no_st
abbrev hk : PySem.W.Hook := hookN 6 fa fn
def ob (s : PySem.W.SharedT) : He.AlD := obsNG 6 fa fn (HandSHeadRun.getT s)
theorem ob_eq (s : PySem.W.SharedT) : ob s = hk.obs s.abs := obsNG_eq (HandSHeadRun.getT_eq s)
theorem run (w : World) : HandSHeadRun.RunEq R (PySem.W.view R.prog [75]) hk ob 30000 nms w := by
  intro os
  kernel_rfl
section
variable {K : PySem.W.Frag} {mg : Str → Option Value}
theorem fg__law_store (c : Ev fa fn K mg) : mg "_law_store" = some (.ref (He.ga K "_law_store")) := c.glo (c.fact 0 (f := kGlo "_law_store") rfl)
theorem fg__law_of (c : Ev fa fn K mg) : mg "_law_of" = some (.ref (He.ga K "_law_of")) := c.glo (c.fact 1 (f := kGlo "_law_of") rfl)
theorem fb_range (c : Ev fa fn K mg) : mg "range" = none := c.free (c.fact 2 (f := kFree "range") rfl)
theorem fg__law_rounds (c : Ev fa fn K mg) : mg "_law_rounds" = some (.ref (He.ga K "_law_rounds")) := c.glo (c.fact 3 (f := kGlo "_law_rounds") rfl)
theorem fg__law_round_right (c : Ev fa fn K mg) : mg "_law_round_right" = some (.ref (He.ga K "_law_round_right")) := c.glo (c.fact 4 (f := kGlo "_law_round_right") rfl)
theorem fg__law_strike (c : Ev fa fn K mg) : mg "_law_strike" = some (.ref (He.ga K "_law_strike")) := c.glo (c.fact 5 (f := kGlo "_law_strike") rfl)
theorem fg__law_take (c : Ev fa fn K mg) : mg "_law_take" = some (.ref (He.ga K "_law_take")) := c.glo (c.fact 6 (f := kGlo "_law_take") rfl)
theorem fg__law_moved (c : Ev fa fn K mg) : mg "_law_moved" = some (.ref (He.ga K "_law_moved")) := c.glo (c.fact 7 (f := kGlo "_law_moved") rfl)
theorem fg__law_yes (c : Ev fa fn K mg) : mg "_law_yes" = some (.ref (He.ga K "_law_yes")) := c.glo (c.fact 8 (f := kGlo "_law_yes") rfl)
theorem fg__law_fault_right (c : Ev fa fn K mg) : mg "_law_fault_right" = some (.ref (He.ga K "_law_fault_right")) := c.glo (c.fact 9 (f := kGlo "_law_fault_right") rfl)
theorem fg__law_shaken (c : Ev fa fn K mg) : mg "_law_shaken" = some (.ref (He.ga K "_law_shaken")) := c.glo (c.fact 10 (f := kGlo "_law_shaken") rfl)
theorem fb_len (c : Ev fa fn K mg) : mg "len" = none := c.free (c.fact 11 (f := kFree "len") rfl)
theorem fg__law_ascii (c : Ev fa fn K mg) : mg "_law_ascii" = some (.ref (He.ga K "_law_ascii")) := c.glo (c.fact 12 (f := kGlo "_law_ascii") rfl)
theorem fg__law_strikes_right (c : Ev fa fn K mg) : mg "_law_strikes_right" = some (.ref (He.ga K "_law_strikes_right")) := c.glo (c.fact 13 (f := kGlo "_law_strikes_right") rfl)
theorem fg__law_struck_last (c : Ev fa fn K mg) : mg "_law_struck_last" = some (.ref (He.ga K "_law_struck_last")) := c.glo (c.fact 14 (f := kGlo "_law_struck_last") rfl)
theorem fg__law_struck (c : Ev fa fn K mg) : mg "_law_struck" = some (.ref (He.ga K "_law_struck")) := c.glo (c.fact 15 (f := kGlo "_law_struck") rfl)
theorem fg_strikes_last (c : Ev fa fn K mg) : mg "strikes_last" = some (.ref (He.ga K "strikes_last")) := c.glo (c.fact 16 (f := kGlo "strikes_last") rfl)
theorem fg_strikes_some (c : Ev fa fn K mg) : mg "strikes_some" = some (.ref (He.ga K "strikes_some")) := c.glo (c.fact 17 (f := kGlo "strikes_some") rfl)
theorem fg__law_like (c : Ev fa fn K mg) : mg "_law_like" = some (.ref (He.ga K "_law_like")) := c.glo (c.fact 18 (f := kGlo "_law_like") rfl)
theorem fg_free_places (c : Ev fa fn K mg) : mg "free_places" = some (.ref (He.ga K "free_places")) := c.glo (c.fact 19 (f := kGlo "free_places") rfl)
theorem fg_common_front (c : Ev fa fn K mg) : mg "common_front" = some (.ref (He.ga K "common_front")) := c.glo (c.fact 20 (f := kGlo "common_front") rfl)
theorem fb_zip (c : Ev fa fn K mg) : mg "zip" = none := c.free (c.fact 21 (f := kFree "zip") rfl)
theorem fg__law_marks (c : Ev fa fn K mg) : mg "_law_marks" = some (.ref (He.ga K "_law_marks")) := c.glo (c.fact 22 (f := kGlo "_law_marks") rfl)
theorem fb_isinstance (c : Ev fa fn K mg) : mg "isinstance" = none := c.free (c.fact 23 (f := kFree "isinstance") rfl)
theorem fb_list (c : Ev fa fn K mg) : mg "list" = none := c.free (c.fact 24 (f := kFree "list") rfl)
theorem fb_tuple (c : Ev fa fn K mg) : mg "tuple" = none := c.free (c.fact 25 (f := kFree "tuple") rfl)
theorem fb_str (c : Ev fa fn K mg) : mg "str" = none := c.free (c.fact 26 (f := kFree "str") rfl)
theorem fb_int (c : Ev fa fn K mg) : mg "int" = none := c.free (c.fact 27 (f := kFree "int") rfl)
theorem fb_bool (c : Ev fa fn K mg) : mg "bool" = none := c.free (c.fact 28 (f := kFree "bool") rfl)
theorem fg__law_mix (c : Ev fa fn K mg) : mg "_law_mix" = some (.ref (He.ga K "_law_mix")) := c.glo (c.fact 29 (f := kGlo "_law_mix") rfl)
theorem fg_fault (c : Ev fa fn K mg) : mg "fault" = some (.ref (He.ga K "fault")) := c.glo (c.fact 30 (f := kGlo "fault") rfl)
theorem fb_sorted (c : Ev fa fn K mg) : mg "sorted" = none := c.free (c.fact 31 (f := kFree "sorted") rfl)
theorem fg__law_due_error (c : Ev fa fn K mg) : mg "_law_due_error" = some (.ref (He.ga K "_law_due_error")) := c.glo (c.fact 32 (f := kGlo "_law_due_error") rfl)
theorem xf (c : Ev fa fn K mg) : XF K xsN ysN := xf_ok (c.fact 33 (f := kXF xsN ysN) rfl)
theorem fg_NonePassedError (c : Ev fa fn K mg) : mg "NonePassedError" = some (.ref (He.ga K "NonePassedError")) := c.glo (c.fact 34 (f := kGlo "NonePassedError") rfl)
theorem fg__law_fault (c : Ev fa fn K mg) : mg "_law_fault" = some (.ref (He.ga K "_law_fault")) := c.glo (c.fact 35 (f := kGlo "_law_fault") rfl)
theorem fg__law_ahead (c : Ev fa fn K mg) : mg "_law_ahead" = some (.ref (He.ga K "_law_ahead")) := c.glo (c.fact 36 (f := kGlo "_law_ahead") rfl)
theorem fg_BadRows (c : Ev fa fn K mg) : mg "BadRows" = some (.ref (He.ga K "BadRows")) := c.glo (c.fact 37 (f := kGlo "BadRows") rfl)
theorem fg_BadLine (c : Ev fa fn K mg) : mg "BadLine" = some (.ref (He.ga K "BadLine")) := c.glo (c.fact 38 (f := kGlo "BadLine") rfl)
theorem fg_NothingToUndo (c : Ev fa fn K mg) : mg "NothingToUndo" = some (.ref (He.ga K "NothingToUndo")) := c.glo (c.fact 39 (f := kGlo "NothingToUndo") rfl)
theorem fg_Clash (c : Ev fa fn K mg) : mg "Clash" = some (.ref (He.ga K "Clash")) := c.glo (c.fact 40 (f := kGlo "Clash") rfl)
theorem fg_BadBook (c : Ev fa fn K mg) : mg "BadBook" = some (.ref (He.ga K "BadBook")) := c.glo (c.fact 41 (f := kGlo "BadBook") rfl)
theorem fg_BadTable (c : Ev fa fn K mg) : mg "BadTable" = some (.ref (He.ga K "BadTable")) := c.glo (c.fact 42 (f := kGlo "BadTable") rfl)
theorem fg_Endless (c : Ev fa fn K mg) : mg "Endless" = some (.ref (He.ga K "Endless")) := c.glo (c.fact 43 (f := kGlo "Endless") rfl)
theorem fg_NotOneLine (c : Ev fa fn K mg) : mg "NotOneLine" = some (.ref (He.ga K "NotOneLine")) := c.glo (c.fact 44 (f := kGlo "NotOneLine") rfl)
theorem fg_TooMany (c : Ev fa fn K mg) : mg "TooMany" = some (.ref (He.ga K "TooMany")) := c.glo (c.fact 45 (f := kGlo "TooMany") rfl)
theorem fg_BadPaper (c : Ev fa fn K mg) : mg "BadPaper" = some (.ref (He.ga K "BadPaper")) := c.glo (c.fact 46 (f := kGlo "BadPaper") rfl)
theorem fg_NotEmpty (c : Ev fa fn K mg) : mg "NotEmpty" = some (.ref (He.ga K "NotEmpty")) := c.glo (c.fact 47 (f := kGlo "NotEmpty") rfl)
theorem fg_Empty (c : Ev fa fn K mg) : mg "Empty" = some (.ref (He.ga K "Empty")) := c.glo (c.fact 48 (f := kGlo "Empty") rfl)
theorem fg_Passed (c : Ev fa fn K mg) : mg "Passed" = some (.ref (He.ga K "Passed")) := c.glo (c.fact 49 (f := kGlo "Passed") rfl)
theorem fg_BadPlaces (c : Ev fa fn K mg) : mg "BadPlaces" = some (.ref (He.ga K "BadPlaces")) := c.glo (c.fact 50 (f := kGlo "BadPlaces") rfl)
theorem fg_IsGood (c : Ev fa fn K mg) : mg "IsGood" = some (.ref (He.ga K "IsGood")) := c.glo (c.fact 51 (f := kGlo "IsGood") rfl)
theorem fg_NotGood (c : Ev fa fn K mg) : mg "NotGood" = some (.ref (He.ga K "NotGood")) := c.glo (c.fact 52 (f := kGlo "NotGood") rfl)
theorem fg_NotSame (c : Ev fa fn K mg) : mg "NotSame" = some (.ref (He.ga K "NotSame")) := c.glo (c.fact 53 (f := kGlo "NotSame") rfl)
theorem fg_BadGraft (c : Ev fa fn K mg) : mg "BadGraft" = some (.ref (He.ga K "BadGraft")) := c.glo (c.fact 54 (f := kGlo "BadGraft") rfl)
theorem fg_BadSpeech (c : Ev fa fn K mg) : mg "BadSpeech" = some (.ref (He.ga K "BadSpeech")) := c.glo (c.fact 55 (f := kGlo "BadSpeech") rfl)
theorem fg_BadPolicy (c : Ev fa fn K mg) : mg "BadPolicy" = some (.ref (He.ga K "BadPolicy")) := c.glo (c.fact 56 (f := kGlo "BadPolicy") rfl)
theorem fg_BadException (c : Ev fa fn K mg) : mg "BadException" = some (.ref (He.ga K "BadException")) := c.glo (c.fact 57 (f := kGlo "BadException") rfl)
theorem fg_BadMachine (c : Ev fa fn K mg) : mg "BadMachine" = some (.ref (He.ga K "BadMachine")) := c.glo (c.fact 58 (f := kGlo "BadMachine") rfl)
theorem fg_BadTree (c : Ev fa fn K mg) : mg "BadTree" = some (.ref (He.ga K "BadTree")) := c.glo (c.fact 59 (f := kGlo "BadTree") rfl)
theorem fg_BadText (c : Ev fa fn K mg) : mg "BadText" = some (.ref (He.ga K "BadText")) := c.glo (c.fact 60 (f := kGlo "BadText") rfl)
theorem fg_TooManyStands (c : Ev fa fn K mg) : mg "TooManyStands" = some (.ref (He.ga K "TooManyStands")) := c.glo (c.fact 61 (f := kGlo "TooManyStands") rfl)
theorem fg_BadCall (c : Ev fa fn K mg) : mg "BadCall" = some (.ref (He.ga K "BadCall")) := c.glo (c.fact 62 (f := kGlo "BadCall") rfl)
theorem fg_BadRule (c : Ev fa fn K mg) : mg "BadRule" = some (.ref (He.ga K "BadRule")) := c.glo (c.fact 63 (f := kGlo "BadRule") rfl)
theorem fg_BadStand (c : Ev fa fn K mg) : mg "BadStand" = some (.ref (He.ga K "BadStand")) := c.glo (c.fact 64 (f := kGlo "BadStand") rfl)
theorem fg_TooLong (c : Ev fa fn K mg) : mg "TooLong" = some (.ref (He.ga K "TooLong")) := c.glo (c.fact 65 (f := kGlo "TooLong") rfl)
theorem fg_BadDay (c : Ev fa fn K mg) : mg "BadDay" = some (.ref (He.ga K "BadDay")) := c.glo (c.fact 66 (f := kGlo "BadDay") rfl)
theorem fg_BadRoom (c : Ev fa fn K mg) : mg "BadRoom" = some (.ref (He.ga K "BadRoom")) := c.glo (c.fact 67 (f := kGlo "BadRoom") rfl)
theorem fg_BadName (c : Ev fa fn K mg) : mg "BadName" = some (.ref (He.ga K "BadName")) := c.glo (c.fact 68 (f := kGlo "BadName") rfl)
theorem fg_BadNumber (c : Ev fa fn K mg) : mg "BadNumber" = some (.ref (He.ga K "BadNumber")) := c.glo (c.fact 69 (f := kGlo "BadNumber") rfl)
theorem fg_BadLetters (c : Ev fa fn K mg) : mg "BadLetters" = some (.ref (He.ga K "BadLetters")) := c.glo (c.fact 70 (f := kGlo "BadLetters") rfl)
theorem fg_BadParting (c : Ev fa fn K mg) : mg "BadParting" = some (.ref (He.ga K "BadParting")) := c.glo (c.fact 71 (f := kGlo "BadParting") rfl)
theorem fg_BadLot (c : Ev fa fn K mg) : mg "BadLot" = some (.ref (He.ga K "BadLot")) := c.glo (c.fact 72 (f := kGlo "BadLot") rfl)
theorem fg_BadRow (c : Ev fa fn K mg) : mg "BadRow" = some (.ref (He.ga K "BadRow")) := c.glo (c.fact 73 (f := kGlo "BadRow") rfl)
theorem fg_BadKind (c : Ev fa fn K mg) : mg "BadKind" = some (.ref (He.ga K "BadKind")) := c.glo (c.fact 74 (f := kGlo "BadKind") rfl)
theorem fg_BadKinds (c : Ev fa fn K mg) : mg "BadKinds" = some (.ref (He.ga K "BadKinds")) := c.glo (c.fact 75 (f := kGlo "BadKinds") rfl)
theorem fb_ValueError (c : Ev fa fn K mg) : mg "ValueError" = none := c.free (c.fact 76 (f := kFree "ValueError") rfl)
theorem fg_swap_fault (c : Ev fa fn K mg) : mg "swap_fault" = some (.ref (He.ga K "swap_fault")) := c.glo (c.fact 77 (f := kGlo "swap_fault") rfl)
theorem fg_shift_fault (c : Ev fa fn K mg) : mg "shift_fault" = some (.ref (He.ga K "shift_fault")) := c.glo (c.fact 78 (f := kGlo "shift_fault") rfl)
theorem fg_counts_ahead (c : Ev fa fn K mg) : mg "counts_ahead" = some (.ref (He.ga K "counts_ahead")) := c.glo (c.fact 79 (f := kGlo "counts_ahead") rfl)
theorem fb_enumerate (c : Ev fa fn K mg) : mg "enumerate" = none := c.free (c.fact 80 (f := kFree "enumerate") rfl)
theorem fg_other_tokens (c : Ev fa fn K mg) : mg "other_tokens" = some (.ref (He.ga K "other_tokens")) := c.glo (c.fact 81 (f := kGlo "other_tokens") rfl)
theorem fg__law_order (c : Ev fa fn K mg) : mg "_law_order" = some (.ref (He.ga K "_law_order")) := c.glo (c.fact 82 (f := kGlo "_law_order") rfl)
theorem fg__law_span (c : Ev fa fn K mg) : mg "_law_span" = some (.ref (He.ga K "_law_span")) := c.glo (c.fact 83 (f := kGlo "_law_span") rfl)
theorem fg__law_text (c : Ev fa fn K mg) : mg "_law_text" = some (.ref (He.ga K "_law_text")) := c.glo (c.fact 84 (f := kGlo "_law_text") rfl)
theorem fb_min (c : Ev fa fn K mg) : mg "min" = none := c.free (c.fact 85 (f := kFree "min") rfl)
theorem fg_law (c : Ev fa fn K mg) : mg "law" = some (.ref (He.ga K "law")) := c.glo (c.fact 86 (f := kGlo "law") rfl)
end
end Hd
namespace N
open PySem PySem.Spec PyProof.Rows L2
/-! ### what the laws' helpers promise -/
/-- the store of draws stands at a, its two lists at c, l -/
def Sto (a c l : Addr) (G : GH) : Prop := a ≠ c ∧ a ≠ l ∧ c ≠ l ∧ ∃ (cs ls : List Int) (at_ seed k : Int), G a = some (.lst [.ref c, .ref l, .int at_, .int seed, .int k]) ∧ G c = some (.lst (cs.map D.int)) ∧ G l = some (.lst (ls.map D.int)) ∧ cs.length = ls.length ∧ 0 ≤ at_
/-- all but these stay -/
def Sm3 (a c l : Addr) (G G' : GH) : Prop := ∀ b, b ≠ a → b ≠ c → b ≠ l → G' b = G b
def sp__law_mix (K : PySem.W.Frag) : SpD := fun ds G q _ => A2 ds fun a b => I1 a fun _ => I1 b fun _ => ∀ r, q (.int r) G
def sp__law_take (K : PySem.W.Frag) : SpD := fun ds G q _ => A2 ds fun s m => ∃ a c l i, s = .ref a ∧ m = .int i ∧ Sto a c l G ∧ i < 2 ^ 62 ∧ ∀ n G', 0 ≤ n → (n < i ∨ n = 0) → Sto a c l G' → Sm3 a c l G G' → q (.int n) G'
def sp__law_of (K : PySem.W.Frag) : SpD := fun ds G q _ => A2 ds fun s t => ∃ a c l xs, s = .ref a ∧ (t = .tup xs ∨ t = .lst xs ∨ ∃ z, t = .str z ∧ xs = signs z ∧ z.length ≤ 16777216) ∧ xs ≠ [] ∧ xs.length < 2 ^ 60 ∧ Sto a c l G ∧ ∀ d G', d ∈ xs → Sto a c l G' → Sm3 a c l G G' → q d G'
def sp__law_store (K : PySem.W.Frag) : SpD := fun ds G q _ => A1 ds fun s => ∃ ns : List Int, s = .ro (ns.map D.int) ∧ ns.length ≤ 1000 ∧ ∀ a c l G', Sto a c l G' → G a = none → G c = none → G l = none → Sm3 a c l G G' → q (.ref a) G'
-- plain data: no objects that change
mutual
def nodes : D → Nat
  | .tup ds => 1 + nodesA ds
  | .lst ds => 1 + nodesA ds
  | _ => 1
def nodesA : List D → Nat
  | [] => 0
  | d :: ds => nodes d + nodesA ds
end
/-- the kind of a value: None, a bool, a number, a text, a tuple, a list -/
def kindD : D → Option Ty
  | .non => none
  | .bl _ => some .bl
  | .int _ => some .int
  | .str _ => some .str
  | .tup _ => some .tup
  | _ => some .lst
def marksD (t : Option Ty) : List D := [.bl (match t with | none => true | _ => false), .bl (isT t .bl), .bl (isT t .int), .bl (isT t .str), .bl (isT t .tup), .bl (isT t .lst)]
def sp__law_marks (K : PySem.W.Frag) : SpD := fun ds G q _ => A1 ds fun d => tree d = true ∧ q (.lst (marksD (kindD d))) G
def sp__law_like (K : PySem.W.Frag) : SpD := fun ds G q _ => A2 ds fun a b => a = b ∧ tree a = true ∧ nodes a < 400000 ∧ q (.bl true) G
/-- the law: True at the script -/
def sp_law (K : PySem.W.Frag) : SpD := fun ds G q _ => A1 ds fun s => ∃ ns : List Int, s = .ro (ns.map D.int) ∧ ns.length ≤ 63 ∧ (∀ b, G b = none) ∧ ∀ G', q (.bl true) G'
theorem rla_ints {K : PySem.W.Frag} {Z : ZS} {G : GH} {H : Hp} : ∀ ns : List Int, RlA K Z G H (ns.map D.int) (ns.map V.int)
  | [] => .nil
  | n :: ns => .cons (.int n) (rla_ints ns)
theorem law_in {K : PySem.W.Frag} {H : Hp} {a : Addr} {ns : List Int} (hl : ns.length ≤ 63) (hO : L2.Only H) (hS : SqL K H a (ns.map V.int)) : liftSp K (sp_law K) [.ref a] H (fun v _ => v = .bl true) E0 := by
  have ro : RoL K H a (ns.map V.int) := by
    rcases hS with (h | h) | h
    · rcases hO a with e | ⟨o, xs, e⟩
      · rw [e] at h; cases h
      · rw [e] at h; cases h
    · exact .inl h
    · exact .inr h
  refine ⟨fun _ => False, fun _ => none, [.ro (ns.map D.int)], fun d _ => d = .bl true, X0, .cons (.ro ro (rla_ints ns)) .nil, ⟨fun _ _ h => (nomatch h), fun _ h => h.elim⟩, ⟨ns, rfl, hl, fun _ => rfl, fun _ => rfl⟩, fun d G' H' v hd _ _ r => ?_, fun _ _ _ _ _ _ z => z.elim⟩
  subst hd
  cases r
  rfl
/-! ### for the walks -/
theorem nd_t {p : Prop} [Decidable p] (h : ¬ p) : (!decide p) = true := by rw [decide_eq_false h]; rfl
theorem nd_f {p : Prop} [Decidable p] (h : p) : (!decide p) = false := by rw [decide_eq_true h]; rfl
theorem sz_le {n : Nat} (h : n ≤ 10000000) : n ≤ sizeLine := by rw [PySem.sizeLine_eq]; omega
theorem sz_lt {n : Nat} (h : n < 10000000) : n < sizeLine := by rw [PySem.sizeLine_eq]; omega
theorem tx_sz {l : List Nat} (h : l.length ≤ 10000000) : (tx l).length ≤ sizeLine := by rw [tx_len]; exact sz_le h
theorem cdivw {w i : Int} (h : 0 < i) (hi : i < 2 ^ 62) : CDivW w i := by
  refine ⟨h, ?_⟩
  have h1 : i.natAbs < 2 ^ 62 := by omega
  have h2 : i.natAbs ≠ 0 := by omega
  have := (Nat.log2_lt h2).mpr h1
  omega
theorem tx_sz2 {l m : List Nat} (h : l.length + m.length ≤ 10000000) : (tx l).length + (tx m).length ≤ sizeLine := by rw [tx_len, tx_len]; exact sz_le h
theorem cut_toA (l : List Nat) {p : Int} (h0 : 0 ≤ p) : cutS (tx l) none (some p) = tx (l.take p.toNat) := by
  obtain ⟨k, rfl⟩ := Int.eq_ofNat_of_zero_le h0
  unfold cutS
  rw [HT.sIx_none, HT.sIx_nat, tx_len, tx_toL, List.drop_zero, Nat.sub_zero]
  show tx _ = tx _
  rw [tx_inj]
  by_cases h : k ≤ l.length
  · rw [Nat.min_eq_left h]; rfl
  · rw [Nat.min_eq_right (by omega), List.take_length, List.take_of_length_le (by simp; omega)]
theorem cut_fromA (l : List Nat) {p : Int} (h0 : 0 ≤ p) : cutS (tx l) (some p) none = tx (l.drop p.toNat) := by
  obtain ⟨k, rfl⟩ := Int.eq_ofNat_of_zero_le h0
  unfold cutS
  rw [HT.sIx_none, HT.sIx_nat, tx_len, tx_toL, List.take_of_length_le (by simp)]
  show tx _ = tx _
  rw [tx_inj]
  by_cases h : k ≤ l.length
  · rw [Nat.min_eq_left h]; rfl
  · rw [Nat.min_eq_right (by omega), List.drop_length, List.drop_eq_nil_of_le (by simp; omega)]
theorem tx_eq {a b : List Nat} {v : Bool} (h : decide (tx a = tx b) = v) : decide (a = b) = v := by rwa [show decide (tx a = tx b) = decide (a = b) from decide_eq_decide.mpr tx_inj] at h
theorem tx_ne {a b : List Nat} {v : Bool} (h : (!decide (tx a = tx b)) = v) : decide (a = b) = !v := by rw [show decide (tx a = tx b) = decide (a = b) from decide_eq_decide.mpr tx_inj] at h; rw [← h, Bool.not_not]
/-! ### helpers that draw; texts as rows of signs -/
def sD (l : List Nat) : D := .str (tx l)
def sg (c : Nat) : D := .str (tx [c])
def Stw (a c l : Addr) (G0 G : GH) : Prop := Sto a c l G ∧ Sm3 a c l G0 G
/-- s is the store; all that was drawn may be anything -/
def Draw (s : D) (G : GH) (k : GH → Prop) : Prop := ∃ a c l, s = .ref a ∧ Sto a c l G ∧ ∀ G', Sto a c l G' → Sm3 a c l G G' → k G'
def sp__law_yes (K : PySem.W.Frag) : SpD := fun ds G q _ => A2 ds fun s m => ∃ i, m = .int i ∧ i < 2 ^ 62 ∧ Draw s G fun G' => ∀ b, q (.bl b) G'
def sp__law_span (K : PySem.W.Frag) : SpD := fun ds G q _ => A3 ds fun s m n => ∃ i j, m = .int i ∧ n = .int j ∧ i ≤ j ∧ j - i < 2 ^ 60 ∧ Draw s G fun G' => ∀ n, i ≤ n → n ≤ j → q (.int n) G'
def sp__law_order (K : PySem.W.Frag) : SpD := fun ds G q _ => A2 ds fun s t => ∃ xs, (t = .tup xs ∨ t = .lst xs ∨ (∃ p, t = .ref p ∧ G p = some (.lst xs)) ∨ ∃ l, t = sD l ∧ xs = l.map sg) ∧ xs.length ≤ 1000000 ∧ Draw s G fun G' => ∀ ys : List D, ys.Perm xs → q (.lst ys) G'
def asciiL : List Nat := (List.range 95).filterMap fun i => if i = 5 then none else some (i + 32)
def sp__law_ascii (K : PySem.W.Frag) : SpD := fun ds G q _ => A0 ds (q (sD asciiL) G)
def sp__law_text (K : PySem.W.Frag) : SpD := fun ds G q _ => A3 ds fun s t n => ∃ al i, t = sD al ∧ n = .int i ∧ i ≤ 100000 ∧ al.length ≤ 100000 ∧ Draw s G fun G' => ∀ r, r.length ≤ i.toNat → (al ≠ [] → r.length = i.toNat) → (∀ c ∈ r, c ∈ al) → q (sD r) G'
def sp__law_shaken (K : PySem.W.Frag) : SpD := fun ds G q _ => A2 ds fun s t => ∃ l, t = sD l ∧ l.length ≤ 1000 ∧ Draw s G fun G' => ∀ r : List Nat, r.Perm l → q (sD r) G'
end N
namespace N
open PySem PySem.Spec PyProof.Rows L2
def n__law_mix : List Str := ["number", "turn", "prime", "first", "second"]
def t__law_mix (K : PySem.W.Frag) : TSD :=
    (gSeq (gAsg (gC (.int 2305843009213693951)) (hName 2))
    (gSeq (gAsg (gOp nMod (gCB cInt (gCons (gOp nAdd (gOp nAdd (gOp nMod (gCB cInt (gCons (gVar 0) gNil)) (gVar 2)) (gOp nMul (gCB cInt (gCons (gVar 1) gNil)) (gC (.int 1442695040888963407)))) (gC (.int 88172645463325252))) gNil)) (gVar 2)) (hName 3))
    (gSeq (gAsg (gOp nMod (gCB cInt (gCons (gOp nMul (gCB cInt (gCons (gOp nXor (gVar 3) (gOp nDiv (gVar 3) (gC (.int 1073741824)))) gNil)) (gC (.int 6364136223846793005))) gNil)) (gVar 2)) (hName 3))
    (gSeq (gAsg (gOp nMod (gCB cInt (gCons (gOp nMul (gCB cInt (gCons (gOp nXor (gVar 3) (gOp nDiv (gVar 3) (gC (.int 134217728)))) gNil)) (gC (.int 3935559000370003845))) gNil)) (gVar 2)) (hName 4))
    (gRet (gOp nXor (gVar 4) (gOp nDiv (gVar 4) (gC (.int 4294967296)))))))))
def n__law_store : List Str := ["script", "wide", "cells", "lefts", "seed", "at", "cell", "small"]
def t__law_store (K : PySem.W.Frag) : TSD :=
    (gSeq (gAsg (gOp nMul (gOp nMul (gOp nMul (gOp nPow (gC (.int 10)) (gC (.int 60))) (gOp nPow (gC (.int 10)) (gC (.int 60)))) (gOp nPow (gC (.int 10)) (gC (.int 60)))) (gOp nPow (gC (.int 10)) (gC (.int 60)))) (hName 1))
    (gSeq (gAsg (gLstM gNil) (hName 2))
    (gSeq (gAsg (gLstM gNil) (hName 3))
    (gSeq (gAsg (gC (.int 88172645463325252)) (hName 4))
    (gSeq (gFor (iRng1D (gCons (gCB cMin (gCons (gCB cLen (gCons (gVar 0) gNil)) (gCons (gC (.int 63)) gNil))) gNil)) (hName 5)
    (gSeq (gAsg (gCB cInt (gCons (gOp nIx (gVar 0) (gVar 5)) gNil)) (hName 6))
    (gSeq (gAsg (gOp nMod (gCB cInt (gCons (gVar 6) gNil)) (gC (.int 2305843009213693951))) (hName 7))
    (gSeq (gAsg (gCallD (sp__law_mix K) [] (gCons (gOp nAdd (gVar 4) (gVar 7)) (gCons (gOp nAdd (gVar 5) (gC (.int 1))) gNil))) (hName 4))
    (gIfS (gTst (gOp nLt (gVar 6) (gOp nPow (gC (.int 10)) (gC (.int 18)))))
    (gSeq (gDrop (gBL mAppend (gVar 2) (gCons (gCallD (sp__law_mix K) [] (gCons (gVar 7) (gCons (gOp nAdd (gVar 5) (gC (.int 1))) gNil))) gNil)))
    (gDrop (gBL mAppend (gVar 3) (gCons (gC (.int 6)) gNil))))
    (gIfS (gTst (gOp nGt (gOp nMod (gCB cInt (gCons (gVar 6) gNil)) (gVar 1)) (gC (.int 0))))
    (gSeq (gDrop (gBL mAppend (gVar 2) (gCons (gOp nMod (gCB cInt (gCons (gVar 6) gNil)) (gVar 1)) gNil)))
    (gDrop (gBL mAppend (gVar 3) (gCons (gC (.int 0)) gNil))))
    gNext))))))
    (gRet (gLstM (gCons (gVar 2) (gCons (gVar 3) (gCons (gC (.int 0)) (gCons (gVar 4) (gCons (gC (.int 0)) gNil))))))))))))
def n__law_take : List Str := ["store", "many", "cells", "lefts", "at", "rest"]
def t__law_take (K : PySem.W.Frag) : TSD :=
    (gSeq (gIfS (gTst (gOp nLe (gVar 1) (gC (.int 1))))
    (gRet (gC (.int 0)))
    gNext)
    (gSeq (gAsg (gOp nIx (gVar 0) (gC (.int 0))) (hName 2))
    (gSeq (gAsg (gOp nIx (gVar 0) (gC (.int 1))) (hName 3))
    (gSeq (gAsg (gOp nIx (gVar 0) (gC (.int 2))) (hName 4))
    (gSeq (gIfS (gTst (gOp nGe (gVar 4) (gCB cLen (gCons (gVar 2) gNil))))
    (gSeq (gAsg (gOp nAdd (gOp nIx (gVar 0) (gC (.int 4))) (gC (.int 1))) (hSub (gVar 0) (gC (.int 4)) sSet))
    (gRet (gOp nMod (gCB cInt (gCons (gCallD (sp__law_mix K) [] (gCons (gOp nIx (gVar 0) (gC (.int 3))) (gCons (gOp nIx (gVar 0) (gC (.int 4))) gNil))) gNil)) (gVar 1))))
    gNext)
    (gSeq (gIfS (gTst (gOp nEq (gOp nIx (gVar 3) (gVar 4)) (gC (.int 0))))
    (gSeq (gAsg (gCB cInt (gCons (gOp nIx (gVar 2) (gVar 4)) gNil)) (hName 5))
    (gSeq (gAsg (gOp nDiv (gVar 5) (gVar 1)) (hSub (gVar 2) (gVar 4) sSet))
    (gSeq (gIfS (gTst (gOp nLt (gVar 5) (gVar 1)))
    (gAsg (gOp nAdd (gVar 4) (gC (.int 1))) (hSub (gVar 0) (gC (.int 2)) sSet))
    gNext)
    (gRet (gOp nMod (gCB cInt (gCons (gVar 5) gNil)) (gVar 1))))))
    gNext)
    (gSeq (gAsg (gOp nSub (gOp nIx (gVar 3) (gVar 4)) (gC (.int 1))) (hSub (gVar 3) (gVar 4) sSet))
    (gSeq (gIfS (gTst (gOp nEq (gOp nIx (gVar 3) (gVar 4)) (gC (.int 0))))
    (gAsg (gOp nAdd (gVar 4) (gC (.int 1))) (hSub (gVar 0) (gC (.int 2)) sSet))
    gNext)
    (gRet (gOp nMod (gCB cInt (gCons (gCallD (sp__law_mix K) [] (gCons (gOp nIx (gVar 2) (gVar 4)) (gCons (gOp nIx (gVar 3) (gVar 4)) gNil))) gNil)) (gVar 1)))))))))))
def n__law_of : List Str := ["store", "things"]
def t__law_of (K : PySem.W.Frag) : TSD :=
    (gRet (gOp nIx (gVar 1) (gCallD (sp__law_take K) [] (gCons (gVar 0) (gCons (gCB cLen (gCons (gVar 1) gNil)) gNil)))))
def n__law_marks : List Str := ["value"]
def t__law_marks (K : PySem.W.Frag) : TSD :=
    (gRet (gLst (gCons (gOp nIs (gVar 0) (gC .non)) (gCons (gIsi .bl (gVar 0)) (gCons (gIsi .int (gVar 0)) (gCons (gIsi .str (gVar 0)) (gCons (gIsi .tup (gVar 0)) (gCons (gIsi .lst (gVar 0)) gNil))))))))
def n__law_like : List Str := ["answer", "due", "pairs", "turn", "here", "plan", "at"]
def t__law_like (K : PySem.W.Frag) : TSD :=
    (gSeq (gAsg (gLstM (gCons (gTup (gCons (gVar 0) (gCons (gVar 1) gNil))) gNil)) (hName 2))
    (gSeq (gFor (iRng1D (gCons (gC (.int 400000)) gNil)) (hName 3)
    (gSeq (gIfS (gTst (gOp nEq (gCB cLen (gCons (gVar 2) gNil)) (gC (.int 0))))
    (gRet (gC (.bl true)))
    gNext)
    (gSeq (gAsg (gBL0 mPop (gVar 2)) (hTup 2 (hCons (hName 4) (hCons (hName 5) hNil))))
    (gSeq (gIfS (gTst (gOp nNe (gCallD (sp__law_marks K) [] (gCons (gVar 4) gNil)) (gCallD (sp__law_marks K) [] (gCons (gVar 5) gNil))))
    (gRet (gC (.bl false)))
    gNext)
    (gIfS (gTst (gIsiT [.tup, .lst] (gVar 5)))
    (gSeq (gIfS (gTst (gOp nNe (gCB cLen (gCons (gVar 4) gNil)) (gCB cLen (gCons (gVar 5) gNil))))
    (gRet (gC (.bl false)))
    gNext)
    (gFor (iRng1D (gCons (gCB cLen (gCons (gVar 5) gNil)) gNil)) (hName 6)
    (gDrop (gBL mAppend (gVar 2) (gCons (gTup (gCons (gOp nIx (gVar 4) (gVar 6)) (gCons (gOp nIx (gVar 5) (gVar 6)) gNil))) gNil)))))
    (gIfS (gTst (gOp nNe (gVar 4) (gVar 5)))
    (gRet (gC (.bl false)))
    gNext))))))
    (gRet (gC (.bl false)))))
def n__law_yes : List Str := ["store", "many"]
def t__law_yes (K : PySem.W.Frag) : TSD :=
    (gRet (gOp nEq (gCallD (sp__law_take K) [] (gCons (gVar 0) (gCons (gVar 1) gNil))) (gC (.int 0))))
def n__law_span : List Str := ["store", "least", "greatest", "pick"]
def t__law_span (K : PySem.W.Frag) : TSD :=
    (gSeq (gIfS (gTst (gOp nLe (gVar 2) (gVar 1)))
    (gRet (gVar 1))
    gNext)
    (gSeq (gAsg (gCallD (sp__law_take K) [] (gCons (gVar 0) (gCons (gC (.int 9)) gNil))) (hName 3))
    (gSeq (gIfS (gTst (gOp nEq (gVar 3) (gC (.int 0))))
    (gRet (gVar 1))
    gNext)
    (gSeq (gIfS (gTst (gOp nEq (gVar 3) (gC (.int 1))))
    (gRet (gVar 2))
    gNext)
    (gSeq (gIfS (gTst (gOp nEq (gVar 3) (gC (.int 2))))
    (gRet (gOp nAdd (gVar 1) (gC (.int 1))))
    gNext)
    (gRet (gOp nAdd (gVar 1) (gCallD (sp__law_take K) [] (gCons (gVar 0) (gCons (gOp nAdd (gOp nSub (gVar 2) (gVar 1)) (gC (.int 1))) gNil))))))))))
def n__law_order : List Str := ["store", "things", "line", "turn", "at", "other", "held"]
def t__law_order (K : PySem.W.Frag) : TSD :=
    (gSeq (gAsg (gCB cListTM (gCons (gVar 1) gNil)) (hName 2))
    (gSeq (gFor (iRng1D (gCons (gOp nSub (gCB cLen (gCons (gVar 2) gNil)) (gC (.int 1))) gNil)) (hName 3)
    (gSeq (gAsg (gOp nSub (gOp nSub (gCB cLen (gCons (gVar 2) gNil)) (gC (.int 1))) (gVar 3)) (hName 4))
    (gSeq (gAsg (gCallD (sp__law_take K) [] (gCons (gVar 0) (gCons (gOp nAdd (gVar 4) (gC (.int 1))) gNil))) (hName 5))
    (gSeq (gAsg (gOp nIx (gVar 2) (gVar 4)) (hName 6))
    (gSeq (gAsg (gOp nIx (gVar 2) (gVar 5)) (hSub (gVar 2) (gVar 4) sSet))
    (gAsg (gVar 6) (hSub (gVar 2) (gVar 5) sSet)))))))
    (gRet (gVar 2))))
def n__law_ascii : List Str := ["first"]
def t__law_ascii (K : PySem.W.Frag) : TSD :=
    (gSeq (gAsg (gC (.str " !\"#$&'()*+,-./0123456789:;<=>?@ABCDEFGHIJKLMNOPQRSTUVWXYZ[\\]^_`")) (hName 0))
    (gRet (gOp nAdd (gVar 0) (gC (.str "abcdefghijklmnopqrstuvwxyz{|}~")))))
def n__law_text : List Str := ["store", "alphabet", "size", "way", "block", "turn"]
def t__law_text (K : PySem.W.Frag) : TSD :=
    (gSeq (gIfS (gOr (gTst (gOp nLe (gVar 2) (gC (.int 0)))) (gTst (gOp nEq (gVar 1) (gC (.str "")))))
    (gRet (gC (.str "")))
    gNext)
    (gSeq (gAsg (gCallD (sp__law_take K) [] (gCons (gVar 0) (gCons (gC (.int 6)) gNil))) (hName 3))
    (gSeq (gIfS (gTst (gOp nEq (gVar 3) (gC (.int 0))))
    (gRet (gOp nMulT (gCallD (sp__law_of K) [] (gCons (gVar 0) (gCons (gVar 1) gNil))) (gVar 2)))
    gNext)
    (gSeq (gIfS (gTst (gOp nEq (gVar 3) (gC (.int 1))))
    (gSeq (gAsg (gM1 mJoin (gC (.str "")) (gLc (iRng1D (gCons (gOp nAdd (gC (.int 2)) (gCallD (sp__law_take K) [] (gCons (gVar 0) (gCons (gC (.int 3)) gNil)))) gNil)) (hName 5) gYes (gCallD (sp__law_of K) [] (gCons (gVar 0) (gCons (gVar 1) gNil))) [5])) (hName 4))
    (gRet (gSl (gOp nMulT (gVar 4) (gVar 2)) gNoP (gPart (gVar 2)))))
    gNext)
    (gRet (gM1 mJoin (gC (.str "")) (gLc (iRng1D (gCons (gVar 2) gNil)) (hName 5) gYes (gCallD (sp__law_of K) [] (gCons (gVar 0) (gCons (gVar 1) gNil))) [5])))))))
def n__law_shaken : List Str := ["store", "text", "way", "signs_now", "at", "other"]
def t__law_shaken (K : PySem.W.Frag) : TSD :=
    (gSeq (gAsg (gCallD (sp__law_take K) [] (gCons (gVar 0) (gCons (gC (.int 6)) gNil))) (hName 2))
    (gSeq (gAsg (gCB cListTM (gCons (gVar 1) gNil)) (hName 3))
    (gSeq (gIfS (gOr (gTst (gOp nGt (gVar 2) (gC (.int 2)))) (gTst (gOp nLt (gCB cLen (gCons (gVar 1) gNil)) (gC (.int 2)))))
    (gRet (gVar 1))
    gNext)
    (gSeq (gIfS (gTst (gOp nEq (gVar 2) (gC (.int 0))))
    (gRet (gM1 mJoin (gC (.str "")) (gCallD (sp__law_order K) [] (gCons (gVar 0) (gCons (gVar 3) gNil)))))
    gNext)
    (gSeq (gAsg (gCallD (sp__law_take K) [] (gCons (gVar 0) (gCons (gOp nSub (gCB cLen (gCons (gVar 1) gNil)) (gC (.int 1))) gNil))) (hName 4))
    (gSeq (gAsg (gOp nAdd (gVar 4) (gC (.int 1))) (hName 5))
    (gSeqC (gIfS (gTst (gOp nEq (gVar 2) (gC (.int 1))))
    (gAsg (gOp nAdd (gOp nAdd (gVar 4) (gC (.int 1))) (gCallD (sp__law_take K) [] (gCons (gVar 0) (gCons (gOp nSub (gOp nSub (gCB cLen (gCons (gVar 1) gNil)) (gC (.int 1))) (gVar 4)) gNil)))) (hName 5))
    gNext)
    (gSeq (gAsg (gOp nIx (gVar 1) (gVar 5)) (hSub (gVar 3) (gVar 4) sSet))
    (gSeq (gAsg (gOp nIx (gVar 1) (gVar 4)) (hSub (gVar 3) (gVar 5) sSet))
    (gRet (gM1 mJoin (gC (.str "")) (gVar 3))))))))))))
end N
namespace N
open PySem PySem.Spec PyProof.Rows L2
local macro_rules
  | `(tactic| walk_at "nl") => `(tactic| first
    | with_reducible assumption
    | exact gup_same
    | (refine (gup_ne (by with_reducible assumption)).trans ?_; walk_at "nl")
    | (refine (gup_ne (Ne.symm (by with_reducible assumption))).trans ?_; walk_at "nl"))
local macro_rules
  | `(tactic| walk_at "ns") => `(tactic| first
    | with_reducible assumption
    | omega
    | exact Eq.refl _
    | (apply Nat.le_of_ble_eq_true; exact Eq.refl _)
    | exact And.intro (by decide +kernel) (by decide +kernel)
    | exact or_ll (by decide +kernel) (by decide +kernel)
    | exact or_lr (by decide +kernel) (by decide +kernel)
    | exact Or.inr (cmulw (by decide +kernel))
    | exact IsLst_r (by walk_at "nl")
    | exact IsLst_v
    | exact IsIns_v True.intro
    | exact IsIns_v (by decide +kernel)
    | (apply of_decide_eq_true; decide +kernel)
    | (simp; done)
    | (simp; omega))
local macro_rules
  | `(tactic| walk_at "ns") => `(tactic| first
    | exact tx_sz (by omega)
    | exact sz_le (by omega)
    | exact sz_lt (by omega)
    | exact IsIns_r (by walk_at "nl") True.intro
    | exact IsIns_r (by walk_at "nl") (by decide +kernel)
    | exact tx_sz2 (by omega)
    | exact tx_sz2 (by simp; omega)
    | exact sz_le (by simp; omega)
    | exact cdivw (by omega) (by omega)
    | exact tx_sz (by simp; omega)
    | exact cdivw (by split <;> omega) (by split <;> omega)
    | (split <;> omega))
local macro_rules
  | `(tactic| walk_at "na") => `(tactic| first
    | refine Sd_i (by walk_at "ns") ?_
    | refine Cond_t (Eq.refl _) ?_
    | refine Cond_f (Eq.refl _) ?_
    | refine Cond_t (by with_reducible assumption) ?_
    | refine Cond_f (by with_reducible assumption) ?_
    | refine Cond_t (decide_eq_true (by omega)) ?_
    | refine Cond_f (decide_eq_false (by omega)) ?_
    | refine Cond_t (nd_t (by omega)) ?_
    | refine Cond_f (nd_f (by omega)) ?_
    | refine LkL_i (by walk_at "nl") ?_
    | refine AtD_i (Eq.refl _) ?_
    | refine IsIns_v ?_
    | refine IsIns_r (by walk_at "nl") ?_
    | refine StF_i (by walk_at "nl") (by walk_at "ns") ?_
    | refine Fd_i 0 (by decide +kernel) (Eq.refl _) ?_
    | refine Fd_i 1 (by decide +kernel) (Eq.refl _) ?_
    | refine Fd_i 2 (by decide +kernel) (Eq.refl _) ?_
    | refine Fd_i 3 (by decide +kernel) (Eq.refl _) ?_
    | refine Fd_i 4 (by decide +kernel) (Eq.refl _) ?_
    | refine IntsQ_t _ (Eq.refl _) ?_
    | refine IntsQ_l _ (Eq.refl _) ?_
    | refine IntsL_i _ (Eq.refl _) ?_
    | refine BlsL_i _ (Eq.refl _) ?_
    | (rw [cut_toA]; rotate_left; · omega)
    | (rw [cut_fromA]; rotate_left; · omega)
    | rw [tx_app]
    | rw [rev_tx]
    | rw [repS_tx])
local macro_rules
  | `(tactic| walk_at "nb") => `(tactic| first
    | walk_at "na"
    | refine NewL_v ?_)
local macro_rules
  | `(tactic| walk_at "nj") => `(tactic| (
      repeat (conv => whnf
              walk_at "na")
      try (conv => whnf)))
local macro_rules
  | `(tactic| walk_at "n0") => `(tactic| first
    | walk_at "nb"
    | refine Ret_i (d := .int _) ?_
    | refine Ret_i (d := .bl _) ?_
    | refine Ret_i (d := .tup _) ?_
    | refine Ret_i (d := .lst _) ?_
    | refine Ret_i (d := .str _) ?_
    | refine Ret_i (d := .non) ?_)
local macro_rules
  | `(tactic| walk_at "n1") => `(tactic| first
    | walk_at "n0"
    | refine Call_i ?_)
local macro_rules
  | `(tactic| walk_at "nc") => `(tactic| (
      repeat (conv => whnf
              walk_at "n0")
      try (conv => whnf)))
local macro_rules
  | `(tactic| walk_at "nw") => `(tactic| (
      repeat (conv => whnf
              walk_at "n1")
      try (conv => whnf)))
local macro_rules
  | `(tactic| walk_at "nk") => `(tactic| (
      repeat (conv => whnf
              walk_at "nb")
      try (conv => whnf)))
theorem I1_x {d : D} {k : Int → Prop} (h : I1 d k) : ∃ i, d = .int i ∧ k i := by
  cases d <;> first | exact ⟨_, rfl, h⟩ | exact (show False from h).elim
theorem pu__law_mix (K : PySem.W.Frag) (ds : List D) (G : GH) (q : QD) (x : XD) (h : sp__law_mix K ds G q x) : t__law_mix K (dEnds q x) (startD n__law_mix ds) G := by
  obtain ⟨a, b, rfl, h⟩ := A2_x h
  obtain ⟨i, rfl, h⟩ := I1_x h
  obtain ⟨j, rfl, h⟩ := I1_x h
  walk_at "nw"
  exact h _
theorem atI_in {α : Type} {xs : List α} {i : Int} (h0 : 0 ≤ i) (h1 : i < xs.length) : ∃ x, atI xs i = some x ∧ xs[i.toNat]? = some x := by
  unfold atI ixN
  rw [if_pos h0, if_pos h1]
  have h2 : i.toNat < xs.length := by omega
  exact ⟨xs[i.toNat], List.getElem?_eq_getElem h2, List.getElem?_eq_getElem h2⟩
theorem atI_int {cs : List Int} {i : Int} (h0 : 0 ≤ i) (h1 : i < cs.length) : ∃ v, atI (cs.map D.int) i = some (.int v) ∧ cs[i.toNat]? = some v := by
  obtain ⟨x, e1, e2⟩ := atI_in (xs := cs.map D.int) h0 (by rw [List.length_map]; exact h1)
  rw [List.getElem?_map] at e2
  cases e : cs[i.toNat]? with
  | none => rw [e] at e2; cases e2
  | some v =>
    rw [e] at e2
    cases e2
    exact ⟨v, e1, rfl⟩
theorem set_ints {cs : List Int} {n : Nat} {v : Int} : (cs.map D.int).set n (.int v) = (cs.set n v).map D.int := by rw [List.map_set]
theorem pu__law_take (K : PySem.W.Frag) (ds : List D) (G : GH) (q : QD) (x : XD) (h : sp__law_take K ds G q x) : t__law_take K (dEnds q x) (startD n__law_take ds) G := by
  obtain ⟨s, m, rfl, a, c, l, i, rfl, rfl, ⟨nac, nal, ncl, cs, ls, at_, seed, k, ha, hc, hl, hlen, h0⟩, hi, h⟩ := A2_x h
  walk_at "nw"
  refine Cond_i (fun hb => ?_) (fun hb => ?_)
  · walk_at "nw"
    exact h 0 G (by omega) (.inr rfl) ⟨nac, nal, ncl, cs, ls, at_, seed, k, ha, hc, hl, hlen, h0⟩ fun _ _ _ _ => rfl
  have hb := of_decide_eq_false hb
  walk_at "nw"
  refine Cond_i (fun hd => ?_) (fun hd => ?_)
  · walk_at "nw"
    intro r
    walk_at "nw"
    refine h _ _ (Int.emod_nonneg _ (by omega)) (.inl (Int.emod_lt_of_pos _ (by omega))) ⟨nac, nal, ncl, cs, ls, at_, seed, k + 1, gup_same, ?_, ?_, hlen, h0⟩ fun b h1 _ _ => gup_ne h1
    · exact (gup_ne (Ne.symm nac)).trans hc
    · exact (gup_ne (Ne.symm nal)).trans hl
  have hd := of_decide_eq_false hd
  rw [List.length_map] at hd
  obtain ⟨v, hv, _⟩ := atI_int (cs := ls) h0 (by omega)
  obtain ⟨w, hw, _⟩ := atI_int (cs := cs) h0 (by omega)
  have hdv : CDivW w i := cdivw (by omega) hi
  have hsx : 0 ≤ at_ ∧ at_ < ((List.map D.int cs).length : Int) := by rw [List.length_map]; omega
  have hsy : 0 ≤ at_ ∧ at_ < ((List.map D.int ls).length : Int) := by rw [List.length_map]; omega
  walk_at "nw"
  refine AtD_i hv ?_
  walk_at "nw"
  refine Cond_i (fun he => ?_) (fun he => ?_)
  · walk_at "nw"
    refine AtD_i hw ?_
    walk_at "nw"
    refine Cond_i (fun hf => ?_) (fun hf => ?_)
    · walk_at "nw"
      refine h _ _ (Int.emod_nonneg _ (by omega)) (.inl (Int.emod_lt_of_pos _ (by omega))) ⟨nac, nal, ncl, cs.set at_.toNat (w / i), ls, at_ + 1, seed, k, gup_same, ?_, ?_, by rw [List.length_set]; exact hlen, by omega⟩ fun b h1 h2 _ => (gup_ne h1).trans (gup_ne h2)
      · rw [gup_ne (Ne.symm nac), gup_same, set_ints]
      · rw [gup_ne (Ne.symm nal), gup_ne (Ne.symm ncl)]; exact hl
    · walk_at "nw"
      refine h _ _ (Int.emod_nonneg _ (by omega)) (.inl (Int.emod_lt_of_pos _ (by omega))) ⟨nac, nal, ncl, cs.set at_.toNat (w / i), ls, at_, seed, k, ?_, ?_, ?_, by rw [List.length_set]; exact hlen, by omega⟩ fun b h1 h2 _ => gup_ne h2
      · rw [gup_ne nac]; exact ha
      · rw [gup_same, set_ints]
      · rw [gup_ne (Ne.symm ncl)]; exact hl
  · walk_at "nw"
    have e1 : (List.map D.int ls).set at_.toNat (D.int (v - 1)) = (ls.set at_.toNat (v - 1)).map D.int := set_ints
    obtain ⟨u, hu, _⟩ := atI_int (cs := ls.set at_.toNat (v - 1)) h0 (by rw [List.length_set]; omega)
    rw [← e1] at hu
    refine AtD_i hv ?_
    walk_at "nw"
    refine AtD_i hu ?_
    walk_at "nw"
    refine Cond_i (fun hf => ?_) (fun hf => ?_)
    · walk_at "nw"
      refine AtD_i hw ?_
      walk_at "nw"
      refine AtD_i hu ?_
      walk_at "nw"
      intro r
      walk_at "nw"
      refine h _ _ (Int.emod_nonneg _ (by omega)) (.inl (Int.emod_lt_of_pos _ (by omega))) ⟨nac, nal, ncl, cs, ls.set at_.toNat (v - 1), at_ + 1, seed, k, gup_same, ?_, ?_, by rw [List.length_set]; exact hlen, by omega⟩ fun b h1 _ h3 => (gup_ne h1).trans (gup_ne h3)
      · rw [gup_ne (Ne.symm nac), gup_ne ncl]; exact hc
      · rw [gup_ne (Ne.symm nal), gup_same, ← e1]
    · walk_at "nw"
      refine AtD_i hw ?_
      walk_at "nw"
      refine AtD_i hu ?_
      walk_at "nw"
      intro r
      walk_at "nw"
      refine h _ _ (Int.emod_nonneg _ (by omega)) (.inl (Int.emod_lt_of_pos _ (by omega))) ⟨nac, nal, ncl, cs, ls.set at_.toNat (v - 1), at_, seed, k, ?_, ?_, ?_, by rw [List.length_set]; exact hlen, by omega⟩ fun b h1 _ h3 => gup_ne h3
      · rw [gup_ne nal]; exact ha
      · rw [gup_ne ncl]; exact hc
      · rw [gup_same, ← e1]
/-- how a caller goes on behind _law_take -/
theorem take_c {K : PySem.W.Frag} {a c l : Addr} {i : Int} {G : GH} {q : QD} {x : XD} (hS : Sto a c l G) (hi : i < 2 ^ 62) (h : ∀ n G', 0 ≤ n → (n < i ∨ n = 0) → Sto a c l G' → Sm3 a c l G G' → q (.int n) G') : Call (sp__law_take K) [.ref a, .int i] G q x :=
  Call_i ⟨a, c, l, i, rfl, rfl, hS, hi, h⟩
theorem pu__law_of (K : PySem.W.Frag) (ds : List D) (G : GH) (q : QD) (x : XD) (h : sp__law_of K ds G q x) : t__law_of K (dEnds q x) (startD n__law_of ds) G := by
  obtain ⟨s, t, rfl, a, c, l, xs, rfl, ht, hne, hl, hS, h⟩ := A2_x h
  have hpos : 0 < xs.length := List.length_pos_iff.mpr hne
  have fin : ∀ (n : Int) G', 0 ≤ n → (n < xs.length ∨ n = 0) → Sto a c l G' → Sm3 a c l G G' → AtD xs n fun d => Ret d G' q := fun n G' h0 h1 hS' hF => by
    obtain ⟨d, hd, hx⟩ := atI_in (xs := xs) h0 (by omega)
    exact AtD_i hd (Ret_i (h d G' (List.mem_of_getElem? hx) hS' hF))
  rcases ht with rfl | rfl | ⟨z, rfl, rfl, hzl⟩
  · conv => whnf
    exact take_c hS (by omega) fin
  · conv => whnf
    exact take_c hS (by omega) fin
  · have hz : (signs z).length = z.length := by unfold signs; rw [List.length_map, Array.length_toList]; rfl
    have hz2 : z.cps.toList.length = z.length := Array.length_toList
    have e63 : z.length ≤ sizeLine := by rw [sizeLine_eq]; omega
    have fin2 : ∀ (n : Int) G', 0 ≤ n → (n < z.length ∨ n = 0) → Sto a c l G' → Sm3 a c l G G' → AtS z n fun d => Ret d G' q := fun n G' h0 h1 hS' hF => by
      obtain ⟨k, hk, hx⟩ := atI_in (xs := z.cps.toList) h0 (by omega)
      refine AtS_i e63 hk (Ret_i (h _ G' ?_ hS' hF))
      unfold signs
      exact List.mem_map.mpr ⟨k, List.mem_of_getElem? hx, rfl⟩
    conv => whnf
    refine Sd_i e63 ?_
    conv => whnf
    exact take_c hS (by omega) fin2
theorem of_c {K : PySem.W.Frag} {a c l : Addr} {xs : List D} {G : GH} {q : QD} {x : XD} (hS : Sto a c l G) (hne : xs ≠ []) (hl : xs.length < 2 ^ 60) (h : ∀ d G', d ∈ xs → Sto a c l G' → Sm3 a c l G G' → q d G') : Call (sp__law_of K) [.ref a, .tup xs] G q x :=
  Call_i ⟨a, c, l, xs, rfl, .inl rfl, hne, hl, hS, h⟩
theorem pu__law_marks (K : PySem.W.Frag) (ds : List D) (G : GH) (q : QD) (x : XD) (h : sp__law_marks K ds G q x) : t__law_marks K (dEnds q x) (startD n__law_marks ds) G := by
  obtain ⟨d, rfl, ht, h⟩ := A1_x h
  cases d with
  | ro _ => simp [tree] at ht
  | obj _ _ _ => simp [tree] at ht
  | ref _ => simp [tree] at ht
  | fn _ => simp [tree] at ht
  | exc _ _ _ _ => simp [tree] at ht
  | _ =>
    walk_at "nw"
    exact h
theorem nodesA_app : ∀ xs ys : List D, nodesA (xs ++ ys) = nodesA xs + nodesA ys
  | [], ys => by simp [nodesA]
  | x :: xs, ys => by
    rw [List.cons_append]
    show nodes x + nodesA (xs ++ ys) = nodes x + nodesA xs + nodesA ys
    rw [nodesA_app xs ys]
    omega
theorem nodes_pos (d : D) : 1 ≤ nodes d := by cases d <;> simp [nodes]
theorem len_nodes : ∀ xs : List D, xs.length ≤ nodesA xs
  | [] => Nat.zero_le _
  | x :: xs => by
    have h1 := nodes_pos x
    have h2 := len_nodes xs
    show xs.length + 1 ≤ nodes x + nodesA xs
    omega
theorem marks_eq {t : Option Ty} {G : GH} {k : Bool → Prop} (h : k true) : EqD (.lst (marksD t)) (.lst (marksD t)) G k := by
  have e : PyData.eqv (.list ((marksD t).map fun d => match d with | .bl b => .bool b | _ => .none)) (.list ((marksD t).map fun d => match d with | .bl b => .bool b | _ => .none)) = true := by
    cases t with
    | none => decide +kernel
    | some T => cases T <;> decide +kernel
  refine EqD_i (d := .list ((marksD t).map fun d => match d with | .bl b => .bool b | _ => .none)) (e := .list ((marksD t).map fun d => match d with | .bl b => .bool b | _ => .none)) ?_ ?_ rfl rfl (by rw [e]; exact h) <;>
    exact .lst (.cons (.bl _) (.cons (.bl _) (.cons (.bl _) (.cons (.bl _) (.cons (.bl _) (.cons (.bl _) .nil))))))
theorem atI_last {α : Type} {xs : List α} {y : α} : atI (xs ++ [y]) (-1) = some y := by
  unfold atI ixN
  rw [List.length_append, List.length_singleton, if_neg (by omega), if_pos (by omega)]
  have e : (-1 + ((xs.length + 1 : Nat) : Int)).toNat = xs.length := by omega
  rw [e]
  simp
theorem like_end {G : GH} {p : Addr} {q : QD} {o : GO} (hp : G p = none) (h : q (.bl true) G) : Ret (.bl true) (gup G p o) q := Ret_w G (subG_up hp) h
abbrev dup2 (t : D) : D := .tup [t, t]
theorem pu__law_like (K : PySem.W.Frag) (ds : List D) (G : GH) (q : QD) (x : XD) (h : sp__law_like K ds G q x) : t__law_like K (dEnds q x) (startD n__law_like ds) G := by
  obtain ⟨a, b, rfl, rfl, ht, hn, h⟩ := A2_x h
  walk_at "nw"
  refine NewM_i fun p hp => ?_
  walk_at "nw"
  refine ForD_i (fun i τ G' => ∃ st : List D, (∀ t ∈ st, tree t = true) ∧ i + nodesA st ≤ nodes a ∧ G' = gup G p (.lst (st.map dup2)) ∧ ∃ o3 o4 o5 o6, τ = [some a, some a, some (.ref p), o3, o4, o5, o6])
    ⟨[a], by simpa using ht, by simp [nodesA], rfl, _, _, _, _, rfl⟩ (fun _ _ _ _ _ => True.intro) ?_ ?_
  · rintro i d τ G' hd ⟨st, hst, hs, rfl, o3, o4, o5, o6, rfl⟩
    walk_at "nw"
    rcases List.eq_nil_or_concat st with rfl | ⟨st', t, rfl⟩
    · refine Cond_t rfl ?_
      conv => whnf
      exact like_end hp h
    · rw [List.concat_eq_append] at *
      have htt : tree t = true := hst t (by simp)
      have hst' : ∀ u ∈ st', tree u = true := fun u m => hst u (by simp [m])
      rw [nodesA_app] at hs
      have hs1 : i + (nodesA st' + nodes t) ≤ nodes a := by simpa [nodesA] using hs
      refine Cond_f (by simp; omega) ?_
      walk_at "nw"
      refine AtD_i (by rw [List.map_append]; exact atI_last) ?_
      walk_at "nw"
      refine ⟨htt, ?_⟩
      walk_at "nw"
      refine ⟨htt, ?_⟩
      walk_at "nw"
      refine marks_eq ?_
      walk_at "nw"
      have leaf : nodes t = 1 → (∃ st : List D, (∀ t ∈ st, tree t = true) ∧ i + 1 + nodesA st ≤ nodes a ∧ gup (gup G p (.lst (List.map dup2 (st' ++ [t])))) p (.lst (List.map dup2 (st' ++ [t])).dropLast) = gup G p (.lst (st.map dup2)) ∧
          ∃ p3 p4 p5 p6, [some a, some a, some (.ref p), some d, some t, some t, o6] = [some a, some a, some (.ref p), p3, p4, p5, p6]) := fun e1 =>
        ⟨st', hst', by omega, by rw [gup_gup, List.map_append]; simp, _, _, _, _, rfl⟩
      cases t with
      | tup xs | lst xs =>
        have hx : trees xs = true := htt
        have hz : nodesA xs + 1 ≤ nodes a := by have : nodes a ≥ i + (nodesA st' + (1 + nodesA xs)) := hs1; omega
        have hlx : xs.length ≤ nodesA xs := len_nodes xs
        walk_at "nw"
        refine ForD_i (fun j τ G' => G' = gup G p (.lst (List.map dup2 (st' ++ xs.take j))) ∧ ∃ p6, τ = [some a, some a, some (.ref p), some d, some _, some _, p6]) ⟨?_, _, rfl⟩ (fun _ _ _ _ _ => True.intro) ?_ ?_
        · rw [gup_gup, List.map_append]; simp
        · rintro j dj τ G' hj ⟨rfl, p6, rfl⟩
          have hj' := (List.getElem?_eq_some_iff.mp hj).1
          rw [rng_len] at hj'
          have hjx : j < xs.length := by omega
          rw [rng_at (by omega)] at hj
          cases hj
          obtain ⟨y, hy, hy2⟩ := atI_in (xs := xs) (i := 0 + (j : Int)) (by omega) (by omega)
          have hl2 : (List.map dup2 (st' ++ xs.take j)).length < sizeLine := by
            rw [List.length_map, List.length_append, List.length_take]
            have := len_nodes st'
            have := PySem.sizeLine_eq
            omega
          walk_at "nw"
          refine AtD_i hy ?_
          walk_at "nw"
          refine AtD_i hy ?_
          walk_at "nw"
          refine ⟨?_, _, rfl⟩
          have e0 : (0 + (j : Int)).toNat = j := by omega
          rw [e0] at hy2
          rw [gup_gup, List.take_add_one, hy2]
          simp
        · rintro τ G' ⟨rfl, p6, rfl⟩
          refine ⟨st' ++ xs, ?_, ?_, ?_, _, _, _, _, rfl⟩
          · intro u hu
            rcases List.mem_append.mp hu with hu | hu
            · exact hst' u hu
            · exact trees_mem hx u hu
          · rw [nodesA_app]
            have : i + (nodesA st' + (1 + nodesA xs)) ≤ nodes a := hs1
            omega
          · rw [rng_len]
            have e0 : ((xs.length : Int)).toNat = xs.length := by omega
            rw [e0, List.take_length]
      | ro _ => simp [tree] at htt
      | obj _ _ _ => simp [tree] at htt
      | ref _ => simp [tree] at htt
      | fn _ => simp [tree] at htt
      | exc _ _ _ _ => simp [tree] at htt
      | _ =>
        walk_at "nw"
        first
          | exact leaf rfl
          | (refine Cond_f (by simp) ?_
             conv => whnf
             exact leaf rfl)
  · rintro τ G' ⟨st, hst, hs, _⟩
    rw [rng_len] at hs
    omega
theorem pu__law_store (K : PySem.W.Frag) (ds : List D) (G : GH) (q : QD) (x : XD) (h : sp__law_store K ds G q x) : t__law_store K (dEnds q x) (startD n__law_store ds) G := by
  obtain ⟨s, rfl, ns, rfl, hns, h⟩ := A1_x h
  walk_at "nw"
  refine NewM_i fun c hc => ?_
  walk_at "nw"
  refine NewM_i fun l hl => ?_
  have ncl : l ≠ c := fun z => by rw [z, gup_same] at hl; cases hl
  have hl0 : G l = none := by rw [gup_ne ncl] at hl; exact hl
  have hb : -(2 ^ 62) ≤ (if (63 : Int) < ((List.map D.int ns).length : Int) then 63 else ((List.map D.int ns).length : Int)) ∧ (if (63 : Int) < ((List.map D.int ns).length : Int) then 63 else ((List.map D.int ns).length : Int)) < 2 ^ 62 := by
    split <;> omega
  walk_at "nw"
  generalize hw : ((10 : Int) ^ (60 : Int).toNat * 10 ^ (60 : Int).toNat * 10 ^ (60 : Int).toNat * 10 ^ (60 : Int).toNat) = wide
  refine ForD_i (fun i τ G' => ∃ cs ls sd o5 o6 o7, G' c = some (.lst (List.map D.int cs)) ∧ G' l = some (.lst (List.map D.int ls)) ∧ (∀ b, b ≠ c → b ≠ l → G' b = G b) ∧ cs.length = ls.length ∧ cs.length ≤ i ∧
      τ = [some (.ro (List.map D.int ns)), some (.int wide), some (.ref c), some (.ref l), some (.int sd), o5, o6, o7])
    ⟨[], [], _, none, none, none, (gup_ne (Ne.symm ncl)).trans gup_same, gup_same, fun b h1 h2 => (gup_ne h2).trans (gup_ne h1), rfl, Nat.le_refl _, by rw [← hw]; rfl⟩ (fun _ _ _ _ _ => True.intro) ?_ ?_
  · rintro i d τ G' hd ⟨cs, ls, sd, o5, o6, o7, gc, gl, gf, hlen, hle, rfl⟩
    have hi := (List.getElem?_eq_some_iff.mp hd).1
    rw [rng_len] at hi
    rw [rng_at hi] at hd
    cases hd
    have hin : 0 + (i : Int) < ns.length := by
      rw [List.length_map] at hi
      split at hi <;> omega
    have hlt : i < 63 := by split at hi <;> omega
    obtain ⟨v, hv, _⟩ := atI_int (cs := ns) (i := 0 + (i : Int)) (by omega) hin
    have hs1 : (List.map D.int cs).length < sizeLine := by
      have := PySem.sizeLine_eq
      rw [List.length_map]; omega
    have hs2 : (List.map D.int ls).length < sizeLine := by
      have := PySem.sizeLine_eq
      rw [List.length_map]; omega
    have keep : ∀ (u w sd : Int) (p5 p6 p7 : Option D), ∃ cs' ls' sd' o5 o6 o7, gup (gup G' c (.lst (List.map D.int cs ++ [D.int u]))) l (.lst (List.map D.int ls ++ [D.int w])) c = some (.lst (List.map D.int cs')) ∧
        gup (gup G' c (.lst (List.map D.int cs ++ [D.int u]))) l (.lst (List.map D.int ls ++ [D.int w])) l = some (.lst (List.map D.int ls')) ∧
        (∀ b, b ≠ c → b ≠ l → gup (gup G' c (.lst (List.map D.int cs ++ [D.int u]))) l (.lst (List.map D.int ls ++ [D.int w])) b = G b) ∧ cs'.length = ls'.length ∧ cs'.length ≤ i + 1 ∧
        [some (.ro (List.map D.int ns)), some (.int wide), some (.ref c), some (.ref l), some (.int sd), p5, p6, p7] = [some (.ro (List.map D.int ns)), some (.int wide), some (.ref c), some (.ref l), some (.int sd'), o5, o6, o7] := fun u w sd p5 p6 p7 =>
      ⟨cs ++ [u], ls ++ [w], sd, p5, p6, p7, by rw [gup_ne (Ne.symm ncl), gup_same]; simp, by rw [gup_same]; simp, fun b h1 h2 => (gup_ne h2).trans ((gup_ne h1).trans (gf b h1 h2)), by simp [hlen], by simp; omega, rfl⟩
    have hwp : 0 < wide ∧ wide.natAbs.log2 < 9000 := by rw [← hw]; exact ⟨by decide +kernel, by decide +kernel⟩
    walk_at "nw"
    refine AtD_i hv ?_
    walk_at "nw"
    intro r1
    walk_at "nw"
    refine Cond_i (fun hb => ?_) (fun hb => ?_)
    · walk_at "nw"
      intro r2
      walk_at "nw"
      exact keep r2 6 r1 _ _ _
    · walk_at "nw"
      refine Cond_i (fun hb => ?_) (fun hb => ?_)
      · walk_at "nw"
        exact keep (v % wide) 0 r1 _ _ _
      · conv => whnf
        exact ⟨cs, ls, r1, _, _, _, gc, gl, gf, hlen, by omega, rfl⟩
  · rintro τ G' ⟨cs, ls, sd, o5, o6, o7, gc, gl, gf, hlen, hle, rfl⟩
    walk_at "nw"
    refine NewM_i fun a ha => ?_
    conv => whnf
    have nac : a ≠ c := ne_new' gc ha
    have nal : a ≠ l := ne_new' gl ha
    refine Ret_i (h a c l _ ⟨nac, nal, Ne.symm ncl, cs, ls, 0, sd, 0, gup_same, (gup_ne (Ne.symm nac)).trans gc, (gup_ne (Ne.symm nal)).trans gl, hlen, Int.le_refl _⟩ ?_ hc hl0 fun b h1 h2 h3 => (gup_ne h1).trans (gf b h2 h3))
    rw [← gf a nac nal]; exact ha
/-- a comprehension over encoded things, the ledger as it is -/
theorem lc_enc {F : FinL} {α : Type} {xs : List α} {stay : GH → Prop} {h : TGD} {tt : TTD} {te : TED} {vs : List Nat} {τ : SD} {G : GH} {q : QD} (enc : α → D) (p : α → Bool) (f : α → D) (hz : xs.length ≤ 10000000) (hl : stay G)
    (hs : ∀ a ∈ xs, ∀ (A : QD) (B : GH → Prop), (p a = true → A (f a) G) → (p a = false → B G) → h (enc a) (wipeD τ vs) G fun τ2 _ => tt τ2 G X0 fun b G3 => Cond b (te τ2 G3 X0 A) (B G3))
    (hd : F ((xs.filter p).map f) G q) : LcF F (xs.map enc) stay h tt te vs τ G q := by
  refine LcD_i (fun i acc G' => G' = G ∧ acc = ((xs.take i).filter p).map f) ⟨rfl, by simp⟩ (fun i acc G' _ z => by rw [z.1]; exact hl) (fun i d acc G' hi z => ?_) (fun acc G' z => ?_)
  · obtain ⟨rfl, rfl⟩ := z
    rw [List.getElem?_map] at hi
    cases ha : xs[i]? with
    | none => rw [ha] at hi; cases hi
    | some a =>
      rw [ha] at hi
      cases hi
      have hlt := (List.getElem?_eq_some_iff.mp ha).1
      have e : xs.take (i + 1) = xs.take i ++ [a] := by
        rw [List.take_add_one, ha]
        rfl
      refine hs a (List.mem_of_getElem? ha) _ _ (fun hb => ⟨?_, rfl, ?_⟩) fun hb => ⟨rfl, ?_⟩
      · have l1 : (((xs.take i).filter p).map f).length ≤ xs.length := by
          rw [List.length_map]
          exact Nat.le_trans (List.length_filter_le _ _) (by rw [List.length_take]; omega)
        exact Nat.lt_of_le_of_lt (Nat.le_trans l1 hz) (by decide)
      · rw [e, List.filter_append, List.map_append]
        simp [hb]
      · rw [e, List.filter_append, List.map_append]
        simp [hb]
  · obtain ⟨rfl, rfl⟩ := z
    rw [List.length_map, List.take_length]
    exact hd
theorem cut_take {ds : List D} {k : Nat} (h : k ≤ ds.length) : cutD ds none (some (k : Int)) = ds.take k := by
  unfold cutD
  rw [HT.sIx_nat, HT.sIx_none, List.drop_zero, Nat.sub_zero, Nat.min_eq_left h]
theorem cut_drop {ds : List D} {k : Nat} (h : k ≤ ds.length) : cutD ds (some (k : Int)) none = ds.drop k := by
  unfold cutD
  rw [HT.sIx_nat, HT.sIx_none, Nat.min_eq_left h, List.take_of_length_le]
  rw [List.length_drop]; exact Nat.le_refl _
theorem cut_tail {d : D} {ds : List D} : cutD (d :: ds) (some 1) none = ds := by
  have := cut_drop (ds := d :: ds) (k := 1) (by simp)
  simpa using this
end N
namespace N
open PySem PySem.Spec PyProof.Rows L2
local macro_rules
  | `(tactic| walk_at "nl") => `(tactic| first
    | with_reducible assumption
    | exact gup_same
    | (refine (gup_ne (by with_reducible assumption)).trans ?_; walk_at "nl")
    | (refine (gup_ne (Ne.symm (by with_reducible assumption))).trans ?_; walk_at "nl"))
local macro_rules
  | `(tactic| walk_at "ns") => `(tactic| first
    | with_reducible assumption
    | omega
    | exact Eq.refl _
    | (apply Nat.le_of_ble_eq_true; exact Eq.refl _)
    | exact And.intro (by decide +kernel) (by decide +kernel)
    | exact or_ll (by decide +kernel) (by decide +kernel)
    | exact or_lr (by decide +kernel) (by decide +kernel)
    | exact Or.inr (cmulw (by decide +kernel))
    | exact IsLst_r (by walk_at "nl")
    | exact IsLst_v
    | exact IsIns_v True.intro
    | exact IsIns_v (by decide +kernel)
    | (apply of_decide_eq_true; decide +kernel)
    | (simp; done)
    | (simp; omega))
local macro_rules
  | `(tactic| walk_at "ns") => `(tactic| first
    | exact tx_sz (by omega)
    | exact sz_le (by omega)
    | exact sz_lt (by omega)
    | exact IsIns_r (by walk_at "nl") True.intro
    | exact IsIns_r (by walk_at "nl") (by decide +kernel)
    | exact tx_sz2 (by omega)
    | exact tx_sz2 (by simp; omega)
    | exact sz_le (by simp; omega)
    | exact cdivw (by omega) (by omega)
    | exact tx_sz (by simp; omega)
    | exact cdivw (by split <;> omega) (by split <;> omega)
    | (split <;> omega))
local macro_rules
  | `(tactic| walk_at "na") => `(tactic| first
    | refine Sd_i (by walk_at "ns") ?_
    | refine Cond_t (Eq.refl _) ?_
    | refine Cond_f (Eq.refl _) ?_
    | refine Cond_t (by with_reducible assumption) ?_
    | refine Cond_f (by with_reducible assumption) ?_
    | refine Cond_t (decide_eq_true (by omega)) ?_
    | refine Cond_f (decide_eq_false (by omega)) ?_
    | refine Cond_t (nd_t (by omega)) ?_
    | refine Cond_f (nd_f (by omega)) ?_
    | refine LkL_i (by walk_at "nl") ?_
    | refine AtD_i (Eq.refl _) ?_
    | refine IsIns_v ?_
    | refine IsIns_r (by walk_at "nl") ?_
    | refine StF_i (by walk_at "nl") (by walk_at "ns") ?_
    | refine Fd_i 0 (by decide +kernel) (Eq.refl _) ?_
    | refine Fd_i 1 (by decide +kernel) (Eq.refl _) ?_
    | refine Fd_i 2 (by decide +kernel) (Eq.refl _) ?_
    | refine Fd_i 3 (by decide +kernel) (Eq.refl _) ?_
    | refine Fd_i 4 (by decide +kernel) (Eq.refl _) ?_
    | refine IntsQ_t _ (Eq.refl _) ?_
    | refine IntsQ_l _ (Eq.refl _) ?_
    | refine IntsL_i _ (Eq.refl _) ?_
    | refine BlsL_i _ (Eq.refl _) ?_
    | (rw [cut_toA]; rotate_left; · omega)
    | (rw [cut_fromA]; rotate_left; · omega)
    | rw [tx_app]
    | rw [rev_tx]
    | rw [repS_tx])
local macro_rules
  | `(tactic| walk_at "nb") => `(tactic| first
    | walk_at "na"
    | refine NewL_v ?_)
local macro_rules
  | `(tactic| walk_at "nj") => `(tactic| (
      repeat (conv => whnf
              walk_at "na")
      try (conv => whnf)))
local macro_rules
  | `(tactic| walk_at "n0") => `(tactic| first
    | walk_at "nb"
    | refine Ret_i (d := .int _) ?_
    | refine Ret_i (d := .bl _) ?_
    | refine Ret_i (d := .tup _) ?_
    | refine Ret_i (d := .lst _) ?_
    | refine Ret_i (d := .str _) ?_
    | refine Ret_i (d := .non) ?_)
local macro_rules
  | `(tactic| walk_at "n1") => `(tactic| first
    | walk_at "n0"
    | refine Call_i ?_)
local macro_rules
  | `(tactic| walk_at "nc") => `(tactic| (
      repeat (conv => whnf
              walk_at "n0")
      try (conv => whnf)))
local macro_rules
  | `(tactic| walk_at "nw") => `(tactic| (
      repeat (conv => whnf
              walk_at "n1")
      try (conv => whnf)))
local macro_rules
  | `(tactic| walk_at "nk") => `(tactic| (
      repeat (conv => whnf
              walk_at "nb")
      try (conv => whnf)))
/-! ### how a caller goes on behind a helper that draws -/
section
variable {K : PySem.W.Frag} {a c l : Addr} {G0 G G1 : GH} {q : QD} {x : XD}
theorem Stw.mk' (h : Sto a c l G) : Stw a c l G G := ⟨h, fun _ _ _ _ => rfl⟩
theorem Stw.to (h : Stw a c l G0 G) (h1 : Sto a c l G1) (h2 : Sm3 a c l G G1) : Stw a c l G0 G1 := ⟨h1, fun b x y z => (h2 b x y z).trans (h.2 b x y z)⟩
theorem Stw.at (h : Stw a c l G0 G) {b : Addr} {o : GO} (e : G0 b = some o) (x : b ≠ a) (y : b ≠ c) (z : b ≠ l) : G b = some o := (h.2 b x y z).trans e
theorem Stw.not (h : Stw a c l G0 G) {b : Addr} (n : G b = none) : b ≠ a ∧ b ≠ c ∧ b ≠ l := by
  obtain ⟨⟨_, _, _, _, _, _, _, _, ha, hc, hl, _⟩, _⟩ := h
  exact ⟨fun z => (by rw [z, ha] at n; cases n), fun z => (by rw [z, hc] at n; cases n), fun z => (by rw [z, hl] at n; cases n)⟩
theorem Stw.newAt {p : Addr} {o : GO} (h : Stw a c l G0 G) (n : G p = none) : Stw a c l (gup G p o) (gup G p o) := by
  obtain ⟨n1, n2, n3⟩ := h.not n
  obtain ⟨⟨h1, h2, h3, cs, ls, at_, seed, k, ha, hc, hl, h4⟩, _⟩ := h
  exact .mk' ⟨h1, h2, h3, cs, ls, at_, seed, k, (gup_ne (Ne.symm n1)).trans ha, (gup_ne (Ne.symm n2)).trans hc, (gup_ne (Ne.symm n3)).trans hl, h4⟩
theorem Stw.upAt {p : Addr} {o : GO} (h : Stw a c l G0 G) (n : p ≠ a ∧ p ≠ c ∧ p ≠ l) : Stw a c l (gup G p o) (gup G p o) := by
  obtain ⟨n1, n2, n3⟩ := n
  obtain ⟨⟨h1, h2, h3, cs, ls, at_, seed, k, ha, hc, hl, h4⟩, _⟩ := h
  exact .mk' ⟨h1, h2, h3, cs, ls, at_, seed, k, (gup_ne (Ne.symm n1)).trans ha, (gup_ne (Ne.symm n2)).trans hc, (gup_ne (Ne.symm n3)).trans hl, h4⟩
/-- p was new when it came and is forgotten -/
theorem Stw.del {p : Addr} (h : Stw a c l (gup G0 p o) G) (n : G0 p = none) (hn : p ≠ a ∧ p ≠ c ∧ p ≠ l) : Stw a c l G0 (gdel G p) := by
  obtain ⟨n1, n2, n3⟩ := hn
  obtain ⟨⟨h1, h2, h3, cs, ls, at_, seed, k, ha, hc, hl, h4⟩, h5⟩ := h
  refine ⟨⟨h1, h2, h3, cs, ls, at_, seed, k, (gdel_ne (Ne.symm n1)).trans ha, (gdel_ne (Ne.symm n2)).trans hc, (gdel_ne (Ne.symm n3)).trans hl, h4⟩, fun b x y z => ?_⟩
  by_cases e : b = p
  · rw [e, gdel_same, n]
  · rw [gdel_ne e, h5 b x y z, gup_ne e]
theorem _root_.N.Sto.fr {a c l : Addr} {G G' : GH} (h : Sto a c l G) (ha : G' a = G a) (hc : G' c = G c) (hl : G' l = G l) : Sto a c l G' := by
  obtain ⟨h1, h2, h3, cs, ls, at_, seed, k, a1, c1, l1, h4⟩ := h
  exact ⟨h1, h2, h3, cs, ls, at_, seed, k, ha.trans a1, hc.trans c1, hl.trans l1, h4⟩
theorem gup_gdel {p : Addr} {o : GO} (h : G p = some o) : gup (gdel G p) p o = G := by
  funext b
  by_cases e : b = p
  · rw [e, gup_same, h]
  · rw [gup_ne e, gdel_ne e]
theorem gdel_up {p : Addr} {o : GO} : gdel (gup G p o) p = gdel G p := by
  funext b
  by_cases e : b = p
  · rw [e, gdel_same, gdel_same]
  · rw [gdel_ne e, gdel_ne e, gup_ne e]
theorem Stw.del2 {p : Addr} (h : Stw a c l G0 G) (hn : p ≠ a ∧ p ≠ c ∧ p ≠ l) : Stw a c l (gdel G0 p) (gdel G p) := by
  obtain ⟨n1, n2, n3⟩ := hn
  obtain ⟨⟨h1, h2, h3, cs, ls, at_, seed, k, ha, hc, hl, h4⟩, h5⟩ := h
  refine ⟨⟨h1, h2, h3, cs, ls, at_, seed, k, (gdel_ne (Ne.symm n1)).trans ha, (gdel_ne (Ne.symm n2)).trans hc, (gdel_ne (Ne.symm n3)).trans hl, h4⟩, fun b x y z => ?_⟩
  by_cases e : b = p
  · rw [e, gdel_same, gdel_same]
  · rw [gdel_ne e, gdel_ne e, h5 b x y z]
theorem draw_w {k : GH → Prop} (h : Stw a c l G0 G) (hk : ∀ G', Stw a c l G0 G' → k G') : Draw (.ref a) G k := ⟨a, c, l, rfl, h.1, fun G' h1 h2 => hk G' (h.to h1 h2)⟩
theorem take_w {i : Int} (hS : Stw a c l G0 G) (hi : i < 2 ^ 62) (h : ∀ n G', 0 ≤ n → (n < i ∨ n = 0) → Stw a c l G0 G' → q (.int n) G') : Call (sp__law_take K) [.ref a, .int i] G q x :=
  take_c hS.1 hi fun n G' h1 h2 h3 h4 => h n G' h1 h2 (hS.to h3 h4)
theorem of_w {xs : List D} (hS : Stw a c l G0 G) (hne : xs ≠ []) (hl : xs.length < 2 ^ 60) (h : ∀ d G', d ∈ xs → Stw a c l G0 G' → q d G') : Call (sp__law_of K) [.ref a, .tup xs] G q x :=
  Call_i ⟨a, c, l, xs, rfl, .inl rfl, hne, hl, hS.1, fun d G' h1 h2 h3 => h d G' h1 (hS.to h2 h3)⟩
theorem of_wl {xs : List D} (hS : Stw a c l G0 G) (hne : xs ≠ []) (hl : xs.length < 2 ^ 60) (h : ∀ d G', d ∈ xs → Stw a c l G0 G' → q d G') : Call (sp__law_of K) [.ref a, .lst xs] G q x :=
  Call_i ⟨a, c, l, xs, rfl, .inr (.inl rfl), hne, hl, hS.1, fun d G' h1 h2 h3 => h d G' h1 (hS.to h2 h3)⟩
theorem signs_sD (z : List Nat) : signs (tx z) = z.map sg := signs_tx z
theorem of_ws {z : List Nat} (hS : Stw a c l G0 G) (hne : z ≠ []) (hl : z.length ≤ 10000000) (h : ∀ ch G', ch ∈ z → Stw a c l G0 G' → q (sg ch) G') : Call (sp__law_of K) [.ref a, .str (tx z)] G q x := by
  refine Call_i ⟨a, c, l, z.map sg, rfl, .inr (.inr ⟨tx z, rfl, (signs_sD z).symm, by rw [tx_len]; omega⟩), by simpa using hne, by rw [List.length_map]; omega, hS.1, fun d G' h1 h2 h3 => ?_⟩
  obtain ⟨ch, hm, rfl⟩ := List.mem_map.mp h1
  exact h ch G' hm (hS.to h2 h3)
theorem yes_w {i : Int} (hS : Stw a c l G0 G) (hi : i < 2 ^ 62) (h : ∀ b G', Stw a c l G0 G' → q (.bl b) G') : Call (sp__law_yes K) [.ref a, .int i] G q x :=
  Call_i ⟨i, rfl, hi, draw_w hS fun G' h1 b => h b G' h1⟩
theorem span_w {i j : Int} (hS : Stw a c l G0 G) (hi : i ≤ j) (hj : j - i < 2 ^ 60) (h : ∀ n G', i ≤ n → n ≤ j → Stw a c l G0 G' → q (.int n) G') : Call (sp__law_span K) [.ref a, .int i, .int j] G q x :=
  Call_i ⟨i, j, rfl, rfl, hi, hj, draw_w hS fun G' h1 n h2 h3 => h n G' h2 h3 h1⟩
theorem text_w {al : List Nat} {i : Int} (hS : Stw a c l G0 G) (hi : i ≤ 100000) (hl : al.length ≤ 100000) (h : ∀ r G', r.length ≤ i.toNat → (al ≠ [] → r.length = i.toNat) → (∀ ch ∈ r, ch ∈ al) → Stw a c l G0 G' → q (sD r) G') : Call (sp__law_text K) [.ref a, sD al, .int i] G q x :=
  Call_i ⟨al, i, rfl, rfl, hi, hl, draw_w hS fun G' h1 r h2 h3 h4 => h r G' h2 h3 h4 h1⟩
end
/-- a comprehension that draws: each turn gives some thing of S -/
theorem lc_draw {F : FinL} {α : Type} {a c l : Addr} {G0 : GH} (enc : α → D) (S : α → Prop) {ds : List D} {h : TGD} {tt : TTD} {te : TED} {vs : List Nat} {τ : SD} {G : GH} {q : QD} (hS : Stw a c l G0 G) (hz : ds.length ≤ 10000000)
    (hs : ∀ d ∈ ds, ∀ (A : QD) (B : GH → Prop) G', Stw a c l G0 G' → (∀ y G2, S y → Stw a c l G0 G2 → A (enc y) G2) → h d (wipeD τ vs) G' fun τ2 _ => tt τ2 G' X0 fun b G3 => Cond b (te τ2 G3 X0 A) (B G3))
    (hd : ∀ (ys : List α) G', ys.length = ds.length → (∀ y ∈ ys, S y) → Stw a c l G0 G' → F (ys.map enc) G' q) : LcF F ds (fun _ => True) h tt te vs τ G q := by
  refine LcD_i (fun i acc G' => Stw a c l G0 G' ∧ ∃ ys : List α, acc = ys.map enc ∧ ys.length = i ∧ ∀ y ∈ ys, S y) ⟨hS, [], rfl, rfl, fun _ m => nomatch m⟩ (fun _ _ _ _ _ => True.intro) (fun i d acc G' hi z => ?_) (fun acc G' z => ?_)
  · obtain ⟨h1, ys, rfl, h2, h3⟩ := z
    have hlt := (List.getElem?_eq_some_iff.mp hi).1
    refine hs d (List.mem_of_getElem? hi) _ _ G' h1 fun y G2 hy h4 => ⟨?_, h4, ys ++ [y], by rw [List.map_append]; rfl, by rw [List.length_append, h2]; rfl, fun z hz => ?_⟩
    · rw [List.length_map]
      exact Nat.lt_of_lt_of_le (by omega) (sz_le hz)
    · rcases List.mem_append.mp hz with hz | hz
      · exact h3 z hz
      · rw [List.mem_singleton.mp hz]; exact hy
  · obtain ⟨h1, ys, rfl, h2, h3⟩ := z
    exact hd ys G' h2 h3 h1
/-! ### texts -/
theorem dec_tx {a b : List Nat} : decide (tx a = tx b) = decide (a = b) := decide_eq_decide.mpr tx_inj
theorem cut_toI (l : List Nat) {p : Int} (h0 : 0 ≤ p) (h : p ≤ l.length) : cutS (tx l) none (some p) = tx (l.take p.toNat) := by
  obtain ⟨k, rfl⟩ := Int.eq_ofNat_of_zero_le h0
  exact cut_to l (by omega)
theorem cut_fromI (l : List Nat) {p : Int} (h0 : 0 ≤ p) (h : p ≤ l.length) : cutS (tx l) (some p) none = tx (l.drop p.toNat) := by
  obtain ⟨k, rfl⟩ := Int.eq_ofNat_of_zero_le h0
  exact cut_from l (by omega)
theorem txts_sg : ∀ l : List Nat, txts (l.map sg) = some (l.map fun c => tx [c])
  | [] => rfl
  | c :: l => by
    show (txts (l.map sg)).map (tx [c] :: ·) = _
    rw [txts_sg l]
    rfl
theorem tx_nil : tx [] = ("" : Str) := by decide +kernel
theorem join_tx : ∀ ls : List (List Nat), Txt.join "" (ls.map tx) = tx ls.flatten := fun ls => by
  have e : ∀ ls : List (List Nat), Str.join ("" : Str) (ls.map tx) = tx ls.flatten := fun ls => by
    induction ls with
    | nil => rfl
    | cons a ls ih =>
      cases ls with
      | nil => show tx a = tx _; simp
      | cons b ls =>
        show tx a ++ "" ++ Str.join "" (tx b :: ls.map tx) = _
        rw [← List.map_cons, ih, ← tx_nil, tx_app, tx_app]
        simp
  exact (StrLaws.glued_eq_join _ _).trans (e ls)
theorem flat_rep1 {n c : Nat} : (List.replicate n [c]).flatten = List.replicate n c := by
  induction n with
  | zero => rfl
  | succ n ih => rw [List.replicate_succ, List.flatten_cons, ih, List.replicate_succ]; rfl
theorem flat1 : ∀ l : List Nat, (l.map fun c => [c]).flatten = l
  | [] => rfl
  | c :: l => by rw [List.map_cons, List.flatten_cons, flat1 l]; rfl
theorem join_bd {l : List Nat} (hl : l.length ≤ 10000000) : (((l.map fun c => tx [c]).map (·.length)).sum + (l.map fun c => tx [c]).length * ("" : Str).length) ≤ 16777216 := by
  rw [← tx_nil, tx_len, List.map_map]
  have : ∀ l : List Nat, ((l.map fun c => (tx [c]).length).sum) = l.length := fun l => by
    induction l with
    | nil => rfl
    | cons a l ih => rw [List.map_cons, List.sum_cons, ih, tx_len]; simp; omega
  show (l.map fun c => (tx [c]).length).sum + _ ≤ _
  rw [this]
  simp
  omega
theorem join_eq (l : List Nat) : Txt.join ("" : Str) (l.map fun c => tx [c]) = tx l := by
  have : (l.map fun c => tx [c]) = (l.map fun c => [c]).map tx := by rw [List.map_map]; rfl
  rw [this, join_tx, flat1]
theorem lc_rng {F : FinL} {n : Nat} {stay : GH → Prop} {h : TGD} {tt : TTD} {te : TED} {vs : List Nat} {τ : SD} {G : GH} {q : QD} (p : Nat → Bool) (f : Nat → D) (hz : n ≤ 10000000) (hl : stay G)
    (hs : ∀ j : Nat, j < n → ∀ (A : QD) (B : GH → Prop), (p j = true → A (f j) G) → (p j = false → B G) → h (.int (0 + (j : Int))) (wipeD τ vs) G fun τ2 _ => tt τ2 G X0 fun b G3 => Cond b (te τ2 G3 X0 A) (B G3))
    (hd : F (((List.range n).filter p).map f) G q) : LcF F (rngD 0 n) stay h tt te vs τ G q :=
  lc_enc (xs := List.range n) (fun (j : Nat) => .int (0 + (j : Int))) p f (by rw [List.length_range]; exact hz) hl (fun j hj => hs j (List.mem_range.mp hj)) hd
theorem zip_get {α β : Type} {xs : List α} {ys : List β} {f : α → D} {g : β → D} {i : Nat} {d : D} (h : (zipD (xs.map f) (ys.map g))[i]? = some d) : ∃ a b, xs[i]? = some a ∧ ys[i]? = some b ∧ d = .tup [f a, g b] := by
  unfold zipD at h
  rw [List.getElem?_zipWith, List.getElem?_map, List.getElem?_map] at h
  cases e1 : xs[i]? with
  | none => rw [e1] at h; cases h
  | some a => cases e2 : ys[i]? with
    | none => rw [e1, e2] at h; cases h
    | some b => rw [e1, e2] at h; cases h; exact ⟨a, b, rfl, rfl, rfl⟩
theorem zip_len {ds es : List D} : (zipD ds es).length = min ds.length es.length := by unfold zipD; rw [List.length_zipWith]
theorem rfind_tx (n : List Nat) (c : Nat) : Txt.rfind (tx n) (tx [c]) = match lastAt n c with | some i => (i : Int) | none => -1 := by
  have := rfind_one (tx n) c
  rwa [tx_toL] at this
theorem find_tx (n : List Nat) (c : Nat) : Txt.find (tx n) (tx [c]) = match firstAt n c with | some i => (i : Int) | none => -1 := by
  have := find_one (tx n) c
  rwa [tx_toL] at this
theorem AtS_tx {l : List Nat} {i : Int} {c : Nat} {k : D → Prop} (hl : l.length ≤ 10000000) (h0 : 0 ≤ i) (h : l[i.toNat]? = some c) (q : k (sg c)) : AtS (tx l) i k := by
  refine AtS_i (tx_sz hl) ?_ q
  rw [tx_toL]
  have h1 := (List.getElem?_eq_some_iff.mp h).1
  unfold atI ixN
  rw [if_pos h0, if_pos (by omega)]
  exact h
theorem at0 {α : Type} {d : α} {ds : List α} : atI (d :: ds) 0 = some d := by
  unfold atI ixN
  rw [if_pos (by omega), if_pos (by simp)]
  rfl
theorem atI_0 {α : Type} {l : List α} {y : α} (h : l[0]? = some y) : atI l 0 = some y := by
  have h1 := (List.getElem?_eq_some_iff.mp h).1
  unfold atI ixN
  rw [if_pos (by omega), if_pos (by omega)]
  exact h
theorem atI_l {α : Type} {l : List α} {y : α} (h : l.getLast? = some y) : atI l (-1) = some y := by
  rw [List.getLast?_eq_getElem?] at h
  have h1 := (List.getElem?_eq_some_iff.mp h).1
  unfold atI ixN
  rw [if_neg (by omega), if_pos (by omega)]
  have e : (-1 + (l.length : Int)).toNat = l.length - 1 := by omega
  rw [e]
  exact h
/-! ### the helpers that draw -/
theorem pu__law_yes (K : PySem.W.Frag) (ds : List D) (G : GH) (q : QD) (x : XD) (h : sp__law_yes K ds G q x) : t__law_yes K (dEnds q x) (startD n__law_yes ds) G := by
  obtain ⟨s, m, rfl, i, rfl, hi, a, c, l, rfl, hS, h⟩ := A2_x h
  walk_at "nc"
  refine take_w (.mk' hS) hi fun n G' _ _ h3 => ?_
  walk_at "nw"
  exact h G' h3.1 h3.2 _
theorem pu__law_span (K : PySem.W.Frag) (ds : List D) (G : GH) (q : QD) (x : XD) (h : sp__law_span K ds G q x) : t__law_span K (dEnds q x) (startD n__law_span ds) G := by
  obtain ⟨s, m, n, rfl, i, j, rfl, rfl, hij, hz, a, c, l, rfl, hS, h⟩ := A3_x h
  walk_at "nc"
  refine Cond_i (fun hb => ?_) (fun hb => ?_)
  · walk_at "nc"
    exact h G hS (fun _ _ _ _ => rfl) _ (by omega) (by omega)
  have hb := of_decide_eq_false hb
  walk_at "nc"
  refine take_w (.mk' hS) (by omega) fun n G' _ _ h3 => ?_
  walk_at "nc"
  refine Cond_i (fun hb => ?_) (fun hb => ?_)
  · walk_at "nc"
    exact h G' h3.1 h3.2 _ (by omega) (by omega)
  walk_at "nc"
  refine Cond_i (fun hb => ?_) (fun hb => ?_)
  · walk_at "nc"
    exact h G' h3.1 h3.2 _ (by omega) (by omega)
  walk_at "nc"
  refine Cond_i (fun hb => ?_) (fun hb => ?_)
  · walk_at "nc"
    exact h G' h3.1 h3.2 _ (by omega) (by omega)
  walk_at "nc"
  refine take_w h3 (by omega) fun n G' h1 h2 h3 => ?_
  walk_at "nc"
  exact h G' h3.1 h3.2 _ (by omega) (by omega)
theorem pu__law_ascii (K : PySem.W.Frag) (ds : List D) (G : GH) (q : QD) (x : XD) (h : sp__law_ascii K ds G q x) : t__law_ascii K (dEnds q x) (startD n__law_ascii ds) G := by
  obtain ⟨rfl, h⟩ := A0_x h
  walk_at "nc"
  have e : (Str.ofString " !\"#$&'()*+,-./0123456789:;<=>?@ABCDEFGHIJKLMNOPQRSTUVWXYZ[\\]^_`" ++ Str.ofString "abcdefghijklmnopqrstuvwxyz{|}~") = tx asciiL := by decide +kernel
  rw [e]
  exact h
theorem perm_swap {xs ys : List D} {i j : Nat} {u v : D} (h : ys.Perm xs) (hi : ys[i]? = some u) (hj : ys[j]? = some v) : ((ys.set i v).set j u).Perm xs := by
  obtain ⟨h1, rfl⟩ := List.getElem?_eq_some_iff.mp hi
  obtain ⟨h2, rfl⟩ := List.getElem?_eq_some_iff.mp hj
  exact (List.set_set_perm h1 h2).trans h
theorem listTM_any {t : D} {xs : List D} {G : GH} {k : QD} (ht : t = .tup xs ∨ t = .lst xs ∨ (∃ p, t = .ref p ∧ G p = some (.lst xs)) ∨ ∃ l, t = sD l ∧ xs = l.map sg) (hz : xs.length ≤ 1000000) (h : NewM xs G k) : cListTM [t] G k := by
  rcases ht with rfl | rfl | ⟨p, rfl, hp⟩ | ⟨l, rfl, rfl⟩
  · exact h
  · exact h
  · exact LkL_i hp h
  · refine Sd_i (tx_sz (by rw [List.length_map] at hz; omega)) ?_
    rw [signs_sD]
    exact h
theorem pu__law_order (K : PySem.W.Frag) (ds : List D) (G : GH) (q : QD) (x : XD) (h : sp__law_order K ds G q x) : t__law_order K (dEnds q x) (startD n__law_order ds) G := by
  obtain ⟨s, t, rfl, xs, ht, hz, a, c, l, rfl, hS, h⟩ := A2_x h
  walk_at "nc"
  refine listTM_any ht hz (NewM_i fun p hp => ?_)
  obtain ⟨np1, np2, np3⟩ := (Stw.mk' hS).not hp
  walk_at "nc"
  refine ForD_i (fun i τ G' => ∃ ys o3 o4 o5 o6, G' p = some (.lst ys) ∧ ys.Perm xs ∧ Stw a c l (gdel G' p) (gdel G' p) ∧ Sm3 a c l G (gdel G' p) ∧ τ = [some (.ref a), some t, some (.ref p), o3, o4, o5, o6]) ?_ (fun _ _ _ _ _ => True.intro) ?_ ?_
  · refine ⟨xs, _, _, _, _, gup_same, .refl _, ?_, ?_, rfl⟩
    · rw [gdel_gup hp]; exact .mk' hS
    · rw [gdel_gup hp]; exact fun _ _ _ _ => rfl
  · rintro i d τ G' hd ⟨ys, o3, o4, o5, o6, g1, g2, g3, g4, rfl⟩
    have hl := g2.length_eq
    have hi := (List.getElem?_eq_some_iff.mp hd).1
    rw [rng_len] at hi
    rw [rng_at hi] at hd
    cases hd
    have hS' : Stw a c l G' G' := by
      have := g3.upAt (o := .lst ys) ⟨np1, np2, np3⟩
      rwa [gup_gdel g1] at this
    walk_at "nc"
    refine take_w hS' (by omega) fun n G2 n1 n2 n3 => ?_
    have g2p := n3.at g1 np1 np2 np3
    walk_at "nc"
    obtain ⟨u, hu, hu2⟩ := atI_in (xs := ys) (i := (ys.length : Int) - 1 - (0 + (i : Int))) (by omega) (by omega)
    obtain ⟨v, hv, hv2⟩ := atI_in (xs := ys) (i := n) (by omega) (by omega)
    refine AtD_i hu ?_
    walk_at "nc"
    refine AtD_i hv ?_
    walk_at "nc"
    refine ⟨(ys.set ((ys.length : Int) - 1 - (0 + (i : Int))).toNat v).set n.toNat u, _, _, _, _, gup_same, perm_swap g2 hu2 hv2, ?_, ?_, rfl⟩
    · rw [gdel_up, gdel_up]; exact .mk' (n3.del2 ⟨np1, np2, np3⟩).1
    · rw [gdel_up, gdel_up]; exact fun b x y z => ((n3.del2 ⟨np1, np2, np3⟩).2 b x y z).trans (g4 b x y z)
  · rintro τ G' ⟨ys, o3, o4, o5, o6, g1, g2, g3, g4, rfl⟩
    walk_at "nc"
    exact Ret_l g1 (h _ g3.1 g4 _ g2)
theorem pu__law_text (K : PySem.W.Frag) (ds : List D) (G : GH) (q : QD) (x : XD) (h : sp__law_text K ds G q x) : t__law_text K (dEnds q x) (startD n__law_text ds) G := by
  obtain ⟨s, t, n, rfl, al, i, rfl, rfl, hi, hal, a, c, l, rfl, hS, h⟩ := A3_x h
  walk_at "nc"
  refine Cond_i (fun hb => ?_) (fun hb => ?_)
  · have hb := of_decide_eq_true hb
    walk_at "nc"
    rw [← tx_nil]
    exact h G hS (fun _ _ _ _ => rfl) [] (Nat.zero_le _) (fun _ => by simp; omega) (fun _ m => nomatch m)
  have hb := of_decide_eq_false hb
  obtain ⟨k, rfl⟩ := Int.eq_ofNat_of_zero_le (show 0 ≤ i by omega)
  walk_at "nc"
  refine Cond_i (fun hc => ?_) (fun hc => ?_) <;> rw [← tx_nil, dec_tx] at hc
  · have hc := of_decide_eq_true hc
    walk_at "nc"
    rw [← tx_nil]
    exact h G hS (fun _ _ _ _ => rfl) [] (Nat.zero_le _) (fun z => absurd hc z) (fun _ m => nomatch m)
  have hc := of_decide_eq_false hc
  walk_at "nc"
  refine take_w (.mk' hS) (by omega) fun n G1 _ _ h1 => ?_
  walk_at "nc"
  refine Cond_i (fun hd => ?_) (fun hd => ?_)
  · walk_at "nc"
    refine of_ws h1 hc (by omega) fun ch G2 hm h2 => ?_
    walk_at "nc"
    refine Sd_i ⟨by omega, by omega, by rw [tx_len]; show 1 * _ ≤ _; omega⟩ ?_
    walk_at "nc"
    have e1 : (List.replicate (k : Int).toNat [ch]).flatten = List.replicate k ch := by rw [Int.toNat_natCast, flat_rep1]
    rw [e1]
    exact h G2 h2.1 h2.2 _ (by rw [List.length_replicate]; omega) (fun _ => by rw [List.length_replicate]; omega) (fun z hz => by rw [(List.mem_replicate.mp hz).2]; exact hm)
  walk_at "nc"
  refine Cond_i (fun hd => ?_) (fun hd => ?_)
  · walk_at "nc"
    refine take_w h1 (by omega) fun n G2 m1 m2 h2 => ?_
    walk_at "nc"
    refine lc_draw sg (· ∈ al) h2 (by rw [rng_len]; omega) (fun d hd A B G' g1 hA => ?_) (fun ys G3 e1 e2 h3 => ?_)
    · walk_at "nc"
      refine of_ws g1 hc (by omega) fun ch G2 hm h2 => ?_
      walk_at "nc"
      exact hA ch _ hm h2
    rw [rng_len] at e1
    walk_at "nc"
    refine ⟨_, txts_sg ys, join_bd (by omega), ?_⟩
    rw [join_eq]
    walk_at "nc"
    refine Sd_i ⟨by omega, by omega, by rw [tx_len, Int.toNat_natCast]; exact Nat.le_trans (Nat.mul_le_mul (show ys.length ≤ 5 by omega) (show k ≤ 100000 by omega)) (by decide)⟩ ?_
    have el : (List.replicate k ys).flatten.length = k * ys.length := by simp [List.length_flatten]
    have ek : k ≤ k * ys.length := Nat.le_mul_of_pos_right _ (by omega)
    have ek2 : k * ys.length ≤ 100000 * 5 := Nat.mul_le_mul (by omega) (by omega)
    have ey : (tx (List.replicate (k : Int).toNat ys).flatten).length ≤ sizeLine := tx_sz (by rw [Int.toNat_natCast, el]; omega)
    walk_at "nc"
    simp only [Int.toNat_natCast] at *
    exact h G3 h3.1 h3.2 _ (by rw [List.length_take]; omega) (fun _ => by rw [List.length_take]; omega) (fun z hz => by
      obtain ⟨w, hw, hz⟩ := List.mem_flatten.mp (List.mem_of_mem_take hz)
      rw [(List.mem_replicate.mp hw).2] at hz
      exact e2 z hz)
  walk_at "nc"
  refine lc_draw sg (· ∈ al) h1 (by rw [rng_len]; omega) (fun d hd A B G' g1 hA => ?_) (fun ys G3 e1 e2 h3 => ?_)
  · walk_at "nc"
    refine of_ws g1 hc (by omega) fun ch G2 hm h2 => ?_
    walk_at "nc"
    exact hA ch _ hm h2
  rw [rng_len] at e1
  walk_at "nc"
  refine ⟨_, txts_sg ys, join_bd (by omega), ?_⟩
  rw [join_eq]
  walk_at "nc"
  exact h G3 h3.1 h3.2 ys (by omega) (fun _ => by omega) e2
end N
namespace N
open PySem PySem.Spec PyProof.Rows L2
local macro_rules
  | `(tactic| walk_at "nl") => `(tactic| first
    | with_reducible assumption
    | exact gup_same
    | (refine (gup_ne (by with_reducible assumption)).trans ?_; walk_at "nl")
    | (refine (gup_ne (Ne.symm (by with_reducible assumption))).trans ?_; walk_at "nl"))
local macro_rules
  | `(tactic| walk_at "ns") => `(tactic| first
    | with_reducible assumption
    | omega
    | exact Eq.refl _
    | (apply Nat.le_of_ble_eq_true; exact Eq.refl _)
    | exact And.intro (by decide +kernel) (by decide +kernel)
    | exact or_ll (by decide +kernel) (by decide +kernel)
    | exact or_lr (by decide +kernel) (by decide +kernel)
    | exact Or.inr (cmulw (by decide +kernel))
    | exact IsLst_r (by walk_at "nl")
    | exact IsLst_v
    | exact IsIns_v True.intro
    | exact IsIns_v (by decide +kernel)
    | (apply of_decide_eq_true; decide +kernel)
    | (simp; done)
    | (simp; omega))
local macro_rules
  | `(tactic| walk_at "ns") => `(tactic| first
    | exact tx_sz (by omega)
    | exact sz_le (by omega)
    | exact sz_lt (by omega)
    | exact IsIns_r (by walk_at "nl") True.intro
    | exact IsIns_r (by walk_at "nl") (by decide +kernel)
    | exact tx_sz2 (by omega)
    | exact tx_sz2 (by simp; omega)
    | exact sz_le (by simp; omega)
    | exact cdivw (by omega) (by omega)
    | exact tx_sz (by simp; omega)
    | exact cdivw (by split <;> omega) (by split <;> omega)
    | (split <;> omega))
local macro_rules
  | `(tactic| walk_at "na") => `(tactic| first
    | refine Sd_i (by walk_at "ns") ?_
    | refine Cond_t (Eq.refl _) ?_
    | refine Cond_f (Eq.refl _) ?_
    | refine Cond_t (by with_reducible assumption) ?_
    | refine Cond_f (by with_reducible assumption) ?_
    | refine Cond_t (decide_eq_true (by omega)) ?_
    | refine Cond_f (decide_eq_false (by omega)) ?_
    | refine Cond_t (nd_t (by omega)) ?_
    | refine Cond_f (nd_f (by omega)) ?_
    | refine LkL_i (by walk_at "nl") ?_
    | refine AtD_i (Eq.refl _) ?_
    | refine IsIns_v ?_
    | refine IsIns_r (by walk_at "nl") ?_
    | refine StF_i (by walk_at "nl") (by walk_at "ns") ?_
    | refine Fd_i 0 (by decide +kernel) (Eq.refl _) ?_
    | refine Fd_i 1 (by decide +kernel) (Eq.refl _) ?_
    | refine Fd_i 2 (by decide +kernel) (Eq.refl _) ?_
    | refine Fd_i 3 (by decide +kernel) (Eq.refl _) ?_
    | refine Fd_i 4 (by decide +kernel) (Eq.refl _) ?_
    | refine IntsQ_t _ (Eq.refl _) ?_
    | refine IntsQ_l _ (Eq.refl _) ?_
    | refine IntsL_i _ (Eq.refl _) ?_
    | refine BlsL_i _ (Eq.refl _) ?_
    | (rw [cut_toA]; rotate_left; · omega)
    | (rw [cut_fromA]; rotate_left; · omega)
    | rw [tx_app]
    | rw [rev_tx]
    | rw [repS_tx])
local macro_rules
  | `(tactic| walk_at "nb") => `(tactic| first
    | walk_at "na"
    | refine NewL_v ?_)
local macro_rules
  | `(tactic| walk_at "nj") => `(tactic| (
      repeat (conv => whnf
              walk_at "na")
      try (conv => whnf)))
local macro_rules
  | `(tactic| walk_at "n0") => `(tactic| first
    | walk_at "nb"
    | refine Ret_i (d := .int _) ?_
    | refine Ret_i (d := .bl _) ?_
    | refine Ret_i (d := .tup _) ?_
    | refine Ret_i (d := .lst _) ?_
    | refine Ret_i (d := .str _) ?_
    | refine Ret_i (d := .non) ?_)
local macro_rules
  | `(tactic| walk_at "n1") => `(tactic| first
    | walk_at "n0"
    | refine Call_i ?_)
local macro_rules
  | `(tactic| walk_at "nc") => `(tactic| (
      repeat (conv => whnf
              walk_at "n0")
      try (conv => whnf)))
local macro_rules
  | `(tactic| walk_at "nw") => `(tactic| (
      repeat (conv => whnf
              walk_at "n1")
      try (conv => whnf)))
local macro_rules
  | `(tactic| walk_at "nk") => `(tactic| (
      repeat (conv => whnf
              walk_at "nb")
      try (conv => whnf)))
theorem perm_map {α : Type} {f : α → D} : ∀ {t : List α} {ys : List D}, ys.Perm (t.map f) → ∃ r : List α, ys = r.map f ∧ r.Perm t
  | [], ys, h => ⟨[], List.Perm.eq_nil h, .refl _⟩
  | a :: t, ys, h => by
    have hm : f a ∈ ys := h.symm.subset (by simp)
    obtain ⟨l1, l2, rfl⟩ := List.append_of_mem hm
    have h2 : (l1 ++ l2).Perm (t.map f) := by
      have := (List.perm_middle (a := f a) (l₁ := l1) (l₂ := l2)).symm.trans h
      exact List.Perm.cons_inv this
    obtain ⟨r, e, hr⟩ := perm_map h2
    obtain ⟨r1, r2, rfl, rfl, rfl⟩ := List.append_eq_map_iff.mp e
    exact ⟨r1 ++ a :: r2, by simp, (List.perm_middle).trans (hr.cons a)⟩
theorem Stw.back {a c l p : Addr} {o : GO} {G G' G2 : GH} (h3 : Stw a c l G G') (n : G' p = none) (h : Stw a c l (gup G' p o) G2) : Stw a c l G (gdel G2 p) := by
  have z := h.del2 (h3.not n)
  rw [gdel_gup n] at z
  exact h3.to z.1 z.2
theorem perm_swapN {xs : List Nat} {i j : Nat} {u v : Nat} (hi : xs[i]? = some u) (hj : xs[j]? = some v) : ((xs.set i v).set j u).Perm xs := by
  obtain ⟨h1, rfl⟩ := List.getElem?_eq_some_iff.mp hi
  obtain ⟨h2, rfl⟩ := List.getElem?_eq_some_iff.mp hj
  exact List.set_set_perm h1 h2
theorem pu__law_shaken (K : PySem.W.Frag) (ds : List D) (G : GH) (q : QD) (x : XD) (h : sp__law_shaken K ds G q x) : t__law_shaken K (dEnds q x) (startD n__law_shaken ds) G := by
  replace h := A2_x h
  obtain ⟨_, _, rfl, t, rfl, ht, a, c, l, rfl, hS, h⟩ := h
  have et := tx_len t
  have eg : (t.map sg).length = t.length := List.length_map ..
  walk_at "nc"
  refine take_w (.mk' hS) (by omega) fun n G' n1 n2 h3 => ?_
  walk_at "nc"
  rw [signs_sD]
  refine NewM_i fun p hp => ?_
  have hn := h3.not hp
  have h4 := h3.newAt (o := .lst (t.map sg)) hp
  have fin : ∀ (G2 : GH) (r : List Nat), Stw a c l (gup G' p (.lst (t.map sg))) G2 → r.Perm t → Ret (sD r) G2 q := fun G2 r h5 hr => by
    have := h3.back hp h5
    exact Ret_w (gdel G2 p) subG_del (h _ this.1 this.2 r hr)
  walk_at "nc"
  refine Cond_i (fun hb => ?_) (fun hb => ?_)
  · walk_at "nk"
    exact fin _ t h4 (.refl _)
  have hb := of_decide_eq_false hb
  walk_at "nc"
  refine Cond_i (fun hc => ?_) (fun hc => ?_)
  · walk_at "nk"
    exact fin _ t h4 (.refl _)
  have hc := of_decide_eq_false hc
  walk_at "nc"
  refine Cond_i (fun hd => ?_) (fun hd => ?_)
  · walk_at "nc"
    refine Call_i ⟨t.map sg, .inr (.inr (.inl ⟨p, rfl, gup_same⟩)), by omega, draw_w h4 fun G2 h5 ys hy => ?_⟩
    obtain ⟨r, rfl, hr⟩ := perm_map hy
    walk_at "nc"
    have hrl := hr.length_eq
    refine ⟨_, txts_sg r, join_bd (by omega), ?_⟩
    rw [join_eq]
    walk_at "nk"
    exact fin _ r h5 hr
  have hd := of_decide_eq_false hd
  walk_at "nc"
  refine take_w h4 (by omega) fun at_ G2 m1 m2 h5 => ?_
  walk_at "nc"
  refine Cut_i (fun τ G'' => ∃ j : Int, Stw a c l (gup G' p (.lst (t.map sg))) G'' ∧ 0 ≤ j ∧ j < t.length ∧ τ = [some (.ref a), some (sD t), some (.int n), some (.ref p), some (.int at_), some (.int j)]) ?_ ?_
  · walk_at "nc"
    refine Cond_i (fun he => ?_) (fun he => ?_)
    · walk_at "nc"
      refine take_w h5 (by omega) fun k G3 k1 k2 h6 => ?_
      walk_at "nc"
      exact ⟨_, h6, by omega, by omega, rfl⟩
    · walk_at "nc"
      exact ⟨_, h5, by omega, by omega, rfl⟩
  rintro τ G3 ⟨j, h6, j1, j2, rfl⟩
  have hj : t[j.toNat]? = some (t[j.toNat]'(by omega)) := List.getElem?_eq_getElem _
  generalize t[j.toNat]'(by omega) = u at hj
  have ha : t[at_.toNat]? = some (t[at_.toNat]'(by omega)) := List.getElem?_eq_getElem _
  generalize t[at_.toNat]'(by omega) = v at ha
  have gp := h6.at gup_same hn.1 hn.2.1 hn.2.2
  walk_at "nc"
  refine AtS_tx (by omega) j1 hj ?_
  walk_at "nc"
  refine AtS_tx (by omega) m1 ha ?_
  walk_at "nc"
  have e1 : ((t.map sg).set at_.toNat (sg u)).set j.toNat (sg v) = ((t.set at_.toNat u).set j.toNat v).map sg := by rw [List.map_set, List.map_set]
  have e2 : ((t.set at_.toNat u).set j.toNat v).length = t.length := by rw [List.length_set, List.length_set]
  rw [e1]
  refine ⟨_, txts_sg _, join_bd (by omega), ?_⟩
  rw [join_eq]
  have h7 := h3.back hp h6
  exact Ret_w (gdel G3 p) (by rw [← gdel_up, ← gdel_up]; exact subG_del) (h _ h7.1 h7.2 _ (perm_swapN ha hj))
/-! ### tables -/
section
variable {κ : Type} [DecidableEq κ]
theorem valD_nil {k : κ} : valD ([] : List (κ × D)) k = none := rfl
theorem valD_cons {p : κ × D} {r : List (κ × D)} {k : κ} : valD (p :: r) k = if p.1 = k then some p.2 else valD r k := by
  unfold valD
  rw [List.find?_cons]
  by_cases e : p.1 = k
  · rw [if_pos e, decide_eq_true e]; rfl
  · rw [if_neg e, decide_eq_false e]
theorem any_valD (k : κ) : ∀ kvs : List (κ × D), (kvs.any fun kv => decide (kv.1 = k)) = (valD kvs k).isSome
  | [] => rfl
  | p :: r => by
    rw [List.any_cons, any_valD k r, valD_cons]
    by_cases e : p.1 = k
    · rw [if_pos e, decide_eq_true e]; rfl
    · rw [if_neg e, decide_eq_false e]; rfl
theorem valD_map (k j : κ) (y : D) : ∀ kvs : List (κ × D), valD (kvs.map fun kv => if kv.1 = k then (kv.1, y) else kv) j = (valD kvs j).map fun x => if j = k then y else x
  | [] => rfl
  | p :: r => by
    rw [List.map_cons, valD_cons, valD_cons, valD_map k j y r]
    by_cases e : p.1 = k
    · rw [if_pos e]
      show (if p.1 = j then some y else _) = _
      by_cases e2 : p.1 = j
      · rw [if_pos e2, if_pos e2, Option.map_some, if_pos (e2.symm.trans e)]
      · rw [if_neg e2, if_neg e2]
    · rw [if_neg e]
      by_cases e2 : p.1 = j
      · rw [if_pos e2, if_pos e2, Option.map_some, if_neg (fun z => e (e2.trans z))]
      · rw [if_neg e2, if_neg e2]
theorem valD_app (k j : κ) (y : D) : ∀ kvs : List (κ × D), valD kvs k = none → valD (kvs ++ [(k, y)]) j = if j = k then some y else valD kvs j
  | [], _ => by
    rw [List.nil_append, valD_cons]
    by_cases e : j = k
    · rw [if_pos e, if_pos e.symm]
    · rw [if_neg e, if_neg (fun z => e z.symm)]
  | p :: r, h => by
    rw [valD_cons] at h
    by_cases e : p.1 = k
    · rw [if_pos e] at h; cases h
    · rw [if_neg e] at h
      rw [List.cons_append, valD_cons, valD_cons, valD_app k j y r h]
      by_cases e2 : p.1 = j
      · rw [if_pos e2, if_pos e2, if_neg (fun z => e (e2.trans z))]
      · rw [if_neg e2, if_neg e2]
theorem valD_put (kvs : List (κ × D)) (k j : κ) (y : D) : valD (putD kvs k y) j = if j = k then some y else valD kvs j := by
  unfold putD
  rw [any_valD]
  cases h : valD kvs k with
  | none => exact valD_app k j y kvs h
  | some z =>
    rw [Option.isSome_some, if_pos rfl, valD_map]
    by_cases e : j = k
    · rw [if_pos e, e, h, Option.map_some, if_pos rfl]
    · rw [if_neg e]
      cases valD kvs j with
      | none => rfl
      | some w => rw [Option.map_some, if_neg e]
theorem putD_len (kvs : List (κ × D)) (k : κ) (y : D) : (putD kvs k y).length ≤ kvs.length + 1 := by
  unfold putD
  split
  · rw [List.length_map]; omega
  · rw [List.length_append]; exact Nat.le_refl _
end
/-! ### sorted texts -/
theorem srt_dec {l m : List Nat} : decide (((l.mergeSort fun a b => decide (a ≤ b)).map fun c => tx [c]) = ((m.mergeSort fun a b => decide (a ≤ b)).map fun c => tx [c])) = decide (l.Perm m) := by
  refine decide_eq_decide.mpr ⟨fun h => ?_, fun h => ?_⟩
  · have e : (l.mergeSort fun a b => decide (a ≤ b)) = (m.mergeSort fun a b => decide (a ≤ b)) := by
      refine (List.map_inj_right (f := fun c => tx [c]) fun a b z => ?_).mp h
      have := tx_inj.mp z
      simpa using this
    exact (List.mergeSort_perm l _).symm.trans (e ▸ List.mergeSort_perm m _)
  · congr 1
    have tr : ∀ a b c : Nat, (decide (a ≤ b)) = true → (decide (b ≤ c)) = true → (decide (a ≤ c)) = true := by intro a b c; simp; omega
    have tt : ∀ a b : Nat, (decide (a ≤ b) || decide (b ≤ a)) = true := by intro a b; simp; omega
    refine List.Perm.eq_of_pairwise (le := fun a b => decide (a ≤ b) = true) ?_ (List.pairwise_mergeSort tr tt l) (List.pairwise_mergeSort tr tt m) (((List.mergeSort_perm l _).trans h).trans (List.mergeSort_perm m _).symm)
    intro a b _ _ h1 h2
    simp at h1 h2
    omega
theorem EqD_srt {l m : List Nat} {G : GH} {k : Bool → Prop} (h : k (decide (l.Perm m))) : EqD (.lst (((tx l).cps.toList.mergeSort fun a b => decide (a ≤ b)).map fun c => .str ⟨#[c]⟩)) (.lst (((tx m).cps.toList.mergeSort fun a b => decide (a ≤ b)).map fun c => .str ⟨#[c]⟩)) G k := by
  rw [tx_toL, tx_toL]
  have e : ∀ l : List Nat, (l.map fun c => D.str ⟨#[c]⟩) = (l.map fun c => tx [c]).map (DE.e (α := Str)) := fun l => by rw [List.map_map]; rfl
  rw [e, e]
  refine EqD_l (α := Str) (by decide) ?_
  rw [srt_dec]
  exact h
theorem cut_mid (l : List Nat) {a b : Int} (h0 : 0 ≤ a) (h1 : 0 ≤ b) : cutS (tx l) (some a) (some b) = tx ((l.take b.toNat).drop a.toNat) := by
  obtain ⟨i, rfl⟩ := Int.eq_ofNat_of_zero_le h0
  obtain ⟨j, rfl⟩ := Int.eq_ofNat_of_zero_le h1
  unfold cutS
  rw [HT.sIx_nat, HT.sIx_nat, tx_len, tx_toL]
  show tx _ = tx _
  rw [tx_inj, Int.toNat_natCast, Int.toNat_natCast, List.drop_take]
  by_cases h : i ≤ l.length
  · rw [Nat.min_eq_left h]
    by_cases h2 : j ≤ l.length
    · rw [Nat.min_eq_left h2]
    · rw [Nat.min_eq_right (by omega), List.take_of_length_le (l := l.drop i) (by simp), List.take_of_length_le (l := l.drop i) (by simp; omega)]
  · rw [Nat.min_eq_right (a := i) (by omega), List.drop_of_length_le (Nat.le_refl _), List.drop_of_length_le (l := l) (i := i) (by omega), List.take_nil, List.take_nil]
end N
namespace N
/-! ### k18, the plain law: the places where one sign was put in are one run -/
/-- how many signs two rows have in common at the front -/
def com : List Nat → List Nat → Nat
  | a :: o, b :: n => if a = b then com o n + 1 else 0
  | _, _ => 0
theorem com_le : ∀ o n : List Nat, com o n ≤ o.length ∧ com o n ≤ n.length
  | [], _ => by simp [com]
  | _ :: _, [] => by simp [com]
  | a :: o, b :: n => by
    have h := com_le o n
    unfold com
    split
    · simp; omega
    · simp
theorem com_take : ∀ (p : Nat) (o n : List Nat), p ≤ o.length → p ≤ n.length → (o.take p = n.take p ↔ p ≤ com o n)
  | 0, _, _, _, _ => by simp
  | p + 1, [], _, h, _ => by simp at h
  | p + 1, _ :: _, [], _, h => by simp at h
  | p + 1, a :: o, b :: n, h1, h2 => by
    have ih := com_take p o n (by simpa using h1) (by simpa using h2)
    rw [List.take_succ_cons, List.take_succ_cons, List.cons.injEq]
    unfold com
    by_cases e : a = b
    · rw [if_pos e, ih]
      constructor
      · exact fun z => by omega
      · exact fun z => ⟨e, by omega⟩
    · rw [if_neg e]
      constructor
      · exact fun z => absurd z.1 e
      · exact fun z => by omega
def insL (o : List Nat) (c p : Nat) : List Nat := o.take p ++ [c] ++ o.drop p
theorem insL_iff {o n : List Nat} {c p : Nat} (hl : n.length = o.length + 1) (hp : p ≤ o.length) : insL o c p = n ↔ p ≤ com o n ∧ o.length - p ≤ com o.reverse n.reverse ∧ n[p]? = some c := by
  have h1 := com_take p o n hp (by omega)
  have h2 := com_take (o.length - p) o.reverse n.reverse (by simp) (by simp; omega)
  have hx : n = n.take p ++ ([n[p]'(by omega)] ++ n.drop (p + 1)) := by
    rw [List.singleton_append, ← List.drop_eq_getElem_cons, List.take_append_drop]
  have h3 : o.reverse.take (o.length - p) = n.reverse.take (o.length - p) ↔ o.drop p = n.drop (p + 1) := by
    rw [List.take_reverse, List.take_reverse, List.reverse_inj]
    rw [show o.length - (o.length - p) = p by omega, show n.length - (o.length - p) = p + 1 by omega]
  rw [← h1, ← h2, h3, List.getElem?_eq_getElem (show p < n.length by omega), Option.some.injEq]
  unfold insL
  constructor
  · intro e
    rw [hx, List.append_assoc] at e
    have e1 := List.append_inj e (by simp; omega)
    have e2 := List.cons.inj e1.2
    exact ⟨e1.1, e2.2, e2.1.symm⟩
  · rintro ⟨a, b, d⟩
    conv => rhs; rw [hx]
    rw [List.append_assoc, a, b, d]
theorem com_drop {o n : List Nat} {p : Nat} (hl : n.length = o.length + 1) (hp : p ≤ o.length) : o.length - p ≤ com o.reverse n.reverse ↔ o.drop p = n.drop (p + 1) := by
  have h2 := com_take (o.length - p) o.reverse n.reverse (by simp) (by simp; omega)
  rw [← h2, List.take_reverse, List.take_reverse, List.reverse_inj]
  rw [show o.length - (o.length - p) = p by omega, show n.length - (o.length - p) = p + 1 by omega]
theorem same_next {o n : List Nat} {p : Nat} (hl : n.length = o.length + 1) (h1 : p + 1 ≤ com o n) (h2 : o.length - p ≤ com o.reverse n.reverse) : n[p]? = n[p + 1]? := by
  have hc := com_le o n
  have e1 := (com_take (p + 1) o n (by omega) (by omega)).mpr h1
  have e2 := (com_drop hl (by omega)).mp h2
  have a1 : o[p]? = n[p]? := by
    have := congrArg (fun l : List Nat => l[p]?) e1
    simpa [List.getElem?_take] using this
  have a2 : o[p]? = n[p + 1]? := by
    have := congrArg (fun l : List Nat => l[0]?) e2
    simpa using this
  rw [← a1, a2]
theorem same_run {o n : List Nat} (hl : n.length = o.length + 1) : ∀ (k p : Nat), p + k = com o n → o.length - p ≤ com o.reverse n.reverse → n[p]? = n[com o n]?
  | 0, p, h, _ => by rw [← h]; rfl
  | k + 1, p, h, h2 => by
    have hc := com_le o n
    rw [same_next hl (by omega) h2]
    exact same_run hl k (p + 1) (by omega) (by omega)
/-- first and last free place -/
def freeL (o n : List Nat) (c : Nat) : Option (Nat × Nat) :=
  if n.length = o.length + 1 then (if o.length - com o.reverse n.reverse ≤ com o n ∧ n[com o n]? = some c then some (o.length - com o.reverse n.reverse, com o n) else none) else none
theorem insL_len {o : List Nat} {c p : Nat} (hp : p ≤ o.length) : (insL o c p).length = o.length + 1 := by
  unfold insL
  simp
  omega
theorem free_iff {o n : List Nat} {c p : Nat} (hp : p ≤ o.length) : insL o c p = n ↔ ∃ a b, freeL o n c = some (a, b) ∧ a ≤ p ∧ p ≤ b := by
  unfold freeL
  by_cases hl : n.length = o.length + 1
  · rw [if_pos hl, insL_iff hl hp]
    constructor
    · rintro ⟨h1, h2, h3⟩
      have e := same_run hl (com o n - p) p (by omega) h2
      exact ⟨_, _, if_pos ⟨by omega, e.symm.trans h3⟩, by omega, h1⟩
    · rintro ⟨a, b, e, h1, h2⟩
      split at e
      · rename_i h
        cases e
        have h3 : o.length - p ≤ com o.reverse n.reverse := by omega
        exact ⟨h2, h3, (same_run hl (com o n - p) p (by omega) h3).trans h.2⟩
      · cases e
  · rw [if_neg hl]
    constructor
    · intro e
      rw [← e, insL_len hp] at hl
      exact absurd rfl hl
    · rintro ⟨_, _, e, _⟩
      cases e
theorem freeL_le {o n : List Nat} {c a b : Nat} (h : freeL o n c = some (a, b)) : a ≤ b ∧ b ≤ o.length := by
  have hc := com_le o n
  unfold freeL at h
  split at h
  · split at h
    · rename_i h1
      cases h
      exact ⟨h1.1, hc.1⟩
    · cases h
  · cases h
theorem head_filter (P : Nat → Bool) : ∀ (m a b : Nat), a ≤ b → b < m → (∀ p, p < m → (P p = true ↔ a ≤ p ∧ p ≤ b)) → ((List.range m).filter P)[0]? = some a ∧ ((List.range m).filter P).getLast? = some b := by
  intro m a b h1 h2 h
  have e : (List.range m).filter P = List.range' a (b + 1 - a) := by
    have s1 : List.range m = List.range' 0 a ++ (List.range' a (b + 1 - a) ++ List.range' (b + 1) (m - (b + 1))) := by
      apply List.ext_getElem
      · simp; omega
      · intro i hi1 hi2
        have l1 : (List.range' 0 a).length = a := List.length_range'
        have l2 : (List.range' a (b + 1 - a)).length = b + 1 - a := List.length_range'
        have l3 : (List.range m).length = m := List.length_range
        rw [List.getElem_range, List.getElem_append]
        split
        · simp
        · rw [List.getElem_append]
          split
          · rw [List.getElem_range', l1]; omega
          · rw [List.getElem_range', l1, l2]; omega
    rw [s1, List.filter_append, List.filter_append]
    have f1 : (List.range' 0 a).filter P = [] := List.filter_eq_nil_iff.mpr fun x hx => by
      have := List.mem_range'_1.mp hx
      intro z
      have := (h x (by omega)).mp z
      omega
    have f2 : (List.range' a (b + 1 - a)).filter P = List.range' a (b + 1 - a) := List.filter_eq_self.mpr fun x hx => by
      have := List.mem_range'_1.mp hx
      exact (h x (by omega)).mpr (by omega)
    have f3 : (List.range' (b + 1) (m - (b + 1))).filter P = [] := List.filter_eq_nil_iff.mpr fun x hx => by
      have := List.mem_range'_1.mp hx
      intro z
      have := (h x (by omega)).mp z
      omega
    rw [f1, f2, f3]
    simp
  rw [e]
  constructor
  · rw [List.getElem?_range' (by omega)]
    simp
  · rw [List.getLast?_eq_getElem?, List.length_range', List.getElem?_range' (by omega)]
    congr 1
    omega
/-! ### k17: swap, jump, bend; none of them exactly where some sign can be struck -/
def oth (c : Option Nat) (t : List Nat) : List Nat := t.filter fun s => decide (some s ≠ c)
/-- for each other token: how many c ahead, k behind what was read before -/
def cah (c : Nat) : Nat → List Nat → List Nat
  | _, [] => []
  | k, s :: t => if s = c then cah c (k + 1) t else k :: cah c k t
theorem cah_snoc (c : Nat) : ∀ (t : List Nat) (k s : Nat), cah c k (t ++ [s]) = cah c k t ++ if s = c then [] else [k + t.count c]
  | [], k, s => by
    show (if s = c then [] else [k]) = _
    by_cases e : s = c
    · rw [if_pos e, if_pos e]; rfl
    · rw [if_neg e, if_neg e]; rfl
  | a :: t, k, s => by
    show (if a = c then cah c (k + 1) (t ++ [s]) else k :: cah c k (t ++ [s])) = (if a = c then cah c (k + 1) t else k :: cah c k t) ++ _
    by_cases e : a = c
    · subst e
      rw [if_pos rfl, if_pos rfl, cah_snoc, List.count_cons_self, Nat.add_right_comm, Nat.add_assoc]
    · rw [if_neg e, if_neg e, cah_snoc, List.count_cons_of_ne e]; rfl
theorem cah_len (c : Nat) : ∀ (t : List Nat) (k : Nat), (cah c k t).length = (oth (some c) t).length
  | [], _ => rfl
  | a :: t, k => by
    show (if a = c then cah c (k + 1) t else k :: cah c k t).length = _
    unfold oth
    by_cases e : a = c
    · rw [if_pos e, cah_len, List.filter_cons_of_neg (by simpa using e)]; rfl
    · rw [if_neg e, List.length_cons, cah_len, List.filter_cons_of_pos (by simpa using e)]; rfl
theorem cah_ge (c : Nat) : ∀ (t : List Nat) (k x : Nat), x ∈ cah c k t → k ≤ x
  | [], _, _, h => by cases h
  | a :: t, k, x, h => by
    have h : x ∈ (if a = c then cah c (k + 1) t else k :: cah c k t) := h
    by_cases e : a = c
    · rw [if_pos e] at h
      have := cah_ge c t (k + 1) x h
      omega
    · rw [if_neg e] at h
      rcases List.mem_cons.mp h with h | h
      · omega
      · exact cah_ge c t k x h
/-- how far each other token moves -/
def stp (a b : List Nat) : List Int := List.zipWith (fun (x y : Nat) => (y : Int) - (x : Int)) a b
/-- first 0, then 1 -/
def pat : List Int → Prop
  | [] => True
  | x :: s => (x = 0 ∧ pat s) ∨ (x = 1 ∧ ∀ y ∈ s, y = 1)
theorem pat_one : ∀ {s : List Int}, (∀ y ∈ s, y = 1) → pat s
  | [], _ => True.intro
  | x :: s, h => .inr ⟨h x (by simp), fun y m => h y (by simp [m])⟩
theorem stp_succ (c : Nat) : ∀ (a b : List Nat) (k j : Nat), stp (cah c (k + 1) a) (cah c (j + 1) b) = stp (cah c k a) (cah c j b) := by
  have sh : ∀ (t : List Nat) (k : Nat), cah c (k + 1) t = (cah c k t).map (· + 1) := fun t => by
    induction t with
    | nil => intro k; rfl
    | cons a t ih =>
      intro k
      show (if a = c then cah c (k + 1 + 1) t else (k + 1) :: cah c (k + 1) t) = List.map _ (if a = c then cah c (k + 1) t else k :: cah c k t)
      by_cases e : a = c
      · rw [if_pos e, if_pos e, ih]
      · rw [if_neg e, if_neg e, List.map_cons, ih]
  intro a b k j
  rw [sh, sh]
  unfold stp
  rw [List.zipWith_map]
  congr 1
  funext x y
  omega
/-- the other tokens, their counts and the number of c make the text -/
theorem text_det (c : Nat) : ∀ (x y : List Nat) (k : Nat), oth (some c) x = oth (some c) y → cah c k x = cah c k y → x.count c = y.count c → x = y
  | [], [], _, _, _, _ => rfl
  | [], b :: y, k, h1, h2, h3 => by
    by_cases e : b = c
    · subst e; simp at h3
    · unfold oth at h1
      rw [List.filter_cons_of_pos (by simpa using e)] at h1
      cases h1
  | a :: x, [], k, h1, h2, h3 => by
    by_cases e : a = c
    · subst e; simp at h3
    · unfold oth at h1
      rw [List.filter_cons_of_pos (by simpa using e)] at h1
      cases h1
  | a :: x, b :: y, k, h1, h2, h3 => by
    unfold oth at h1
    have h2 : (if a = c then cah c (k + 1) x else k :: cah c k x) = (if b = c then cah c (k + 1) y else k :: cah c k y) := h2
    by_cases ea : a = c
    · by_cases eb : b = c
      · subst ea
        rw [eb]
        rw [if_pos rfl, if_pos eb] at h2
        rw [List.filter_cons_of_neg (by simp), List.filter_cons_of_neg (by simpa using eb)] at h1
        rw [eb, List.count_cons_self, List.count_cons_self] at h3
        rw [text_det a x y (k + 1) h1 h2 (by omega)]
      · rw [if_pos ea, if_neg eb] at h2
        have : k ∈ cah c (k + 1) x := by rw [h2]; simp
        have := cah_ge c x (k + 1) k this
        omega
    · by_cases eb : b = c
      · rw [if_neg ea, if_pos eb] at h2
        have : k ∈ cah c (k + 1) y := by rw [← h2]; simp
        have := cah_ge c y (k + 1) k this
        omega
      · rw [if_neg ea, if_neg eb] at h2
        rw [List.filter_cons_of_pos (by simpa using ea), List.filter_cons_of_pos (by simpa using eb)] at h1
        rw [List.count_cons_of_ne ea, List.count_cons_of_ne eb] at h3
        rw [(List.cons.inj h1).1, text_det c x y k (List.cons.inj h1).2 (List.cons.inj h2).2 h3]
/-- new is old with one c put in -/
def Ins (c : Nat) : List Nat → List Nat → Prop
  | _, [] => False
  | [], b :: n => b = c ∧ n = []
  | a :: o, b :: n => (b = c ∧ n = a :: o) ∨ (a = b ∧ Ins c o n)
theorem Ins_iff (c : Nat) : ∀ (n o : List Nat), Ins c o n ↔ ∃ p, p < n.length ∧ n[p]? = some c ∧ n.take p ++ n.drop (p + 1) = o
  | [], o => ⟨fun h => by cases o <;> exact h.elim, fun ⟨p, h, _⟩ => by simp at h⟩
  | b :: n, [] => by
    constructor
    · rintro ⟨h1, h2⟩
      exact ⟨0, by simp, by simp [h1], by simpa using h2⟩
    · rintro ⟨p, p1, p2, p3⟩
      cases p with
      | zero => exact ⟨by simpa using p2, by simpa using p3⟩
      | succ p => simp at p3
  | b :: n, a :: o => by
    constructor
    · rintro (⟨h1, h2⟩ | ⟨h1, h2⟩)
      · exact ⟨0, by simp, by simp [h1], by simpa using h2⟩
      · obtain ⟨p, p1, p2, p3⟩ := (Ins_iff c n o).mp h2
        exact ⟨p + 1, by simpa using p1, by simpa using p2, by simp [p3, h1]⟩
    · rintro ⟨p, p1, p2, p3⟩
      cases p with
      | zero => exact .inl ⟨by simpa using p2, by simpa using p3⟩
      | succ p =>
        have a3 : b = a ∧ n.take p ++ n.drop (p + 1) = o := by simpa using p3
        exact .inr ⟨a3.1.symm, (Ins_iff c n o).mpr ⟨p, by simpa using p1, by simpa using p2, a3.2⟩⟩
theorem stp_ones : ∀ {a b : List Nat}, a.length = b.length → (∀ y ∈ stp a b, y = 1) → ∀ (f : Nat → Nat), b = a.map (· + 1)
  | [], [], _, _, _ => rfl
  | [], _ :: _, h, _, _ => by simp at h
  | _ :: _, [], h, _, _ => by simp at h
  | x :: a, y :: b, h, h1, f => by
    have e := h1 ((y : Int) - (x : Int)) (by unfold stp; simp)
    rw [List.map_cons, ← stp_ones (a := a) (b := b) (by simpa using h) (fun z m => h1 z (by unfold stp at m ⊢; rw [List.zipWith_cons_cons]; exact List.mem_cons_of_mem _ m)) f]
    congr 1
    omega
theorem cah_one (c : Nat) : ∀ (t : List Nat) (k : Nat), cah c (k + 1) t = (cah c k t).map (· + 1)
  | [], _ => rfl
  | a :: t, k => by
    show (if a = c then cah c (k + 1 + 1) t else (k + 1) :: cah c (k + 1) t) = List.map _ (if a = c then cah c (k + 1) t else k :: cah c k t)
    by_cases e : a = c
    · rw [if_pos e, if_pos e, cah_one]
    · rw [if_neg e, if_neg e, List.map_cons, cah_one]
/-- the striking law -/
theorem pat_ins (c : Nat) : ∀ (n o : List Nat), oth (some c) o = oth (some c) n → n.count c = o.count c + 1 → (pat (stp (cah c 0 o) (cah c 0 n)) ↔ Ins c o n)
  | [], o, _, h => by simp at h
  | b :: n, o, h1, h2 => by
    by_cases eb : b = c
    · subst eb
      rw [List.count_cons_self] at h2
      cases o with
      | nil =>
        have e1 : cah b 0 [] = [] := rfl
        rw [e1]
        have hn : n = [] := by
          unfold oth at h1
          rw [List.filter_cons_of_neg (by simp), List.filter_nil] at h1
          cases n with
          | nil => rfl
          | cons x n =>
            by_cases e : x = b
            · subst e; simp at h2
            · rw [List.filter_cons_of_pos (by simpa using e)] at h1; cases h1
        subst hn
        exact ⟨fun _ => ⟨rfl, rfl⟩, fun _ => True.intro⟩
      | cons a o =>
        by_cases ea : a = b
        · subst ea
          have e1 : cah a 0 (a :: o) = cah a 1 o := if_pos rfl
          have e2 : cah a 0 (a :: n) = cah a 1 n := if_pos rfl
          rw [e1, e2, stp_succ]
          rw [List.count_cons_self] at h2
          unfold oth at h1
          rw [List.filter_cons_of_neg (by simp), List.filter_cons_of_neg (by simp)] at h1
          rw [pat_ins a n o h1 (by omega)]
          constructor
          · exact fun h => .inr ⟨rfl, h⟩
          · rintro (⟨_, h⟩ | ⟨_, h⟩)
            · subst h
              cases o with
              | nil => exact ⟨rfl, rfl⟩
              | cons x o => exact .inl ⟨rfl, rfl⟩
            · exact h
        · have e2 : cah b 0 (b :: n) = cah b 1 n := if_pos rfl
          have h1' : oth (some b) (a :: o) = oth (some b) n := by
            unfold oth at h1 ⊢
            rw [h1, List.filter_cons_of_neg (by simp)]
          have hl : (cah b 0 (a :: o)).length = (cah b 1 n).length := by rw [cah_len, cah_len, h1']
          have first : ∀ y r, cah b 1 n = y :: r → 1 ≤ y := fun y r e => cah_ge b n 1 y (by rw [e]; simp)
          have ea' : cah b 0 (a :: o) = 0 :: cah b 0 o := if_neg ea
          rw [e2]
          constructor
          · intro h
            refine .inl ⟨rfl, ?_⟩
            cases hy : cah b 1 n with
            | nil => rw [hy, ea'] at hl; simp at hl
            | cons y r =>
              have fy := first y r hy
              have ones : ∀ z ∈ stp (cah b 0 (a :: o)) (cah b 1 n), z = 1 := by
                rw [hy, ea'] at h ⊢
                rcases (show ((y : Int) - ((0 : Nat) : Int) = 0 ∧ _) ∨ ((y : Int) - ((0 : Nat) : Int) = 1 ∧ ∀ z ∈ stp (cah b 0 o) r, z = 1) from h) with ⟨z, _⟩ | ⟨z, zs⟩
                · omega
                · intro w hw
                  rcases List.mem_cons.mp (show w ∈ ((y : Int) - ((0 : Nat) : Int)) :: stp (cah b 0 o) r from hw) with hw | hw
                  · rw [hw, z]
                  · exact zs w hw
              have := stp_ones hl ones (fun x => x)
              rw [cah_one] at this
              have e := (List.map_inj_right fun x y h => Nat.succ.inj h).mp this
              exact text_det b n (a :: o) 0 h1'.symm e (by omega)
          · rintro (⟨_, h⟩ | ⟨h, _⟩)
            · subst h
              refine pat_one fun y hy => ?_
              rw [cah_one] at hy
              unfold stp at hy
              rw [List.zipWith_map_right] at hy
              obtain ⟨i, hi, e⟩ := List.getElem_of_mem hy
              rw [List.getElem_zipWith] at e
              omega
            · exact absurd h ea
    · cases o with
      | nil =>
        unfold oth at h1
        rw [List.filter_cons_of_pos (by simpa using eb)] at h1
        cases h1
      | cons a o =>
        by_cases ea : a = c
        · subst ea
          have e1 : cah a 0 (a :: o) = cah a 1 o := if_pos rfl
          have e2 : cah a 0 (b :: n) = 0 :: cah a 0 n := if_neg eb
          have hl : (cah a 0 (a :: o)).length = (cah a 0 (b :: n)).length := by rw [cah_len, cah_len, h1]
          rw [e1, e2] at hl
          rw [e1, e2]
          constructor
          · intro h
            cases hy : cah a 1 o with
            | nil => rw [hy] at hl; simp at hl
            | cons y r =>
              have fy : 1 ≤ y := cah_ge a o 1 y (by rw [hy]; simp)
              rw [hy] at h
              rcases (show (((0 : Nat) : Int) - (y : Int) = 0 ∧ _) ∨ (((0 : Nat) : Int) - (y : Int) = 1 ∧ _) from h) with ⟨z, _⟩ | ⟨z, _⟩ <;> omega
          · rintro (⟨h, _⟩ | ⟨h, _⟩)
            · exact absurd h eb
            · exact absurd h.symm eb
        · have e1 : cah c 0 (a :: o) = 0 :: cah c 0 o := if_neg ea
          have e2 : cah c 0 (b :: n) = 0 :: cah c 0 n := if_neg eb
          unfold oth at h1
          rw [List.filter_cons_of_pos (by simpa using ea), List.filter_cons_of_pos (by simpa using eb)] at h1
          obtain ⟨ab, h1⟩ := List.cons.inj h1
          rw [List.count_cons_of_ne ea, List.count_cons_of_ne eb] at h2
          rw [e1, e2]
          have ih := pat_ins c n o h1 h2
          constructor
          · intro h
            rcases (show ((((0 : Nat) : Int) - ((0 : Nat) : Int) = 0) ∧ pat (stp (cah c 0 o) (cah c 0 n))) ∨ ((((0 : Nat) : Int) - ((0 : Nat) : Int) = 1) ∧ _) from h) with ⟨_, z⟩ | ⟨z, _⟩
            · exact .inr ⟨ab, ih.mp z⟩
            · omega
          · rintro (⟨h, _⟩ | ⟨_, h⟩)
            · exact absurd h eb
            · exact .inl ⟨Int.sub_self _, ih.mpr h⟩
/-- the pattern by places -/
theorem pat_iff : ∀ s : List Int, pat s ↔ (∀ i, i < s.length → s.getD i 0 = 0 ∨ s.getD i 0 = 1) ∧ ∀ i j, i < j → j < s.length → ¬ (s.getD i 0 = 1 ∧ s.getD j 0 = 0)
  | [] => ⟨fun _ => ⟨fun i h => by simp at h, fun i j _ h => by simp at h⟩, fun _ => True.intro⟩
  | x :: s => by
    have ih := pat_iff s
    constructor
    · rintro (⟨h1, h2⟩ | ⟨h1, h2⟩)
      · obtain ⟨a, b⟩ := ih.mp h2
        refine ⟨fun i hi => ?_, fun i j hij hj => ?_⟩
        · cases i with
          | zero => exact .inl h1
          | succ i => exact a i (by simpa using hi)
        · cases j with
          | zero => omega
          | succ j => cases i with
            | zero => rintro ⟨z, _⟩; rw [List.getD_cons_zero] at z; omega
            | succ i => exact b i j (by omega) (by simpa using hj)
      · have g : ∀ i, i < s.length → s.getD i 0 = 1 := fun i hi => by
          rw [List.getD_eq_getElem?_getD, List.getElem?_eq_getElem hi]
          exact h2 _ (List.getElem_mem hi)
        refine ⟨fun i hi => ?_, fun i j hij hj => ?_⟩
        · cases i with
          | zero => exact .inr h1
          | succ i => exact .inr (g i (by simpa using hi))
        · cases j with
          | zero => omega
          | succ j => rintro ⟨_, z⟩; rw [List.getD_cons_succ, g j (by simpa using hj)] at z; omega
    · rintro ⟨a, b⟩
      rcases a 0 (by simp) with h | h
      · refine .inl ⟨h, ih.mpr ⟨fun i hi => a (i + 1) (by simpa using hi), fun i j hij hj => b (i + 1) (j + 1) (by omega) (by simpa using hj)⟩⟩
      · refine .inr ⟨h, fun y hy => ?_⟩
        obtain ⟨i, hi, e⟩ := List.getElem_of_mem hy
        have e : s.getD i 0 = y := by rw [List.getD_eq_getElem?_getD, List.getElem?_eq_getElem hi]; exact e
        have h1 := a (i + 1) (by simpa using hi)
        have h2 := b 0 (i + 1) (by omega) (by simpa using hi)
        rw [List.getD_cons_succ, e] at h1 h2
        rcases h1 with z | z
        · exact absurd ⟨h, z⟩ h2
        · exact z
end N
namespace N
open PySem PySem.Spec PyProof.Rows L2
def runD (r : Option (Nat × Nat)) : D := match r with | some (a, b) => .tup [.int (a : Int), .int (b : Int)] | none => .non
abbrev iD (n : Nat) : D := .int (n : Int)
def ntD (l : List Nat) : D := .lst (l.map iD)
/-- the place of the last c, if striking it gives o -/
def stk (o n : List Nat) (c : Nat) : Option Nat := (lastAt n c).bind fun i => if n.take i ++ n.drop (i + 1) = o then some i else none
def cD : Option Nat → D | none => .non | some c => sg c
def cT : Option Nat → D | none => .str "" | some c => sg c
def cL : Option Nat → List Nat | none => [] | some c => [c]
def SW (a b : List Nat) (r : D) : Prop := (r = .non ∧ ∀ i, i < a.length → i < b.length → a.getD i 0 = b.getD i 0) ∨
  ∃ i, r = .tup [.str "swap", iD i] ∧ i < a.length ∧ i < b.length ∧ a.getD i 0 ≠ b.getD i 0 ∧ ∀ j, j < i → a.getD j 0 = b.getD j 0
def gud (s : List Int) (k : Nat) : Prop := s.getD k 0 = 0 ∨ s.getD k 0 = 1
def SH (s : List Int) (r : D) : Prop := (r = .non ∧ (∀ k, k < s.length → gud s k) ∧ ∀ i j, i < j → j < s.length → ¬ (s.getD i 0 = 1 ∧ s.getD j 0 = 0)) ∨
  (∃ i, r = .tup [.str "jump", iD i] ∧ i < s.length ∧ ¬ gud s i ∧ ∀ j, j < i → gud s j) ∨
  ∃ i j, r = .tup [.str "bend", iD i, iD j] ∧ i < j ∧ j < s.length ∧ s.getD i 0 = 1 ∧ s.getD j 0 = 0 ∧ (∀ k, k < s.length → gud s k) ∧ (∀ k, k < i → s.getD k 0 ≠ 1) ∧ ∀ k, i < k → k < j → s.getD k 0 ≠ 0
def steps (c : Nat) (o n : List Nat) : List Int := stp (cah c 0 o) (cah c 0 n)
def FA (o n : List Nat) (co : Option Nat) (r : D) : Prop := ∃ r0, SW (oth co o) (oth co n) r0 ∧ ((r0 ≠ .non ∧ r = r0) ∨ (r0 = .non ∧ match co with | none => r = .non | some c => SH (steps c o n) r))
def struckB (co : Option Nat) (o n : List Nat) : Bool := match co with
  | none => decide (o = n)
  | some c => (List.range n.length).any fun p => decide (n[p]? = some c) && decide (n.take p ++ n.drop (p + 1) = o)
def T3 (ds : List D) (k : List Nat → List Nat → Nat → Prop) : Prop := A3 ds fun o n c => ∃ ol nl cc, o = sD ol ∧ n = sD nl ∧ c = sg cc ∧ ol.length ≤ 1000 ∧ nl.length ≤ 1000 ∧ k ol nl cc
def sp__law_struck_last (K : PySem.W.Frag) : SpD := fun ds G q _ => T3 ds fun o n c => q (.bl (stk o n c).isSome) G
def sp_strikes_last (K : PySem.W.Frag) : SpD := fun ds G q _ => T3 ds fun o n c => q (.bl (stk o n c).isSome) G
def sp_common_front (K : PySem.W.Frag) : SpD := fun ds G q _ => A2 ds fun o n => ∃ ol nl, o = sD ol ∧ n = sD nl ∧ q (.int (com ol nl)) G
def sp_free_places (K : PySem.W.Frag) : SpD := fun ds G q _ => T3 ds fun o n c => q (runD (freeL o n c)) G
def sp_strikes_some (K : PySem.W.Frag) : SpD := fun ds G q _ => T3 ds fun o n c => q (.bl (struckB (some c) o n)) G
def sp_other_tokens (K : PySem.W.Frag) : SpD := fun ds G q _ => A2 ds fun t c => ∃ l co, t = sD l ∧ c = cD co ∧ l.length ≤ 1000 ∧ q (sD (oth co l)) G
def sp_counts_ahead (K : PySem.W.Frag) : SpD := fun ds G q _ => A2 ds fun t c => ∃ l cc, t = sD l ∧ c = sg cc ∧ l.length ≤ 1000 ∧ q (ntD (cah cc 0 l)) G
def sp__law_ahead (K : PySem.W.Frag) : SpD := fun ds G q _ => A2 ds fun t c => ∃ l cc, t = sD l ∧ c = sg cc ∧ l.length ≤ 1000 ∧ q (ntD (cah cc 0 l)) G
def sp_swap_fault (K : PySem.W.Frag) : SpD := fun ds G q _ => A3 ds fun o n c => ∃ ol nl co, o = sD ol ∧ n = sD nl ∧ c = cD co ∧ ol.length ≤ 1000 ∧ nl.length ≤ 1000 ∧ ∀ r, SW (oth co ol) (oth co nl) r → q r G
def sp_shift_fault (K : PySem.W.Frag) : SpD := fun ds G q _ => T3 ds fun o n c => ∀ r, SH (steps c o n) r → q r G
def sp_fault (K : PySem.W.Frag) : SpD := fun ds G q x => A3 ds fun o n c => ∃ ol nl co, o = sD ol ∧ n = sD nl ∧ c = cD co ∧ ol.length ≤ 1000 ∧ nl.length ≤ 1000 ∧ (nl.Perm (ol ++ cL co) → ∀ r, FA ol nl co r → q r G) ∧ (¬ nl.Perm (ol ++ cL co) → x (He.ga K "BadRows") (.int (nl.length : Int)) G)
def sp__law_struck (K : PySem.W.Frag) : SpD := fun ds G q _ => A3 ds fun o n c => ∃ ol nl co, o = sD ol ∧ n = sD nl ∧ c = cT co ∧ ol.length ≤ 1000 ∧ nl.length ≤ 1000 ∧ q (.bl (struckB co ol nl)) G
def sp__law_fault (K : PySem.W.Frag) : SpD := fun ds G q _ => A3 ds fun o n c => ∃ ol nl co r, o = sD ol ∧ n = sD nl ∧ c = cT co ∧ ol.length ≤ 1000 ∧ nl.length ≤ 1000 ∧ nl.Perm (ol ++ cL co) ∧ FA ol nl co r ∧ q r G
def sp__law_due_error (K : PySem.W.Frag) : SpH := fun a dd C => fun ds G q x => A3 ds fun e n p => ∃ i, e = .exc a dd C p ∧ n = .str "BadRows" ∧ p = .int i ∧ C = He.ga K "BadRows" ∧ XF1 K ysN "BadRows" ∧ q (.bl true) G
def sp__law_fault_right (K : PySem.W.Frag) : SpD := fun ds G q _ => A4 ds fun o n c b => ∃ ol nl co bb, o = sD ol ∧ n = sD nl ∧ c = cT co ∧ b = .bl bb ∧ ol.length ≤ 900 ∧ nl.length ≤ 900 ∧ q (.bl true) G
def sp__law_strikes_right (K : PySem.W.Frag) : SpD := fun ds G q _ => A4 ds fun o n c b => ∃ ol nl cc bb, o = sD ol ∧ n = sD nl ∧ c = sg cc ∧ b = .bl bb ∧ ol.length ≤ 1000 ∧ nl.length ≤ 1000 ∧ q (.bl true) G
def sp__law_moved (K : PySem.W.Frag) : SpD := fun ds G q _ => A3 ds fun s t c => ∃ l cc, t = sD l ∧ c = sg cc ∧ l.length ≤ 500 ∧ Draw s G fun G' => ∀ r : List Nat, r.length = l.length → q (sD r) G'
def sp__law_strike (K : PySem.W.Frag) : SpD := fun ds G q _ => A2 ds fun s w => ∃ i, w = .int i ∧ 0 ≤ i ∧ i ≤ 199 ∧ Draw s G fun G' => ∀ (o n : List Nat) c, o.length ≤ 199 → n.length = o.length + 1 → q (.tup [sD o, sD n, sg c]) G'
def sp__law_round_right (K : PySem.W.Frag) : SpD := fun ds G q _ => A2 ds fun s w => ∃ i, w = .int i ∧ 0 ≤ i ∧ i ≤ 199 ∧ Draw s G fun G' => q (.bl true) G'
def sp__law_rounds (K : PySem.W.Frag) : SpD := fun ds G q _ => A1 ds fun w => ∃ i, w = .int i ∧ ∀ n : Int, 0 ≤ n → n ≤ 6 → q (.int n) G
/-! ### of these -/
theorem SW_uniq {a b : List Nat} {r r' : D} (h : SW a b r) (h' : SW a b r') : r = r' := by
  rcases h with ⟨rfl, h⟩ | ⟨i, rfl, h1, h2, h3, h4⟩ <;> rcases h' with ⟨rfl, g⟩ | ⟨j, rfl, g1, g2, g3, g4⟩
  · rfl
  · exact absurd (h j g1 g2) g3
  · exact absurd (g i h1 h2) h3
  · rcases Nat.lt_trichotomy i j with z | z | z
    · exact absurd (g4 i z) h3
    · rw [z]
    · exact absurd (h4 j z) g3
theorem SH_uniq {s : List Int} {r r' : D} (h : SH s r) (h' : SH s r') : r = r' := by
  rcases h with ⟨rfl, h1, h2⟩ | ⟨i, rfl, h1, h2, h3⟩ | ⟨i, j, rfl, h1, h2, h3, h4, h5, h6, h7⟩ <;> rcases h' with ⟨rfl, g1, g2⟩ | ⟨i', rfl, g1, g2, g3⟩ | ⟨i', j', rfl, g1, g2, g3, g4, g5, g6, g7⟩
  · rfl
  · exact absurd (h1 i' g1) g2
  · exact absurd ⟨g3, g4⟩ (h2 i' j' g1 g2)
  · exact absurd (g1 i h1) h2
  · rcases Nat.lt_trichotomy i i' with z | z | z
    · exact absurd (g3 i z) h2
    · rw [z]
    · exact absurd (h3 i' z) g2
  · exact absurd (g5 i h1) h2
  · exact absurd ⟨h3, h4⟩ (g2 i j h1 h2)
  · exact absurd (h5 i' g1) g2
  · have e : i = i' := by
      rcases Nat.lt_trichotomy i i' with z | z | z
      · exact absurd h3 (g6 i z)
      · exact z
      · exact absurd g3 (h6 i' z)
    subst e
    have e : j = j' := by
      rcases Nat.lt_trichotomy j j' with z | z | z
      · exact absurd h4 (g7 j h1 z)
      · exact z
      · exact absurd g4 (h7 j' g1 z)
    subst e
    rfl
theorem FA_uniq {o n : List Nat} {co : Option Nat} {r r' : D} (h : FA o n co r) (h' : FA o n co r') : r = r' := by
  obtain ⟨r0, h1, h2⟩ := h
  obtain ⟨r1, g1, g2⟩ := h'
  have e := SW_uniq h1 g1
  subst e
  rcases h2 with ⟨h2, rfl⟩ | ⟨h2, h3⟩ <;> rcases g2 with ⟨g2, rfl⟩ | ⟨g2, g3⟩
  · rfl
  · exact absurd g2 h2
  · exact absurd h2 g2
  · cases co with
    | none => exact h3.trans g3.symm
    | some c => exact SH_uniq h3 g3
theorem FA_form {o n : List Nat} {co : Option Nat} {r : D} (h : FA o n co r) : (r = .non ∨ ∃ ds, r = .tup ds) ∧ tree r = true ∧ nodes r < 400000 := by
  have sw : ∀ {a b : List Nat} {r : D}, SW a b r → (r = .non ∨ ∃ ds, r = .tup ds) ∧ tree r = true ∧ nodes r < 400000 := by
    intro a b r h
    rcases h with ⟨rfl, _⟩ | ⟨i, rfl, _⟩
    · exact ⟨.inl rfl, rfl, by decide⟩
    · exact ⟨.inr ⟨_, rfl⟩, rfl, show 3 < 400000 by decide⟩
  obtain ⟨r0, h1, ⟨_, rfl⟩ | ⟨_, h3⟩⟩ := h
  · exact sw h1
  · cases co with
    | none =>
      have h3 : r = .non := h3
      rw [h3]
      exact ⟨.inl rfl, rfl, by decide⟩
    | some c =>
      rcases (show SH (steps c o n) r from h3) with ⟨rfl, _⟩ | ⟨i, rfl, _⟩ | ⟨i, j, rfl, _⟩
      · exact ⟨.inl rfl, rfl, by decide⟩
      · exact ⟨.inr ⟨_, rfl⟩, rfl, show 3 < 400000 by decide⟩
      · exact ⟨.inr ⟨_, rfl⟩, rfl, show 4 < 400000 by decide⟩
theorem struckB_some {o n : List Nat} {c : Nat} : struckB (some c) o n = true ↔ Ins c o n := by
  rw [Ins_iff]
  unfold struckB
  rw [List.any_eq_true]
  constructor
  · rintro ⟨p, hp, h⟩
    rw [Bool.and_eq_true, decide_eq_true_eq, decide_eq_true_eq] at h
    exact ⟨p, List.mem_range.mp hp, h⟩
  · rintro ⟨p, hp, h⟩
    exact ⟨p, List.mem_range.mpr hp, by rw [Bool.and_eq_true, decide_eq_true_eq, decide_eq_true_eq]; exact h⟩
theorem Ins_oth (c : Nat) : ∀ (n o : List Nat), Ins c o n → oth (some c) o = oth (some c) n
  | [], o, h => by cases o <;> exact h.elim
  | b :: n, [], ⟨h1, h2⟩ => by subst h1 h2; unfold oth; simp
  | b :: n, a :: o, h => by
    rcases h with ⟨h1, h2⟩ | ⟨h1, h2⟩
    · subst h1 h2
      unfold oth
      rw [List.filter_cons_of_neg (a := b) (by simp)]
    · subst h1
      have := Ins_oth c n o h2
      unfold oth at this ⊢
      rw [List.filter_cons, List.filter_cons, this]
theorem eq_getD {a b : List Nat} (hl : a.length = b.length) (h : ∀ i, i < a.length → i < b.length → a.getD i 0 = b.getD i 0) : a = b := by
  apply List.ext_getElem hl
  intro i h1 h2
  have := h i h1 h2
  rwa [List.getD_eq_getElem?_getD, List.getD_eq_getElem?_getD, List.getElem?_eq_getElem h1, List.getElem?_eq_getElem h2] at this
theorem oth_none (t : List Nat) : oth none t = t := List.filter_eq_self.mpr fun a _ => by simp
theorem FA_none {o n : List Nat} {co : Option Nat} {r : D} (hp : n.Perm (o ++ cL co)) (h : FA o n co r) : r = .non ↔ struckB co o n = true := by
  obtain ⟨r0, h1, h2⟩ := h
  have lo : (oth co o).length = (oth co n).length := by
    have := (hp.filter fun s => decide (some s ≠ co)).length_eq
    unfold oth
    rw [this, List.filter_append, List.length_append]
    cases co with
    | none => simp [cL]
    | some c => simp [cL]
  have hnon : r0 = .non ↔ oth co o = oth co n := by
    constructor
    · intro e
      rcases h1 with ⟨_, h⟩ | ⟨i, e2, _⟩
      · exact eq_getD lo h
      · rw [e] at e2; cases e2
    · intro e
      rcases h1 with ⟨h, _⟩ | ⟨i, _, _, _, h, _⟩
      · exact h
      · rw [e] at h; exact absurd rfl h
  cases co with
  | none =>
    rw [oth_none, oth_none] at hnon
    unfold struckB
    rw [decide_eq_true_eq, ← hnon]
    rcases h2 with ⟨h2, rfl⟩ | ⟨h2, h3⟩
    · exact Iff.rfl
    · exact ⟨fun _ => h2, fun _ => h3⟩
  | some c =>
    rw [struckB_some]
    have hc : n.count c = o.count c + 1 := by rw [hp.count_eq, List.count_append]; simp [cL]
    rcases h2 with ⟨h2, rfl⟩ | ⟨h2, h3⟩
    · exact ⟨fun e => absurd e h2, fun h => absurd (hnon.mpr (Ins_oth c n o h)) h2⟩
    · have e := hnon.mp h2
      rw [← pat_ins c n o e hc, pat_iff]
      have h3 : SH (steps c o n) r := h3
      constructor
      · intro er
        rcases h3 with ⟨_, a, b⟩ | ⟨i, e2, _⟩ | ⟨i, j, e2, _⟩
        · exact ⟨a, b⟩
        · rw [er] at e2; cases e2
        · rw [er] at e2; cases e2
      · rintro ⟨a, b⟩
        rcases h3 with ⟨e2, _⟩ | ⟨i, _, h4, h5, _⟩ | ⟨i, j, _, h4, h5, h6, h7, _⟩
        · exact e2
        · exact absurd (a i h4) h5
        · exact absurd ⟨h6, h7⟩ (b i j h4 h5)
theorem free_struck {o n : List Nat} {c : Nat} : (freeL o n c).isSome = struckB (some c) o n := by
  rw [Bool.eq_iff_iff, struckB_some, Ins_iff]
  constructor
  · intro h
    obtain ⟨⟨a, b⟩, e⟩ := Option.isSome_iff_exists.mp h
    obtain ⟨h1, h2⟩ := freeL_le e
    have := (free_iff (c := c) (n := n) (show a ≤ o.length by omega)).mpr ⟨a, b, e, by omega, by omega⟩
    subst this
    refine ⟨a, by rw [insL_len (by omega)]; omega, ?_, ?_⟩
    · unfold insL
      rw [List.append_assoc, List.getElem?_append_right (by simp; omega)]
      simp [Nat.min_eq_left (show a ≤ o.length by omega)]
    · unfold insL
      have l1 : (o.take a).length = a := by simp; omega
      rw [List.append_assoc, List.take_left' l1, List.drop_append, l1]
      simp
      rw [List.drop_eq_nil_of_le (by simp; omega)]
      simp
  · rintro ⟨p, h1, h2, h3⟩
    have hn : insL o c p = n := by
      subst h3
      unfold insL
      have l1 : (n.take p).length = p := by simp; omega
      rw [List.take_left' l1, List.drop_left' l1]
      have : c = n[p] := by rw [List.getElem?_eq_getElem h1] at h2; exact (Option.some.inj h2).symm
      rw [this, List.append_assoc, List.singleton_append, ← List.drop_eq_getElem_cons, List.take_append_drop]
    have hp : p ≤ o.length := by subst h3; simp; omega
    obtain ⟨a, b, e, _⟩ := (free_iff hp).mp hn
    rw [e]; rfl
end N
namespace N
open PySem PySem.Spec PyProof.Rows L2
def n__law_due_error : List Str := ["e", "name", "at", "marks", "rest", "mark"]
def t__law_due_error (K : PySem.W.Frag) : THD := fun a dd C =>
    (gSeq (gAsg (gLst (gCons (gTup (gCons (gIsE K a dd C (.ref (He.ga K "BadRows")) (gVar 0)) (gCons (gC (.str "BadRows")) gNil))) gNil)) (hName 3))
    (gSeq (gAsg (gIsEA K a dd C (clsU K ((["BadKinds", "BadKind", "BadRow", "BadLot", "BadParting", "BadLetters", "BadNumber", "BadName", "BadRoom", "BadDay", "TooLong", "BadStand", "BadRule", "BadCall", "TooManyStands", "BadText", "BadTree", "BadMachine", "BadException", "BadPolicy"] : List Str) ++ (["BadSpeech", "BadGraft", "NotSame", "NotGood", "IsGood", "BadPlaces", "Passed", "Empty", "NotEmpty", "BadPaper", "TooMany", "NotOneLine", "Endless", "BadTable", "BadBook", "Clash", "NothingToUndo", "BadLine"] : List Str))) (gVar 0)) (hName 4))
    (gSeq (gIfS (gOr (gTst (gVar 4)) (gTst (gOp nNe (gLc (iSeq (gVar 3)) (hName 5) (gTst (gOp nIx (gVar 5) (gC (.int 0)))) (gOp nIx (gVar 5) (gC (.int 1))) [5]) (gLst (gCons (gVar 1) gNil)))))
    (gRet (gC (.bl false)))
    gNext)
    (gRet (gAndV (gIsE K a dd C (.type "ValueError") (gVar 0)) (gOp nEq (gAtE a dd C (gVar 0)) (gVar 2)))))))
def n__law_ahead : List Str := ["text", "c", "at"]
def t__law_ahead (K : PySem.W.Frag) : TSD :=
    (gRet (gLc (iRng1D (gCons (gCB cLen (gCons (gVar 0) gNil)) gNil)) (hName 2) (gTst (gOp nNe (gOp nIx (gVar 0) (gVar 2)) (gVar 1))) (gM1 mCountS (gSl (gVar 0) gNoP (gPart (gVar 2))) (gVar 1)) [2]))
def n__law_fault : List Str := ["old", "new", "c", "olds", "news", "at", "were", "are", "steps", "later", "sign", "place"]
def t__law_fault (K : PySem.W.Frag) : TSD :=
    (gSeq (gAsg (gLc (iAny (gVar 0)) (hName 10) (gTst (gOp nNe (gVar 10) (gVar 2))) (gVar 10) [10]) (hName 3))
    (gSeq (gAsg (gLc (iAny (gVar 1)) (hName 10) (gTst (gOp nNe (gVar 10) (gVar 2))) (gVar 10) [10]) (hName 4))
    (gSeq (gFor (iRng1D (gCons (gCB cLen (gCons (gVar 3) gNil)) gNil)) (hName 5)
    (gIfS (gTst (gOp nNe (gOp nIx (gVar 3) (gVar 5)) (gOp nIx (gVar 4) (gVar 5))))
    (gRet (gTup (gCons (gC (.str "swap")) (gCons (gVar 5) gNil))))
    gNext))
    (gSeq (gIfS (gTst (gOp nEq (gVar 2) (gC (.str ""))))
    (gRet (gC .non))
    gNext)
    (gSeq (gAsg (gCallD (sp__law_ahead K) [] (gCons (gVar 0) (gCons (gVar 2) gNil))) (hName 6))
    (gSeq (gAsg (gCallD (sp__law_ahead K) [] (gCons (gVar 1) (gCons (gVar 2) gNil))) (hName 7))
    (gSeq (gAsg (gLc (iRng1D (gCons (gCB cLen (gCons (gVar 6) gNil)) gNil)) (hName 5) gYes (gOp nSub (gOp nIx (gVar 7) (gVar 5)) (gOp nIx (gVar 6) (gVar 5))) [5]) (hName 8))
    (gSeq (gFor (iRng1D (gCons (gCB cLen (gCons (gVar 8) gNil)) gNil)) (hName 5)
    (gIfS (gAnd (gTst (gOp nNe (gOp nIx (gVar 8) (gVar 5)) (gC (.int 0)))) (gTst (gOp nNe (gOp nIx (gVar 8) (gVar 5)) (gC (.int 1)))))
    (gRet (gTup (gCons (gC (.str "jump")) (gCons (gVar 5) gNil))))
    gNext))
    (gSeq (gFor (iRng1D (gCons (gCB cLen (gCons (gVar 8) gNil)) gNil)) (hName 5)
    (gSeq (gAsg (gLc (iRng2D (gCons (gOp nAdd (gVar 5) (gC (.int 1))) (gCons (gCB cLen (gCons (gVar 8) gNil)) gNil))) (hName 11) (gAnd (gTst (gOp nEq (gOp nIx (gVar 8) (gVar 5)) (gC (.int 1)))) (gTst (gOp nEq (gOp nIx (gVar 8) (gVar 11)) (gC (.int 0))))) (gVar 11) [11]) (hName 9))
    (gIfS (gTst (gOp nGt (gCB cLen (gCons (gVar 9) gNil)) (gC (.int 0))))
    (gRet (gTup (gCons (gC (.str "bend")) (gCons (gVar 5) (gCons (gOp nIx (gVar 9) (gC (.int 0))) gNil)))))
    gNext)))
    (gRet (gC .non)))))))))))
def n__law_struck : List Str := ["old", "new", "c", "at"]
def t__law_struck (K : PySem.W.Frag) : TSD :=
    (gSeq (gIfS (gTst (gOp nEq (gVar 2) (gC (.str ""))))
    (gRet (gOp nEq (gVar 0) (gVar 1)))
    gNext)
    (gRet (gOp nGt (gCB cLen (gCons (gLc (iRng1D (gCons (gCB cLen (gCons (gVar 1) gNil)) gNil)) (hName 3) (gAnd (gTst (gOp nEq (gOp nIx (gVar 1) (gVar 3)) (gVar 2))) (gTst (gOp nEq (gOp nAdd (gSl (gVar 1) gNoP (gPart (gVar 3))) (gSl (gVar 1) (gPart (gOp nAdd (gVar 3) (gC (.int 1)))) gNoP)) (gVar 0)))) (gVar 3) [3]) gNil)) (gC (.int 0)))))
def n_counts_ahead : List Str := ["text", "c", "ahead", "met", "sign"]
def t_counts_ahead (K : PySem.W.Frag) : TSD :=
    (gSeq (gAsg (gLstM gNil) (hName 2))
    (gSeq (gAsg (gC (.int 0)) (hName 3))
    (gSeq (gFor (iAny (gVar 0)) (hName 4)
    (gIfS (gTst (gOp nEq (gVar 4) (gVar 1)))
    (gAsg (gOp (nI fun a b => .int (a + b)) (gVar 3) (gC (.int 1))) (hName 3))
    (gDrop (gBL mAppend (gVar 2) (gCons (gVar 3) gNil)))))
    (gRet (gVar 2)))))
def n_shift_fault : List Str := ["old", "new", "c", "shifts", "i", "shift", "j", "before", "after"]
def t_shift_fault (K : PySem.W.Frag) : TSD :=
    (gSeq (gAsg (gLc (iZipD (gCons (gCallD (sp_counts_ahead K) [] (gCons (gVar 0) (gCons (gVar 2) gNil))) (gCons (gCallD (sp_counts_ahead K) [] (gCons (gVar 1) (gCons (gVar 2) gNil))) gNil))) (hTup 2 (hCons (hName 7) (hCons (hName 8) hNil))) gYes (gOp nSub (gVar 8) (gVar 7)) [7, 8]) (hName 3))
    (gSeq (gFor (iEnumA (gCons (gVar 3) gNil)) (hTup 2 (hCons (hName 4) (hCons (hName 5) hNil)))
    (gIfS (gTst (gOp (nIn true) (gVar 5) (gTup (gCons (gC (.int 0)) (gCons (gC (.int 1)) gNil)))))
    (gRet (gTup (gCons (gC (.str "jump")) (gCons (gVar 4) gNil))))
    gNext))
    (gSeq (gIfS (gTst (gOp (nIn true) (gC (.int 1)) (gVar 3)))
    (gRet (gC .non))
    gNext)
    (gSeq (gAsg (gBL mIdx (gVar 3) (gCons (gC (.int 1)) gNil)) (hName 4))
    (gSeq (gFor (iRng2D (gCons (gOp nAdd (gVar 4) (gC (.int 1))) (gCons (gCB cLen (gCons (gVar 3) gNil)) gNil))) (hName 6)
    (gIfS (gTst (gOp nEq (gOp nIx (gVar 3) (gVar 6)) (gC (.int 0))))
    (gRet (gTup (gCons (gC (.str "bend")) (gCons (gVar 4) (gCons (gVar 6) gNil)))))
    gNext))
    (gRet (gC .non)))))))
def n_other_tokens : List Str := ["text", "c", "sign"]
def t_other_tokens (K : PySem.W.Frag) : TSD :=
    (gRet (gM1 mJoin (gC (.str "")) (gLc (iAny (gVar 0)) (hName 2) (gTst (gOp nNe (gVar 2) (gVar 1))) (gVar 2) [2])))
def n_swap_fault : List Str := ["old", "new", "c", "i", "sign", "other"]
def t_swap_fault (K : PySem.W.Frag) : TSD :=
    (gSeq (gFor (iEnumZ (gCons (gCallD (sp_other_tokens K) [] (gCons (gVar 0) (gCons (gVar 2) gNil))) (gCons (gCallD (sp_other_tokens K) [] (gCons (gVar 1) (gCons (gVar 2) gNil))) gNil))) (hTup 2 (hCons (hName 3) (hCons (hTup 2 (hCons (hName 4) (hCons (hName 5) hNil))) hNil)))
    (gIfS (gTst (gOp nNe (gVar 4) (gVar 5)))
    (gRet (gTup (gCons (gC (.str "swap")) (gCons (gVar 3) gNil))))
    gNext))
    (gRet (gC .non)))
def n_fault : List Str := ["old", "new", "c", "more", "found"]
def t_fault (K : PySem.W.Frag) : TSD :=
    (gSeq (gAsg (gIfE (gTst (gOp nIs (gVar 2) (gC .non))) (gC (.str "")) (gVar 2)) (hName 3))
    (gSeq (gIfS (gTst (gOp nNe (gCB cSort (gCons (gVar 1) gNil)) (gCB cSort (gCons (gOp nAdd (gVar 0) (gVar 3)) gNil))))
    (gRaise (He.ga K "BadRows") (gCB cLen (gCons (gVar 1) gNil)))
    gNext)
    (gSeq (gAsg (gCallD (sp_swap_fault K) [] (gCons (gVar 0) (gCons (gVar 1) (gCons (gVar 2) gNil)))) (hName 4))
    (gSeq (gIfS (gOr (gTst (gOp nIsNot (gVar 4) (gC .non))) (gTst (gOp nIs (gVar 2) (gC .non))))
    (gRet (gVar 4))
    gNext)
    (gRet (gCallD (sp_shift_fault K) [] (gCons (gVar 0) (gCons (gVar 1) (gCons (gVar 2) gNil)))))))))
def n__law_fault_right : List Str := ["old", "new", "c", "named", "sign", "answer", "e"]
def t__law_fault_right (K : PySem.W.Frag) : TSD :=
    (gSeq (gAsg (gVar 2) (hName 4))
    (gSeqC (gIfS (gTst (gOp nEq (gVar 2) (gC (.str ""))))
    (gAsg (gC .non) (hName 4))
    gNext)
    (gSeq (gTry K (.ref (He.ga K "NonePassedError")) 6
    (gIfS (gTst (gVar 3))
    (gAsg (gCallU true (sp_fault K) 0 3 [2, 0, 1] gNil (gCons (gVar 1) (gCons (gVar 4) (gCons (gVar 0) gNil)))) (hName 5))
    (gAsg (gCallDX (sp_fault K) [] (gCons (gVar 0) (gCons (gVar 1) (gCons (gVar 4) gNil)))) (hName 5)))
    (fun a dd C => (gRet (gAndV (gOp nNe (gCB cSort (gCons (gVar 1) gNil)) (gCB cSort (gCons (gOp nAdd (gVar 0) (gVar 2)) gNil))) (gCallD (sp__law_due_error K a dd C) [] (gCons (gVar 6) (gCons (gC (.str "BadRows")) (gCons (gCB cLen (gCons (gVar 1) gNil)) gNil))))))))
    (gSeq (gIfS (gTst (gOp nNe (gCB cSort (gCons (gVar 1) gNil)) (gCB cSort (gCons (gOp nAdd (gVar 0) (gVar 2)) gNil))))
    (gRet (gC (.bl false)))
    gNext)
    (gSeq (gIfS (gTst (gOp nNe (gOp nIs (gVar 5) (gC .non)) (gCallD (sp__law_struck K) [] (gCons (gVar 0) (gCons (gVar 1) (gCons (gVar 2) gNil))))))
    (gRet (gC (.bl false)))
    gNext)
    (gRet (gCallD (sp__law_like K) [] (gCons (gVar 5) (gCons (gCallD (sp__law_fault K) [] (gCons (gVar 0) (gCons (gVar 1) (gCons (gVar 2) gNil)))) gNil)))))))))
def n__law_moved : List Str := ["store", "text", "c", "spots", "at", "rest", "place"]
def t__law_moved (K : PySem.W.Frag) : TSD :=
    (gSeq (gAsg (gLc (iRng1D (gCons (gCB cLen (gCons (gVar 1) gNil)) gNil)) (hName 4) (gTst (gOp nEq (gOp nIx (gVar 1) (gVar 4)) (gVar 2))) (gVar 4) [4]) (hName 3))
    (gSeq (gIfS (gTst (gOp nEq (gCB cLen (gCons (gVar 3) gNil)) (gC (.int 0))))
    (gRet (gVar 1))
    gNext)
    (gSeq (gAsg (gCallD (sp__law_of K) [] (gCons (gVar 0) (gCons (gVar 3) gNil))) (hName 4))
    (gSeq (gAsg (gOp nAdd (gSl (gVar 1) gNoP (gPart (gVar 4))) (gSl (gVar 1) (gPart (gOp nAdd (gVar 4) (gC (.int 1)))) gNoP)) (hName 5))
    (gSeq (gAsg (gCallD (sp__law_take K) [] (gCons (gVar 0) (gCons (gOp nAdd (gCB cLen (gCons (gVar 5) gNil)) (gC (.int 1))) gNil))) (hName 6))
    (gRet (gOp nAdd (gOp nAdd (gSl (gVar 5) gNoP (gPart (gVar 6))) (gVar 2)) (gSl (gVar 5) (gPart (gVar 6)) gNoP))))))))
def n__law_strike : List Str := ["store", "widest", "alphabet", "old", "c", "place", "new", "turn"]
def t__law_strike (K : PySem.W.Frag) : TSD :=
    (gSeq (gAsg (gCallD (sp__law_of K) [] (gCons (gVar 0) (gCons (gTup (gCons (gC (.str "01")) (gCons (gC (.str "ab")) (gCons (gC (.str "abc")) (gCons (gC (.str "0123")) (gCons (gC (.str "a. ~")) gNil)))))) gNil))) (hName 2))
    (gSeqC (gIfS (gTst (gCallD (sp__law_yes K) [] (gCons (gVar 0) (gCons (gC (.int 3)) gNil))))
    (gAsg (gM1 mJoin (gC (.str "")) (gLc (iRng1D (gCons (gOp nAdd (gC (.int 2)) (gCallD (sp__law_take K) [] (gCons (gVar 0) (gCons (gC (.int 3)) gNil)))) gNil)) (hName 7) gYes (gCallD (sp__law_of K) [] (gCons (gVar 0) (gCons (gCallD (sp__law_ascii K) [] gNil) gNil))) [7])) (hName 2))
    gNext)
    (gSeq (gAsg (gCallD (sp__law_text K) [] (gCons (gVar 0) (gCons (gVar 2) (gCons (gCallD (sp__law_span K) [] (gCons (gVar 0) (gCons (gC (.int 0)) (gCons (gVar 1) gNil)))) gNil)))) (hName 3))
    (gSeq (gAsg (gCallD (sp__law_of K) [] (gCons (gVar 0) (gCons (gVar 2) gNil))) (hName 4))
    (gSeq (gAsg (gCallD (sp__law_span K) [] (gCons (gVar 0) (gCons (gC (.int 0)) (gCons (gCB cLen (gCons (gVar 3) gNil)) gNil)))) (hName 5))
    (gSeq (gAsg (gOp nAdd (gOp nAdd (gSl (gVar 3) gNoP (gPart (gVar 5))) (gVar 4)) (gSl (gVar 3) (gPart (gVar 5)) gNoP)) (hName 6))
    (gRet (gTup (gCons (gVar 3) (gCons (gCallD (sp__law_shaken K) [] (gCons (gVar 0) (gCons (gVar 6) gNil))) (gCons (gVar 4) gNil)))))))))))
def n__law_struck_last : List Str := ["old", "new", "x", "at"]
def t__law_struck_last (K : PySem.W.Frag) : TSD :=
    (gSeq (gAsg (gM1 mRfind (gVar 1) (gVar 2)) (hName 3))
    (gRet (gAndV (gOp nGe (gVar 3) (gC (.int 0))) (gOp nEq (gOp nAdd (gSl (gVar 1) gNoP (gPart (gVar 3))) (gSl (gVar 1) (gPart (gOp nAdd (gVar 3) (gC (.int 1)))) gNoP)) (gVar 0)))))
def n_strikes_last : List Str := ["old", "new", "x", "at"]
def t_strikes_last (K : PySem.W.Frag) : TSD :=
    (gSeq (gAsg (gM1 mRfind (gVar 1) (gVar 2)) (hName 3))
    (gRet (gAndV (gOp nGe (gVar 3) (gC (.int 0))) (gOp nEq (gOp nAdd (gSl (gVar 1) gNoP (gPart (gVar 3))) (gSl (gVar 1) (gPart (gOp nAdd (gVar 3) (gC (.int 1)))) gNoP)) (gVar 0)))))
def n_common_front : List Str := ["old", "new", "same", "sign", "other"]
def t_common_front (K : PySem.W.Frag) : TSD :=
    (gSeq (gAsg (gC (.int 0)) (hName 2))
    (gSeq (gFor (iZipS (gCons (gVar 0) (gCons (gVar 1) gNil))) (hTup 2 (hCons (hName 3) (hCons (hName 4) hNil)))
    (gSeq (gIfS (gTst (gOp nNe (gVar 3) (gVar 4)))
    gBreak
    gNext)
    (gAsg (gOp (nI fun a b => .int (a + b)) (gVar 2) (gC (.int 1))) (hName 2))))
    (gRet (gVar 2))))
def n_free_places : List Str := ["old", "new", "c", "last", "first"]
def t_free_places (K : PySem.W.Frag) : TSD :=
    (gSeq (gIfS (gTst (gOp nNe (gCB cLen (gCons (gVar 1) gNil)) (gOp nAdd (gCB cLen (gCons (gVar 0) gNil)) (gC (.int 1)))))
    (gRet (gC .non))
    gNext)
    (gSeq (gAsg (gCallD (sp_common_front K) [] (gCons (gVar 0) (gCons (gVar 1) gNil))) (hName 3))
    (gSeq (gAsg (gOp nSub (gCB cLen (gCons (gVar 0) gNil)) (gCallD (sp_common_front K) [] (gCons (gRev (gVar 0)) (gCons (gRev (gVar 1)) gNil)))) (hName 4))
    (gSeq (gIfS (gOr (gTst (gOp nGt (gVar 4) (gVar 3))) (gTst (gOp nNe (gOp nIx (gVar 1) (gVar 3)) (gVar 2))))
    (gRet (gC .non))
    gNext)
    (gRet (gTup (gCons (gVar 4) (gCons (gVar 3) gNil))))))))
def n_strikes_some : List Str := ["old", "new", "c"]
def t_strikes_some (K : PySem.W.Frag) : TSD :=
    (gRet (gOp nIsNot (gCallD (sp_free_places K) [] (gCons (gVar 0) (gCons (gVar 1) (gCons (gVar 2) gNil)))) (gC .non)))
def n__law_strikes_right : List Str := ["old", "new", "x", "named", "due"]
def t__law_strikes_right (K : PySem.W.Frag) : TSD :=
    (gSeq (gAsg (gLst (gCons (gCallD (sp__law_struck K) [] (gCons (gVar 0) (gCons (gVar 1) (gCons (gVar 2) gNil)))) (gCons (gCallD (sp__law_struck_last K) [] (gCons (gVar 0) (gCons (gVar 1) (gCons (gVar 2) gNil)))) gNil))) (hName 4))
    (gSeq (gIfS (gTst (gVar 3))
    (gRet (gCallD (sp__law_like K) [] (gCons (gLst (gCons (gCallK (sp_strikes_some K) 0 3 [1, 0, 2] [] gNil (gCons (gVar 1) (gCons (gVar 0) (gCons (gVar 2) gNil)))) (gCons (gCallK (sp_strikes_last K) 0 3 [2, 0, 1] [] gNil (gCons (gVar 1) (gCons (gVar 2) (gCons (gVar 0) gNil)))) gNil))) (gCons (gVar 4) gNil))))
    gNext)
    (gRet (gCallD (sp__law_like K) [] (gCons (gLst (gCons (gCallD (sp_strikes_some K) [] (gCons (gVar 0) (gCons (gVar 1) (gCons (gVar 2) gNil)))) (gCons (gCallD (sp_strikes_last K) [] (gCons (gVar 0) (gCons (gVar 1) (gCons (gVar 2) gNil)))) gNil))) (gCons (gVar 4) gNil))))))
def n__law_round_right : List Str := ["store", "widest", "old", "new", "c", "named", "at", "other", "spoilt", "wrongs", "wrong", "x"]
def t__law_round_right (K : PySem.W.Frag) : TSD :=
    (gSeq (gAsg (gCallD (sp__law_strike K) [] (gCons (gVar 0) (gCons (gVar 1) gNil))) (hTup 3 (hCons (hName 2) (hCons (hName 3) (hCons (hName 4) hNil)))))
    (gSeqC (gIfS (gTst (gOp nEq (gCallD (sp__law_take K) [] (gCons (gVar 0) (gCons (gC (.int 3)) gNil))) (gC (.int 0))))
    (gAsg (gCallD (sp__law_moved K) [] (gCons (gVar 0) (gCons (gVar 3) (gCons (gVar 4) gNil)))) (hName 3))
    gNext)
    (gSeq (gAsg (gCallD (sp__law_yes K) [] (gCons (gVar 0) (gCons (gC (.int 3)) gNil))) (hName 5))
    (gSeq (gIfS (gOr (gNot (gTst (gCallD (sp__law_fault_right K) [] (gCons (gVar 2) (gCons (gVar 3) (gCons (gVar 4) (gCons (gVar 5) gNil))))))) (gNot (gTst (gCallD (sp__law_fault_right K) [] (gCons (gVar 2) (gCons (gCallD (sp__law_shaken K) [] (gCons (gVar 0) (gCons (gVar 2) gNil))) (gCons (gC (.str "")) (gCons (gVar 5) gNil))))))))
    (gRet (gC (.bl false)))
    gNext)
    (gSeq (gAsg (gCallD (sp__law_take K) [] (gCons (gVar 0) (gCons (gCB cLen (gCons (gVar 3) gNil)) gNil))) (hName 6))
    (gSeq (gAsg (gCallD (sp__law_of K) [] (gCons (gVar 0) (gCons (gOp nAdd (gCallD (sp__law_ascii K) [] gNil) (gVar 2)) gNil))) (hName 7))
    (gSeq (gAsg (gOp nAdd (gOp nAdd (gSl (gVar 3) gNoP (gPart (gVar 6))) (gVar 7)) (gSl (gVar 3) (gPart (gOp nAdd (gVar 6) (gC (.int 1)))) gNoP)) (hName 8))
    (gSeq (gAsg (gLst (gCons (gVar 2) (gCons (gSl (gOp nAdd (gVar 3) (gVar 4)) gNoP (gPart (gC (.int 200)))) (gCons (gSl (gOp nAdd (gVar 3) (gVar 7)) gNoP (gPart (gC (.int 200)))) (gCons (gOp nAdd (gSl (gVar 3) gNoP (gPart (gVar 6))) (gSl (gVar 3) (gPart (gOp nAdd (gVar 6) (gC (.int 1)))) gNoP)) (gCons (gVar 8) (gCons (gCallD (sp__law_shaken K) [] (gCons (gVar 0) (gCons (gVar 8) gNil))) gNil))))))) (hName 9))
    (gSeq (gAsg (gCallD (sp__law_of K) [] (gCons (gVar 0) (gCons (gVar 9) gNil))) (hName 10))
    (gSeq (gIfS (gOr (gNot (gTst (gCallD (sp__law_fault_right K) [] (gCons (gVar 2) (gCons (gVar 10) (gCons (gVar 4) (gCons (gVar 5) gNil))))))) (gNot (gTst (gCallD (sp__law_fault_right K) [] (gCons (gVar 3) (gCons (gVar 2) (gCons (gVar 4) (gCons (gVar 5) gNil))))))))
    (gRet (gC (.bl false)))
    gNext)
    (gSeq (gIfS (gOr (gNot (gTst (gCallD (sp__law_fault_right K) [] (gCons (gVar 2) (gCons (gVar 3) (gCons (gVar 7) (gCons (gVar 5) gNil))))))) (gNot (gTst (gCallD (sp__law_fault_right K) [] (gCons (gVar 2) (gCons (gVar 10) (gCons (gC (.str "")) (gCons (gVar 5) gNil))))))))
    (gRet (gC (.bl false)))
    gNext)
    (gSeq (gFor (iAny (gTup (gCons (gVar 4) (gCons (gVar 7) (gCons (gCallD (sp__law_of K) [] (gCons (gVar 0) (gCons (gVar 3) gNil))) gNil))))) (hName 11)
    (gIfS (gOr (gNot (gTst (gCallD (sp__law_strikes_right K) [] (gCons (gVar 2) (gCons (gVar 3) (gCons (gVar 11) (gCons (gVar 5) gNil))))))) (gNot (gTst (gCallD (sp__law_strikes_right K) [] (gCons (gVar 2) (gCons (gVar 10) (gCons (gVar 11) (gCons (gVar 5) gNil))))))))
    (gRet (gC (.bl false)))
    gNext))
    (gRet (gAndV (gCallD (sp__law_strikes_right K) [] (gCons (gVar 3) (gCons (gVar 2) (gCons (gVar 4) (gCons (gVar 5) gNil))))) (gCallD (sp__law_strikes_right K) [] (gCons (gC (.str "")) (gCons (gVar 4) (gCons (gVar 4) (gCons (gVar 5) gNil)))))))))))))))))))
def n__law_rounds : List Str := ["widest"]
def t__law_rounds (K : PySem.W.Frag) : TSD :=
    (gSeq (gIfS (gTst (gOp nGt (gVar 0) (gC (.int 100))))
    (gRet (gC (.int 2)))
    gNext)
    (gRet (gC (.int 6))))
def n_law : List Str := ["script", "store", "widest", "turn"]
def t_law (K : PySem.W.Frag) : TSD :=
    (gSeq (gAsg (gCallD (sp__law_store K) [] (gCons (gVar 0) gNil)) (hName 1))
    (gSeq (gAsg (gCallD (sp__law_of K) [] (gCons (gVar 1) (gCons (gTup (gCons (gC (.int 12)) (gCons (gC (.int 12)) (gCons (gC (.int 8)) (gCons (gC (.int 12)) (gCons (gC (.int 5)) (gCons (gC (.int 12)) (gCons (gC (.int 8)) (gCons (gC (.int 199)) gNil))))))))) gNil))) (hName 2))
    (gSeq (gFor (iRng1D (gCons (gCallD (sp__law_rounds K) [] (gCons (gVar 2) gNil)) gNil)) (hName 3)
    (gIfS (gNot (gTst (gCallD (sp__law_round_right K) [] (gCons (gVar 1) (gCons (gVar 2) gNil)))))
    (gRet (gC (.bl false)))
    gNext))
    (gRet (gC (.bl true))))))
end N
namespace N
open PySem PySem.Spec PyProof.Rows L2
local macro_rules
  | `(tactic| walk_at "nl") => `(tactic| first
    | with_reducible assumption
    | exact gup_same
    | (refine (gup_ne (by with_reducible assumption)).trans ?_; walk_at "nl")
    | (refine (gup_ne (Ne.symm (by with_reducible assumption))).trans ?_; walk_at "nl"))
local macro_rules
  | `(tactic| walk_at "ns") => `(tactic| first
    | with_reducible assumption
    | omega
    | exact Eq.refl _
    | (apply Nat.le_of_ble_eq_true; exact Eq.refl _)
    | exact And.intro (by decide +kernel) (by decide +kernel)
    | exact or_ll (by decide +kernel) (by decide +kernel)
    | exact or_lr (by decide +kernel) (by decide +kernel)
    | exact Or.inr (cmulw (by decide +kernel))
    | exact IsLst_r (by walk_at "nl")
    | exact IsLst_v
    | exact IsIns_v True.intro
    | exact IsIns_v (by decide +kernel)
    | (apply of_decide_eq_true; decide +kernel)
    | (simp; done)
    | (simp; omega))
local macro_rules
  | `(tactic| walk_at "ns") => `(tactic| first
    | exact tx_sz (by omega)
    | exact sz_le (by omega)
    | exact sz_lt (by omega)
    | exact IsIns_r (by walk_at "nl") True.intro
    | exact IsIns_r (by walk_at "nl") (by decide +kernel)
    | exact tx_sz2 (by omega)
    | exact tx_sz2 (by simp; omega)
    | exact sz_le (by simp; omega)
    | exact cdivw (by omega) (by omega)
    | exact tx_sz (by simp; omega)
    | exact cdivw (by split <;> omega) (by split <;> omega)
    | (split <;> omega))
local macro_rules
  | `(tactic| walk_at "na") => `(tactic| first
    | refine Sd_i (by walk_at "ns") ?_
    | refine Cond_t (Eq.refl _) ?_
    | refine Cond_f (Eq.refl _) ?_
    | refine Cond_t (by with_reducible assumption) ?_
    | refine Cond_f (by with_reducible assumption) ?_
    | refine Cond_t (decide_eq_true (by omega)) ?_
    | refine Cond_f (decide_eq_false (by omega)) ?_
    | refine Cond_t (nd_t (by omega)) ?_
    | refine Cond_f (nd_f (by omega)) ?_
    | refine LkL_i (by walk_at "nl") ?_
    | refine AtD_i (Eq.refl _) ?_
    | refine IsIns_v ?_
    | refine IsIns_r (by walk_at "nl") ?_
    | refine StF_i (by walk_at "nl") (by walk_at "ns") ?_
    | refine Fd_i 0 (by decide +kernel) (Eq.refl _) ?_
    | refine Fd_i 1 (by decide +kernel) (Eq.refl _) ?_
    | refine Fd_i 2 (by decide +kernel) (Eq.refl _) ?_
    | refine Fd_i 3 (by decide +kernel) (Eq.refl _) ?_
    | refine Fd_i 4 (by decide +kernel) (Eq.refl _) ?_
    | refine IntsQ_t _ (Eq.refl _) ?_
    | refine IntsQ_l _ (Eq.refl _) ?_
    | refine IntsL_i _ (Eq.refl _) ?_
    | refine BlsL_i _ (Eq.refl _) ?_
    | (rw [cut_toA]; rotate_left; · omega)
    | (rw [cut_fromA]; rotate_left; · omega)
    | rw [tx_app]
    | rw [rev_tx]
    | rw [repS_tx])
local macro_rules
  | `(tactic| walk_at "nb") => `(tactic| first
    | walk_at "na"
    | refine NewL_v ?_)
local macro_rules
  | `(tactic| walk_at "nj") => `(tactic| (
      repeat (conv => whnf
              walk_at "na")
      try (conv => whnf)))
local macro_rules
  | `(tactic| walk_at "n0") => `(tactic| first
    | walk_at "nb"
    | refine Ret_i (d := .int _) ?_
    | refine Ret_i (d := .bl _) ?_
    | refine Ret_i (d := .tup _) ?_
    | refine Ret_i (d := .lst _) ?_
    | refine Ret_i (d := .str _) ?_
    | refine Ret_i (d := .non) ?_)
local macro_rules
  | `(tactic| walk_at "n1") => `(tactic| first
    | walk_at "n0"
    | refine Call_i ?_)
local macro_rules
  | `(tactic| walk_at "nc") => `(tactic| (
      repeat (conv => whnf
              walk_at "n0")
      try (conv => whnf)))
local macro_rules
  | `(tactic| walk_at "nw") => `(tactic| (
      repeat (conv => whnf
              walk_at "n1")
      try (conv => whnf)))
local macro_rules
  | `(tactic| walk_at "nk") => `(tactic| (
      repeat (conv => whnf
              walk_at "nb")
      try (conv => whnf)))
theorem T3_x {ds : List D} {k : List Nat → List Nat → Nat → Prop} (h : T3 ds k) : ∃ o n c, ds = [sD o, sD n, sg c] ∧ o.length ≤ 1000 ∧ n.length ≤ 1000 ∧ k o n c := by
  replace h := A3_x h
  obtain ⟨a, b, c, rfl, o, n, cc, rfl, rfl, rfl, h1, h2, h⟩ := h
  exact ⟨o, n, cc, rfl, h1, h2, h⟩
theorem stk_none {o n : List Nat} {c : Nat} (h : lastAt n c = none) : stk o n c = none := by unfold stk; rw [h]; rfl
theorem stk_some {o n : List Nat} {c i : Nat} (h : lastAt n c = some i) : stk o n c = if n.take i ++ n.drop (i + 1) = o then some i else none := by unfold stk; rw [h]; rfl
theorem pu__law_struck_last (K : PySem.W.Frag) (ds : List D) (G : GH) (q : QD) (x : XD) (h : sp__law_struck_last K ds G q x) : t__law_struck_last K (dEnds q x) (startD n__law_struck_last ds) G := by
  replace h := T3_x h
  obtain ⟨o, n, c, rfl, h1, h2, h⟩ := h
  have el := tx_len n
  have er := rfind_tx n c
  cases hc : lastAt n c with
  | none =>
    rw [hc] at er
    rw [stk_none hc] at h
    have er : Txt.rfind (tx n) (tx [c]) = -1 := er
    walk_at "nw"
    exact h
  | some i =>
    rw [hc] at er
    rw [stk_some hc] at h
    have er : Txt.rfind (tx n) (tx [c]) = (i : Int) := er
    walk_at "nw"
    have e1 : decide (tx (List.take (Txt.rfind (tx n) (tx [c])).toNat n ++ List.drop (Txt.rfind (tx n) (tx [c]) + 1).toNat n) = tx o) = (if n.take i ++ n.drop (i + 1) = o then some i else none).isSome := by
      rw [er, Int.toNat_natCast, show ((i : Int) + 1).toNat = i + 1 by omega, show ∀ a b, decide (tx a = tx b) = decide (a = b) from fun a b => decide_eq_decide.mpr tx_inj]
      split <;> simp [*]
    rw [e1]
    exact h
theorem pu_strikes_last (K : PySem.W.Frag) (ds : List D) (G : GH) (q : QD) (x : XD) (h : sp_strikes_last K ds G q x) : t_strikes_last K (dEnds q x) (startD n_strikes_last ds) G := pu__law_struck_last K ds G q x h
theorem pu_common_front (K : PySem.W.Frag) (ds : List D) (G : GH) (q : QD) (x : XD) (h : sp_common_front K ds G q x) : t_common_front K (dEnds q x) (startD n_common_front ds) G := by
  replace h := A2_x h
  obtain ⟨_, _, rfl, o, n, rfl, rfl, h⟩ := h
  have hc := com_le o n
  walk_at "nw"
  rw [signs_sD, signs_sD]
  refine ForD_i (fun i τ G' => G' = G ∧ i ≤ com o n ∧ ∃ o3 o4, τ = [some (sD o), some (sD n), some (.int (i : Int)), o3, o4]) ⟨rfl, Nat.zero_le _, _, _, rfl⟩ (fun _ _ _ _ _ => True.intro) ?_ ?_
  · rintro i d τ G' hd ⟨rfl, hi, o3, o4, rfl⟩
    obtain ⟨a, b, ha, hb, rfl⟩ := zip_get hd
    have l1 := (List.getElem?_eq_some_iff.mp ha).1
    have l2 := (List.getElem?_eq_some_iff.mp hb).1
    have t0 := (com_take i o n (by omega) (by omega)).mpr hi
    have t1 := com_take (i + 1) o n (by omega) (by omega)
    rw [List.take_add_one, List.take_add_one, ha, hb, t0] at t1
    walk_at "nw"
    refine Cond_i (fun hb => ?_) (fun hb => ?_)
    · have hb := of_decide_eq_false (tx_ne hb)
      walk_at "nw"
      have : com o n = i := by
        have : ¬ i + 1 ≤ com o n := fun z => hb (by have := t1.mpr z; simpa using this)
        omega
      rw [this] at h
      exact h
    · have hb := of_decide_eq_true (tx_ne hb)
      walk_at "nw"
      exact ⟨rfl, t1.mp (by cases hb; rfl), _, _, rfl⟩
  · rintro τ G' ⟨rfl, hi, o3, o4, rfl⟩
    rw [zip_len, List.length_map, List.length_map] at *
    walk_at "nw"
    have : com o n = min o.length n.length := by omega
    rw [this] at h
    exact h
theorem pu_free_places (K : PySem.W.Frag) (ds : List D) (G : GH) (q : QD) (x : XD) (h : sp_free_places K ds G q x) : t_free_places K (dEnds q x) (startD n_free_places ds) G := by
  replace h := T3_x h
  obtain ⟨o, n, c, rfl, h1, h2, h⟩ := h
  have el := tx_len o
  have en := tx_len n
  have c1 := com_le o n
  have c2 := com_le o.reverse n.reverse
  rw [List.length_reverse, List.length_reverse] at c2
  unfold freeL at h
  walk_at "nw"
  refine Cond_i (fun hb => ?_) (fun hb => ?_)
  · rw [if_neg (by simp at hb; omega)] at h
    walk_at "nw"
    exact h
  have hl : n.length = o.length + 1 := by simp at hb; omega
  rw [if_pos hl] at h
  walk_at "nw"
  refine ⟨o, n, rfl, rfl, ?_⟩
  walk_at "nw"
  refine ⟨o.reverse, n.reverse, congrArg D.str (rev_tx o), congrArg D.str (rev_tx n), ?_⟩
  have hx : n[com o n]? = some (n[com o n]'(by omega)) := List.getElem?_eq_getElem _
  generalize n[com o n]'(by omega) = y at hx
  rw [hx] at h
  walk_at "nw"
  refine Cond_i (fun hb => ?_) (fun hb => ?_)
  · have hb := of_decide_eq_true hb
    rw [if_neg (by omega)] at h
    walk_at "nw"
    exact h
  have hb := of_decide_eq_false hb
  walk_at "nw"
  refine AtS_tx (by omega) (by omega) (c := y) (by rw [Int.toNat_natCast]; exact hx) ?_
  walk_at "nw"
  refine Cond_i (fun hb => ?_) (fun hb => ?_)
  · have hb := of_decide_eq_false (tx_ne hb)
    rw [if_neg (fun z => hb (by cases z.2; rfl))] at h
    walk_at "nw"
    exact h
  · have hb := of_decide_eq_true (tx_ne hb)
    cases hb
    rw [if_pos ⟨by omega, rfl⟩] at h
    walk_at "nw"
    have e1 : (((o.length - com o.reverse n.reverse : Nat) : Int)) = ((tx o).length : Int) - (com o.reverse n.reverse : Int) := by omega
    have h : q (.tup [.int ((o.length - com o.reverse n.reverse : Nat) : Int), .int (com o n : Int)]) G := h
    rw [e1] at h
    exact h
theorem pu_strikes_some (K : PySem.W.Frag) (ds : List D) (G : GH) (q : QD) (x : XD) (h : sp_strikes_some K ds G q x) : t_strikes_some K (dEnds q x) (startD n_strikes_some ds) G := by
  replace h := T3_x h
  obtain ⟨o, n, c, rfl, h1, h2, h⟩ := h
  rw [← free_struck] at h
  walk_at "nw"
  refine ⟨o, n, c, rfl, rfl, rfl, h1, h2, ?_⟩
  cases e : freeL o n c with
  | none =>
    rw [e] at h
    rw [e]
    walk_at "nw"
    exact h
  | some r =>
    rw [e] at h
    rw [e]
    walk_at "nw"
    exact h
theorem sgs_map (l : List Nat) : signs (tx l) = l.map sg := signs_tx l
theorem pu_other_tokens (K : PySem.W.Frag) (ds : List D) (G : GH) (q : QD) (x : XD) (h : sp_other_tokens K ds G q x) : t_other_tokens K (dEnds q x) (startD n_other_tokens ds) G := by
  replace h := A2_x h
  obtain ⟨_, _, rfl, l, co, rfl, rfl, h1, h⟩ := h
  walk_at "nk"
  rw [signs_sD]
  refine lc_enc (xs := l) sg (fun s => decide (some s ≠ co)) sg (by omega) True.intro (fun s hs A B hA hB => ?_) ?_
  · cases co with
    | none =>
      walk_at "nk"
      exact hA (by simp)
    | some c =>
      walk_at "nk"
      refine Cond_i (fun hb => ?_) (fun hb => ?_)
      · have hb := of_decide_eq_false (tx_ne hb)
        walk_at "nk"
        exact hA (by simpa using hb)
      · have hb := of_decide_eq_true (tx_ne hb)
        exact hB (by simpa using hb)
  have hl : (oth co l).length ≤ l.length := List.length_filter_le _ _
  walk_at "nk"
  refine ⟨_, txts_sg _, join_bd (show (oth co l).length ≤ 10000000 by omega), ?_⟩
  rw [join_eq]
  walk_at "nc"
  exact h
theorem pu_counts_ahead (K : PySem.W.Frag) (ds : List D) (G : GH) (q : QD) (x : XD) (h : sp_counts_ahead K ds G q x) : t_counts_ahead K (dEnds q x) (startD n_counts_ahead ds) G := by
  replace h := A2_x h
  obtain ⟨_, _, rfl, l, c, rfl, rfl, h1, h⟩ := h
  walk_at "nk"
  refine NewM_i fun p hp => ?_
  walk_at "nk"
  rw [signs_sD]
  refine ForD_i (fun i τ G' => i ≤ l.length ∧ G' = gup G p (.lst ((cah c 0 (l.take i)).map iD)) ∧ ∃ o4, τ = [some (sD l), some (sg c), some (.ref p), some (iD ((l.take i).count c)), o4]) ⟨Nat.zero_le _, rfl, _, rfl⟩ (fun _ _ _ _ _ => True.intro) ?_ ?_
  · rintro i d τ G' hd ⟨hi, rfl, o4, rfl⟩
    obtain ⟨s, hs, rfl⟩ : ∃ s, l[i]? = some s ∧ d = sg s := by
      rw [List.getElem?_map] at hd
      cases e : l[i]? with
      | none => rw [e] at hd; cases hd
      | some s => rw [e] at hd; cases hd; exact ⟨s, rfl, rfl⟩
    have hi' := (List.getElem?_eq_some_iff.mp hs).1
    have et : l.take (i + 1) = l.take i ++ [s] := by rw [List.take_add_one, hs]; rfl
    have es := cah_snoc c (l.take i) 0 s
    rw [← et, Nat.zero_add] at es
    have ec : (l.take (i + 1)).count c = (l.take i).count c + if s = c then 1 else 0 := by
      rw [et, List.count_append]
      by_cases e : s = c
      · subst e; simp
      · rw [if_neg e, List.count_cons_of_ne e]; simp
    have el : ((cah c 0 (l.take i)).map iD).length ≤ 1000 := by
      rw [List.length_map, cah_len]
      exact Nat.le_trans (List.length_filter_le _ _) (by simp; omega)
    walk_at "nk"
    refine Cond_i (fun hb => ?_) (fun hb => ?_)
    · have hb : s = c := by have := of_decide_eq_true (tx_eq hb); simpa using this
      rw [if_pos hb, List.append_nil] at es
      rw [if_pos hb] at ec
      walk_at "nk"
      refine ⟨by omega, by rw [es], some (sg s), ?_⟩
      rw [ec]
      rfl
    · have hb : s ≠ c := by have := of_decide_eq_false (tx_eq hb); simpa using this
      rw [if_neg hb] at es ec
      walk_at "nk"
      refine ⟨by omega, ?_, some (sg s), ?_⟩
      · rw [gup_gup, es, List.map_append]
        rfl
      · rw [ec]
        rfl
  · rintro τ G' ⟨hi, rfl, o4, rfl⟩
    rw [List.length_map, List.take_length]
    walk_at "nk"
    exact Ret_lw G (subG_up hp) hp gup_same h
theorem pu__law_ahead (K : PySem.W.Frag) (ds : List D) (G : GH) (q : QD) (x : XD) (h : sp__law_ahead K ds G q x) : t__law_ahead K (dEnds q x) (startD n__law_ahead ds) G := by
  replace h := A2_x h
  obtain ⟨_, _, rfl, l, c, rfl, rfl, h1, h⟩ := h
  have el := tx_len l
  walk_at "nk"
  rw [show ((tx l).length : Int).toNat = l.length by omega]
  refine lc_rng (fun i => decide (l[i]? ≠ some c)) (fun i => iD ((l.take i).count c)) (by omega) True.intro (fun i hi A B hA hB => ?_) ?_
  · have hs : l[i]? = some (l[i]'hi) := List.getElem?_eq_getElem _
    generalize l[i]'hi = s at hs
    walk_at "nk"
    refine AtS_tx (by omega) (by omega) (c := s) (by rw [show (0 + (i : Int)).toNat = i by omega]; exact hs) ?_
    walk_at "nk"
    refine Cond_i (fun hb => ?_) (fun hb => ?_)
    · have hb := of_decide_eq_false (tx_ne hb)
      walk_at "nk"
      rw [show (0 + (i : Int)).toNat = i by omega]
      have := hA (by rw [hs]; simpa using hb)
      show A (D.int (Txt.count (tx (List.take i l)) (tx [c]))) G
      rw [count_tx]
      exact this
    · have hb := of_decide_eq_true (tx_ne hb)
      exact hB (by rw [hs]; simpa using hb)
  have e : ∀ i, i ≤ l.length → ((List.range i).filter fun i => decide (l[i]? ≠ some c)).map (fun i => (l.take i).count c) = cah c 0 (l.take i) := fun i => by
    induction i with
    | zero => intro _; rfl
    | succ i ih =>
      intro hi
      have hs : l[i]? = some (l[i]'(by omega)) := List.getElem?_eq_getElem _
      have et : l.take (i + 1) = l.take i ++ [l[i]'(by omega)] := by rw [List.take_add_one, hs]; rfl
      rw [et, cah_snoc, List.range_succ, List.filter_append, List.map_append, ih (by omega), List.filter_cons, List.filter_nil, hs]
      by_cases e : l[i]'(by omega) = c
      · rw [if_pos e, if_neg (by simpa using e)]; rfl
      · rw [if_neg e, if_pos (by simpa using e)]; simp
  have e := e l.length (Nat.le_refl _)
  rw [List.take_length] at e
  have e2 : ((List.range l.length).filter fun i => decide (l[i]? ≠ some c)).map (fun i => iD ((l.take i).count c)) = (cah c 0 l).map iD := by rw [← e, List.map_map]; rfl
  rw [e2]
  walk_at "nc"
  exact h
theorem ezip_get {a b : List Nat} {i : Nat} {d : D} (h : (eZipD (a.map sg) (b.map sg))[i]? = some d) : ∃ s t, a[i]? = some s ∧ b[i]? = some t ∧ d = .tup [iD i, .tup [sg s, sg t]] := by
  have h1 := (List.getElem?_eq_some_iff.mp h).1
  unfold eZipD at h h1
  rw [enum_len] at h1
  obtain ⟨s, t, e1, e2, e3⟩ := zip_get (List.getElem?_eq_getElem h1)
  refine ⟨s, t, e1, e2, ?_⟩
  have := enum_at (List.getElem?_eq_getElem h1)
  rw [this] at h
  cases h
  rw [e3]
theorem getD_of {o : List Nat} {i s : Nat} (h : o[i]? = some s) : o.getD i 0 = s := by rw [List.getD_eq_getElem?_getD, h]; rfl
theorem pu_swap_fault (K : PySem.W.Frag) (ds : List D) (G : GH) (q : QD) (x : XD) (h : sp_swap_fault K ds G q x) : t_swap_fault K (dEnds q x) (startD n_swap_fault ds) G := by
  replace h := A3_x h
  obtain ⟨_, _, _, rfl, o, n, co, rfl, rfl, rfl, h1, h2, h⟩ := h
  walk_at "nk"
  refine Call_i ⟨o, co, rfl, rfl, h1, ?_⟩
  walk_at "nk"
  refine Call_i ⟨n, co, rfl, rfl, h2, ?_⟩
  walk_at "nk"
  rw [signs_sD, signs_sD]
  generalize oth co o = a at h
  generalize oth co n = b at h
  refine ForD_i (fun i τ G' => G' = G ∧ (∀ j, j < i → a.getD j 0 = b.getD j 0) ∧ ∃ o3 o4 o5, τ = [some (sD o), some (sD n), some (cD co), o3, o4, o5]) ⟨rfl, (fun _ z => by omega), _, _, _, rfl⟩ (fun _ _ _ _ _ => True.intro) ?_ ?_
  · rintro i d τ G' hd ⟨rfl, hI, o3, o4, o5, rfl⟩
    obtain ⟨s, t, hs, ht, rfl⟩ := ezip_get hd
    have l1 := (List.getElem?_eq_some_iff.mp hs).1
    have l2 := (List.getElem?_eq_some_iff.mp ht).1
    have g1 := getD_of hs
    have g2 := getD_of ht
    walk_at "nk"
    refine Cond_i (fun hb => ?_) (fun hb => ?_)
    · have hb := of_decide_eq_false (tx_ne hb)
      walk_at "nc"
      exact h _ (.inr ⟨i, rfl, l1, l2, by rw [g1, g2]; simpa using hb, hI⟩)
    · have hb := of_decide_eq_true (tx_ne hb)
      walk_at "nk"
      refine ⟨rfl, fun j hj => ?_, _, _, _, rfl⟩
      by_cases e : j = i
      · subst e; rw [g1, g2]; simpa using hb
      · exact hI j (by omega)
  · rintro τ G' ⟨rfl, hI, o3, o4, o5, rfl⟩
    have el : (eZipD (a.map sg) (b.map sg)).length = min a.length b.length := by unfold eZipD; rw [enum_len, zip_len, List.length_map, List.length_map]
    rw [el] at hI
    walk_at "nc"
    exact h _ (.inl ⟨rfl, fun i a b => hI i (by omega)⟩)
end N
namespace N
open PySem PySem.Spec PyProof.Rows L2
local macro_rules
  | `(tactic| walk_at "nl") => `(tactic| first
    | with_reducible assumption
    | exact gup_same
    | (refine (gup_ne (by with_reducible assumption)).trans ?_; walk_at "nl")
    | (refine (gup_ne (Ne.symm (by with_reducible assumption))).trans ?_; walk_at "nl"))
local macro_rules
  | `(tactic| walk_at "ns") => `(tactic| first
    | with_reducible assumption
    | omega
    | exact Eq.refl _
    | (apply Nat.le_of_ble_eq_true; exact Eq.refl _)
    | exact And.intro (by decide +kernel) (by decide +kernel)
    | exact or_ll (by decide +kernel) (by decide +kernel)
    | exact or_lr (by decide +kernel) (by decide +kernel)
    | exact Or.inr (cmulw (by decide +kernel))
    | exact IsLst_r (by walk_at "nl")
    | exact IsLst_v
    | exact IsIns_v True.intro
    | exact IsIns_v (by decide +kernel)
    | (apply of_decide_eq_true; decide +kernel)
    | (simp; done)
    | (simp; omega))
local macro_rules
  | `(tactic| walk_at "ns") => `(tactic| first
    | exact tx_sz (by omega)
    | exact sz_le (by omega)
    | exact sz_lt (by omega)
    | exact IsIns_r (by walk_at "nl") True.intro
    | exact IsIns_r (by walk_at "nl") (by decide +kernel)
    | exact tx_sz2 (by omega)
    | exact tx_sz2 (by simp; omega)
    | exact sz_le (by simp; omega)
    | exact cdivw (by omega) (by omega)
    | exact tx_sz (by simp; omega)
    | exact cdivw (by split <;> omega) (by split <;> omega)
    | (split <;> omega))
local macro_rules
  | `(tactic| walk_at "na") => `(tactic| first
    | refine Sd_i (by walk_at "ns") ?_
    | refine Cond_t (Eq.refl _) ?_
    | refine Cond_f (Eq.refl _) ?_
    | refine Cond_t (by with_reducible assumption) ?_
    | refine Cond_f (by with_reducible assumption) ?_
    | refine Cond_t (decide_eq_true (by omega)) ?_
    | refine Cond_f (decide_eq_false (by omega)) ?_
    | refine Cond_t (nd_t (by omega)) ?_
    | refine Cond_f (nd_f (by omega)) ?_
    | refine LkL_i (by walk_at "nl") ?_
    | refine AtD_i (Eq.refl _) ?_
    | refine IsIns_v ?_
    | refine IsIns_r (by walk_at "nl") ?_
    | refine StF_i (by walk_at "nl") (by walk_at "ns") ?_
    | refine Fd_i 0 (by decide +kernel) (Eq.refl _) ?_
    | refine Fd_i 1 (by decide +kernel) (Eq.refl _) ?_
    | refine Fd_i 2 (by decide +kernel) (Eq.refl _) ?_
    | refine Fd_i 3 (by decide +kernel) (Eq.refl _) ?_
    | refine Fd_i 4 (by decide +kernel) (Eq.refl _) ?_
    | refine IntsQ_t _ (Eq.refl _) ?_
    | refine IntsQ_l _ (Eq.refl _) ?_
    | refine IntsL_i _ (Eq.refl _) ?_
    | refine BlsL_i _ (Eq.refl _) ?_
    | (rw [cut_toA]; rotate_left; · omega)
    | (rw [cut_fromA]; rotate_left; · omega)
    | rw [tx_app]
    | rw [rev_tx]
    | rw [repS_tx])
local macro_rules
  | `(tactic| walk_at "nb") => `(tactic| first
    | walk_at "na"
    | refine NewL_v ?_)
local macro_rules
  | `(tactic| walk_at "nj") => `(tactic| (
      repeat (conv => whnf
              walk_at "na")
      try (conv => whnf)))
local macro_rules
  | `(tactic| walk_at "n0") => `(tactic| first
    | walk_at "nb"
    | refine Ret_i (d := .int _) ?_
    | refine Ret_i (d := .bl _) ?_
    | refine Ret_i (d := .tup _) ?_
    | refine Ret_i (d := .lst _) ?_
    | refine Ret_i (d := .str _) ?_
    | refine Ret_i (d := .non) ?_)
local macro_rules
  | `(tactic| walk_at "n1") => `(tactic| first
    | walk_at "n0"
    | refine Call_i ?_)
local macro_rules
  | `(tactic| walk_at "nc") => `(tactic| (
      repeat (conv => whnf
              walk_at "n0")
      try (conv => whnf)))
local macro_rules
  | `(tactic| walk_at "nw") => `(tactic| (
      repeat (conv => whnf
              walk_at "n1")
      try (conv => whnf)))
local macro_rules
  | `(tactic| walk_at "nk") => `(tactic| (
      repeat (conv => whnf
              walk_at "nb")
      try (conv => whnf)))
theorem zipD_map {α β : Type} {f : α → D} {g : β → D} : ∀ {xs : List α} {ys : List β}, zipD (xs.map f) (ys.map g) = (xs.zip ys).map fun p => .tup [f p.1, g p.2]
  | [], _ => rfl
  | _ :: _, [] => rfl
  | x :: xs, y :: ys => congrArg (List.cons _) (zipD_map (xs := xs) (ys := ys))
theorem stp_zip {a b : List Nat} : (a.zip b).map (fun p => ((p.2 : Int) - (p.1 : Int))) = stp a b := by
  unfold stp
  induction a generalizing b with
  | nil => rfl
  | cons x a ih => cases b with
    | nil => rfl
    | cons y b => rw [List.zip_cons_cons, List.map_cons, List.zipWith_cons_cons, ih]
theorem stp_len {a b : List Nat} : (stp a b).length ≤ a.length := by unfold stp; rw [List.length_zipWith]; exact Nat.min_le_left _ _
theorem intAt {s : List Int} {j : Nat} (h : j < s.length) : atI (s.map D.int) (j : Int) = some (.int (s.getD j 0)) := by
  unfold atI ixN
  rw [if_pos (by omega), if_pos (by rw [List.length_map]; omega), Int.toNat_natCast]
  show (s.map D.int)[j]? = _
  rw [List.getElem?_map, List.getD_eq_getElem?_getD, List.getElem?_eq_getElem h]
  rfl
theorem enumI_get {s : List Int} {i : Nat} {d : D} (h : (enumD (s.map D.int))[i]? = some d) : i < s.length ∧ d = .tup [iD i, .int (s.getD i 0)] := by
  have h1 := (List.getElem?_eq_some_iff.mp h).1
  rw [enum_len, List.length_map] at h1
  refine ⟨h1, ?_⟩
  have := enum_at (ds := s.map D.int) (i := i) (d := .int (s.getD i 0)) (by rw [List.getElem?_map, List.getD_eq_getElem?_getD, List.getElem?_eq_getElem h1]; rfl)
  rw [this] at h
  cases h
  rfl
theorem inD01 {v : Int} : inD (.int v) [.int 0, .int 1] = decide (v = 0 ∨ v = 1) := by
  unfold inD
  rw [Bool.eq_iff_iff]
  simp [vOf, eqV]
  omega
theorem atI_eq {α : Type} {l : List α} {i j : Int} {y : α} (h : atI l j = some y) (e : i = j) : atI l i = some y := e ▸ h
theorem find1 (s : List Int) : ((s.map D.int).findIdx? fun z => eqV (vOf z) (vOf (.int 1))) = s.findIdx? fun v => decide (v = 1) := by
  rw [List.findIdx?_map]
  congr 1
theorem inD1 (s : List Int) : inD (.int 1) (s.map D.int) = (s.findIdx? fun v => decide (v = 1)).isSome := by
  unfold inD
  rw [List.any_map, List.findIdx?_isSome]
  congr 1
theorem flat_ints (s : List Int) : (s.map D.int).all flatD = true := by rw [List.all_map]; exact List.all_eq_true.mpr fun _ _ => rfl
theorem idx_spec {s : List Int} {i : Nat} (h : (s.findIdx? fun v => decide (v = 1)) = some i) : i < s.length ∧ s.getD i 0 = 1 ∧ ∀ k, k < i → s.getD k 0 ≠ 1 := by
  obtain ⟨h1, h2, h3⟩ := List.findIdx?_eq_some_iff_getElem.mp h
  refine ⟨h1, ?_, fun k hk => ?_⟩
  · rw [List.getD_eq_getElem?_getD, List.getElem?_eq_getElem h1]
    exact of_decide_eq_true h2
  · rw [List.getD_eq_getElem?_getD, List.getElem?_eq_getElem (by omega)]
    have := h3 k hk
    simpa using this
theorem idx_none {s : List Int} (h : (s.findIdx? fun v => decide (v = 1)) = none) : ∀ k, k < s.length → s.getD k 0 ≠ 1 := fun k hk => by
  have := List.findIdx?_eq_none_iff.mp h (s[k]) (List.getElem_mem hk)
  rw [List.getD_eq_getElem?_getD, List.getElem?_eq_getElem hk]
  simpa using this
theorem pu_shift_fault (K : PySem.W.Frag) (ds : List D) (G : GH) (q : QD) (x : XD) (h : sp_shift_fault K ds G q x) : t_shift_fault K (dEnds q x) (startD n_shift_fault ds) G := by
  replace h := T3_x h
  obtain ⟨o, n, c, rfl, h1, h2, h⟩ := h
  walk_at "nk"
  refine Call_i ⟨o, c, rfl, rfl, h1, ?_⟩
  walk_at "nk"
  refine Call_i ⟨n, c, rfl, rfl, h2, ?_⟩
  have l1 : (cah c 0 o).length ≤ 1000 := by rw [cah_len]; exact Nat.le_trans (List.length_filter_le _ _) h1
  unfold steps at h
  generalize cah c 0 o = a at h l1
  generalize cah c 0 n = b at h
  walk_at "nk"
  rw [zipD_map]
  refine lc_enc (xs := a.zip b) (fun p => .tup [iD p.1, iD p.2]) (fun _ => true) (fun p => .int ((p.2 : Int) - (p.1 : Int))) (by rw [List.length_zip]; omega) ⟨True.intro, True.intro⟩ (fun p hp A B hA hB => ?_) ?_
  · walk_at "nk"
    exact hA rfl
  have e1 : ((a.zip b).filter fun _ => true).map (fun p => D.int ((p.2 : Int) - (p.1 : Int))) = (stp a b).map D.int := by
    rw [List.filter_eq_self.mpr (fun _ _ => rfl), ← stp_zip, List.map_map]
    rfl
  rw [e1]
  have ls := stp_len (a := a) (b := b)
  generalize stp a b = s at h ls
  have lm : (s.map D.int).length = s.length := List.length_map ..
  have fl := flat_ints s
  walk_at "nk"
  refine ForD_i (fun i τ G' => i ≤ s.length ∧ G' = G ∧ (∀ j, j < i → gud s j) ∧ ∃ o4 o5, τ = [some (sD o), some (sD n), some (sg c), some (.lst (s.map D.int)), o4, o5, none, none, none]) ⟨Nat.zero_le _, rfl, (fun _ z => by omega), _, _, rfl⟩ (fun _ _ _ _ _ => True.intro) ?_ ?_
  · rintro i d τ G' hd ⟨hi, rfl, hI, o4, o5, rfl⟩
    obtain ⟨hi', rfl⟩ := enumI_get hd
    walk_at "nk"
    refine Sd_i ⟨rfl, rfl⟩ ?_
    rw [inD01]
    walk_at "nk"
    refine Cond_i (fun hb => ?_) (fun hb => ?_)
    · have hb : ¬ gud s i := by simpa [gud] using hb
      walk_at "nc"
      exact h _ (.inr (.inl ⟨i, rfl, hi', hb, hI⟩))
    · have hb : gud s i := by
        have hb : decide (s.getD i 0 = 0 ∨ s.getD i 0 = 1) = true := by
          cases e : decide (s.getD i 0 = 0 ∨ s.getD i 0 = 1) with
          | true => rfl
          | false => rw [e] at hb; cases hb
        show s.getD i 0 = 0 ∨ s.getD i 0 = 1
        exact of_decide_eq_true hb
      walk_at "nk"
      refine ⟨by omega, rfl, fun j hj => ?_, _, _, rfl⟩
      by_cases e : j = i
      · rw [e]; exact hb
      · exact hI j (by omega)
  · rintro τ G' ⟨hi, rfl, hI, o4, o5, rfl⟩
    rw [enum_len, lm] at hI
    walk_at "nk"
    refine Sd_i ⟨rfl, fl⟩ ?_
    rw [inD1]
    cases hx : s.findIdx? fun v => decide (v = 1) with
    | none =>
      have hn := idx_none hx
      walk_at "nc"
      exact h _ (.inl ⟨rfl, hI, fun i j hij hj z => hn i (by omega) z.1⟩)
    | some i =>
      obtain ⟨i1, i2, i3⟩ := idx_spec hx
      walk_at "nk"
      refine Sd_i ⟨rfl, fl⟩ ⟨i, by rw [find1, hx], ?_⟩
      walk_at "nk"
      refine ForD_i (fun k τ G'' => G'' = G' ∧ (∀ j, i < j → j < i + 1 + k → s.getD j 0 ≠ 0) ∧ ∃ o6, τ = [some (sD o), some (sD n), some (sg c), some (.lst (s.map D.int)), some (iD i), o5, o6, none, none]) ⟨rfl, (fun _ _ z => by omega), _, rfl⟩ (fun _ _ _ _ _ => True.intro) ?_ ?_
      · rintro k d τ G'' hd ⟨rfl, hK, o6, rfl⟩
        have hk' := (List.getElem?_eq_some_iff.mp hd).1
        rw [rng_len] at hk'
        rw [rng_at hk'] at hd
        cases hd
        have hk' : i + 1 + k < s.length := by omega
        walk_at "nk"
        refine AtD_i (atI_eq (intAt hk') (by omega)) ?_
        walk_at "nk"
        refine Cond_i (fun hb => ?_) (fun hb => ?_)
        · have hb := of_decide_eq_true hb
          walk_at "nc"
          have e1 : ((i : Int) + 1 + (k : Int)) = ((i + 1 + k : Nat) : Int) := by omega
          rw [e1]
          exact h _ (.inr (.inr ⟨i, i + 1 + k, rfl, by omega, hk', i2, hb, hI, i3, fun j a b => hK j a b⟩))
        · have hb := of_decide_eq_false hb
          walk_at "nk"
          refine ⟨rfl, fun j a b => ?_, _, rfl⟩
          by_cases e : j = i + 1 + k
          · rw [e]; exact hb
          · exact hK j a (by omega)
      · rintro τ G'' ⟨rfl, hK, o6, rfl⟩
        rw [rng_len] at hK
        walk_at "nc"
        refine h _ (.inl ⟨rfl, hI, fun i' j hij hj z => ?_⟩)
        have a1 : i ≤ i' := by
          rcases Nat.lt_or_ge i' i with w | w
          · exact absurd z.1 (i3 i' w)
          · exact w
        exact hK j (by omega) (by omega) z.2
theorem cT_tx (co : Option Nat) : cT co = sD (cL co) := by
  cases co with
  | none => show D.str _ = D.str _; rw [← tx_nil]; rfl
  | some c => rfl
theorem pu_fault (K : PySem.W.Frag) (ds : List D) (G : GH) (q : QD) (x : XD) (h : sp_fault K ds G q x) : t_fault K (dEnds q x) (startD n_fault ds) G := by
  replace h := A3_x h
  obtain ⟨_, _, _, rfl, o, n, co, rfl, rfl, rfl, h1, h2, ha, hb⟩ := h
  have eo := tx_len o
  have en := tx_len n
  have lc : (cL co).length ≤ 1 := by cases co <;> simp [cL]
  have ea := tx_len (o ++ cL co)
  have rest : ∀ (P : Prop), (P → EqD (.lst (((tx n).cps.toList.mergeSort fun a b => decide (a ≤ b)).map fun c => .str ⟨#[c]⟩)) (.lst (((tx (o ++ cL co)).cps.toList.mergeSort fun a b => decide (a ≤ b)).map fun c => .str ⟨#[c]⟩)) G fun b => Cond (!b) True P) → True := fun _ _ => True.intro
  cases co with
  | none =>
    walk_at "nk"
    rw [← tx_nil, tx_app]
    walk_at "nk"
    refine EqD_srt ?_
    walk_at "nk"
    refine Cond_i (fun hc => ?_) (fun hc => ?_)
    · have hc : ¬ n.Perm (o ++ []) := by simpa using hc
      walk_at "nk"
      rw [en]
      exact hb hc
    have hc : n.Perm (o ++ []) := by simpa using hc
    have h := ha hc
    walk_at "nk"
    refine Call_i ⟨o, n, none, rfl, rfl, rfl, h1, h2, fun r hr => ?_⟩
    have hfa : FA o n none r := ⟨r, hr, by
      by_cases e : r = .non
      · exact .inr ⟨e, e⟩
      · exact .inl ⟨e, rfl⟩⟩
    have hf := (FA_form hfa).1
    rcases hf with rfl | ⟨ds, rfl⟩
    · walk_at "nc"
      exact h _ hfa
    · walk_at "nc"
      exact h _ hfa
  | some c =>
    walk_at "nk"
    refine EqD_srt ?_
    walk_at "nk"
    refine Cond_i (fun hc => ?_) (fun hc => ?_)
    · have hc : ¬ n.Perm (o ++ [c]) := by simpa using hc
      walk_at "nk"
      rw [en]
      exact hb hc
    have hc : n.Perm (o ++ [c]) := by simpa using hc
    have h := ha hc
    walk_at "nk"
    refine Call_i ⟨o, n, some c, rfl, rfl, rfl, h1, h2, fun r hr => ?_⟩
    rcases id hr with ⟨rfl, _⟩ | ⟨i, rfl, _⟩
    · walk_at "nk"
      refine Call_i ⟨o, n, c, rfl, rfl, rfl, h1, h2, fun r2 hr2 => ?_⟩
      have hfa : FA o n (some c) r2 := ⟨.non, hr, .inr ⟨rfl, hr2⟩⟩
      rcases (FA_form hfa).1 with rfl | ⟨ds, rfl⟩
      · walk_at "nc"
        exact h _ hfa
      · walk_at "nc"
        exact h _ hfa
    · walk_at "nc"
      exact h _ ⟨_, hr, .inl ⟨(fun z => nomatch z), rfl⟩⟩
end N
namespace N
open PySem PySem.Spec PyProof.Rows L2
local macro_rules
  | `(tactic| walk_at "nl") => `(tactic| first
    | with_reducible assumption
    | exact gup_same
    | (refine (gup_ne (by with_reducible assumption)).trans ?_; walk_at "nl")
    | (refine (gup_ne (Ne.symm (by with_reducible assumption))).trans ?_; walk_at "nl"))
local macro_rules
  | `(tactic| walk_at "ns") => `(tactic| first
    | with_reducible assumption
    | omega
    | exact Eq.refl _
    | (apply Nat.le_of_ble_eq_true; exact Eq.refl _)
    | exact And.intro (by decide +kernel) (by decide +kernel)
    | exact or_ll (by decide +kernel) (by decide +kernel)
    | exact or_lr (by decide +kernel) (by decide +kernel)
    | exact Or.inr (cmulw (by decide +kernel))
    | exact IsLst_r (by walk_at "nl")
    | exact IsLst_v
    | exact IsIns_v True.intro
    | exact IsIns_v (by decide +kernel)
    | (apply of_decide_eq_true; decide +kernel)
    | (simp; done)
    | (simp; omega))
local macro_rules
  | `(tactic| walk_at "ns") => `(tactic| first
    | exact tx_sz (by omega)
    | exact sz_le (by omega)
    | exact sz_lt (by omega)
    | exact IsIns_r (by walk_at "nl") True.intro
    | exact IsIns_r (by walk_at "nl") (by decide +kernel)
    | exact tx_sz2 (by omega)
    | exact tx_sz2 (by simp; omega)
    | exact sz_le (by simp; omega)
    | exact cdivw (by omega) (by omega)
    | exact tx_sz (by simp; omega)
    | exact cdivw (by split <;> omega) (by split <;> omega)
    | (split <;> omega))
local macro_rules
  | `(tactic| walk_at "na") => `(tactic| first
    | refine Sd_i (by walk_at "ns") ?_
    | refine Cond_t (Eq.refl _) ?_
    | refine Cond_f (Eq.refl _) ?_
    | refine Cond_t (by with_reducible assumption) ?_
    | refine Cond_f (by with_reducible assumption) ?_
    | refine Cond_t (decide_eq_true (by omega)) ?_
    | refine Cond_f (decide_eq_false (by omega)) ?_
    | refine Cond_t (nd_t (by omega)) ?_
    | refine Cond_f (nd_f (by omega)) ?_
    | refine LkL_i (by walk_at "nl") ?_
    | refine AtD_i (Eq.refl _) ?_
    | refine IsIns_v ?_
    | refine IsIns_r (by walk_at "nl") ?_
    | refine StF_i (by walk_at "nl") (by walk_at "ns") ?_
    | refine Fd_i 0 (by decide +kernel) (Eq.refl _) ?_
    | refine Fd_i 1 (by decide +kernel) (Eq.refl _) ?_
    | refine Fd_i 2 (by decide +kernel) (Eq.refl _) ?_
    | refine Fd_i 3 (by decide +kernel) (Eq.refl _) ?_
    | refine Fd_i 4 (by decide +kernel) (Eq.refl _) ?_
    | refine IntsQ_t _ (Eq.refl _) ?_
    | refine IntsQ_l _ (Eq.refl _) ?_
    | refine IntsL_i _ (Eq.refl _) ?_
    | refine BlsL_i _ (Eq.refl _) ?_
    | (rw [cut_toA]; rotate_left; · omega)
    | (rw [cut_fromA]; rotate_left; · omega)
    | rw [tx_app]
    | rw [rev_tx]
    | rw [repS_tx])
local macro_rules
  | `(tactic| walk_at "nb") => `(tactic| first
    | walk_at "na"
    | refine NewL_v ?_)
local macro_rules
  | `(tactic| walk_at "nj") => `(tactic| (
      repeat (conv => whnf
              walk_at "na")
      try (conv => whnf)))
local macro_rules
  | `(tactic| walk_at "n0") => `(tactic| first
    | walk_at "nb"
    | refine Ret_i (d := .int _) ?_
    | refine Ret_i (d := .bl _) ?_
    | refine Ret_i (d := .tup _) ?_
    | refine Ret_i (d := .lst _) ?_
    | refine Ret_i (d := .str _) ?_
    | refine Ret_i (d := .non) ?_)
local macro_rules
  | `(tactic| walk_at "n1") => `(tactic| first
    | walk_at "n0"
    | refine Call_i ?_)
local macro_rules
  | `(tactic| walk_at "nc") => `(tactic| (
      repeat (conv => whnf
              walk_at "n0")
      try (conv => whnf)))
local macro_rules
  | `(tactic| walk_at "nw") => `(tactic| (
      repeat (conv => whnf
              walk_at "n1")
      try (conv => whnf)))
local macro_rules
  | `(tactic| walk_at "nk") => `(tactic| (
      repeat (conv => whnf
              walk_at "nb")
      try (conv => whnf)))
theorem pu__law_due_error (K : PySem.W.Frag) : ∀ a dd C ds G q x, sp__law_due_error K a dd C ds G q x → t__law_due_error K a dd C (dEnds q x) (startD n__law_due_error ds) G := by
  intro a dd C ds G q x h
  replace h := A3_x h
  obtain ⟨_, _, _, rfl, i, rfl, rfl, rfl, rfl, xf, h⟩ := h
  walk_at "nw"
  refine IsB_i (xf.ks _ (by decide)) ?_
  walk_at "nw"
  refine IsA_i (xf.any (by decide)) ?_
  walk_at "nw"
  refine lc_enc (xs := [0]) (fun _ => .tup [D.bl true, .str "BadRows"]) (fun _ => true) (fun _ => .str "BadRows") (by decide) True.intro (fun _ _ A B hA hB => ?_) ?_
  · walk_at "nw"
    exact hA rfl
  walk_at "nw"
  refine EqD_i (d := .list [.str (Str.ofString "BadRows")]) (e := .list [.str (Str.ofString "BadRows")]) (.lst (.cons (.str _) .nil)) (.lst (.cons (.str _) .nil)) (by decide +kernel) (by decide +kernel) ?_
  rw [show PyData.eqv (.list [.str (Str.ofString "BadRows")]) (.list [.str (Str.ofString "BadRows")]) = true by decide +kernel]
  walk_at "nw"
  refine IsB_i xf.ve ?_
  walk_at "nw"
  rw [decide_eq_true (rfl : i = i)]
  exact h
theorem pu__law_strike (K : PySem.W.Frag) (ds : List D) (G : GH) (q : QD) (x : XD) (h : sp__law_strike K ds G q x) : t__law_strike K (dEnds q x) (startD n__law_strike ds) G := by
  replace h := A2_x h
  obtain ⟨_, _, rfl, w, rfl, hw0, hw, a, c, l, rfl, hS, h⟩ := h
  walk_at "nc"
  refine of_w (.mk' hS) (by simp) (by simp) fun d G1 hd h1 => ?_
  obtain ⟨al, hal, hal2, rfl⟩ : ∃ al : List Nat, al ≠ [] ∧ al.length ≤ 10 ∧ d = sD al := by
    rw [show Str.ofString "01" = tx [48, 49] by decide +kernel, show Str.ofString "ab" = tx [97, 98] by decide +kernel, show Str.ofString "abc" = tx [97, 98, 99] by decide +kernel, show Str.ofString "0123" = tx [48, 49, 50, 51] by decide +kernel, show Str.ofString "a. ~" = tx [97, 46, 32, 126] by decide +kernel] at hd
    simp only [List.mem_cons, List.not_mem_nil, or_false] at hd
    rcases hd with rfl | rfl | rfl | rfl | rfl <;> exact ⟨_, by simp, by simp, rfl⟩
  walk_at "nc"
  refine Cut_i (fun τ G'' => ∃ al : List Nat, al ≠ [] ∧ al.length ≤ 10 ∧ Stw a c l G G'' ∧ τ = [some (.ref a), some (.int w), some (sD al), none, none, none, none, none]) ?_ ?_
  · walk_at "nc"
    refine yes_w h1 (by omega) fun b G2 h2 => ?_
    cases b
    · walk_at "nc"
      exact ⟨al, hal, hal2, h2, rfl⟩
    · walk_at "nc"
      refine take_w h2 (by omega) fun n G2 m1 m2 h2 => ?_
      walk_at "nc"
      refine lc_draw sg (fun _ => True) h2 (by rw [rng_len]; omega) (fun d hd A B G' g1 hA => ?_) (fun ys G3 e1 e2 h3 => ?_)
      · walk_at "nw"
        refine Call_e (of_ws (K := K) (x := X0) (z := asciiL) g1 (by decide +kernel) (by decide +kernel) fun ch G2 hm h2 => ?_)
        walk_at "nc"
        exact hA ch _ trivial h2
      rw [rng_len] at e1
      walk_at "nc"
      refine ⟨_, txts_sg ys, join_bd (by omega), ?_⟩
      rw [join_eq]
      walk_at "nc"
      exact ⟨ys, fun z => by rw [z] at e1; simp at e1; omega, by omega, h3, rfl⟩
  rintro τ G2 ⟨al, hal, hal2, h2, rfl⟩
  walk_at "nc"
  refine span_w h2 hw0 (by omega) fun n G3 n1 n2 h3 => ?_
  walk_at "nc"
  refine text_w h3 (by omega) (by omega) fun o G4 r1 r2 r3 h4 => ?_
  walk_at "nc"
  refine of_ws h4 hal (by omega) fun ch G5 hm h5 => ?_
  have eo := tx_len o
  walk_at "nc"
  refine span_w h5 (by omega) (by omega) fun pl G6 n1 n2 h6 => ?_
  walk_at "nc"
  refine Call_i ⟨_, rfl, by simp; omega, draw_w h6 fun G7 h7 r hr => ?_⟩
  walk_at "nc"
  exact h _ h7.1 h7.2 o r ch (by omega) (by rw [hr.length_eq]; simp; omega)
theorem pu__law_rounds (K : PySem.W.Frag) (ds : List D) (G : GH) (q : QD) (x : XD) (h : sp__law_rounds K ds G q x) : t__law_rounds K (dEnds q x) (startD n__law_rounds ds) G := by
  replace h := A1_x h
  obtain ⟨_, rfl, i, rfl, h⟩ := h
  walk_at "nw"
  refine Cond_i (fun _ => ?_) (fun _ => ?_)
  · walk_at "nw"
    exact h _ (by omega) (by omega)
  · walk_at "nw"
    exact h _ (by omega) (by omega)
theorem pu__law_struck (K : PySem.W.Frag) (ds : List D) (G : GH) (q : QD) (x : XD) (h : sp__law_struck K ds G q x) : t__law_struck K (dEnds q x) (startD n__law_struck ds) G := by
  replace h := A3_x h
  obtain ⟨_, _, _, rfl, o, n, co, rfl, rfl, rfl, h1, h2, h⟩ := h
  have en := tx_len n
  cases co with
  | none =>
    walk_at "nk"
    rw [dec_tx]
    exact Ret_i h
  | some c =>
    walk_at "nk"
    rw [show ((tx n).length : Int).toNat = n.length by omega]
    refine lc_rng (fun p => decide (n[p]? = some c) && decide (n.take p ++ n.drop (p + 1) = o)) (fun p => .int (0 + (p : Int))) (by omega) True.intro (fun p hp A B hA hB => ?_) ?_
    · have hs : n[p]? = some (n[p]'hp) := List.getElem?_eq_getElem _
      generalize n[p]'hp = s at hs
      walk_at "nk"
      refine AtS_tx (by omega) (by omega) (c := s) (by rw [show (0 + (p : Int)).toNat = p by omega]; exact hs) ?_
      walk_at "nk"
      have e1 : decide (n[p]? = some c) = decide (tx [s] = tx [c]) := by
        rw [dec_tx, hs]
        refine decide_eq_decide.mpr ⟨fun z => ?_, fun z => ?_⟩
        · cases z; rfl
        · cases z; rfl
      refine Cond_i (fun hb => ?_) (fun hb => ?_)
      · have ep : (0 + (p : Int)).toNat = p := by omega
        have ep1 : (0 + (p : Int) + 1).toNat = p + 1 := by omega
        walk_at "nk"
        rw [ep, ep1]
        refine Cond_i (fun hc => ?_) (fun hc => ?_)
        · exact hA (by rw [e1, hb, tx_eq hc]; rfl)
        · exact hB (by rw [e1, hb, tx_eq hc]; rfl)
      · walk_at "nk"
        exact hB (by rw [e1, hb]; rfl)
    walk_at "nc"
    show q (D.bl (decide (((((List.range n.length).filter fun p => decide (n[p]? = some c) && decide (n.take p ++ n.drop (p + 1) = o)).map fun p : Nat => D.int (0 + (p : Int))).length : Int) > 0))) G
    have e2 : decide (((((List.range n.length).filter fun p => decide (n[p]? = some c) && decide (n.take p ++ n.drop (p + 1) = o)).map fun p : Nat => D.int (0 + (p : Int))).length : Int) > 0) = struckB (some c) o n := by
      unfold struckB
      rw [Bool.eq_iff_iff, decide_eq_true_eq, List.length_map, List.any_eq_true]
      constructor
      · intro z
        have : 0 < ((List.range n.length).filter fun p => decide (n[p]? = some c) && decide (n.take p ++ n.drop (p + 1) = o)).length := by omega
        obtain ⟨p, hp⟩ := List.exists_mem_of_length_pos this
        exact ⟨p, (List.mem_filter.mp hp).1, (List.mem_filter.mp hp).2⟩
      · rintro ⟨p, hp, hq⟩
        have : 0 < ((List.range n.length).filter fun p => decide (n[p]? = some c) && decide (n.take p ++ n.drop (p + 1) = o)).length := List.length_pos_of_mem (List.mem_filter.mpr ⟨hp, hq⟩)
        omega
    rw [e2]
    exact h
theorem at_oth {l : List Nat} {i : Nat} (h : i < l.length) (hl : l.length ≤ 1000) {k : D → Prop} (q : k (sg (l.getD i 0))) : AtD (l.map sg) (0 + (i : Int)) k := by
  refine AtD_i (atI_eq (j := (i : Int)) ?_ (by omega)) q
  unfold atI ixN
  rw [if_pos (by omega), if_pos (by rw [List.length_map]; omega), Int.toNat_natCast]
  show (l.map sg)[i]? = _
  rw [List.getElem?_map, List.getD_eq_getElem?_getD, List.getElem?_eq_getElem h]
  rfl
theorem natAt {P : List Nat} {j : Nat} (h : j < P.length) : atI (P.map iD) (j : Int) = some (iD (P.getD j 0)) := by
  unfold atI ixN
  rw [if_pos (by omega), if_pos (by rw [List.length_map]; omega), Int.toNat_natCast]
  show (P.map iD)[j]? = _
  rw [List.getElem?_map, List.getD_eq_getElem?_getD, List.getElem?_eq_getElem h]
  rfl
/-- the steps by places -/
theorem stp_rng {a b : List Nat} (h : a.length = b.length) : ((List.range a.length).map fun i => ((b.getD i 0 : Nat) : Int) - ((a.getD i 0 : Nat) : Int)) = stp a b := by
  unfold stp
  apply List.ext_getElem
  · simp [h]
  · intro i h1 h2
    have l1 : i < a.length := by simpa using h1
    rw [List.getElem_map, List.getElem_range, List.getElem_zipWith, List.getD_eq_getElem?_getD, List.getD_eq_getElem?_getD, List.getElem?_eq_getElem l1, List.getElem?_eq_getElem (show i < b.length by omega)]
    rfl
end N
namespace N
open PySem PySem.Spec PyProof.Rows L2
local macro_rules
  | `(tactic| walk_at "nl") => `(tactic| first
    | with_reducible assumption
    | exact gup_same
    | (refine (gup_ne (by with_reducible assumption)).trans ?_; walk_at "nl")
    | (refine (gup_ne (Ne.symm (by with_reducible assumption))).trans ?_; walk_at "nl"))
local macro_rules
  | `(tactic| walk_at "ns") => `(tactic| first
    | with_reducible assumption
    | omega
    | exact Eq.refl _
    | (apply Nat.le_of_ble_eq_true; exact Eq.refl _)
    | exact And.intro (by decide +kernel) (by decide +kernel)
    | exact or_ll (by decide +kernel) (by decide +kernel)
    | exact or_lr (by decide +kernel) (by decide +kernel)
    | exact Or.inr (cmulw (by decide +kernel))
    | exact IsLst_r (by walk_at "nl")
    | exact IsLst_v
    | exact IsIns_v True.intro
    | exact IsIns_v (by decide +kernel)
    | (apply of_decide_eq_true; decide +kernel)
    | (simp; done)
    | (simp; omega))
local macro_rules
  | `(tactic| walk_at "ns") => `(tactic| first
    | exact tx_sz (by omega)
    | exact sz_le (by omega)
    | exact sz_lt (by omega)
    | exact IsIns_r (by walk_at "nl") True.intro
    | exact IsIns_r (by walk_at "nl") (by decide +kernel)
    | exact tx_sz2 (by omega)
    | exact tx_sz2 (by simp; omega)
    | exact sz_le (by simp; omega)
    | exact cdivw (by omega) (by omega)
    | exact tx_sz (by simp; omega)
    | exact cdivw (by split <;> omega) (by split <;> omega)
    | (split <;> omega))
local macro_rules
  | `(tactic| walk_at "na") => `(tactic| first
    | refine Sd_i (by walk_at "ns") ?_
    | refine Cond_t (Eq.refl _) ?_
    | refine Cond_f (Eq.refl _) ?_
    | refine Cond_t (by with_reducible assumption) ?_
    | refine Cond_f (by with_reducible assumption) ?_
    | refine Cond_t (decide_eq_true (by omega)) ?_
    | refine Cond_f (decide_eq_false (by omega)) ?_
    | refine Cond_t (nd_t (by omega)) ?_
    | refine Cond_f (nd_f (by omega)) ?_
    | refine LkL_i (by walk_at "nl") ?_
    | refine AtD_i (Eq.refl _) ?_
    | refine IsIns_v ?_
    | refine IsIns_r (by walk_at "nl") ?_
    | refine StF_i (by walk_at "nl") (by walk_at "ns") ?_
    | refine Fd_i 0 (by decide +kernel) (Eq.refl _) ?_
    | refine Fd_i 1 (by decide +kernel) (Eq.refl _) ?_
    | refine Fd_i 2 (by decide +kernel) (Eq.refl _) ?_
    | refine Fd_i 3 (by decide +kernel) (Eq.refl _) ?_
    | refine Fd_i 4 (by decide +kernel) (Eq.refl _) ?_
    | refine IntsQ_t _ (Eq.refl _) ?_
    | refine IntsQ_l _ (Eq.refl _) ?_
    | refine IntsL_i _ (Eq.refl _) ?_
    | refine BlsL_i _ (Eq.refl _) ?_
    | (rw [cut_toA]; rotate_left; · omega)
    | (rw [cut_fromA]; rotate_left; · omega)
    | rw [tx_app]
    | rw [rev_tx]
    | rw [repS_tx])
local macro_rules
  | `(tactic| walk_at "nb") => `(tactic| first
    | walk_at "na"
    | refine NewL_v ?_)
local macro_rules
  | `(tactic| walk_at "nj") => `(tactic| (
      repeat (conv => whnf
              walk_at "na")
      try (conv => whnf)))
local macro_rules
  | `(tactic| walk_at "n0") => `(tactic| first
    | walk_at "nb"
    | refine Ret_i (d := .int _) ?_
    | refine Ret_i (d := .bl _) ?_
    | refine Ret_i (d := .tup _) ?_
    | refine Ret_i (d := .lst _) ?_
    | refine Ret_i (d := .str _) ?_
    | refine Ret_i (d := .non) ?_)
local macro_rules
  | `(tactic| walk_at "n1") => `(tactic| first
    | walk_at "n0"
    | refine Call_i ?_)
local macro_rules
  | `(tactic| walk_at "nc") => `(tactic| (
      repeat (conv => whnf
              walk_at "n0")
      try (conv => whnf)))
local macro_rules
  | `(tactic| walk_at "nw") => `(tactic| (
      repeat (conv => whnf
              walk_at "n1")
      try (conv => whnf)))
local macro_rules
  | `(tactic| walk_at "nk") => `(tactic| (
      repeat (conv => whnf
              walk_at "nb")
      try (conv => whnf)))
theorem oth_len_eq {o n : List Nat} {co : Option Nat} (hp : n.Perm (o ++ cL co)) : (oth co o).length = (oth co n).length := by
  have := (hp.filter fun s => decide (some s ≠ co)).length_eq
  unfold oth
  rw [this, List.filter_append, List.length_append]
  cases co with
  | none => simp [cL]
  | some c => simp [cL]
theorem head_first {p : Nat → Bool} {m : Nat} (h : 0 < ((List.range m).filter p).length) : ∃ j, ((List.range m).filter p)[0]? = some j ∧ j < m ∧ p j = true ∧ ∀ k, k < j → p k = false := by
  have e : ((List.range m).filter p)[0]? = (List.range m).find? p := by rw [← List.head?_eq_getElem?, List.head?_filter]
  cases hf : (List.range m).find? p with
  | none =>
    rw [hf, List.getElem?_eq_getElem h] at e
    cases e
  | some j =>
    rw [hf] at e
    obtain ⟨h1, h2, h3⟩ := List.find?_range_eq_some.mp hf
    exact ⟨j, e, by simpa using h2, h1, fun k hk => by simpa using h3 k hk⟩
theorem none_first {p : Nat → Bool} {m : Nat} (h : ((List.range m).filter p).length = 0) : ∀ k, k < m → p k = false := fun k hk => by
  have := List.filter_eq_nil_iff.mp (List.eq_nil_of_length_eq_zero h) k (List.mem_range.mpr hk)
  simpa using this
theorem oth_ne {s : Nat} {co : Option Nat} {t : Str} (ht : t = tx (cL co)) : (!decide (tx [s] = t)) = decide (some s ≠ co) := by
  subst ht
  rw [dec_tx]
  cases co with
  | none => simp [cL]
  | some c => by_cases e : s = c <;> simp [cL, e]
def FR (co : Option Nat) (o n : List Nat) (r : D) : Prop := match co with | none => r = .non | some c => SH (steps c o n) r
theorem pu__law_fault (K : PySem.W.Frag) (ds : List D) (G : GH) (q : QD) (x : XD) (h : sp__law_fault K ds G q x) : t__law_fault K (dEnds q x) (startD n__law_fault ds) G := by
  replace h := A3_x h
  obtain ⟨_, _, _, rfl, o, n, co, r, rfl, rfl, rfl, h1, h2, hp, ⟨r0, hs, hr⟩, h⟩ := h
  have lab := oth_len_eq hp
  have lo1 : (oth co o).length ≤ o.length := List.length_filter_le _ _
  have ln1 : (oth co n).length ≤ n.length := List.length_filter_le _ _
  rw [cT_tx]
  have lma : ((oth co o).map sg).length = (oth co o).length := List.length_map ..
  walk_at "nk"
  rw [signs_sD]
  refine lc_enc (xs := o) sg (fun s => decide (some s ≠ co)) sg (by omega) True.intro (fun s hs A B hA hB => ?_) ?_
  · walk_at "nk"
    rw [oth_ne rfl]
    exact Cond_i hA hB
  change NewL ((oth co o).map sg) G _
  walk_at "nk"
  rw [signs_sD]
  refine lc_enc (xs := n) sg (fun s => decide (some s ≠ co)) sg (by omega) True.intro (fun s hs A B hA hB => ?_) ?_
  · walk_at "nk"
    rw [oth_ne rfl]
    exact Cond_i hA hB
  change NewL ((oth co n).map sg) G _
  have ca : ∀ c, co = some c → (cah c 0 o).length = (oth co o).length := fun c e => by rw [e]; exact cah_len c o 0
  have cb : ∀ c, co = some c → (cah c 0 n).length = (oth co n).length := fun c e => by rw [e]; exact cah_len c n 0
  generalize ha : oth co o = a at hs lab lma lo1 ca
  generalize hb : oth co n = b at hs lab ln1 cb
  walk_at "nk"
  refine ForD_i (fun i τ G' => i ≤ a.length ∧ G' = G ∧ (∀ j, j < i → a.getD j 0 = b.getD j 0) ∧ ∃ o5, τ = [some (sD o), some (sD n), some (sD (cL co)), some (.lst (a.map sg)), some (.lst (b.map sg)), o5, none, none, none, none, none, none]) ⟨Nat.zero_le _, rfl, (fun _ z => by omega), _, rfl⟩ (fun _ _ _ _ _ => True.intro) ?_ ?_
  · rintro i d τ G' hd ⟨hi, rfl, hI, o5, rfl⟩
    have hi' := (List.getElem?_eq_some_iff.mp hd).1
    rw [rng_len] at hi'
    rw [rng_at hi'] at hd
    cases hd
    have hi' : i < a.length := by omega
    walk_at "nk"
    refine at_oth hi' (by omega) ?_
    walk_at "nk"
    refine at_oth (show i < b.length by omega) (by omega) ?_
    walk_at "nk"
    refine Cond_i (fun hc => ?_) (fun hc => ?_)
    · have hc : a.getD i 0 ≠ b.getD i 0 := by have := of_decide_eq_false (tx_ne hc); simpa using this
      have e := SW_uniq hs (.inr ⟨i, rfl, hi', by omega, hc, hI⟩)
      walk_at "nc"
      rw [Int.zero_add]
      rcases hr with ⟨_, hr⟩ | ⟨hr, _⟩
      · rw [hr, e] at h; exact h
      · rw [e] at hr; cases hr
    · have hc : a.getD i 0 = b.getD i 0 := by have := of_decide_eq_true (tx_ne hc); simpa using this
      walk_at "nk"
      refine ⟨by omega, rfl, fun j hj => ?_, _, rfl⟩
      by_cases e : j = i
      · rw [e]; exact hc
      · exact hI j (by omega)
  rintro τ G' ⟨hi, rfl, hI, o5, rfl⟩
  rw [show ((a.map sg).length : Int).toNat = a.length by omega, rng_len] at hI
  have er := SW_uniq hs (.inl ⟨rfl, fun i h1 h2 => hI i h1⟩)
  have hr : FR co o n r := by
    rcases hr with ⟨hr, _⟩ | ⟨_, hr⟩
    · exact absurd er hr
    · exact hr
  cases co with
  | none =>
    have hr : r = .non := hr
    subst hr
    walk_at "nc"
    exact h
  | some c =>
    have hr : SH (steps c o n) r := hr
    have ca := ca c rfl
    have cb := cb c rfl
    walk_at "nk"
    refine Call_i ⟨o, c, rfl, rfl, h1, ?_⟩
    walk_at "nk"
    refine Call_i ⟨n, c, rfl, rfl, h2, ?_⟩
    unfold steps at hr
    generalize cah c 0 o = u at hr ca
    generalize cah c 0 n = v at hr cb
    have lu : (u.map iD).length = u.length := List.length_map ..
    walk_at "nk"
    rw [show ((u.map iD).length : Int).toNat = u.length by omega]
    refine lc_rng (fun _ => true) (fun i => .int (((v.getD i 0 : Nat) : Int) - ((u.getD i 0 : Nat) : Int))) (by omega) True.intro (fun i hi A B hA hB => ?_) ?_
    · walk_at "nk"
      refine AtD_i (atI_eq (natAt (show i < v.length by omega)) (by omega)) ?_
      walk_at "nk"
      refine AtD_i (atI_eq (natAt hi) (by omega)) ?_
      walk_at "nk"
      exact hA rfl
    have es : ((List.range u.length).filter fun _ => true).map (fun i => D.int (((v.getD i 0 : Nat) : Int) - ((u.getD i 0 : Nat) : Int))) = (stp u v).map D.int := by
      rw [List.filter_eq_self.mpr (fun _ _ => rfl), ← stp_rng (show u.length = v.length by omega), List.map_map]
      rfl
    rw [es]
    have ls := stp_len (a := u) (b := v)
    generalize stp u v = s at hr ls
    have lm : (s.map D.int).length = s.length := List.length_map ..
    walk_at "nk"
    refine ForD_i (fun i τ G'' => i ≤ s.length ∧ G'' = G' ∧ (∀ j, j < i → gud s j) ∧ ∃ o5, τ = [some (sD o), some (sD n), some (sD (cL (some c))), some (.lst (a.map sg)), some (.lst (b.map sg)), o5, some (ntD u), some (ntD v), some (.lst (s.map D.int)), none, none, none]) ⟨Nat.zero_le _, rfl, (fun _ z => by omega), _, rfl⟩ (fun _ _ _ _ _ => True.intro) ?_ ?_
    · rintro i d τ G'' hd ⟨hi, rfl, hJ, o5, rfl⟩
      have hi' := (List.getElem?_eq_some_iff.mp hd).1
      rw [rng_len] at hi'
      rw [rng_at hi'] at hd
      cases hd
      have hi' : i < s.length := by omega
      walk_at "nk"
      refine AtD_i (atI_eq (intAt hi') (by omega)) ?_
      walk_at "nk"
      refine Cond_i (fun hc => ?_) (fun hc => ?_)
      · have hc : s.getD i 0 ≠ 0 := by simpa using hc
        walk_at "nk"
        refine AtD_i (atI_eq (intAt hi') (by omega)) ?_
        walk_at "nk"
        refine Cond_i (fun he => ?_) (fun he => ?_)
        · have he : s.getD i 0 ≠ 1 := by simpa using he
          have e := SH_uniq hr (.inr (.inl ⟨i, rfl, hi', fun z => z.elim hc he, hJ⟩))
          subst e
          walk_at "nc"
          rw [Int.zero_add]
          exact h
        · have he : s.getD i 0 = 1 := by simpa using he
          walk_at "nk"
          refine ⟨by omega, rfl, fun j hj => ?_, _, rfl⟩
          by_cases e : j = i
          · rw [e]; exact .inr he
          · exact hJ j (by omega)
      · have hc : s.getD i 0 = 0 := by simpa using hc
        walk_at "nk"
        refine ⟨by omega, rfl, fun j hj => ?_, _, rfl⟩
        by_cases e : j = i
        · rw [e]; exact .inl hc
        · exact hJ j (by omega)
    rintro τ G'' ⟨hi, rfl, hJ, o5, rfl⟩
    rw [show ((s.map D.int).length : Int).toNat = s.length by omega, rng_len] at hJ
    walk_at "nk"
    refine ForD_i (fun i τ G' => i ≤ s.length ∧ G' = G'' ∧ (∀ k j, k < i → k < j → j < s.length → ¬ (s.getD k 0 = 1 ∧ s.getD j 0 = 0)) ∧ ∃ o5 o9, τ = [some (sD o), some (sD n), some (sD (cL (some c))), some (.lst (a.map sg)), some (.lst (b.map sg)), o5, some (ntD u), some (ntD v), some (.lst (s.map D.int)), o9, none, none]) ⟨Nat.zero_le _, rfl, (fun _ _ z => by omega), _, _, rfl⟩ (fun _ _ _ _ _ => True.intro) ?_ ?_
    · rintro i d τ G3 hd ⟨hi, rfl, hB, o5, o9, rfl⟩
      have hi' := (List.getElem?_eq_some_iff.mp hd).1
      rw [rng_len] at hi'
      rw [rng_at hi'] at hd
      cases hd
      have hi' : i < s.length := by omega
      walk_at "nk"
      refine lc_enc (xs := List.range (((s.map D.int).length : Int) - (0 + (i : Int) + 1)).toNat) (fun j : Nat => .int (0 + (i : Int) + 1 + (j : Int))) (fun j => decide (s.getD i 0 = 1) && decide (s.getD (i + 1 + j) 0 = 0)) (fun j => .int (0 + (i : Int) + 1 + (j : Int))) (by rw [List.length_range]; omega) True.intro (fun j hj A B hA hB => ?_) ?_
      · have hj := List.mem_range.mp hj
        have hj' : i + 1 + j < s.length := by omega
        walk_at "nk"
        refine AtD_i (atI_eq (intAt hi') (by omega)) ?_
        walk_at "nk"
        refine Cond_i (fun hc => ?_) (fun hc => ?_)
        · walk_at "nk"
          refine AtD_i (atI_eq (intAt hj') (by omega)) ?_
          walk_at "nk"
          refine Cond_i (fun he => ?_) (fun he => ?_)
          · exact hA (by rw [hc, he]; rfl)
          · exact hB (by rw [hc, he]; rfl)
        · walk_at "nk"
          exact hB (by rw [hc]; rfl)
      have em : (((s.map D.int).length : Int) - (0 + (i : Int) + 1)).toNat = s.length - (i + 1) := by omega
      rw [em]
      have lf : ∀ (F : List Nat), ((F.map fun j : Nat => D.int (0 + (i : Int) + 1 + (j : Int))).length : Int) = F.length := fun F => by rw [List.length_map]
      walk_at "nk"
      refine Cond_i (fun hc => ?_) (fun hc => ?_)
      · have hc := of_decide_eq_true hc
        rw [lf] at hc
        obtain ⟨j, f1, f2, f3, f4⟩ := head_first (Int.ofNat_lt.mp hc)
        have f3' : s.getD i 0 = 1 ∧ s.getD (i + 1 + j) 0 = 0 := by simpa using f3
        have e := SH_uniq hr (.inr (.inr ⟨i, i + 1 + j, rfl, by omega, by omega, f3'.1, f3'.2, hJ, fun k hk z => hB k (i + 1 + j) hk (by omega) (by omega) ⟨z, f3'.2⟩, fun k k1 k2 z => by
          have := f4 (k - (i + 1)) (by omega)
          rw [show i + 1 + (k - (i + 1)) = k by omega, z, f3'.1] at this
          cases this⟩))
        subst e
        walk_at "nk"
        refine AtD_i (atI_0 (y := .int (0 + (i : Int) + 1 + (j : Int))) (by rw [List.getElem?_map, f1]; rfl)) ?_
        walk_at "nc"
        have e1 : (0 + (i : Int) + 1 + (j : Int)) = ((i + 1 + j : Nat) : Int) := by omega
        rw [e1, Int.zero_add]
        exact h
      · have hc := of_decide_eq_false hc
        rw [lf] at hc
        have f := none_first (m := s.length - (i + 1)) (p := fun j => decide (s.getD i 0 = 1) && decide (s.getD (i + 1 + j) 0 = 0)) (by omega)
        walk_at "nk"
        refine ⟨by omega, rfl, fun k j hk hkj hj z => ?_, _, _, rfl⟩
        by_cases e : k = i
        · subst e
          have := f (j - (k + 1)) (by omega)
          rw [show k + 1 + (j - (k + 1)) = j by omega, z.1, z.2] at this
          cases this
        · exact hB k j (by omega) hkj hj z
    rintro τ G3 ⟨hi, rfl, hB, o5, o9, rfl⟩
    rw [show ((s.map D.int).length : Int).toNat = s.length by omega, rng_len] at hB
    have e := SH_uniq hr (.inl ⟨rfl, hJ, fun i j hij hj => hB i j (by omega) hij hj⟩)
    subst e
    walk_at "nc"
    exact h
end N
namespace N
open PySem PySem.Spec PyProof.Rows L2
local macro_rules
  | `(tactic| walk_at "nl") => `(tactic| first
    | with_reducible assumption
    | exact gup_same
    | (refine (gup_ne (by with_reducible assumption)).trans ?_; walk_at "nl")
    | (refine (gup_ne (Ne.symm (by with_reducible assumption))).trans ?_; walk_at "nl"))
local macro_rules
  | `(tactic| walk_at "ns") => `(tactic| first
    | with_reducible assumption
    | omega
    | exact Eq.refl _
    | (apply Nat.le_of_ble_eq_true; exact Eq.refl _)
    | exact And.intro (by decide +kernel) (by decide +kernel)
    | exact or_ll (by decide +kernel) (by decide +kernel)
    | exact or_lr (by decide +kernel) (by decide +kernel)
    | exact Or.inr (cmulw (by decide +kernel))
    | exact IsLst_r (by walk_at "nl")
    | exact IsLst_v
    | exact IsIns_v True.intro
    | exact IsIns_v (by decide +kernel)
    | (apply of_decide_eq_true; decide +kernel)
    | (simp; done)
    | (simp; omega))
local macro_rules
  | `(tactic| walk_at "ns") => `(tactic| first
    | exact tx_sz (by omega)
    | exact sz_le (by omega)
    | exact sz_lt (by omega)
    | exact IsIns_r (by walk_at "nl") True.intro
    | exact IsIns_r (by walk_at "nl") (by decide +kernel)
    | exact tx_sz2 (by omega)
    | exact tx_sz2 (by simp; omega)
    | exact sz_le (by simp; omega)
    | exact cdivw (by omega) (by omega)
    | exact tx_sz (by simp; omega)
    | exact cdivw (by split <;> omega) (by split <;> omega)
    | (split <;> omega))
local macro_rules
  | `(tactic| walk_at "na") => `(tactic| first
    | refine Sd_i (by walk_at "ns") ?_
    | refine Cond_t (Eq.refl _) ?_
    | refine Cond_f (Eq.refl _) ?_
    | refine Cond_t (by with_reducible assumption) ?_
    | refine Cond_f (by with_reducible assumption) ?_
    | refine Cond_t (decide_eq_true (by omega)) ?_
    | refine Cond_f (decide_eq_false (by omega)) ?_
    | refine Cond_t (nd_t (by omega)) ?_
    | refine Cond_f (nd_f (by omega)) ?_
    | refine LkL_i (by walk_at "nl") ?_
    | refine AtD_i (Eq.refl _) ?_
    | refine IsIns_v ?_
    | refine IsIns_r (by walk_at "nl") ?_
    | refine StF_i (by walk_at "nl") (by walk_at "ns") ?_
    | refine Fd_i 0 (by decide +kernel) (Eq.refl _) ?_
    | refine Fd_i 1 (by decide +kernel) (Eq.refl _) ?_
    | refine Fd_i 2 (by decide +kernel) (Eq.refl _) ?_
    | refine Fd_i 3 (by decide +kernel) (Eq.refl _) ?_
    | refine Fd_i 4 (by decide +kernel) (Eq.refl _) ?_
    | refine IntsQ_t _ (Eq.refl _) ?_
    | refine IntsQ_l _ (Eq.refl _) ?_
    | refine IntsL_i _ (Eq.refl _) ?_
    | refine BlsL_i _ (Eq.refl _) ?_
    | (rw [cut_toA]; rotate_left; · omega)
    | (rw [cut_fromA]; rotate_left; · omega)
    | rw [tx_app]
    | rw [rev_tx]
    | rw [repS_tx])
local macro_rules
  | `(tactic| walk_at "nb") => `(tactic| first
    | walk_at "na"
    | refine NewL_v ?_)
local macro_rules
  | `(tactic| walk_at "nj") => `(tactic| (
      repeat (conv => whnf
              walk_at "na")
      try (conv => whnf)))
local macro_rules
  | `(tactic| walk_at "n0") => `(tactic| first
    | walk_at "nb"
    | refine Ret_i (d := .int _) ?_
    | refine Ret_i (d := .bl _) ?_
    | refine Ret_i (d := .tup _) ?_
    | refine Ret_i (d := .lst _) ?_
    | refine Ret_i (d := .str _) ?_
    | refine Ret_i (d := .non) ?_)
local macro_rules
  | `(tactic| walk_at "n1") => `(tactic| first
    | walk_at "n0"
    | refine Call_i ?_)
local macro_rules
  | `(tactic| walk_at "nc") => `(tactic| (
      repeat (conv => whnf
              walk_at "n0")
      try (conv => whnf)))
local macro_rules
  | `(tactic| walk_at "nw") => `(tactic| (
      repeat (conv => whnf
              walk_at "n1")
      try (conv => whnf)))
local macro_rules
  | `(tactic| walk_at "nk") => `(tactic| (
      repeat (conv => whnf
              walk_at "nb")
      try (conv => whnf)))
theorem ne_bools {b c : Bool} {r : Prop} (h1 : b = true ↔ r) (h2 : r ↔ c = true) : (!decide (b = c)) = false := by
  have : b = c := by rw [Bool.eq_iff_iff]; exact h1.trans h2
  rw [decide_eq_true this]; rfl
theorem pu__law_fault_right (K : PySem.W.Frag) (xf : XF K xsN ysN) (ds : List D) (G : GH) (q : QD) (x : XD) (h : sp__law_fault_right K ds G q x) : t__law_fault_right K (dEnds q x) (startD n__law_fault_right ds) G := by
  replace h := A4_x h
  obtain ⟨_, _, _, _, rfl, o, n, co, b, rfl, rfl, rfl, rfl, h1, h2, h⟩ := h
  have x1 := xf "BadRows" (by decide)
  have en := tx_len n
  have lc : (cL co).length ≤ 1 := by cases co <;> simp [cL]
  have ea := tx_len (o ++ cL co)
  have en2 := tx_len (o ++ cL co)
  rw [List.length_append] at en2
  rw [cT_tx]
  walk_at "nk"
  refine Cut_i (fun τ G' => G' = G ∧ τ = [some (sD o), some (sD n), some (sD (cL co)), some (.bl b), some (cD co), none, none]) ?_ ?_
  · cases co with
    | none =>
      walk_at "nk"
      exact ⟨rfl, rfl⟩
    | some c =>
      walk_at "nk"
      exact ⟨rfl, rfl⟩
  rintro τ G' ⟨rfl, rfl⟩
  walk_at "nk"
  cases b
  all_goals
    walk_at "nk"
    refine Call_i ⟨o, n, co, rfl, rfl, rfl, by omega, by omega, fun hp r hr => ?_, fun hp => ?_⟩
    · obtain ⟨hf, t1, t2⟩ := FA_form hr
      have hn := FA_none hp hr
      walk_at "nk"
      refine EqD_srt ?_
      rw [decide_eq_true hp]
      walk_at "nk"
      rcases hf with rfl | ⟨ds, rfl⟩
      · walk_at "nk"
        refine Call_i ⟨o, n, co, rfl, rfl, (congrArg D.str (by rfl) |>.trans (cT_tx co).symm), by omega, by omega, ?_⟩
        rw [hn.mp rfl]
        walk_at "nk"
        refine Call_i ⟨o, n, co, _, rfl, rfl, (congrArg D.str (by rfl) |>.trans (cT_tx co).symm), by omega, by omega, hp, hr, ?_⟩
        walk_at "nk"
        refine Call_i ⟨rfl, t1, t2, ?_⟩
        walk_at "nc"
        exact h
      · have hs : struckB co o n = false := by
          cases e : struckB co o n with
          | false => rfl
          | true => have := hn.mpr e; cases this
        walk_at "nk"
        refine Call_i ⟨o, n, co, rfl, rfl, (congrArg D.str (by rfl) |>.trans (cT_tx co).symm), by omega, by omega, ?_⟩
        rw [hs]
        walk_at "nk"
        refine Call_i ⟨o, n, co, _, rfl, rfl, (congrArg D.str (by rfl) |>.trans (cT_tx co).symm), by omega, by omega, hp, hr, ?_⟩
        walk_at "nk"
        refine Call_i ⟨rfl, t1, t2, ?_⟩
        walk_at "nc"
        exact h
    · walk_at "nk"
      refine ExM_i x1.ex ?_
      walk_at "nk"
      refine Sd_i x1.xc ?_
      walk_at "nk"
      intro a dd
      walk_at "nk"
      refine EqD_srt ?_
      rw [decide_eq_false hp]
      walk_at "nk"
      refine Call_i ⟨_, rfl, rfl, congrArg D.int (by rw [en]), rfl, x1, ?_⟩
      walk_at "nc"
      exact h
theorem like_bb (a b : Bool) : tree (.lst [.bl a, .bl b]) = true ∧ nodes (.lst [.bl a, .bl b]) < 400000 := ⟨rfl, show 3 < 400000 by decide⟩
theorem pu__law_strikes_right (K : PySem.W.Frag) (ds : List D) (G : GH) (q : QD) (x : XD) (h : sp__law_strikes_right K ds G q x) : t__law_strikes_right K (dEnds q x) (startD n__law_strikes_right ds) G := by
  replace h := A4_x h
  obtain ⟨_, _, _, _, rfl, o, n, c, b, rfl, rfl, rfl, rfl, h1, h2, h⟩ := h
  obtain ⟨t1, t2⟩ := like_bb (struckB (some c) o n) (stk o n c).isSome
  walk_at "nk"
  refine Call_i ⟨o, n, some c, rfl, rfl, rfl, h1, h2, ?_⟩
  walk_at "nk"
  refine Call_i ⟨o, n, c, rfl, rfl, rfl, h1, h2, ?_⟩
  walk_at "nk"
  cases b
  all_goals
    walk_at "nk"
    refine Call_i ⟨o, n, c, rfl, rfl, rfl, h1, h2, ?_⟩
    walk_at "nk"
    refine Call_i ⟨o, n, c, rfl, rfl, rfl, h1, h2, ?_⟩
    walk_at "nk"
    refine Call_i ⟨rfl, t1, t2, ?_⟩
    walk_at "nc"
    exact h
theorem pu__law_moved (K : PySem.W.Frag) (ds : List D) (G : GH) (q : QD) (x : XD) (h : sp__law_moved K ds G q x) : t__law_moved K (dEnds q x) (startD n__law_moved ds) G := by
  replace h := A3_x h
  obtain ⟨_, _, _, rfl, t, c, rfl, rfl, ht, a, c', l, rfl, hS, h⟩ := h
  have et := tx_len t
  walk_at "nk"
  rw [show ((tx t).length : Int).toNat = t.length by omega]
  refine lc_rng (fun p => decide (t[p]? = some c)) (fun p => .int (0 + (p : Int))) (by omega) True.intro (fun p hp A B hA hB => ?_) ?_
  · have hs : t[p]? = some (t[p]'hp) := List.getElem?_eq_getElem _
    generalize t[p]'hp = s at hs
    walk_at "nk"
    refine AtS_tx (by omega) (by omega) (c := s) (by rw [show (0 + (p : Int)).toNat = p by omega]; exact hs) ?_
    walk_at "nk"
    refine Cond_i (fun hb => ?_) (fun hb => ?_)
    · have hb := tx_eq hb
      exact hA (by rw [hs]; simpa using hb)
    · have hb := tx_eq hb
      exact hB (by rw [hs]; simpa using hb)
  generalize hL : (List.range t.length).filter (fun p => decide (t[p]? = some c)) = L
  have hm : ∀ p ∈ L, p < t.length := fun p hp => by rw [← hL] at hp; exact List.mem_range.mp (List.mem_filter.mp hp).1
  have hl : L.length ≤ t.length := by rw [← hL]; exact Nat.le_trans (List.length_filter_le _ _) (by simp)
  have eL : (L.map fun p : Nat => D.int (0 + (p : Int))).length = L.length := List.length_map ..
  walk_at "nk"
  refine Cond_i (fun hb => ?_) (fun hb => ?_)
  · walk_at "nc"
    exact h G hS (fun _ _ _ _ => rfl) t rfl
  have hb := of_decide_eq_false hb
  walk_at "nk"
  refine of_wl (.mk' hS) (fun z => hb (by rw [z]; rfl)) (by omega) fun d G1 hd h1 => ?_
  obtain ⟨p, hp, rfl⟩ := List.mem_map.mp hd
  have hp := hm p hp
  walk_at "nk"
  have er := tx_len (t.take (0 + (p : Int)).toNat ++ t.drop (0 + (p : Int) + 1).toNat)
  have ex : (t.take (0 + (p : Int)).toNat ++ t.drop (0 + (p : Int) + 1).toNat).length = t.length - 1 := by rw [List.length_append, List.length_take, List.length_drop]; omega
  refine take_w h1 (by omega) fun k G2 k1 k2 h2 => ?_
  walk_at "nk"
  refine Ret_i (h _ h2.1 h2.2 _ ?_)
  rw [List.length_append, List.length_append, List.length_take, List.length_drop, ex]
  simp
  omega
theorem pu__law_round_right (K : PySem.W.Frag) (ds : List D) (G : GH) (q : QD) (x : XD) (h : sp__law_round_right K ds G q x) : t__law_round_right K (dEnds q x) (startD n__law_round_right ds) G := by
  replace h := A2_x h
  obtain ⟨_, _, rfl, w, rfl, hw0, hw, a, c, l, rfl, hS, h⟩ := h
  have ea : asciiL.length = 94 := by decide +kernel
  walk_at "nk"
  refine Call_i ⟨w, rfl, hw0, hw, draw_w (.mk' hS) fun G1 h1 o n cc ho hn => ?_⟩
  have eo := tx_len o
  walk_at "nk"
  refine Cut_i (fun τ G'' => ∃ n' : List Nat, n'.length = o.length + 1 ∧ Stw a c l G G'' ∧ τ = [some (.ref a), some (.int w), some (sD o), some (sD n'), some (sg cc), none, none, none, none, none, none, none]) ?_ ?_
  · walk_at "nk"
    refine take_w h1 (by omega) fun k G2 k1 k2 h2 => ?_
    walk_at "nk"
    refine Cond_i (fun hb => ?_) (fun hb => ?_)
    · walk_at "nk"
      refine Call_i ⟨n, cc, rfl, rfl, by omega, draw_w h2 fun G3 h3 r hr => ?_⟩
      walk_at "nk"
      exact ⟨r, by omega, h3, rfl⟩
    · walk_at "nk"
      exact ⟨n, hn, h2, rfl⟩
  rintro τ G3 ⟨n', hn', h3, rfl⟩
  have en := tx_len n'
  walk_at "nk"
  refine yes_w h3 (by omega) fun b G4 h4 => ?_
  walk_at "nk"
  refine Call_i ⟨o, n', some cc, b, rfl, rfl, rfl, rfl, by omega, by omega, ?_⟩
  walk_at "nk"
  refine Call_i ⟨o, rfl, by omega, draw_w h4 fun G5 h5 r hr => ?_⟩
  have lr := hr.length_eq
  walk_at "nk"
  refine Call_i ⟨o, r, none, b, rfl, rfl, rfl, rfl, by omega, by omega, ?_⟩
  walk_at "nk"
  refine take_w h5 (by omega) fun at_ G6 m1 m2 h6 => ?_
  walk_at "nk"
  refine Call_i ?_
  walk_at "nk"
  refine of_ws h6 (fun z => by have := congrArg List.length z; rw [List.length_append, ea] at this; simp at this) (by simp; omega) fun ch G7 hm h7 => ?_
  walk_at "nk"
  refine Call_i ⟨n'.take at_.toNat ++ [ch] ++ n'.drop (at_ + 1).toNat, rfl, by simp; omega, draw_w h7 fun G8 h8 r2 hr2 => ?_⟩
  have lr2 := hr2.length_eq
  have l3 : r2.length ≤ 500 := by rw [lr2]; simp; omega
  walk_at "nk"
  refine of_wl h8 (by simp) (by simp) fun d G9 hd h9 => ?_
  obtain ⟨w', hw', rfl⟩ : ∃ m : List Nat, m.length ≤ 500 ∧ d = sD m := by
    simp only [List.mem_cons, List.not_mem_nil, or_false] at hd
    rcases hd with rfl | rfl | rfl | rfl | rfl | rfl <;> exact ⟨_, by first | omega | (simp; done) | (simp; omega), rfl⟩
  walk_at "nk"
  refine Call_i ⟨o, w', some cc, b, rfl, rfl, rfl, rfl, by omega, by omega, ?_⟩
  walk_at "nk"
  refine Call_i ⟨n', o, some cc, b, rfl, rfl, rfl, rfl, by omega, by omega, ?_⟩
  walk_at "nk"
  refine Call_i ⟨o, n', some ch, b, rfl, rfl, rfl, rfl, by omega, by omega, ?_⟩
  walk_at "nk"
  refine Call_i ⟨o, w', none, b, rfl, rfl, rfl, rfl, by omega, by omega, ?_⟩
  walk_at "nk"
  refine of_ws h9 (fun z => by rw [z] at hn'; simp at hn') (by omega) fun c3 G10 hm3 h10 => ?_
  walk_at "nk"
  refine ForD_i (fun i τ G'' => Stw a c l G G'' ∧ ∃ o11, τ = [some (.ref a), some (.int w), some (sD o), some (sD n'), some (sg cc), some (.bl b), some (.int at_), some (sg ch), some (sD (n'.take at_.toNat ++ [ch] ++ n'.drop (at_ + 1).toNat)), some (.lst _), some (sD w'), o11]) ⟨h10, _, rfl⟩ (fun _ _ _ _ _ => True.intro) ?_ ?_
  · rintro i d τ G'' hd ⟨hS2, o11, rfl⟩
    obtain ⟨y, rfl⟩ : ∃ y, d = sg y := by
      have := List.mem_of_getElem? hd
      simp only [List.mem_cons, List.not_mem_nil, or_false] at this
      rcases this with rfl | rfl | rfl <;> exact ⟨_, rfl⟩
    walk_at "nk"
    refine Call_i ⟨o, n', y, b, rfl, rfl, rfl, rfl, by omega, by omega, ?_⟩
    walk_at "nk"
    refine Call_i ⟨o, w', y, b, rfl, rfl, rfl, rfl, by omega, by omega, ?_⟩
    walk_at "nk"
    exact ⟨hS2, _, rfl⟩
  rintro τ G'' ⟨hS2, o11, rfl⟩
  walk_at "nk"
  refine Call_i ⟨n', o, cc, b, rfl, rfl, rfl, rfl, by omega, by omega, ?_⟩
  walk_at "nk"
  refine Call_i ⟨[], [cc], cc, b, ?_, rfl, rfl, rfl, by simp, by simp, ?_⟩
  · show D.str _ = D.str _
    rw [tx_nil]
  walk_at "nc"
  exact h _ hS2.1 hS2.2
theorem pu_law (K : PySem.W.Frag) (ds : List D) (G : GH) (q : QD) (x : XD) (h : sp_law K ds G q x) : t_law K (dEnds q x) (startD n_law ds) G := by
  replace h := A1_x h
  obtain ⟨_, rfl, ns, rfl, hns, hg, h⟩ := h
  walk_at "nk"
  refine Call_i ⟨ns, rfl, by omega, fun a c l G1 hS _ _ _ _ => ?_⟩
  walk_at "nk"
  refine of_w (.mk' hS) (by simp) (by simp) fun d G2 hd h2 => ?_
  obtain ⟨w, hw0, hw, rfl⟩ : ∃ w : Int, 0 ≤ w ∧ w ≤ 199 ∧ d = .int w := by
    simp only [List.mem_cons, List.not_mem_nil, or_false] at hd
    rcases hd with rfl | rfl | rfl | rfl | rfl | rfl | rfl | rfl <;> exact ⟨_, by omega, by omega, rfl⟩
  walk_at "nk"
  refine Call_i ⟨w, rfl, fun n n1 n2 => ?_⟩
  walk_at "nk"
  refine ForD_i (fun i τ G' => ∃ o, Sto a c l G' ∧ τ = [some (.ro (ns.map D.int)), some (.ref a), some (.int w), o]) ⟨_, h2.1, rfl⟩ (fun _ _ _ _ _ => True.intro) ?_ ?_
  · rintro i d τ G' hd ⟨o, hS', rfl⟩
    walk_at "nk"
    refine Call_i ⟨w, rfl, hw0, hw, draw_w (.mk' hS') fun G3 h3 => ?_⟩
    walk_at "nk"
    exact ⟨_, h3.1, rfl⟩
  · rintro τ G' ⟨o, hS', rfl⟩
    walk_at "nc"
    exact h _
end N
namespace Hd
open PySem PySem.Spec PyProof.Rows L2 N
section
variable {P : Program} {w : World} {K : PySem.W.Frag} {mg : Str → Option Value} {base : Heap}
theorem sc__law_mix : FnScope n__law_mix ["number", "turn"] (defScope s__law_mix) := ⟨rfl, rfl, rfl, by decide +kernel, rfl, by decide +kernel, by decide +kernel⟩
theorem sn__law_mix (K : PySem.W.Frag) : SpN 2 (sp__law_mix K) := ⟨fun _ _ _ _ h => A2_len h⟩
theorem fo__law_mix (c : Ev fa fn K mg) {fd : FuncData} (F : FunD K d__law_mix.name d__law_mix.qual d__law_mix.params d__law_mix.body d__law_mix.scope (d__law_mix.dvs K) (d__law_mix.kws K) (d__law_mix.ad K) fd) : FnOk P w K mg base (L2N.CX P w) 1 (d__law_mix.ad K) fd ["number", "turn"] (liftSp K (sp__law_mix K)) :=
  fn_p F sc__law_mix (sn__law_mix K) rfl (fun cdv A outer s H E hr =>
    (pssd_cons (s_ (sc__law_mix).nd 2 pd_int)
    (pssd_cons (s_ (sc__law_mix).nd 3 (pd_mod (pd_callTy call_int1 ok_int rfl (fb_int c) (by decide +kernel) (pad_cons (pd_add (pd_add (pd_mod (pd_callTy call_int1 ok_int rfl (fb_int c) (by decide +kernel) (pad_cons (v_ 0) pad_nil)) (v_ 2)) (pd_mul (pd_callTy call_int1 ok_int rfl (fb_int c) (by decide +kernel) (pad_cons (v_ 1) pad_nil)) pd_int)) pd_int) pad_nil)) (v_ 2)))
    (pssd_cons (s_ (sc__law_mix).nd 3 (pd_mod (pd_callTy call_int1 ok_int rfl (fb_int c) (by decide +kernel) (pad_cons (pd_mul (pd_callTy call_int1 ok_int rfl (fb_int c) (by decide +kernel) (pad_cons (pd_xor (v_ 3) (pd_fdiv (v_ 3) pd_int)) pad_nil)) pd_int) pad_nil)) (v_ 2)))
    (pssd_cons (s_ (sc__law_mix).nd 4 (pd_mod (pd_callTy call_int1 ok_int rfl (fb_int c) (by decide +kernel) (pad_cons (pd_mul (pd_callTy call_int1 ok_int rfl (fb_int c) (by decide +kernel) (pad_cons (pd_xor (v_ 3) (pd_fdiv (v_ 3) pd_int)) pad_nil)) pd_int) pad_nil)) (v_ 2)))
    (pssd_one (psd_ret (pd_xor (v_ 4) (pd_fdiv (v_ 4) pd_int))))))))) (pu__law_mix K)
theorem ok__law_mix (c : Ev fa fn K mg) : Fg P w K mg base 1 (d__law_mix.ad K) (sp__law_mix K) [] := by
  obtain ⟨fd, F⟩ := c.def_ 0 (d := d__law_mix) rfl
  exact fg_n (ps := ["number", "turn"]) F (fun _ _ _ _ _ _ us hl => match us, hl with | [_, _], _ => rfl) (fo__law_mix c F)
theorem sc__law_take : FnScope n__law_take ["store", "many"] (defScope s__law_take) := ⟨rfl, rfl, rfl, by decide +kernel, rfl, by decide +kernel, by decide +kernel⟩
theorem sn__law_take (K : PySem.W.Frag) : SpN 2 (sp__law_take K) := ⟨fun _ _ _ _ h => A2_len h⟩
theorem fo__law_take (c : Ev fa fn K mg) {fd : FuncData} (F : FunD K d__law_take.name d__law_take.qual d__law_take.params d__law_take.body d__law_take.scope (d__law_take.dvs K) (d__law_take.kws K) (d__law_take.ad K) fd) : FnOk P w K mg base (L2N.CX P w) 3 (d__law_take.ad K) fd ["store", "many"] (liftSp K (sp__law_take K)) :=
  fn_p F sc__law_take (sn__law_take K) rfl (fun cdv A outer s H E hr =>
    (pssd_cons (psd_if (pt_le (v_ 1) pd_int)
    (pssd_one (psd_ret pd_int))
    pssd_nil)
    (pssd_cons (s_ (sc__law_take).nd 2 (pd_ix (v_ 0) pd_int (fun _ _ => rfl)))
    (pssd_cons (s_ (sc__law_take).nd 3 (pd_ix (v_ 0) pd_int (fun _ _ => rfl)))
    (pssd_cons (s_ (sc__law_take).nd 4 (pd_ix (v_ 0) pd_int (fun _ _ => rfl)))
    (pssd_cons (psd_if (pt_ge (v_ 4) (pd_callB call_len ok_len rfl (fb_len c) (by decide +kernel) (pad_cons (v_ 2) pad_nil)))
    (pssd_cons (psd_asg (pd_add (pd_ix (v_ 0) pd_int (fun _ _ => rfl)) pd_int) (pgd_sub (v_ 0) pd_int))
    (pssd_one (psd_ret (pd_mod (pd_callTy call_int1 ok_int rfl (fb_int c) (by decide +kernel) (pad_cons (pd_cl (ok__law_mix c) (hr.mono (by decide)) rfl (fg__law_mix c) (pad_cons (pd_ix (v_ 0) pd_int (fun _ _ => rfl)) (pad_cons (pd_ix (v_ 0) pd_int (fun _ _ => rfl)) pad_nil))) pad_nil)) (v_ 1)))))
    pssd_nil)
    (pssd_cons (psd_if (pt_eq hr.units (pd_ix (v_ 3) (v_ 4) (fun _ _ => rfl)) pd_int)
    (pssd_cons (s_ (sc__law_take).nd 5 (pd_callTy call_int1 ok_int rfl (fb_int c) (by decide +kernel) (pad_cons (pd_ix (v_ 2) (v_ 4) (fun _ _ => rfl)) pad_nil)))
    (pssd_cons (psd_asg (pd_fdiv (v_ 5) (v_ 1)) (pgd_sub (v_ 2) (v_ 4)))
    (pssd_cons (psd_if (pt_lt (v_ 5) (v_ 1))
    (pssd_one (psd_asg (pd_add (v_ 4) pd_int) (pgd_sub (v_ 0) pd_int)))
    pssd_nil)
    (pssd_one (psd_ret (pd_mod (pd_callTy call_int1 ok_int rfl (fb_int c) (by decide +kernel) (pad_cons (v_ 5) pad_nil)) (v_ 1)))))))
    pssd_nil)
    (pssd_cons (psd_asg (pd_sub (pd_ix (v_ 3) (v_ 4) (fun _ _ => rfl)) pd_int) (pgd_sub (v_ 3) (v_ 4)))
    (pssd_cons (psd_if (pt_eq hr.units (pd_ix (v_ 3) (v_ 4) (fun _ _ => rfl)) pd_int)
    (pssd_one (psd_asg (pd_add (v_ 4) pd_int) (pgd_sub (v_ 0) pd_int)))
    pssd_nil)
    (pssd_one (psd_ret (pd_mod (pd_callTy call_int1 ok_int rfl (fb_int c) (by decide +kernel) (pad_cons (pd_cl (ok__law_mix c) (hr.mono (by decide)) rfl (fg__law_mix c) (pad_cons (pd_ix (v_ 2) (v_ 4) (fun _ _ => rfl)) (pad_cons (pd_ix (v_ 3) (v_ 4) (fun _ _ => rfl)) pad_nil))) pad_nil)) (v_ 1))))))))))))) (pu__law_take K)
theorem ok__law_take (c : Ev fa fn K mg) : Fg P w K mg base 3 (d__law_take.ad K) (sp__law_take K) [] := by
  obtain ⟨fd, F⟩ := c.def_ 1 (d := d__law_take) rfl
  exact fg_n (ps := ["store", "many"]) F (fun _ _ _ _ _ _ us hl => match us, hl with | [_, _], _ => rfl) (fo__law_take c F)
theorem sc__law_of : FnScope n__law_of ["store", "things"] (defScope s__law_of) := ⟨rfl, rfl, rfl, by decide +kernel, rfl, by decide +kernel, by decide +kernel⟩
theorem sn__law_of (K : PySem.W.Frag) : SpN 2 (sp__law_of K) := ⟨fun _ _ _ _ h => A2_len h⟩
theorem fo__law_of (c : Ev fa fn K mg) {fd : FuncData} (F : FunD K d__law_of.name d__law_of.qual d__law_of.params d__law_of.body d__law_of.scope (d__law_of.dvs K) (d__law_of.kws K) (d__law_of.ad K) fd) : FnOk P w K mg base (L2N.CX P w) 5 (d__law_of.ad K) fd ["store", "things"] (liftSp K (sp__law_of K)) :=
  fn_p F sc__law_of (sn__law_of K) rfl (fun cdv A outer s H E hr =>
    (pssd_one (psd_ret (pd_ix (v_ 1) (pd_cl (ok__law_take c) (hr.mono (by decide)) rfl (fg__law_take c) (pad_cons (v_ 0) (pad_cons (pd_callB call_len ok_len rfl (fb_len c) (by decide +kernel) (pad_cons (v_ 1) pad_nil)) pad_nil))) (fun _ _ => rfl))))) (pu__law_of K)
theorem ok__law_of (c : Ev fa fn K mg) : Fg P w K mg base 5 (d__law_of.ad K) (sp__law_of K) [] := by
  obtain ⟨fd, F⟩ := c.def_ 2 (d := d__law_of) rfl
  exact fg_n (ps := ["store", "things"]) F (fun _ _ _ _ _ _ us hl => match us, hl with | [_, _], _ => rfl) (fo__law_of c F)
theorem sc__law_ascii : FnScope n__law_ascii [] (defScope s__law_ascii) := ⟨rfl, rfl, rfl, by decide +kernel, rfl, by decide +kernel, by decide +kernel⟩
theorem sn__law_ascii (K : PySem.W.Frag) : SpN 0 (sp__law_ascii K) := ⟨fun _ _ _ _ h => A0_len h⟩
theorem fo__law_ascii (c : Ev fa fn K mg) {fd : FuncData} (F : FunD K d__law_ascii.name d__law_ascii.qual d__law_ascii.params d__law_ascii.body d__law_ascii.scope (d__law_ascii.dvs K) (d__law_ascii.kws K) (d__law_ascii.ad K) fd) : FnOk P w K mg base (L2N.CX P w) 1 (d__law_ascii.ad K) fd [] (liftSp K (sp__law_ascii K)) :=
  fn_p F sc__law_ascii (sn__law_ascii K) rfl (fun cdv A outer s H E hr =>
    (pssd_cons (s_ (sc__law_ascii).nd 0 pd_str)
    (pssd_one (psd_ret (pd_add (v_ 0) pd_str))))) (pu__law_ascii K)
theorem ok__law_ascii (c : Ev fa fn K mg) : Fg P w K mg base 1 (d__law_ascii.ad K) (sp__law_ascii K) [] := by
  obtain ⟨fd, F⟩ := c.def_ 3 (d := d__law_ascii) rfl
  exact fg_n (ps := []) F (fun _ _ _ _ _ _ us hl => match us, hl with | [], _ => rfl) (fo__law_ascii c F)
theorem sc__law_due_error : FnScope n__law_due_error ["e", "name", "at"] (defScope s__law_due_error) := ⟨rfl, rfl, rfl, by decide +kernel, rfl, by decide +kernel, by decide +kernel⟩
theorem sn__law_due_error (K : PySem.W.Frag) (a dd C : Addr) : SpN 3 (sp__law_due_error K a dd C) := ⟨fun _ _ _ _ h => A3_len h⟩
theorem ok__law_due_error (c : Ev fa fn K mg) : FgH P w K mg base 1 (d__law_due_error.ad K) (sp__law_due_error K) := by
  obtain ⟨fd, F⟩ := c.def_ 4 (d := d__law_due_error) rfl
  exact fgh_n (ps := ["e", "name", "at"]) F (fun _ _ _ _ _ _ us hl => match us, hl with | [_, _, _], _ => rfl) (fnx F sc__law_due_error (sn__law_due_error K) rfl (fun cdv A outer s H E a dd C oe hr xc hx =>
    (pssd_cons (s_ (sc__law_due_error).nd 3 (pd_lst (pad_cons (pd_tup (pad_cons (pd_isE hx xc.ec (fb_isinstance c) rfl (v_ 0) (pe_own (fg_BadRows c)) (.own _)) (pad_cons pd_str pad_nil))) pad_nil)))
    (pssd_cons (s_ (sc__law_due_error).nd 4 (pd_isEA (clsV K ((["BadKinds", "BadKind", "BadRow", "BadLot", "BadParting", "BadLetters", "BadNumber", "BadName", "BadRoom", "BadDay", "TooLong", "BadStand", "BadRule", "BadCall", "TooManyStands", "BadText", "BadTree", "BadMachine", "BadException", "BadPolicy"] : List Str) ++ (["BadSpeech", "BadGraft", "NotSame", "NotGood", "IsGood", "BadPlaces", "Passed", "Empty", "NotEmpty", "BadPaper", "TooMany", "NotOneLine", "Endless", "BadTable", "BadBook", "Clash", "NothingToUndo", "BadLine"] : List Str))) (clsU K ((["BadKinds", "BadKind", "BadRow", "BadLot", "BadParting", "BadLetters", "BadNumber", "BadName", "BadRoom", "BadDay", "TooLong", "BadStand", "BadRule", "BadCall", "TooManyStands", "BadText", "BadTree", "BadMachine", "BadException", "BadPolicy"] : List Str) ++ (["BadSpeech", "BadGraft", "NotSame", "NotGood", "IsGood", "BadPlaces", "Passed", "Empty", "NotEmpty", "BadPaper", "TooMany", "NotOneLine", "Endless", "BadTable", "BadBook", "Clash", "NothingToUndo", "BadLine"] : List Str))) (Nat.le_of_ble_eq_true rfl) hx xc.ec (fb_isinstance c) rfl (v_ 0) (pa_cons (pe_own (fg_BadKinds c)) (pa_cons (pe_own (fg_BadKind c)) (pa_cons (pe_own (fg_BadRow c)) (pa_cons (pe_own (fg_BadLot c)) (pa_cons (pe_own (fg_BadParting c)) (pa_cons (pe_own (fg_BadLetters c)) (pa_cons (pe_own (fg_BadNumber c)) (pa_cons (pe_own (fg_BadName c)) (pa_cons (pe_own (fg_BadRoom c)) (pa_cons (pe_own (fg_BadDay c)) (pa_cons (pe_own (fg_TooLong c)) (pa_cons (pe_own (fg_BadStand c)) (pa_cons (pe_own (fg_BadRule c)) (pa_cons (pe_own (fg_BadCall c)) (pa_cons (pe_own (fg_TooManyStands c)) (pa_cons (pe_own (fg_BadText c)) (pa_cons (pe_own (fg_BadTree c)) (pa_cons (pe_own (fg_BadMachine c)) (pa_cons (pe_own (fg_BadException c)) (pa_cons (pe_own (fg_BadPolicy c)) (pa_cons (pe_own (fg_BadSpeech c)) (pa_cons (pe_own (fg_BadGraft c)) (pa_cons (pe_own (fg_NotSame c)) (pa_cons (pe_own (fg_NotGood c)) (pa_cons (pe_own (fg_IsGood c)) (pa_cons (pe_own (fg_BadPlaces c)) (pa_cons (pe_own (fg_Passed c)) (pa_cons (pe_own (fg_Empty c)) (pa_cons (pe_own (fg_NotEmpty c)) (pa_cons (pe_own (fg_BadPaper c)) (pa_cons (pe_own (fg_TooMany c)) (pa_cons (pe_own (fg_NotOneLine c)) (pa_cons (pe_own (fg_Endless c)) (pa_cons (pe_own (fg_BadTable c)) (pa_cons (pe_own (fg_BadBook c)) (pa_cons (pe_own (fg_Clash c)) (pa_cons (pe_own (fg_NothingToUndo c)) (pa_cons (pe_own (fg_BadLine c)) pa_nil)))))))))))))))))))))))))))))))))))))) (cls_pair _)))
    (pssd_cons (psd_if (ptd_w (pwd_or (pd_val (v_ 4)) (pwd_or1 (pt_ne hr.units (pd_lcH hx (sc__law_due_error).nd (pipd_list (v_ 3)) (bc_ (own := [("mark", 5)])) (fun _ _ _ _ _ => (gb_ (sc__law_due_error).nd 5)) (gex_name (by decide)) (fun _ _ _ _ _ => (ptsd_one (pd_val (pd_ix (v_ 5) pd_int (fun _ _ => rfl))))) (fun _ _ _ _ _ => (pd_ix (v_ 5) pd_int (fun _ _ => rfl)))) (pd_lst (pad_cons (v_ 1) pad_nil))))))
    (pssd_one (psd_ret pd_bl))
    pssd_nil)
    (pssd_one (psd_ret (pd_and (pd_isE hx xc.ec (fb_isinstance c) rfl (v_ 0) (pe_ty (by rfl) (fb_ValueError c) (by decide +kernel)) (.ty _)) (pd_one (pd_eq hr.units (pd_at hx xc.xf xc.na (v_ 0)) (v_ 2)))))))))) (pu__law_due_error K))
theorem sc__law_ahead : FnScope n__law_ahead ["text", "c"] (defScope s__law_ahead) := ⟨rfl, rfl, rfl, by decide +kernel, rfl, by decide +kernel, by decide +kernel⟩
theorem sn__law_ahead (K : PySem.W.Frag) : SpN 2 (sp__law_ahead K) := ⟨fun _ _ _ _ h => A2_len h⟩
theorem fo__law_ahead (c : Ev fa fn K mg) {fd : FuncData} (F : FunD K d__law_ahead.name d__law_ahead.qual d__law_ahead.params d__law_ahead.body d__law_ahead.scope (d__law_ahead.dvs K) (d__law_ahead.kws K) (d__law_ahead.ad K) fd) : FnOk P w K mg base (L2N.CX P w) 1 (d__law_ahead.ad K) fd ["text", "c"] (liftSp K (sp__law_ahead K)) :=
  fn_p F sc__law_ahead (sn__law_ahead K) rfl (fun cdv A outer s H E hr =>
    (pssd_one (psd_ret (pd_lc rfl (sc__law_ahead).nd (pid_rng1 rfl (fb_range c) (pad_cons (pd_callB call_len ok_len rfl (fb_len c) (by decide +kernel) (pad_cons (v_ 0) pad_nil)) pad_nil)) (bc_ (own := [("at", 2)])) (fun _ _ _ _ _ => (gb_ (sc__law_ahead).nd 2)) (gex_name (by decide)) (fun _ _ _ _ _ => (ptsd_one (pt_ne hr.units (pd_ix (v_ 0) (v_ 2) (fun _ _ => rfl)) (v_ 1)))) (fun _ _ _ _ _ => (pd_countS (pd_slice (v_ 0) pod_none (pod_some (v_ 2))) (v_ 1))))))) (pu__law_ahead K)
theorem ok__law_ahead (c : Ev fa fn K mg) : Fg P w K mg base 1 (d__law_ahead.ad K) (sp__law_ahead K) [] := by
  obtain ⟨fd, F⟩ := c.def_ 5 (d := d__law_ahead) rfl
  exact fg_n (ps := ["text", "c"]) F (fun _ _ _ _ _ _ us hl => match us, hl with | [_, _], _ => rfl) (fo__law_ahead c F)
theorem sc__law_fault : FnScope n__law_fault ["old", "new", "c"] (defScope s__law_fault) := ⟨rfl, rfl, rfl, by decide +kernel, rfl, by decide +kernel, by decide +kernel⟩
theorem sn__law_fault (K : PySem.W.Frag) : SpN 3 (sp__law_fault K) := ⟨fun _ _ _ _ h => A3_len h⟩
theorem fo__law_fault (c : Ev fa fn K mg) {fd : FuncData} (F : FunD K d__law_fault.name d__law_fault.qual d__law_fault.params d__law_fault.body d__law_fault.scope (d__law_fault.dvs K) (d__law_fault.kws K) (d__law_fault.ad K) fd) : FnOk P w K mg base (L2N.CX P w) 3 (d__law_fault.ad K) fd ["old", "new", "c"] (liftSp K (sp__law_fault K)) :=
  fn_p F sc__law_fault (sn__law_fault K) rfl (fun cdv A outer s H E hr =>
    (pssd_cons (psd_lc rfl (sc__law_fault).nd (i := 3) rfl rfl (sw_true rfl rfl rfl rfl) (pid_any (v_ 0)) (bc_ (own := [("sign", 10)])) (fun _ _ _ _ _ => (gb_ (sc__law_fault).nd 10)) (gex_name (by decide)) (fun _ _ _ _ _ => (ptsd_one (pt_ne hr.units (v_ 10) (v_ 2)))) (fun _ _ _ _ _ => (v_ 10)))
    (pssd_cons (psd_lc rfl (sc__law_fault).nd (i := 4) rfl rfl (sw_true rfl rfl rfl rfl) (pid_any (v_ 1)) (bc_ (own := [("sign", 10)])) (fun _ _ _ _ _ => (gb_ (sc__law_fault).nd 10)) (gex_name (by decide)) (fun _ _ _ _ _ => (ptsd_one (pt_ne hr.units (v_ 10) (v_ 2)))) (fun _ _ _ _ _ => (v_ 10)))
    (pssd_cons (psd_for PassesOwn.never rfl (pid_rng1 rfl (fb_range c) (pad_cons (pd_callB call_len ok_len rfl (fb_len c) (by decide +kernel) (pad_cons (v_ 3) pad_nil)) pad_nil)) (g_ (sc__law_fault).nd 5)
    (pssd_one (psd_if (pt_ne hr.units (pd_ix (v_ 3) (v_ 5) (fun _ _ => rfl)) (pd_ix (v_ 4) (v_ 5) (fun _ _ => rfl)))
    (pssd_one (psd_ret (pd_tup (pad_cons pd_str (pad_cons (v_ 5) pad_nil)))))
    pssd_nil)))
    (pssd_cons (psd_if (pt_eq hr.units (v_ 2) pd_str)
    (pssd_one (psd_ret pd_non))
    pssd_nil)
    (pssd_cons (s_ (sc__law_fault).nd 6 (pd_cl (ok__law_ahead c) (hr.mono (by decide)) rfl (fg__law_ahead c) (pad_cons (v_ 0) (pad_cons (v_ 2) pad_nil))))
    (pssd_cons (s_ (sc__law_fault).nd 7 (pd_cl (ok__law_ahead c) (hr.mono (by decide)) rfl (fg__law_ahead c) (pad_cons (v_ 1) (pad_cons (v_ 2) pad_nil))))
    (pssd_cons (s_ (sc__law_fault).nd 8 (pd_lc rfl (sc__law_fault).nd (pid_rng1 rfl (fb_range c) (pad_cons (pd_callB call_len ok_len rfl (fb_len c) (by decide +kernel) (pad_cons (v_ 6) pad_nil)) pad_nil)) (bc_ (own := [("at", 5)])) (fun _ _ _ _ _ => (gb_ (sc__law_fault).nd 5)) (gex_name (by decide)) (fun _ _ _ _ _ => ptsd_nil) (fun _ _ _ _ _ => (pd_sub (pd_ix (v_ 7) (v_ 5) (fun _ _ => rfl)) (pd_ix (v_ 6) (v_ 5) (fun _ _ => rfl))))))
    (pssd_cons (psd_for PassesOwn.never rfl (pid_rng1 rfl (fb_range c) (pad_cons (pd_callB call_len ok_len rfl (fb_len c) (by decide +kernel) (pad_cons (v_ 8) pad_nil)) pad_nil)) (g_ (sc__law_fault).nd 5)
    (pssd_one (psd_if (ptd_w (pwd_and (pt_ne hr.units (pd_ix (v_ 8) (v_ 5) (fun _ _ => rfl)) pd_int) (pwd_and1 (pt_ne hr.units (pd_ix (v_ 8) (v_ 5) (fun _ _ => rfl)) pd_int))))
    (pssd_one (psd_ret (pd_tup (pad_cons pd_str (pad_cons (v_ 5) pad_nil)))))
    pssd_nil)))
    (pssd_cons (psd_for PassesOwn.never rfl (pid_rng1 rfl (fb_range c) (pad_cons (pd_callB call_len ok_len rfl (fb_len c) (by decide +kernel) (pad_cons (v_ 8) pad_nil)) pad_nil)) (g_ (sc__law_fault).nd 5)
    (pssd_cons (psd_lc rfl (sc__law_fault).nd (i := 9) rfl rfl (sw_true rfl rfl rfl rfl) (pid_rng2 rfl (fb_range c) (pad_cons (pd_add (v_ 5) pd_int) (pad_cons (pd_callB call_len ok_len rfl (fb_len c) (by decide +kernel) (pad_cons (v_ 8) pad_nil)) pad_nil))) (bc_ (own := [("place", 11)])) (fun _ _ _ _ _ => (gb_ (sc__law_fault).nd 11)) (gex_name (by decide)) (fun _ _ _ _ _ => (ptsd_one (ptd_w (pwd_and (pt_eq hr.units (pd_ix (v_ 8) (v_ 5) (fun _ _ => rfl)) pd_int) (pwd_and1 (pt_eq hr.units (pd_ix (v_ 8) (v_ 11) (fun _ _ => rfl)) pd_int)))))) (fun _ _ _ _ _ => (v_ 11)))
    (pssd_one (psd_if (pt_gt (pd_callB call_len ok_len rfl (fb_len c) (by decide +kernel) (pad_cons (v_ 9) pad_nil)) pd_int)
    (pssd_one (psd_ret (pd_tup (pad_cons pd_str (pad_cons (v_ 5) (pad_cons (pd_ix (v_ 9) pd_int (fun _ _ => rfl)) pad_nil))))))
    pssd_nil))))
    (pssd_one (psd_ret pd_non)))))))))))) (pu__law_fault K)
theorem ok__law_fault (c : Ev fa fn K mg) : Fg P w K mg base 3 (d__law_fault.ad K) (sp__law_fault K) [] := by
  obtain ⟨fd, F⟩ := c.def_ 6 (d := d__law_fault) rfl
  exact fg_n (ps := ["old", "new", "c"]) F (fun _ _ _ _ _ _ us hl => match us, hl with | [_, _, _], _ => rfl) (fo__law_fault c F)
theorem sc__law_marks : FnScope n__law_marks ["value"] (defScope s__law_marks) := ⟨rfl, rfl, rfl, by decide +kernel, rfl, by decide +kernel, by decide +kernel⟩
theorem sn__law_marks (K : PySem.W.Frag) : SpN 1 (sp__law_marks K) := ⟨fun _ _ _ _ h => A1_len h⟩
theorem fo__law_marks (c : Ev fa fn K mg) {fd : FuncData} (F : FunD K d__law_marks.name d__law_marks.qual d__law_marks.params d__law_marks.body d__law_marks.scope (d__law_marks.dvs K) (d__law_marks.kws K) (d__law_marks.ad K) fd) : FnOk P w K mg base (L2N.CX P w) 1 (d__law_marks.ad K) fd ["value"] (liftSp K (sp__law_marks K)) :=
  fn_p F sc__law_marks (sn__law_marks K) rfl (fun cdv A outer s H E hr =>
    (pssd_one (psd_ret (pd_lst (pad_cons (pd_is (v_ 0) pd_non) (pad_cons (pd_isi (T := .bl) (fb_isinstance c) rfl (v_ 0) (pe_ty rfl (fb_bool c) boot_bool)) (pad_cons (pd_isi (T := .int) (fb_isinstance c) rfl (v_ 0) (pe_ty rfl (fb_int c) boot_int)) (pad_cons (pd_isi (T := .str) (fb_isinstance c) rfl (v_ 0) (pe_ty rfl (fb_str c) boot_str)) (pad_cons (pd_isi (T := .tup) (fb_isinstance c) rfl (v_ 0) (pe_ty rfl (fb_tuple c) boot_tuple)) (pad_cons (pd_isi (T := .lst) (fb_isinstance c) rfl (v_ 0) (pe_ty rfl (fb_list c) boot_list)) pad_nil)))))))))) (pu__law_marks K)
theorem ok__law_marks (c : Ev fa fn K mg) : Fg P w K mg base 1 (d__law_marks.ad K) (sp__law_marks K) [] := by
  obtain ⟨fd, F⟩ := c.def_ 7 (d := d__law_marks) rfl
  exact fg_n (ps := ["value"]) F (fun _ _ _ _ _ _ us hl => match us, hl with | [_], _ => rfl) (fo__law_marks c F)
theorem sc__law_like : FnScope n__law_like ["answer", "due"] (defScope s__law_like) := ⟨rfl, rfl, rfl, by decide +kernel, rfl, by decide +kernel, by decide +kernel⟩
theorem sn__law_like (K : PySem.W.Frag) : SpN 2 (sp__law_like K) := ⟨fun _ _ _ _ h => A2_len h⟩
theorem fo__law_like (c : Ev fa fn K mg) {fd : FuncData} (F : FunD K d__law_like.name d__law_like.qual d__law_like.params d__law_like.body d__law_like.scope (d__law_like.dvs K) (d__law_like.kws K) (d__law_like.ad K) fd) : FnOk P w K mg base (L2N.CX P w) 3 (d__law_like.ad K) fd ["answer", "due"] (liftSp K (sp__law_like K)) :=
  fn_p F sc__law_like (sn__law_like K) rfl (fun cdv A outer s H E hr =>
    (pssd_cons (s_ (sc__law_like).nd 2 (pd_lstM (pad_cons (pd_tup (pad_cons (v_ 0) (pad_cons (v_ 1) pad_nil))) pad_nil)))
    (pssd_cons (psd_for PassesOwn.never rfl (pid_rng1 rfl (fb_range c) (pad_cons pd_int pad_nil)) (g_ (sc__law_like).nd 3)
    (pssd_cons (psd_if (pt_eq hr.units (pd_callB call_len ok_len rfl (fb_len c) (by decide +kernel) (pad_cons (v_ 2) pad_nil)) pd_int)
    (pssd_one (psd_ret pd_bl))
    pssd_nil)
    (pssd_cons (psd_asg (pd_pop (v_ 2)) (pgd_tup rfl (pgsd_cons (g_ (sc__law_like).nd 4) (pgsd_cons (g_ (sc__law_like).nd 5) pgsd_nil))))
    (pssd_cons (psd_if (pt_ne hr.units (pd_cl (ok__law_marks c) (hr.mono (by decide)) rfl (fg__law_marks c) (pad_cons (v_ 4) pad_nil)) (pd_cl (ok__law_marks c) (hr.mono (by decide)) rfl (fg__law_marks c) (pad_cons (v_ 5) pad_nil)))
    (pssd_one (psd_ret pd_bl))
    pssd_nil)
    (pssd_one (psd_if (pd_val (pd_isiT [.tup, .lst] (by decide) (fb_isinstance c) rfl (v_ 5) (pa_cons (pe_ty rfl (fb_tuple c) boot_tuple) (pa_cons (pe_ty rfl (fb_list c) boot_list) pa_nil))))
    (pssd_cons (psd_if (pt_ne hr.units (pd_callB call_len ok_len rfl (fb_len c) (by decide +kernel) (pad_cons (v_ 4) pad_nil)) (pd_callB call_len ok_len rfl (fb_len c) (by decide +kernel) (pad_cons (v_ 5) pad_nil)))
    (pssd_one (psd_ret pd_bl))
    pssd_nil)
    (pssd_one (psd_for PassesOwn.never rfl (pid_rng1 rfl (fb_range c) (pad_cons (pd_callB call_len ok_len rfl (fb_len c) (by decide +kernel) (pad_cons (v_ 5) pad_nil)) pad_nil)) (g_ (sc__law_like).nd 6)
    (pssd_one (psd_expr (pd_append (v_ 2) (pad_cons (pd_tup (pad_cons (pd_ix (v_ 4) (v_ 6) (fun _ _ => rfl)) (pad_cons (pd_ix (v_ 5) (v_ 6) (fun _ _ => rfl)) pad_nil))) pad_nil)))))))
    (pssd_one (psd_if (pt_ne hr.units (v_ 4) (v_ 5))
    (pssd_one (psd_ret pd_bl))
    pssd_nil))))))))
    (pssd_one (psd_ret pd_bl))))) (pu__law_like K)
theorem ok__law_like (c : Ev fa fn K mg) : Fg P w K mg base 3 (d__law_like.ad K) (sp__law_like K) [] := by
  obtain ⟨fd, F⟩ := c.def_ 8 (d := d__law_like) rfl
  exact fg_n (ps := ["answer", "due"]) F (fun _ _ _ _ _ _ us hl => match us, hl with | [_, _], _ => rfl) (fo__law_like c F)
theorem sc__law_struck : FnScope n__law_struck ["old", "new", "c"] (defScope s__law_struck) := ⟨rfl, rfl, rfl, by decide +kernel, rfl, by decide +kernel, by decide +kernel⟩
theorem sn__law_struck (K : PySem.W.Frag) : SpN 3 (sp__law_struck K) := ⟨fun _ _ _ _ h => A3_len h⟩
theorem fo__law_struck (c : Ev fa fn K mg) {fd : FuncData} (F : FunD K d__law_struck.name d__law_struck.qual d__law_struck.params d__law_struck.body d__law_struck.scope (d__law_struck.dvs K) (d__law_struck.kws K) (d__law_struck.ad K) fd) : FnOk P w K mg base (L2N.CX P w) 1 (d__law_struck.ad K) fd ["old", "new", "c"] (liftSp K (sp__law_struck K)) :=
  fn_p F sc__law_struck (sn__law_struck K) rfl (fun cdv A outer s H E hr =>
    (pssd_cons (psd_if (pt_eq hr.units (v_ 2) pd_str)
    (pssd_one (psd_ret (pd_eq hr.units (v_ 0) (v_ 1))))
    pssd_nil)
    (pssd_one (psd_ret (pd_gt (pd_callB call_len ok_len rfl (fb_len c) (by decide +kernel) (pad_cons (pd_lc rfl (sc__law_struck).nd (pid_rng1 rfl (fb_range c) (pad_cons (pd_callB call_len ok_len rfl (fb_len c) (by decide +kernel) (pad_cons (v_ 1) pad_nil)) pad_nil)) (bc_ (own := [("at", 3)])) (fun _ _ _ _ _ => (gb_ (sc__law_struck).nd 3)) (gex_name (by decide)) (fun _ _ _ _ _ => (ptsd_one (ptd_w (pwd_and (pt_eq hr.units (pd_ix (v_ 1) (v_ 3) (fun _ _ => rfl)) (v_ 2)) (pwd_and1 (pt_eq hr.units (pd_add (pd_slice (v_ 1) pod_none (pod_some (v_ 3))) (pd_slice (v_ 1) (pod_some (pd_add (v_ 3) pd_int)) pod_none)) (v_ 0))))))) (fun _ _ _ _ _ => (v_ 3))) pad_nil)) pd_int))))) (pu__law_struck K)
theorem ok__law_struck (c : Ev fa fn K mg) : Fg P w K mg base 1 (d__law_struck.ad K) (sp__law_struck K) [] := by
  obtain ⟨fd, F⟩ := c.def_ 9 (d := d__law_struck) rfl
  exact fg_n (ps := ["old", "new", "c"]) F (fun _ _ _ _ _ _ us hl => match us, hl with | [_, _, _], _ => rfl) (fo__law_struck c F)
theorem ri (c : Ev fa fn K mg) : RaI P w K mg base 1 := by
  obtain ⟨fd, F⟩ := c.def_ 10 (d := d_NonePassedError____init__) rfl
  exact raI F ⟨rfl, rfl, rfl, by decide +kernel, rfl, by decide +kernel, by decide +kernel⟩ (fun _ _ _ _ _ _ us hl => match us, hl with | [_, _], _ => rfl) (fun cdv A outer s H E => pss_one (ps_ost (pe_var rfl (.inl rfl)) (pe_var rfl (.inl rfl)) rfl))
theorem sc_counts_ahead : FnScope n_counts_ahead ["text", "c"] (defScope s_counts_ahead) := ⟨rfl, rfl, rfl, by decide +kernel, rfl, by decide +kernel, by decide +kernel⟩
theorem sn_counts_ahead (K : PySem.W.Frag) : SpN 2 (sp_counts_ahead K) := ⟨fun _ _ _ _ h => A2_len h⟩
theorem fo_counts_ahead (c : Ev fa fn K mg) {fd : FuncData} (F : FunD K d_counts_ahead.name d_counts_ahead.qual d_counts_ahead.params d_counts_ahead.body d_counts_ahead.scope (d_counts_ahead.dvs K) (d_counts_ahead.kws K) (d_counts_ahead.ad K) fd) : FnOk P w K mg base (L2N.CX P w) 1 (d_counts_ahead.ad K) fd ["text", "c"] (liftSp K (sp_counts_ahead K)) :=
  fn_p F sc_counts_ahead (sn_counts_ahead K) rfl (fun cdv A outer s H E hr =>
    (pssd_cons (s_ (sc_counts_ahead).nd 2 (pd_lstM pad_nil))
    (pssd_cons (s_ (sc_counts_ahead).nd 3 pd_int)
    (pssd_cons (psd_for PassesOwn.never rfl (pid_any (v_ 0)) (g_ (sc_counts_ahead).nd 4)
    (pssd_one (psd_if (pt_eq hr.units (v_ 4) (v_ 1))
    (pssd_one (psd_addI (sc_counts_ahead).nd 3 pd_int))
    (pssd_one (psd_expr (pd_append (v_ 2) (pad_cons (v_ 3) pad_nil)))))))
    (pssd_one (psd_ret (v_ 2))))))) (pu_counts_ahead K)
theorem ok_counts_ahead (c : Ev fa fn K mg) : Fg P w K mg base 1 (d_counts_ahead.ad K) (sp_counts_ahead K) [] := by
  obtain ⟨fd, F⟩ := c.def_ 11 (d := d_counts_ahead) rfl
  exact fg_n (ps := ["text", "c"]) F (fun _ _ _ _ _ _ us hl => match us, hl with | [_, _], _ => rfl) (fo_counts_ahead c F)
theorem sc_shift_fault : FnScope n_shift_fault ["old", "new", "c"] (defScope s_shift_fault) := ⟨rfl, rfl, rfl, by decide +kernel, rfl, by decide +kernel, by decide +kernel⟩
theorem sn_shift_fault (K : PySem.W.Frag) : SpN 3 (sp_shift_fault K) := ⟨fun _ _ _ _ h => A3_len h⟩
theorem fo_shift_fault (c : Ev fa fn K mg) {fd : FuncData} (F : FunD K d_shift_fault.name d_shift_fault.qual d_shift_fault.params d_shift_fault.body d_shift_fault.scope (d_shift_fault.dvs K) (d_shift_fault.kws K) (d_shift_fault.ad K) fd) : FnOk P w K mg base (L2N.CX P w) 3 (d_shift_fault.ad K) fd ["old", "new", "c"] (liftSp K (sp_shift_fault K)) :=
  fn_p F sc_shift_fault (sn_shift_fault K) rfl (fun cdv A outer s H E hr =>
    (pssd_cons (psd_lc rfl (sc_shift_fault).nd (i := 3) rfl rfl (sw_true rfl rfl rfl rfl) (pid_zip rfl (fb_zip c) (pad_cons (pd_cl (ok_counts_ahead c) (hr.mono (by decide)) rfl (fg_counts_ahead c) (pad_cons (v_ 0) (pad_cons (v_ 2) pad_nil))) (pad_cons (pd_cl (ok_counts_ahead c) (hr.mono (by decide)) rfl (fg_counts_ahead c) (pad_cons (v_ 1) (pad_cons (v_ 2) pad_nil))) pad_nil))) (bc_ (own := [("before", 7), ("after", 8)])) (fun _ _ _ _ _ => (pg_seq rfl (pgs_cons (gb_ (sc_shift_fault).nd 7) (pgs_cons (gb_ (sc_shift_fault).nd 8) pgs_nil)))) (gex_tup (gexs_cons (gex_name (by decide)) (gexs_cons (gex_name (by decide)) gexs_nil))) (fun _ _ _ _ _ => ptsd_nil) (fun _ _ _ _ _ => (pd_sub (v_ 8) (v_ 7))))
    (pssd_cons (psd_for PassesOwn.never rfl (pid_enumA rfl (fb_enumerate c) (pad_cons (v_ 3) pad_nil)) (pgd_tup rfl (pgsd_cons (g_ (sc_shift_fault).nd 4) (pgsd_cons (g_ (sc_shift_fault).nd 5) pgsd_nil)))
    (pssd_one (psd_if (pt_notin (v_ 5) (pd_tup (pad_cons pd_int (pad_cons pd_int pad_nil))))
    (pssd_one (psd_ret (pd_tup (pad_cons pd_str (pad_cons (v_ 4) pad_nil)))))
    pssd_nil)))
    (pssd_cons (psd_if (pt_notin pd_int (v_ 3))
    (pssd_one (psd_ret pd_non))
    pssd_nil)
    (pssd_cons (s_ (sc_shift_fault).nd 4 (pd_index (v_ 3) (pad_cons pd_int pad_nil)))
    (pssd_cons (psd_for PassesOwn.never rfl (pid_rng2 rfl (fb_range c) (pad_cons (pd_add (v_ 4) pd_int) (pad_cons (pd_callB call_len ok_len rfl (fb_len c) (by decide +kernel) (pad_cons (v_ 3) pad_nil)) pad_nil))) (g_ (sc_shift_fault).nd 6)
    (pssd_one (psd_if (pt_eq hr.units (pd_ix (v_ 3) (v_ 6) (fun _ _ => rfl)) pd_int)
    (pssd_one (psd_ret (pd_tup (pad_cons pd_str (pad_cons (v_ 4) (pad_cons (v_ 6) pad_nil))))))
    pssd_nil)))
    (pssd_one (psd_ret pd_non)))))))) (pu_shift_fault K)
theorem ok_shift_fault (c : Ev fa fn K mg) : Fg P w K mg base 3 (d_shift_fault.ad K) (sp_shift_fault K) [] := by
  obtain ⟨fd, F⟩ := c.def_ 12 (d := d_shift_fault) rfl
  exact fg_n (ps := ["old", "new", "c"]) F (fun _ _ _ _ _ _ us hl => match us, hl with | [_, _, _], _ => rfl) (fo_shift_fault c F)
theorem sc_other_tokens : FnScope n_other_tokens ["text", "c"] (defScope s_other_tokens) := ⟨rfl, rfl, rfl, by decide +kernel, rfl, by decide +kernel, by decide +kernel⟩
theorem sn_other_tokens (K : PySem.W.Frag) : SpN 2 (sp_other_tokens K) := ⟨fun _ _ _ _ h => A2_len h⟩
theorem fo_other_tokens (c : Ev fa fn K mg) {fd : FuncData} (F : FunD K d_other_tokens.name d_other_tokens.qual d_other_tokens.params d_other_tokens.body d_other_tokens.scope (d_other_tokens.dvs K) (d_other_tokens.kws K) (d_other_tokens.ad K) fd) : FnOk P w K mg base (L2N.CX P w) 1 (d_other_tokens.ad K) fd ["text", "c"] (liftSp K (sp_other_tokens K)) :=
  fn_p F sc_other_tokens (sn_other_tokens K) rfl (fun cdv A outer s H E hr =>
    (pssd_one (psd_ret (pd_join pd_str (pd_lc rfl (sc_other_tokens).nd (pid_any (v_ 0)) (bc_ (own := [("sign", 2)])) (fun _ _ _ _ _ => (gb_ (sc_other_tokens).nd 2)) (gex_name (by decide)) (fun _ _ _ _ _ => (ptsd_one (pt_ne hr.units (v_ 2) (v_ 1)))) (fun _ _ _ _ _ => (v_ 2))))))) (pu_other_tokens K)
theorem ok_other_tokens (c : Ev fa fn K mg) : Fg P w K mg base 1 (d_other_tokens.ad K) (sp_other_tokens K) [] := by
  obtain ⟨fd, F⟩ := c.def_ 13 (d := d_other_tokens) rfl
  exact fg_n (ps := ["text", "c"]) F (fun _ _ _ _ _ _ us hl => match us, hl with | [_, _], _ => rfl) (fo_other_tokens c F)
theorem sc_swap_fault : FnScope n_swap_fault ["old", "new", "c"] (defScope s_swap_fault) := ⟨rfl, rfl, rfl, by decide +kernel, rfl, by decide +kernel, by decide +kernel⟩
theorem sn_swap_fault (K : PySem.W.Frag) : SpN 3 (sp_swap_fault K) := ⟨fun _ _ _ _ h => A3_len h⟩
theorem fo_swap_fault (c : Ev fa fn K mg) {fd : FuncData} (F : FunD K d_swap_fault.name d_swap_fault.qual d_swap_fault.params d_swap_fault.body d_swap_fault.scope (d_swap_fault.dvs K) (d_swap_fault.kws K) (d_swap_fault.ad K) fd) : FnOk P w K mg base (L2N.CX P w) 3 (d_swap_fault.ad K) fd ["old", "new", "c"] (liftSp K (sp_swap_fault K)) :=
  fn_p F sc_swap_fault (sn_swap_fault K) rfl (fun cdv A outer s H E hr =>
    (pssd_cons (psd_for PassesOwn.never rfl (pid_enumZ rfl (fb_zip c) rfl (fb_enumerate c) (pad_cons (pd_cl (ok_other_tokens c) (hr.mono (by decide)) rfl (fg_other_tokens c) (pad_cons (v_ 0) (pad_cons (v_ 2) pad_nil))) (pad_cons (pd_cl (ok_other_tokens c) (hr.mono (by decide)) rfl (fg_other_tokens c) (pad_cons (v_ 1) (pad_cons (v_ 2) pad_nil))) pad_nil))) (pgd_tup rfl (pgsd_cons (g_ (sc_swap_fault).nd 3) (pgsd_cons (pgd_tup rfl (pgsd_cons (g_ (sc_swap_fault).nd 4) (pgsd_cons (g_ (sc_swap_fault).nd 5) pgsd_nil))) pgsd_nil)))
    (pssd_one (psd_if (pt_ne hr.units (v_ 4) (v_ 5))
    (pssd_one (psd_ret (pd_tup (pad_cons pd_str (pad_cons (v_ 3) pad_nil)))))
    pssd_nil)))
    (pssd_one (psd_ret pd_non)))) (pu_swap_fault K)
theorem ok_swap_fault (c : Ev fa fn K mg) : Fg P w K mg base 3 (d_swap_fault.ad K) (sp_swap_fault K) [] := by
  obtain ⟨fd, F⟩ := c.def_ 14 (d := d_swap_fault) rfl
  exact fg_n (ps := ["old", "new", "c"]) F (fun _ _ _ _ _ _ us hl => match us, hl with | [_, _, _], _ => rfl) (fo_swap_fault c F)
theorem sc_fault : FnScope n_fault ["old", "new", "c"] (defScope s_fault) := ⟨rfl, rfl, rfl, by decide +kernel, rfl, by decide +kernel, by decide +kernel⟩
theorem sn_fault (K : PySem.W.Frag) : SpN 3 (sp_fault K) := ⟨fun _ _ _ _ h => A3_len h⟩
theorem fo_fault (c : Ev fa fn K mg) {fd : FuncData} (F : FunD K d_fault.name d_fault.qual d_fault.params d_fault.body d_fault.scope (d_fault.dvs K) (d_fault.kws K) (d_fault.ad K) fd) : FnOk P w K mg base (L2N.CX P w) 5 (d_fault.ad K) fd ["old", "new", "c"] (liftSp K (sp_fault K)) :=
  fn_x F sc_fault (sn_fault K) rfl (fun cdv A outer s H E hr =>
    (pssd_cons (s_ (sc_fault).nd 3 (pd_ife (pt_is (v_ 2) pd_non) pd_str (v_ 2)))
    (pssd_cons (psd_if (pt_ne hr.units (pd_callB (call_sortA rfl hr.units) ok_sortA rfl (fb_sorted c) (by decide +kernel) (pad_cons (v_ 1) pad_nil)) (pd_callB (call_sortA rfl hr.units) ok_sortA rfl (fb_sorted c) (by decide +kernel) (pad_cons (pd_add (v_ 0) (v_ 3)) pad_nil)))
    (pssd_one (psd_rz rfl (L2N.takes_of rfl rfl rfl rfl) (xf c "BadRows" (by decide +kernel)).ra (ri c) (hr.mono (by decide)) rfl (fg_BadRows c) (pd_callB call_len ok_len rfl (fb_len c) (by decide +kernel) (pad_cons (v_ 1) pad_nil))))
    pssd_nil)
    (pssd_cons (s_ (sc_fault).nd 4 (pd_cl (ok_swap_fault c) (hr.mono (by decide)) rfl (fg_swap_fault c) (pad_cons (v_ 0) (pad_cons (v_ 1) (pad_cons (v_ 2) pad_nil)))))
    (pssd_cons (psd_if (ptd_w (pwd_or (pt_isnot (v_ 4) pd_non) (pwd_or1 (pt_is (v_ 2) pd_non))))
    (pssd_one (psd_ret (v_ 4)))
    pssd_nil)
    (pssd_one (psd_ret (pd_cl (ok_shift_fault c) (hr.mono (by decide)) rfl (fg_shift_fault c) (pad_cons (v_ 0) (pad_cons (v_ 1) (pad_cons (v_ 2) pad_nil))))))))))) (pu_fault K)
theorem ok_fault (c : Ev fa fn K mg) : Fg P w K mg base 5 (d_fault.ad K) (sp_fault K) [] := by
  obtain ⟨fd, F⟩ := c.def_ 15 (d := d_fault) rfl
  exact fg_n (ps := ["old", "new", "c"]) F (fun _ _ _ _ _ _ us hl => match us, hl with | [_, _, _], _ => rfl) (fo_fault c F)
theorem okk_fault_0_new_c_old (c : Ev fa fn K mg) : Fk P w K mg base 5 (d_fault.ad K) (sp_fault K) 0 ["new", "c", "old"] [2, 0, 1] := by
  obtain ⟨fd, F⟩ := c.def_ 15 (d := d_fault) rfl
  exact fk_n (ps := ["old", "new", "c"]) F 0 _ _ (fun _ _ _ _ _ _ us ws hl hk => match us, ws, hl, hk with | [], [_, _, _], _, _ => rfl) (fo_fault c F)
theorem sc__law_fault_right : FnScope n__law_fault_right ["old", "new", "c", "named"] (defScope s__law_fault_right) := ⟨rfl, rfl, rfl, by decide +kernel, rfl, by decide +kernel, by decide +kernel⟩
theorem sn__law_fault_right (K : PySem.W.Frag) : SpN 4 (sp__law_fault_right K) := ⟨fun _ _ _ _ h => A4_len h⟩
theorem fo__law_fault_right (c : Ev fa fn K mg) {fd : FuncData} (F : FunD K d__law_fault_right.name d__law_fault_right.qual d__law_fault_right.params d__law_fault_right.body d__law_fault_right.scope (d__law_fault_right.dvs K) (d__law_fault_right.kws K) (d__law_fault_right.ad K) fd) : FnOk P w K mg base (L2N.CX P w) 7 (d__law_fault_right.ad K) fd ["old", "new", "c", "named"] (liftSp K (sp__law_fault_right K)) :=
  fn_x F sc__law_fault_right (sn__law_fault_right K) rfl (fun cdv A outer s H E hr =>
    (pssd_cons (s_ (sc__law_fault_right).nd 4 (v_ 2))
    (pssd_consC (psd_if (pt_eq hr.units (v_ 2) pd_str)
    (pssd_one (s_ (sc__law_fault_right).nd 4 pd_non))
    pssd_nil)
    (pssd_cons (psd_try rfl rfl (sc__law_fault_right).nd (i := 6) rfl rfl (names_own (fg_NonePassedError c)) (L2N.takes_of rfl rfl rfl rfl)
    (fun W1 pn1 xe1 tk1 hp1 => by exact (pssd_one (psd_if (pd_val (v_ 3))
    (pssd_one (s_ (sc__law_fault_right).nd 5 (pd_cU0 true (fun _ => tk1) (okk_fault_0_new_c_old c) (hr.mono (by decide)) rfl (fg_fault c) (pkd_cons (v_ 1) (pkd_cons (v_ 4) (pkd_cons (v_ 0) pkd_nil))))))
    (pssd_one (s_ (sc__law_fault_right).nd 5 (pd_clX tk1 (ok_fault c) (hr.mono (by decide)) rfl (fg_fault c) (pad_cons (v_ 0) (pad_cons (v_ 1) (pad_cons (v_ 4) pad_nil)))))))))
    (fun a dd C oe pn xc hz hv => by exact (pssd_one (psd_ret (pd_and (pd_ne (L2H.roomH_mark hr _).units (pd_callB (call_sortAH (hot_suite hz hv) (L2H.roomH_mark hr _).units) ok_sortA rfl (fb_sorted c) (by decide +kernel) (pad_cons (v_ 1) pad_nil)) (pd_callB (call_sortAH (hot_suite hz hv) (L2H.roomH_mark hr _).units) ok_sortA rfl (fb_sorted c) (by decide +kernel) (pad_cons (pd_add (v_ 0) (v_ 2)) pad_nil))) (pd_one (pd_clH (ok__law_due_error c) ((L2H.roomH_mark hr _).mono (by decide)) xc (hot_suite hz hv) rfl (fg__law_due_error c) (pad_cons (v_ 6) (pad_cons pd_str (pad_cons (pd_callB call_len ok_len rfl (fb_len c) (by decide +kernel) (pad_cons (v_ 1) pad_nil)) pad_nil))))))))))
    (pssd_cons (psd_if (pt_ne hr.units (pd_callB (call_sortA rfl hr.units) ok_sortA rfl (fb_sorted c) (by decide +kernel) (pad_cons (v_ 1) pad_nil)) (pd_callB (call_sortA rfl hr.units) ok_sortA rfl (fb_sorted c) (by decide +kernel) (pad_cons (pd_add (v_ 0) (v_ 2)) pad_nil)))
    (pssd_one (psd_ret pd_bl))
    pssd_nil)
    (pssd_cons (psd_if (pt_ne hr.units (pd_is (v_ 5) pd_non) (pd_cl (ok__law_struck c) (hr.mono (by decide)) rfl (fg__law_struck c) (pad_cons (v_ 0) (pad_cons (v_ 1) (pad_cons (v_ 2) pad_nil)))))
    (pssd_one (psd_ret pd_bl))
    pssd_nil)
    (pssd_one (psd_ret (pd_cl (ok__law_like c) (hr.mono (by decide)) rfl (fg__law_like c) (pad_cons (v_ 5) (pad_cons (pd_cl (ok__law_fault c) (hr.mono (by decide)) rfl (fg__law_fault c) (pad_cons (v_ 0) (pad_cons (v_ 1) (pad_cons (v_ 2) pad_nil)))) pad_nil))))))))))) (pu__law_fault_right K (xf c))
theorem ok__law_fault_right (c : Ev fa fn K mg) : Fg P w K mg base 7 (d__law_fault_right.ad K) (sp__law_fault_right K) [] := by
  obtain ⟨fd, F⟩ := c.def_ 16 (d := d__law_fault_right) rfl
  exact fg_n (ps := ["old", "new", "c", "named"]) F (fun _ _ _ _ _ _ us hl => match us, hl with | [_, _, _, _], _ => rfl) (fo__law_fault_right c F)
theorem sc__law_moved : FnScope n__law_moved ["store", "text", "c"] (defScope s__law_moved) := ⟨rfl, rfl, rfl, by decide +kernel, rfl, by decide +kernel, by decide +kernel⟩
theorem sn__law_moved (K : PySem.W.Frag) : SpN 3 (sp__law_moved K) := ⟨fun _ _ _ _ h => A3_len h⟩
theorem fo__law_moved (c : Ev fa fn K mg) {fd : FuncData} (F : FunD K d__law_moved.name d__law_moved.qual d__law_moved.params d__law_moved.body d__law_moved.scope (d__law_moved.dvs K) (d__law_moved.kws K) (d__law_moved.ad K) fd) : FnOk P w K mg base (L2N.CX P w) 7 (d__law_moved.ad K) fd ["store", "text", "c"] (liftSp K (sp__law_moved K)) :=
  fn_p F sc__law_moved (sn__law_moved K) rfl (fun cdv A outer s H E hr =>
    (pssd_cons (psd_lc rfl (sc__law_moved).nd (i := 3) rfl rfl (sw_true rfl rfl rfl rfl) (pid_rng1 rfl (fb_range c) (pad_cons (pd_callB call_len ok_len rfl (fb_len c) (by decide +kernel) (pad_cons (v_ 1) pad_nil)) pad_nil)) (bc_ (own := [("at", 4)])) (fun _ _ _ _ _ => (gb_ (sc__law_moved).nd 4)) (gex_name (by decide)) (fun _ _ _ _ _ => (ptsd_one (pt_eq hr.units (pd_ix (v_ 1) (v_ 4) (fun _ _ => rfl)) (v_ 2)))) (fun _ _ _ _ _ => (v_ 4)))
    (pssd_cons (psd_if (pt_eq hr.units (pd_callB call_len ok_len rfl (fb_len c) (by decide +kernel) (pad_cons (v_ 3) pad_nil)) pd_int)
    (pssd_one (psd_ret (v_ 1)))
    pssd_nil)
    (pssd_cons (s_ (sc__law_moved).nd 4 (pd_cl (ok__law_of c) (hr.mono (by decide)) rfl (fg__law_of c) (pad_cons (v_ 0) (pad_cons (v_ 3) pad_nil))))
    (pssd_cons (s_ (sc__law_moved).nd 5 (pd_add (pd_slice (v_ 1) pod_none (pod_some (v_ 4))) (pd_slice (v_ 1) (pod_some (pd_add (v_ 4) pd_int)) pod_none)))
    (pssd_cons (s_ (sc__law_moved).nd 6 (pd_cl (ok__law_take c) (hr.mono (by decide)) rfl (fg__law_take c) (pad_cons (v_ 0) (pad_cons (pd_add (pd_callB call_len ok_len rfl (fb_len c) (by decide +kernel) (pad_cons (v_ 5) pad_nil)) pd_int) pad_nil))))
    (pssd_one (psd_ret (pd_add (pd_add (pd_slice (v_ 5) pod_none (pod_some (v_ 6))) (v_ 2)) (pd_slice (v_ 5) (pod_some (v_ 6)) pod_none)))))))))) (pu__law_moved K)
theorem ok__law_moved (c : Ev fa fn K mg) : Fg P w K mg base 7 (d__law_moved.ad K) (sp__law_moved K) [] := by
  obtain ⟨fd, F⟩ := c.def_ 17 (d := d__law_moved) rfl
  exact fg_n (ps := ["store", "text", "c"]) F (fun _ _ _ _ _ _ us hl => match us, hl with | [_, _, _], _ => rfl) (fo__law_moved c F)
theorem sc__law_order : FnScope n__law_order ["store", "things"] (defScope s__law_order) := ⟨rfl, rfl, rfl, by decide +kernel, rfl, by decide +kernel, by decide +kernel⟩
theorem sn__law_order (K : PySem.W.Frag) : SpN 2 (sp__law_order K) := ⟨fun _ _ _ _ h => A2_len h⟩
theorem fo__law_order (c : Ev fa fn K mg) {fd : FuncData} (F : FunD K d__law_order.name d__law_order.qual d__law_order.params d__law_order.body d__law_order.scope (d__law_order.dvs K) (d__law_order.kws K) (d__law_order.ad K) fd) : FnOk P w K mg base (L2N.CX P w) 5 (d__law_order.ad K) fd ["store", "things"] (liftSp K (sp__law_order K)) :=
  fn_p F sc__law_order (sn__law_order K) rfl (fun cdv A outer s H E hr =>
    (pssd_cons (s_ (sc__law_order).nd 2 (pd_callTy (call_list_any rfl) ok_listTM rfl (fb_list c) (by decide +kernel) (pad_cons (v_ 1) pad_nil)))
    (pssd_cons (psd_for PassesOwn.never rfl (pid_rng1 rfl (fb_range c) (pad_cons (pd_sub (pd_callB call_len ok_len rfl (fb_len c) (by decide +kernel) (pad_cons (v_ 2) pad_nil)) pd_int) pad_nil)) (g_ (sc__law_order).nd 3)
    (pssd_cons (s_ (sc__law_order).nd 4 (pd_sub (pd_sub (pd_callB call_len ok_len rfl (fb_len c) (by decide +kernel) (pad_cons (v_ 2) pad_nil)) pd_int) (v_ 3)))
    (pssd_cons (s_ (sc__law_order).nd 5 (pd_cl (ok__law_take c) (hr.mono (by decide)) rfl (fg__law_take c) (pad_cons (v_ 0) (pad_cons (pd_add (v_ 4) pd_int) pad_nil))))
    (pssd_cons (s_ (sc__law_order).nd 6 (pd_ix (v_ 2) (v_ 4) (fun _ _ => rfl)))
    (pssd_cons (psd_asg (pd_ix (v_ 2) (v_ 5) (fun _ _ => rfl)) (pgd_sub (v_ 2) (v_ 4)))
    (pssd_one (psd_asg (v_ 6) (pgd_sub (v_ 2) (v_ 5)))))))))
    (pssd_one (psd_ret (v_ 2)))))) (pu__law_order K)
theorem ok__law_order (c : Ev fa fn K mg) : Fg P w K mg base 5 (d__law_order.ad K) (sp__law_order K) [] := by
  obtain ⟨fd, F⟩ := c.def_ 18 (d := d__law_order) rfl
  exact fg_n (ps := ["store", "things"]) F (fun _ _ _ _ _ _ us hl => match us, hl with | [_, _], _ => rfl) (fo__law_order c F)
theorem sc__law_shaken : FnScope n__law_shaken ["store", "text"] (defScope s__law_shaken) := ⟨rfl, rfl, rfl, by decide +kernel, rfl, by decide +kernel, by decide +kernel⟩
theorem sn__law_shaken (K : PySem.W.Frag) : SpN 2 (sp__law_shaken K) := ⟨fun _ _ _ _ h => A2_len h⟩
theorem fo__law_shaken (c : Ev fa fn K mg) {fd : FuncData} (F : FunD K d__law_shaken.name d__law_shaken.qual d__law_shaken.params d__law_shaken.body d__law_shaken.scope (d__law_shaken.dvs K) (d__law_shaken.kws K) (d__law_shaken.ad K) fd) : FnOk P w K mg base (L2N.CX P w) 7 (d__law_shaken.ad K) fd ["store", "text"] (liftSp K (sp__law_shaken K)) :=
  fn_p F sc__law_shaken (sn__law_shaken K) rfl (fun cdv A outer s H E hr =>
    (pssd_cons (s_ (sc__law_shaken).nd 2 (pd_cl (ok__law_take c) (hr.mono (by decide)) rfl (fg__law_take c) (pad_cons (v_ 0) (pad_cons pd_int pad_nil))))
    (pssd_cons (s_ (sc__law_shaken).nd 3 (pd_callTy (call_list_any rfl) ok_listTM rfl (fb_list c) (by decide +kernel) (pad_cons (v_ 1) pad_nil)))
    (pssd_cons (psd_if (ptd_w (pwd_or (pt_gt (v_ 2) pd_int) (pwd_or1 (pt_lt (pd_callB call_len ok_len rfl (fb_len c) (by decide +kernel) (pad_cons (v_ 1) pad_nil)) pd_int))))
    (pssd_one (psd_ret (v_ 1)))
    pssd_nil)
    (pssd_cons (psd_if (pt_eq hr.units (v_ 2) pd_int)
    (pssd_one (psd_ret (pd_join pd_str (pd_cl (ok__law_order c) (hr.mono (by decide)) rfl (fg__law_order c) (pad_cons (v_ 0) (pad_cons (v_ 3) pad_nil))))))
    pssd_nil)
    (pssd_cons (s_ (sc__law_shaken).nd 4 (pd_cl (ok__law_take c) (hr.mono (by decide)) rfl (fg__law_take c) (pad_cons (v_ 0) (pad_cons (pd_sub (pd_callB call_len ok_len rfl (fb_len c) (by decide +kernel) (pad_cons (v_ 1) pad_nil)) pd_int) pad_nil))))
    (pssd_cons (s_ (sc__law_shaken).nd 5 (pd_add (v_ 4) pd_int))
    (pssd_consC (psd_if (pt_eq hr.units (v_ 2) pd_int)
    (pssd_one (s_ (sc__law_shaken).nd 5 (pd_add (pd_add (v_ 4) pd_int) (pd_cl (ok__law_take c) (hr.mono (by decide)) rfl (fg__law_take c) (pad_cons (v_ 0) (pad_cons (pd_sub (pd_sub (pd_callB call_len ok_len rfl (fb_len c) (by decide +kernel) (pad_cons (v_ 1) pad_nil)) pd_int) (v_ 4)) pad_nil))))))
    pssd_nil)
    (pssd_cons (psd_asg (pd_ix (v_ 1) (v_ 5) (fun _ _ => rfl)) (pgd_sub (v_ 3) (v_ 4)))
    (pssd_cons (psd_asg (pd_ix (v_ 1) (v_ 4) (fun _ _ => rfl)) (pgd_sub (v_ 3) (v_ 5)))
    (pssd_one (psd_ret (pd_join pd_str (v_ 3)))))))))))))) (pu__law_shaken K)
theorem ok__law_shaken (c : Ev fa fn K mg) : Fg P w K mg base 7 (d__law_shaken.ad K) (sp__law_shaken K) [] := by
  obtain ⟨fd, F⟩ := c.def_ 19 (d := d__law_shaken) rfl
  exact fg_n (ps := ["store", "text"]) F (fun _ _ _ _ _ _ us hl => match us, hl with | [_, _], _ => rfl) (fo__law_shaken c F)
theorem sc__law_span : FnScope n__law_span ["store", "least", "greatest"] (defScope s__law_span) := ⟨rfl, rfl, rfl, by decide +kernel, rfl, by decide +kernel, by decide +kernel⟩
theorem sn__law_span (K : PySem.W.Frag) : SpN 3 (sp__law_span K) := ⟨fun _ _ _ _ h => A3_len h⟩
theorem fo__law_span (c : Ev fa fn K mg) {fd : FuncData} (F : FunD K d__law_span.name d__law_span.qual d__law_span.params d__law_span.body d__law_span.scope (d__law_span.dvs K) (d__law_span.kws K) (d__law_span.ad K) fd) : FnOk P w K mg base (L2N.CX P w) 5 (d__law_span.ad K) fd ["store", "least", "greatest"] (liftSp K (sp__law_span K)) :=
  fn_p F sc__law_span (sn__law_span K) rfl (fun cdv A outer s H E hr =>
    (pssd_cons (psd_if (pt_le (v_ 2) (v_ 1))
    (pssd_one (psd_ret (v_ 1)))
    pssd_nil)
    (pssd_cons (s_ (sc__law_span).nd 3 (pd_cl (ok__law_take c) (hr.mono (by decide)) rfl (fg__law_take c) (pad_cons (v_ 0) (pad_cons pd_int pad_nil))))
    (pssd_cons (psd_if (pt_eq hr.units (v_ 3) pd_int)
    (pssd_one (psd_ret (v_ 1)))
    pssd_nil)
    (pssd_cons (psd_if (pt_eq hr.units (v_ 3) pd_int)
    (pssd_one (psd_ret (v_ 2)))
    pssd_nil)
    (pssd_cons (psd_if (pt_eq hr.units (v_ 3) pd_int)
    (pssd_one (psd_ret (pd_add (v_ 1) pd_int)))
    pssd_nil)
    (pssd_one (psd_ret (pd_add (v_ 1) (pd_cl (ok__law_take c) (hr.mono (by decide)) rfl (fg__law_take c) (pad_cons (v_ 0) (pad_cons (pd_add (pd_sub (v_ 2) (v_ 1)) pd_int) pad_nil)))))))))))) (pu__law_span K)
theorem ok__law_span (c : Ev fa fn K mg) : Fg P w K mg base 5 (d__law_span.ad K) (sp__law_span K) [] := by
  obtain ⟨fd, F⟩ := c.def_ 20 (d := d__law_span) rfl
  exact fg_n (ps := ["store", "least", "greatest"]) F (fun _ _ _ _ _ _ us hl => match us, hl with | [_, _, _], _ => rfl) (fo__law_span c F)
theorem sc__law_text : FnScope n__law_text ["store", "alphabet", "size"] (defScope s__law_text) := ⟨rfl, rfl, rfl, by decide +kernel, rfl, by decide +kernel, by decide +kernel⟩
theorem sn__law_text (K : PySem.W.Frag) : SpN 3 (sp__law_text K) := ⟨fun _ _ _ _ h => A3_len h⟩
theorem fo__law_text (c : Ev fa fn K mg) {fd : FuncData} (F : FunD K d__law_text.name d__law_text.qual d__law_text.params d__law_text.body d__law_text.scope (d__law_text.dvs K) (d__law_text.kws K) (d__law_text.ad K) fd) : FnOk P w K mg base (L2N.CX P w) 7 (d__law_text.ad K) fd ["store", "alphabet", "size"] (liftSp K (sp__law_text K)) :=
  fn_p F sc__law_text (sn__law_text K) rfl (fun cdv A outer s H E hr =>
    (pssd_cons (psd_if (ptd_w (pwd_or (pt_le (v_ 2) pd_int) (pwd_or1 (pt_eq hr.units (v_ 1) pd_str))))
    (pssd_one (psd_ret pd_str))
    pssd_nil)
    (pssd_cons (s_ (sc__law_text).nd 3 (pd_cl (ok__law_take c) (hr.mono (by decide)) rfl (fg__law_take c) (pad_cons (v_ 0) (pad_cons pd_int pad_nil))))
    (pssd_cons (psd_if (pt_eq hr.units (v_ 3) pd_int)
    (pssd_one (psd_ret (pd_mulT (pd_cl (ok__law_of c) (hr.mono (by decide)) rfl (fg__law_of c) (pad_cons (v_ 0) (pad_cons (v_ 1) pad_nil))) (v_ 2))))
    pssd_nil)
    (pssd_cons (psd_if (pt_eq hr.units (v_ 3) pd_int)
    (pssd_cons (s_ (sc__law_text).nd 4 (pd_join pd_str (pd_lc rfl (sc__law_text).nd (pid_rng1 rfl (fb_range c) (pad_cons (pd_add pd_int (pd_cl (ok__law_take c) (hr.mono (by decide)) rfl (fg__law_take c) (pad_cons (v_ 0) (pad_cons pd_int pad_nil)))) pad_nil)) (bc_ (own := [("turn", 5)])) (fun _ _ _ _ _ => (gb_ (sc__law_text).nd 5)) (gex_name (by decide)) (fun _ _ _ _ _ => ptsd_nil) (fun _ _ _ _ _ => (pd_cl (ok__law_of c) (hr.mono (by decide)) rfl (fg__law_of c) (pad_cons (v_ 0) (pad_cons (v_ 1) pad_nil)))))))
    (pssd_one (psd_ret (pd_slice (pd_mulT (v_ 4) (v_ 2)) pod_none (pod_some (v_ 2))))))
    pssd_nil)
    (pssd_one (psd_ret (pd_join pd_str (pd_lc rfl (sc__law_text).nd (pid_rng1 rfl (fb_range c) (pad_cons (v_ 2) pad_nil)) (bc_ (own := [("turn", 5)])) (fun _ _ _ _ _ => (gb_ (sc__law_text).nd 5)) (gex_name (by decide)) (fun _ _ _ _ _ => ptsd_nil) (fun _ _ _ _ _ => (pd_cl (ok__law_of c) (hr.mono (by decide)) rfl (fg__law_of c) (pad_cons (v_ 0) (pad_cons (v_ 1) pad_nil))))))))))))) (pu__law_text K)
theorem ok__law_text (c : Ev fa fn K mg) : Fg P w K mg base 7 (d__law_text.ad K) (sp__law_text K) [] := by
  obtain ⟨fd, F⟩ := c.def_ 21 (d := d__law_text) rfl
  exact fg_n (ps := ["store", "alphabet", "size"]) F (fun _ _ _ _ _ _ us hl => match us, hl with | [_, _, _], _ => rfl) (fo__law_text c F)
theorem sc__law_yes : FnScope n__law_yes ["store", "many"] (defScope s__law_yes) := ⟨rfl, rfl, rfl, by decide +kernel, rfl, by decide +kernel, by decide +kernel⟩
theorem sn__law_yes (K : PySem.W.Frag) : SpN 2 (sp__law_yes K) := ⟨fun _ _ _ _ h => A2_len h⟩
theorem fo__law_yes (c : Ev fa fn K mg) {fd : FuncData} (F : FunD K d__law_yes.name d__law_yes.qual d__law_yes.params d__law_yes.body d__law_yes.scope (d__law_yes.dvs K) (d__law_yes.kws K) (d__law_yes.ad K) fd) : FnOk P w K mg base (L2N.CX P w) 5 (d__law_yes.ad K) fd ["store", "many"] (liftSp K (sp__law_yes K)) :=
  fn_p F sc__law_yes (sn__law_yes K) rfl (fun cdv A outer s H E hr =>
    (pssd_one (psd_ret (pd_eq hr.units (pd_cl (ok__law_take c) (hr.mono (by decide)) rfl (fg__law_take c) (pad_cons (v_ 0) (pad_cons (v_ 1) pad_nil))) pd_int)))) (pu__law_yes K)
theorem ok__law_yes (c : Ev fa fn K mg) : Fg P w K mg base 5 (d__law_yes.ad K) (sp__law_yes K) [] := by
  obtain ⟨fd, F⟩ := c.def_ 22 (d := d__law_yes) rfl
  exact fg_n (ps := ["store", "many"]) F (fun _ _ _ _ _ _ us hl => match us, hl with | [_, _], _ => rfl) (fo__law_yes c F)
theorem sc__law_strike : FnScope n__law_strike ["store", "widest"] (defScope s__law_strike) := ⟨rfl, rfl, rfl, by decide +kernel, rfl, by decide +kernel, by decide +kernel⟩
theorem sn__law_strike (K : PySem.W.Frag) : SpN 2 (sp__law_strike K) := ⟨fun _ _ _ _ h => A2_len h⟩
theorem fo__law_strike (c : Ev fa fn K mg) {fd : FuncData} (F : FunD K d__law_strike.name d__law_strike.qual d__law_strike.params d__law_strike.body d__law_strike.scope (d__law_strike.dvs K) (d__law_strike.kws K) (d__law_strike.ad K) fd) : FnOk P w K mg base (L2N.CX P w) 9 (d__law_strike.ad K) fd ["store", "widest"] (liftSp K (sp__law_strike K)) :=
  fn_p F sc__law_strike (sn__law_strike K) rfl (fun cdv A outer s H E hr =>
    (pssd_cons (s_ (sc__law_strike).nd 2 (pd_cl (ok__law_of c) (hr.mono (by decide)) rfl (fg__law_of c) (pad_cons (v_ 0) (pad_cons (pd_tup (pad_cons pd_str (pad_cons pd_str (pad_cons pd_str (pad_cons pd_str (pad_cons pd_str pad_nil)))))) pad_nil))))
    (pssd_consC (psd_if (pd_val (pd_cl (ok__law_yes c) (hr.mono (by decide)) rfl (fg__law_yes c) (pad_cons (v_ 0) (pad_cons pd_int pad_nil))))
    (pssd_one (s_ (sc__law_strike).nd 2 (pd_join pd_str (pd_lc rfl (sc__law_strike).nd (pid_rng1 rfl (fb_range c) (pad_cons (pd_add pd_int (pd_cl (ok__law_take c) (hr.mono (by decide)) rfl (fg__law_take c) (pad_cons (v_ 0) (pad_cons pd_int pad_nil)))) pad_nil)) (bc_ (own := [("turn", 7)])) (fun _ _ _ _ _ => (gb_ (sc__law_strike).nd 7)) (gex_name (by decide)) (fun _ _ _ _ _ => ptsd_nil) (fun _ _ _ _ _ => (pd_cl (ok__law_of c) (hr.mono (by decide)) rfl (fg__law_of c) (pad_cons (v_ 0) (pad_cons (pd_cl0 (ok__law_ascii c) (hr.mono (by decide)) rfl (fg__law_ascii c)) pad_nil))))))))
    pssd_nil)
    (pssd_cons (s_ (sc__law_strike).nd 3 (pd_cl (ok__law_text c) (hr.mono (by decide)) rfl (fg__law_text c) (pad_cons (v_ 0) (pad_cons (v_ 2) (pad_cons (pd_cl (ok__law_span c) (hr.mono (by decide)) rfl (fg__law_span c) (pad_cons (v_ 0) (pad_cons pd_int (pad_cons (v_ 1) pad_nil)))) pad_nil)))))
    (pssd_cons (s_ (sc__law_strike).nd 4 (pd_cl (ok__law_of c) (hr.mono (by decide)) rfl (fg__law_of c) (pad_cons (v_ 0) (pad_cons (v_ 2) pad_nil))))
    (pssd_cons (s_ (sc__law_strike).nd 5 (pd_cl (ok__law_span c) (hr.mono (by decide)) rfl (fg__law_span c) (pad_cons (v_ 0) (pad_cons pd_int (pad_cons (pd_callB call_len ok_len rfl (fb_len c) (by decide +kernel) (pad_cons (v_ 3) pad_nil)) pad_nil)))))
    (pssd_cons (s_ (sc__law_strike).nd 6 (pd_add (pd_add (pd_slice (v_ 3) pod_none (pod_some (v_ 5))) (v_ 4)) (pd_slice (v_ 3) (pod_some (v_ 5)) pod_none)))
    (pssd_one (psd_ret (pd_tup (pad_cons (v_ 3) (pad_cons (pd_cl (ok__law_shaken c) (hr.mono (by decide)) rfl (fg__law_shaken c) (pad_cons (v_ 0) (pad_cons (v_ 6) pad_nil))) (pad_cons (v_ 4) pad_nil))))))))))))) (pu__law_strike K)
theorem ok__law_strike (c : Ev fa fn K mg) : Fg P w K mg base 9 (d__law_strike.ad K) (sp__law_strike K) [] := by
  obtain ⟨fd, F⟩ := c.def_ 23 (d := d__law_strike) rfl
  exact fg_n (ps := ["store", "widest"]) F (fun _ _ _ _ _ _ us hl => match us, hl with | [_, _], _ => rfl) (fo__law_strike c F)
theorem sc__law_struck_last : FnScope n__law_struck_last ["old", "new", "x"] (defScope s__law_struck_last) := ⟨rfl, rfl, rfl, by decide +kernel, rfl, by decide +kernel, by decide +kernel⟩
theorem sn__law_struck_last (K : PySem.W.Frag) : SpN 3 (sp__law_struck_last K) := ⟨fun _ _ _ _ h => A3_len h⟩
theorem fo__law_struck_last (c : Ev fa fn K mg) {fd : FuncData} (F : FunD K d__law_struck_last.name d__law_struck_last.qual d__law_struck_last.params d__law_struck_last.body d__law_struck_last.scope (d__law_struck_last.dvs K) (d__law_struck_last.kws K) (d__law_struck_last.ad K) fd) : FnOk P w K mg base (L2N.CX P w) 1 (d__law_struck_last.ad K) fd ["old", "new", "x"] (liftSp K (sp__law_struck_last K)) :=
  fn_p F sc__law_struck_last (sn__law_struck_last K) rfl (fun cdv A outer s H E hr =>
    (pssd_cons (s_ (sc__law_struck_last).nd 3 (pd_rfind (v_ 1) (v_ 2)))
    (pssd_one (psd_ret (pd_and (pd_ge (v_ 3) pd_int) (pd_one (pd_eq hr.units (pd_add (pd_slice (v_ 1) pod_none (pod_some (v_ 3))) (pd_slice (v_ 1) (pod_some (pd_add (v_ 3) pd_int)) pod_none)) (v_ 0)))))))) (pu__law_struck_last K)
theorem ok__law_struck_last (c : Ev fa fn K mg) : Fg P w K mg base 1 (d__law_struck_last.ad K) (sp__law_struck_last K) [] := by
  obtain ⟨fd, F⟩ := c.def_ 24 (d := d__law_struck_last) rfl
  exact fg_n (ps := ["old", "new", "x"]) F (fun _ _ _ _ _ _ us hl => match us, hl with | [_, _, _], _ => rfl) (fo__law_struck_last c F)
theorem sc_strikes_last : FnScope n_strikes_last ["old", "new", "x"] (defScope s_strikes_last) := ⟨rfl, rfl, rfl, by decide +kernel, rfl, by decide +kernel, by decide +kernel⟩
theorem sn_strikes_last (K : PySem.W.Frag) : SpN 3 (sp_strikes_last K) := ⟨fun _ _ _ _ h => A3_len h⟩
theorem fo_strikes_last (c : Ev fa fn K mg) {fd : FuncData} (F : FunD K d_strikes_last.name d_strikes_last.qual d_strikes_last.params d_strikes_last.body d_strikes_last.scope (d_strikes_last.dvs K) (d_strikes_last.kws K) (d_strikes_last.ad K) fd) : FnOk P w K mg base (L2N.CX P w) 1 (d_strikes_last.ad K) fd ["old", "new", "x"] (liftSp K (sp_strikes_last K)) :=
  fn_p F sc_strikes_last (sn_strikes_last K) rfl (fun cdv A outer s H E hr =>
    (pssd_cons (s_ (sc_strikes_last).nd 3 (pd_rfind (v_ 1) (v_ 2)))
    (pssd_one (psd_ret (pd_and (pd_ge (v_ 3) pd_int) (pd_one (pd_eq hr.units (pd_add (pd_slice (v_ 1) pod_none (pod_some (v_ 3))) (pd_slice (v_ 1) (pod_some (pd_add (v_ 3) pd_int)) pod_none)) (v_ 0)))))))) (pu_strikes_last K)
theorem ok_strikes_last (c : Ev fa fn K mg) : Fg P w K mg base 1 (d_strikes_last.ad K) (sp_strikes_last K) [] := by
  obtain ⟨fd, F⟩ := c.def_ 25 (d := d_strikes_last) rfl
  exact fg_n (ps := ["old", "new", "x"]) F (fun _ _ _ _ _ _ us hl => match us, hl with | [_, _, _], _ => rfl) (fo_strikes_last c F)
theorem okk_strikes_last_0_new_x_old (c : Ev fa fn K mg) : Fk P w K mg base 1 (d_strikes_last.ad K) (sp_strikes_last K) 0 ["new", "x", "old"] [2, 0, 1] := by
  obtain ⟨fd, F⟩ := c.def_ 25 (d := d_strikes_last) rfl
  exact fk_n (ps := ["old", "new", "x"]) F 0 _ _ (fun _ _ _ _ _ _ us ws hl hk => match us, ws, hl, hk with | [], [_, _, _], _, _ => rfl) (fo_strikes_last c F)
theorem sc_common_front : FnScope n_common_front ["old", "new"] (defScope s_common_front) := ⟨rfl, rfl, rfl, by decide +kernel, rfl, by decide +kernel, by decide +kernel⟩
theorem sn_common_front (K : PySem.W.Frag) : SpN 2 (sp_common_front K) := ⟨fun _ _ _ _ h => A2_len h⟩
theorem fo_common_front (c : Ev fa fn K mg) {fd : FuncData} (F : FunD K d_common_front.name d_common_front.qual d_common_front.params d_common_front.body d_common_front.scope (d_common_front.dvs K) (d_common_front.kws K) (d_common_front.ad K) fd) : FnOk P w K mg base (L2N.CX P w) 1 (d_common_front.ad K) fd ["old", "new"] (liftSp K (sp_common_front K)) :=
  fn_p F sc_common_front (sn_common_front K) rfl (fun cdv A outer s H E hr =>
    (pssd_cons (s_ (sc_common_front).nd 2 pd_int)
    (pssd_cons (psd_for PassesOwn.never rfl (pid_zipS rfl (fb_zip c) (pad_cons (v_ 0) (pad_cons (v_ 1) pad_nil))) (pgd_tup rfl (pgsd_cons (g_ (sc_common_front).nd 3) (pgsd_cons (g_ (sc_common_front).nd 4) pgsd_nil)))
    (pssd_cons (psd_if (pt_ne hr.units (v_ 3) (v_ 4))
    (pssd_one psd_break)
    pssd_nil)
    (pssd_one (psd_addI (sc_common_front).nd 2 pd_int))))
    (pssd_one (psd_ret (v_ 2)))))) (pu_common_front K)
theorem ok_common_front (c : Ev fa fn K mg) : Fg P w K mg base 1 (d_common_front.ad K) (sp_common_front K) [] := by
  obtain ⟨fd, F⟩ := c.def_ 26 (d := d_common_front) rfl
  exact fg_n (ps := ["old", "new"]) F (fun _ _ _ _ _ _ us hl => match us, hl with | [_, _], _ => rfl) (fo_common_front c F)
theorem sc_free_places : FnScope n_free_places ["old", "new", "c"] (defScope s_free_places) := ⟨rfl, rfl, rfl, by decide +kernel, rfl, by decide +kernel, by decide +kernel⟩
theorem sn_free_places (K : PySem.W.Frag) : SpN 3 (sp_free_places K) := ⟨fun _ _ _ _ h => A3_len h⟩
theorem fo_free_places (c : Ev fa fn K mg) {fd : FuncData} (F : FunD K d_free_places.name d_free_places.qual d_free_places.params d_free_places.body d_free_places.scope (d_free_places.dvs K) (d_free_places.kws K) (d_free_places.ad K) fd) : FnOk P w K mg base (L2N.CX P w) 3 (d_free_places.ad K) fd ["old", "new", "c"] (liftSp K (sp_free_places K)) :=
  fn_p F sc_free_places (sn_free_places K) rfl (fun cdv A outer s H E hr =>
    (pssd_cons (psd_if (pt_ne hr.units (pd_callB call_len ok_len rfl (fb_len c) (by decide +kernel) (pad_cons (v_ 1) pad_nil)) (pd_add (pd_callB call_len ok_len rfl (fb_len c) (by decide +kernel) (pad_cons (v_ 0) pad_nil)) pd_int))
    (pssd_one (psd_ret pd_non))
    pssd_nil)
    (pssd_cons (s_ (sc_free_places).nd 3 (pd_cl (ok_common_front c) (hr.mono (by decide)) rfl (fg_common_front c) (pad_cons (v_ 0) (pad_cons (v_ 1) pad_nil))))
    (pssd_cons (s_ (sc_free_places).nd 4 (pd_sub (pd_callB call_len ok_len rfl (fb_len c) (by decide +kernel) (pad_cons (v_ 0) pad_nil)) (pd_cl (ok_common_front c) (hr.mono (by decide)) rfl (fg_common_front c) (pad_cons (pd_rev (v_ 0)) (pad_cons (pd_rev (v_ 1)) pad_nil)))))
    (pssd_cons (psd_if (ptd_w (pwd_or (pt_gt (v_ 4) (v_ 3)) (pwd_or1 (pt_ne hr.units (pd_ix (v_ 1) (v_ 3) (fun _ _ => rfl)) (v_ 2)))))
    (pssd_one (psd_ret pd_non))
    pssd_nil)
    (pssd_one (psd_ret (pd_tup (pad_cons (v_ 4) (pad_cons (v_ 3) pad_nil)))))))))) (pu_free_places K)
theorem ok_free_places (c : Ev fa fn K mg) : Fg P w K mg base 3 (d_free_places.ad K) (sp_free_places K) [] := by
  obtain ⟨fd, F⟩ := c.def_ 27 (d := d_free_places) rfl
  exact fg_n (ps := ["old", "new", "c"]) F (fun _ _ _ _ _ _ us hl => match us, hl with | [_, _, _], _ => rfl) (fo_free_places c F)
theorem sc_strikes_some : FnScope n_strikes_some ["old", "new", "c"] (defScope s_strikes_some) := ⟨rfl, rfl, rfl, by decide +kernel, rfl, by decide +kernel, by decide +kernel⟩
theorem sn_strikes_some (K : PySem.W.Frag) : SpN 3 (sp_strikes_some K) := ⟨fun _ _ _ _ h => A3_len h⟩
theorem fo_strikes_some (c : Ev fa fn K mg) {fd : FuncData} (F : FunD K d_strikes_some.name d_strikes_some.qual d_strikes_some.params d_strikes_some.body d_strikes_some.scope (d_strikes_some.dvs K) (d_strikes_some.kws K) (d_strikes_some.ad K) fd) : FnOk P w K mg base (L2N.CX P w) 5 (d_strikes_some.ad K) fd ["old", "new", "c"] (liftSp K (sp_strikes_some K)) :=
  fn_p F sc_strikes_some (sn_strikes_some K) rfl (fun cdv A outer s H E hr =>
    (pssd_one (psd_ret (pd_isnot (pd_cl (ok_free_places c) (hr.mono (by decide)) rfl (fg_free_places c) (pad_cons (v_ 0) (pad_cons (v_ 1) (pad_cons (v_ 2) pad_nil)))) pd_non)))) (pu_strikes_some K)
theorem ok_strikes_some (c : Ev fa fn K mg) : Fg P w K mg base 5 (d_strikes_some.ad K) (sp_strikes_some K) [] := by
  obtain ⟨fd, F⟩ := c.def_ 28 (d := d_strikes_some) rfl
  exact fg_n (ps := ["old", "new", "c"]) F (fun _ _ _ _ _ _ us hl => match us, hl with | [_, _, _], _ => rfl) (fo_strikes_some c F)
theorem okk_strikes_some_0_new_old_c (c : Ev fa fn K mg) : Fk P w K mg base 5 (d_strikes_some.ad K) (sp_strikes_some K) 0 ["new", "old", "c"] [1, 0, 2] := by
  obtain ⟨fd, F⟩ := c.def_ 28 (d := d_strikes_some) rfl
  exact fk_n (ps := ["old", "new", "c"]) F 0 _ _ (fun _ _ _ _ _ _ us ws hl hk => match us, ws, hl, hk with | [], [_, _, _], _, _ => rfl) (fo_strikes_some c F)
theorem sc__law_strikes_right : FnScope n__law_strikes_right ["old", "new", "x", "named"] (defScope s__law_strikes_right) := ⟨rfl, rfl, rfl, by decide +kernel, rfl, by decide +kernel, by decide +kernel⟩
theorem sn__law_strikes_right (K : PySem.W.Frag) : SpN 4 (sp__law_strikes_right K) := ⟨fun _ _ _ _ h => A4_len h⟩
theorem fo__law_strikes_right (c : Ev fa fn K mg) {fd : FuncData} (F : FunD K d__law_strikes_right.name d__law_strikes_right.qual d__law_strikes_right.params d__law_strikes_right.body d__law_strikes_right.scope (d__law_strikes_right.dvs K) (d__law_strikes_right.kws K) (d__law_strikes_right.ad K) fd) : FnOk P w K mg base (L2N.CX P w) 7 (d__law_strikes_right.ad K) fd ["old", "new", "x", "named"] (liftSp K (sp__law_strikes_right K)) :=
  fn_p F sc__law_strikes_right (sn__law_strikes_right K) rfl (fun cdv A outer s H E hr =>
    (pssd_cons (s_ (sc__law_strikes_right).nd 4 (pd_lst (pad_cons (pd_cl (ok__law_struck c) (hr.mono (by decide)) rfl (fg__law_struck c) (pad_cons (v_ 0) (pad_cons (v_ 1) (pad_cons (v_ 2) pad_nil)))) (pad_cons (pd_cl (ok__law_struck_last c) (hr.mono (by decide)) rfl (fg__law_struck_last c) (pad_cons (v_ 0) (pad_cons (v_ 1) (pad_cons (v_ 2) pad_nil)))) pad_nil))))
    (pssd_cons (psd_if (pd_val (v_ 3))
    (pssd_one (psd_ret (pd_cl (ok__law_like c) (hr.mono (by decide)) rfl (fg__law_like c) (pad_cons (pd_lst (pad_cons (pd_clK0 (okk_strikes_some_0_new_old_c c) (hr.mono (by decide)) rfl (fg_strikes_some c) (pkd_cons (v_ 1) (pkd_cons (v_ 0) (pkd_cons (v_ 2) pkd_nil)))) (pad_cons (pd_clK0 (okk_strikes_last_0_new_x_old c) (hr.mono (by decide)) rfl (fg_strikes_last c) (pkd_cons (v_ 1) (pkd_cons (v_ 2) (pkd_cons (v_ 0) pkd_nil)))) pad_nil))) (pad_cons (v_ 4) pad_nil)))))
    pssd_nil)
    (pssd_one (psd_ret (pd_cl (ok__law_like c) (hr.mono (by decide)) rfl (fg__law_like c) (pad_cons (pd_lst (pad_cons (pd_cl (ok_strikes_some c) (hr.mono (by decide)) rfl (fg_strikes_some c) (pad_cons (v_ 0) (pad_cons (v_ 1) (pad_cons (v_ 2) pad_nil)))) (pad_cons (pd_cl (ok_strikes_last c) (hr.mono (by decide)) rfl (fg_strikes_last c) (pad_cons (v_ 0) (pad_cons (v_ 1) (pad_cons (v_ 2) pad_nil)))) pad_nil))) (pad_cons (v_ 4) pad_nil)))))))) (pu__law_strikes_right K)
theorem ok__law_strikes_right (c : Ev fa fn K mg) : Fg P w K mg base 7 (d__law_strikes_right.ad K) (sp__law_strikes_right K) [] := by
  obtain ⟨fd, F⟩ := c.def_ 29 (d := d__law_strikes_right) rfl
  exact fg_n (ps := ["old", "new", "x", "named"]) F (fun _ _ _ _ _ _ us hl => match us, hl with | [_, _, _, _], _ => rfl) (fo__law_strikes_right c F)
theorem sc__law_round_right : FnScope n__law_round_right ["store", "widest"] (defScope s__law_round_right) := ⟨rfl, rfl, rfl, by decide +kernel, rfl, by decide +kernel, by decide +kernel⟩
theorem sn__law_round_right (K : PySem.W.Frag) : SpN 2 (sp__law_round_right K) := ⟨fun _ _ _ _ h => A2_len h⟩
theorem fo__law_round_right (c : Ev fa fn K mg) {fd : FuncData} (F : FunD K d__law_round_right.name d__law_round_right.qual d__law_round_right.params d__law_round_right.body d__law_round_right.scope (d__law_round_right.dvs K) (d__law_round_right.kws K) (d__law_round_right.ad K) fd) : FnOk P w K mg base (L2N.CX P w) 11 (d__law_round_right.ad K) fd ["store", "widest"] (liftSp K (sp__law_round_right K)) :=
  fn_p F sc__law_round_right (sn__law_round_right K) rfl (fun cdv A outer s H E hr =>
    (pssd_cons (psd_asg (pd_cl (ok__law_strike c) (hr.mono (by decide)) rfl (fg__law_strike c) (pad_cons (v_ 0) (pad_cons (v_ 1) pad_nil))) (pgd_tup rfl (pgsd_cons (g_ (sc__law_round_right).nd 2) (pgsd_cons (g_ (sc__law_round_right).nd 3) (pgsd_cons (g_ (sc__law_round_right).nd 4) pgsd_nil)))))
    (pssd_consC (psd_if (pt_eq hr.units (pd_cl (ok__law_take c) (hr.mono (by decide)) rfl (fg__law_take c) (pad_cons (v_ 0) (pad_cons pd_int pad_nil))) pd_int)
    (pssd_one (s_ (sc__law_round_right).nd 3 (pd_cl (ok__law_moved c) (hr.mono (by decide)) rfl (fg__law_moved c) (pad_cons (v_ 0) (pad_cons (v_ 3) (pad_cons (v_ 4) pad_nil))))))
    pssd_nil)
    (pssd_cons (s_ (sc__law_round_right).nd 5 (pd_cl (ok__law_yes c) (hr.mono (by decide)) rfl (fg__law_yes c) (pad_cons (v_ 0) (pad_cons pd_int pad_nil))))
    (pssd_cons (psd_if (ptd_w (pwd_or (ptd_not (pd_val (pd_cl (ok__law_fault_right c) (hr.mono (by decide)) rfl (fg__law_fault_right c) (pad_cons (v_ 2) (pad_cons (v_ 3) (pad_cons (v_ 4) (pad_cons (v_ 5) pad_nil))))))) (pwd_or1 (ptd_not (pd_val (pd_cl (ok__law_fault_right c) (hr.mono (by decide)) rfl (fg__law_fault_right c) (pad_cons (v_ 2) (pad_cons (pd_cl (ok__law_shaken c) (hr.mono (by decide)) rfl (fg__law_shaken c) (pad_cons (v_ 0) (pad_cons (v_ 2) pad_nil))) (pad_cons pd_str (pad_cons (v_ 5) pad_nil))))))))))
    (pssd_one (psd_ret pd_bl))
    pssd_nil)
    (pssd_cons (s_ (sc__law_round_right).nd 6 (pd_cl (ok__law_take c) (hr.mono (by decide)) rfl (fg__law_take c) (pad_cons (v_ 0) (pad_cons (pd_callB call_len ok_len rfl (fb_len c) (by decide +kernel) (pad_cons (v_ 3) pad_nil)) pad_nil))))
    (pssd_cons (s_ (sc__law_round_right).nd 7 (pd_cl (ok__law_of c) (hr.mono (by decide)) rfl (fg__law_of c) (pad_cons (v_ 0) (pad_cons (pd_add (pd_cl0 (ok__law_ascii c) (hr.mono (by decide)) rfl (fg__law_ascii c)) (v_ 2)) pad_nil))))
    (pssd_cons (s_ (sc__law_round_right).nd 8 (pd_add (pd_add (pd_slice (v_ 3) pod_none (pod_some (v_ 6))) (v_ 7)) (pd_slice (v_ 3) (pod_some (pd_add (v_ 6) pd_int)) pod_none)))
    (pssd_cons (s_ (sc__law_round_right).nd 9 (pd_lst (pad_cons (v_ 2) (pad_cons (pd_slice (pd_add (v_ 3) (v_ 4)) pod_none (pod_some pd_int)) (pad_cons (pd_slice (pd_add (v_ 3) (v_ 7)) pod_none (pod_some pd_int)) (pad_cons (pd_add (pd_slice (v_ 3) pod_none (pod_some (v_ 6))) (pd_slice (v_ 3) (pod_some (pd_add (v_ 6) pd_int)) pod_none)) (pad_cons (v_ 8) (pad_cons (pd_cl (ok__law_shaken c) (hr.mono (by decide)) rfl (fg__law_shaken c) (pad_cons (v_ 0) (pad_cons (v_ 8) pad_nil))) pad_nil))))))))
    (pssd_cons (s_ (sc__law_round_right).nd 10 (pd_cl (ok__law_of c) (hr.mono (by decide)) rfl (fg__law_of c) (pad_cons (v_ 0) (pad_cons (v_ 9) pad_nil))))
    (pssd_cons (psd_if (ptd_w (pwd_or (ptd_not (pd_val (pd_cl (ok__law_fault_right c) (hr.mono (by decide)) rfl (fg__law_fault_right c) (pad_cons (v_ 2) (pad_cons (v_ 10) (pad_cons (v_ 4) (pad_cons (v_ 5) pad_nil))))))) (pwd_or1 (ptd_not (pd_val (pd_cl (ok__law_fault_right c) (hr.mono (by decide)) rfl (fg__law_fault_right c) (pad_cons (v_ 3) (pad_cons (v_ 2) (pad_cons (v_ 4) (pad_cons (v_ 5) pad_nil))))))))))
    (pssd_one (psd_ret pd_bl))
    pssd_nil)
    (pssd_cons (psd_if (ptd_w (pwd_or (ptd_not (pd_val (pd_cl (ok__law_fault_right c) (hr.mono (by decide)) rfl (fg__law_fault_right c) (pad_cons (v_ 2) (pad_cons (v_ 3) (pad_cons (v_ 7) (pad_cons (v_ 5) pad_nil))))))) (pwd_or1 (ptd_not (pd_val (pd_cl (ok__law_fault_right c) (hr.mono (by decide)) rfl (fg__law_fault_right c) (pad_cons (v_ 2) (pad_cons (v_ 10) (pad_cons pd_str (pad_cons (v_ 5) pad_nil))))))))))
    (pssd_one (psd_ret pd_bl))
    pssd_nil)
    (pssd_cons (psd_for PassesOwn.never rfl (pid_any (pd_tup (pad_cons (v_ 4) (pad_cons (v_ 7) (pad_cons (pd_cl (ok__law_of c) (hr.mono (by decide)) rfl (fg__law_of c) (pad_cons (v_ 0) (pad_cons (v_ 3) pad_nil))) pad_nil))))) (g_ (sc__law_round_right).nd 11)
    (pssd_one (psd_if (ptd_w (pwd_or (ptd_not (pd_val (pd_cl (ok__law_strikes_right c) (hr.mono (by decide)) rfl (fg__law_strikes_right c) (pad_cons (v_ 2) (pad_cons (v_ 3) (pad_cons (v_ 11) (pad_cons (v_ 5) pad_nil))))))) (pwd_or1 (ptd_not (pd_val (pd_cl (ok__law_strikes_right c) (hr.mono (by decide)) rfl (fg__law_strikes_right c) (pad_cons (v_ 2) (pad_cons (v_ 10) (pad_cons (v_ 11) (pad_cons (v_ 5) pad_nil))))))))))
    (pssd_one (psd_ret pd_bl))
    pssd_nil)))
    (pssd_one (psd_ret (pd_and (pd_cl (ok__law_strikes_right c) (hr.mono (by decide)) rfl (fg__law_strikes_right c) (pad_cons (v_ 3) (pad_cons (v_ 2) (pad_cons (v_ 4) (pad_cons (v_ 5) pad_nil))))) (pd_one (pd_cl (ok__law_strikes_right c) (hr.mono (by decide)) rfl (fg__law_strikes_right c) (pad_cons pd_str (pad_cons (v_ 4) (pad_cons (v_ 4) (pad_cons (v_ 5) pad_nil)))))))))))))))))))))) (pu__law_round_right K)
theorem ok__law_round_right (c : Ev fa fn K mg) : Fg P w K mg base 11 (d__law_round_right.ad K) (sp__law_round_right K) [] := by
  obtain ⟨fd, F⟩ := c.def_ 30 (d := d__law_round_right) rfl
  exact fg_n (ps := ["store", "widest"]) F (fun _ _ _ _ _ _ us hl => match us, hl with | [_, _], _ => rfl) (fo__law_round_right c F)
theorem sc__law_rounds : FnScope n__law_rounds ["widest"] (defScope s__law_rounds) := ⟨rfl, rfl, rfl, by decide +kernel, rfl, by decide +kernel, by decide +kernel⟩
theorem sn__law_rounds (K : PySem.W.Frag) : SpN 1 (sp__law_rounds K) := ⟨fun _ _ _ _ h => A1_len h⟩
theorem fo__law_rounds (c : Ev fa fn K mg) {fd : FuncData} (F : FunD K d__law_rounds.name d__law_rounds.qual d__law_rounds.params d__law_rounds.body d__law_rounds.scope (d__law_rounds.dvs K) (d__law_rounds.kws K) (d__law_rounds.ad K) fd) : FnOk P w K mg base (L2N.CX P w) 1 (d__law_rounds.ad K) fd ["widest"] (liftSp K (sp__law_rounds K)) :=
  fn_p F sc__law_rounds (sn__law_rounds K) rfl (fun cdv A outer s H E hr =>
    (pssd_cons (psd_if (pt_gt (v_ 0) pd_int)
    (pssd_one (psd_ret pd_int))
    pssd_nil)
    (pssd_one (psd_ret pd_int)))) (pu__law_rounds K)
theorem ok__law_rounds (c : Ev fa fn K mg) : Fg P w K mg base 1 (d__law_rounds.ad K) (sp__law_rounds K) [] := by
  obtain ⟨fd, F⟩ := c.def_ 31 (d := d__law_rounds) rfl
  exact fg_n (ps := ["widest"]) F (fun _ _ _ _ _ _ us hl => match us, hl with | [_], _ => rfl) (fo__law_rounds c F)
theorem sc__law_store : FnScope n__law_store ["script"] (defScope s__law_store) := ⟨rfl, rfl, rfl, by decide +kernel, rfl, by decide +kernel, by decide +kernel⟩
theorem sn__law_store (K : PySem.W.Frag) : SpN 1 (sp__law_store K) := ⟨fun _ _ _ _ h => A1_len h⟩
theorem fo__law_store (c : Ev fa fn K mg) {fd : FuncData} (F : FunD K d__law_store.name d__law_store.qual d__law_store.params d__law_store.body d__law_store.scope (d__law_store.dvs K) (d__law_store.kws K) (d__law_store.ad K) fd) : FnOk P w K mg base (L2N.CX P w) 3 (d__law_store.ad K) fd ["script"] (liftSp K (sp__law_store K)) :=
  fn_p F sc__law_store (sn__law_store K) rfl (fun cdv A outer s H E hr =>
    (pssd_cons (s_ (sc__law_store).nd 1 (pd_mul (pd_mul (pd_mul (pd_pow pd_int pd_int) (pd_pow pd_int pd_int)) (pd_pow pd_int pd_int)) (pd_pow pd_int pd_int)))
    (pssd_cons (s_ (sc__law_store).nd 2 (pd_lstM pad_nil))
    (pssd_cons (s_ (sc__law_store).nd 3 (pd_lstM pad_nil))
    (pssd_cons (s_ (sc__law_store).nd 4 pd_int)
    (pssd_cons (psd_for PassesOwn.never rfl (pid_rng1 rfl (fb_range c) (pad_cons (pd_callB (call_minA rfl) ok_minA rfl (fb_min c) (by decide +kernel) (pad_cons (pd_callB call_len ok_len rfl (fb_len c) (by decide +kernel) (pad_cons (v_ 0) pad_nil)) (pad_cons pd_int pad_nil))) pad_nil)) (g_ (sc__law_store).nd 5)
    (pssd_cons (s_ (sc__law_store).nd 6 (pd_callTy call_int1 ok_int rfl (fb_int c) (by decide +kernel) (pad_cons (pd_ix (v_ 0) (v_ 5) (fun _ _ => rfl)) pad_nil)))
    (pssd_cons (s_ (sc__law_store).nd 7 (pd_mod (pd_callTy call_int1 ok_int rfl (fb_int c) (by decide +kernel) (pad_cons (v_ 6) pad_nil)) pd_int))
    (pssd_cons (s_ (sc__law_store).nd 4 (pd_cl (ok__law_mix c) (hr.mono (by decide)) rfl (fg__law_mix c) (pad_cons (pd_add (v_ 4) (v_ 7)) (pad_cons (pd_add (v_ 5) pd_int) pad_nil))))
    (pssd_one (psd_if (pt_lt (v_ 6) (pd_pow pd_int pd_int))
    (pssd_cons (psd_expr (pd_append (v_ 2) (pad_cons (pd_cl (ok__law_mix c) (hr.mono (by decide)) rfl (fg__law_mix c) (pad_cons (v_ 7) (pad_cons (pd_add (v_ 5) pd_int) pad_nil))) pad_nil)))
    (pssd_one (psd_expr (pd_append (v_ 3) (pad_cons pd_int pad_nil)))))
    (pssd_one (psd_if (pt_gt (pd_mod (pd_callTy call_int1 ok_int rfl (fb_int c) (by decide +kernel) (pad_cons (v_ 6) pad_nil)) (v_ 1)) pd_int)
    (pssd_cons (psd_expr (pd_append (v_ 2) (pad_cons (pd_mod (pd_callTy call_int1 ok_int rfl (fb_int c) (by decide +kernel) (pad_cons (v_ 6) pad_nil)) (v_ 1)) pad_nil)))
    (pssd_one (psd_expr (pd_append (v_ 3) (pad_cons pd_int pad_nil)))))
    pssd_nil))))))))
    (pssd_one (psd_ret (pd_lstM (pad_cons (v_ 2) (pad_cons (v_ 3) (pad_cons pd_int (pad_cons (v_ 4) (pad_cons pd_int pad_nil)))))))))))))) (pu__law_store K)
theorem ok__law_store (c : Ev fa fn K mg) : Fg P w K mg base 3 (d__law_store.ad K) (sp__law_store K) [] := by
  obtain ⟨fd, F⟩ := c.def_ 32 (d := d__law_store) rfl
  exact fg_n (ps := ["script"]) F (fun _ _ _ _ _ _ us hl => match us, hl with | [_], _ => rfl) (fo__law_store c F)
theorem sc_law : FnScope n_law ["script"] (defScope s_law) := ⟨rfl, rfl, rfl, by decide +kernel, rfl, by decide +kernel, by decide +kernel⟩
theorem sn_law (K : PySem.W.Frag) : SpN 1 (sp_law K) := ⟨fun _ _ _ _ h => A1_len h⟩
theorem fo_law (c : Ev fa fn K mg) {fd : FuncData} (F : FunD K d_law.name d_law.qual d_law.params d_law.body d_law.scope (d_law.dvs K) (d_law.kws K) (d_law.ad K) fd) : FnOk P w K mg base (L2N.CX P w) 13 (d_law.ad K) fd ["script"] (liftSp K (sp_law K)) :=
  fn_p F sc_law (sn_law K) rfl (fun cdv A outer s H E hr =>
    (pssd_cons (s_ (sc_law).nd 1 (pd_cl (ok__law_store c) (hr.mono (by decide)) rfl (fg__law_store c) (pad_cons (v_ 0) pad_nil)))
    (pssd_cons (s_ (sc_law).nd 2 (pd_cl (ok__law_of c) (hr.mono (by decide)) rfl (fg__law_of c) (pad_cons (v_ 1) (pad_cons (pd_tup (pad_cons pd_int (pad_cons pd_int (pad_cons pd_int (pad_cons pd_int (pad_cons pd_int (pad_cons pd_int (pad_cons pd_int (pad_cons pd_int pad_nil))))))))) pad_nil))))
    (pssd_cons (psd_for PassesOwn.never rfl (pid_rng1 rfl (fb_range c) (pad_cons (pd_cl (ok__law_rounds c) (hr.mono (by decide)) rfl (fg__law_rounds c) (pad_cons (v_ 2) pad_nil)) pad_nil)) (g_ (sc_law).nd 3)
    (pssd_one (psd_if (ptd_not (pd_val (pd_cl (ok__law_round_right c) (hr.mono (by decide)) rfl (fg__law_round_right c) (pad_cons (v_ 1) (pad_cons (v_ 2) pad_nil)))))
    (pssd_one (psd_ret pd_bl))
    pssd_nil)))
    (pssd_one (psd_ret pd_bl)))))) (pu_law K)
theorem ok_law (c : Ev fa fn K mg) : Fg P w K mg base 13 (d_law.ad K) (sp_law K) [] := by
  obtain ⟨fd, F⟩ := c.def_ 33 (d := d_law) rfl
  exact fg_n (ps := ["script"]) F (fun _ _ _ _ _ _ us hl => match us, hl with | [_], _ => rfl) (fo_law c F)
end
end Hd
namespace Hd
open PySem PySem.Spec PyProof.Rows L2 N
theorem facts {P : Program} {w : World} {K : PySem.W.Frag} {h : Heap} {mg : Str → Option Value} {f : Addr} (X : K.In h) (G : h.Ns mainGlobals mg) (hfa : mg ("law" : Str) = some (.ref f)) (c : SaysN fa fn K) :
    ∃ fd : FuncData, (∀ (s : Shared) (v : Value), BindsTo s fd ⟨[v], []⟩ [("script", v)]) ∧ ∀ base : Heap, K.In base → base.Ns mainGlobals mg → FnOk P w K mg base CX0 13 f fd ["script"] (fun vs H Q _ => liftSp K (sp_law K) vs H Q E0) := by
  have e : Ev fa fn K mg := ⟨⟨h, X, G⟩, c⟩
  obtain ⟨fd, F⟩ := e.def_ 33 (d := d_law) rfl
  have ea := hfa.symm.trans (fg_law e)
  cases ea
  have b := FunD.bindsA (ps := ["script"]) F fun _ _ _ _ _ _ us hl => match us, hl with | [_], _ => rfl
  exact ⟨fd, fun s v => b s [v] rfl, fun base _ _ => fn_cx0 (fo_law e F)⟩
end Hd
open PySem PySem.W PySem.Calls PyProof.Rows
theorem PySem.Challenge.cw_nonepassed_k17_fault_exactly_where_no_st_holds : PySem.Challenge.rw_nonepassed_k17_fault_exactly_where_no_st.Holds := by
  w_on; o_law
  refine HandSHeadRun.head_any (r := OpenLaw.row PySem.Challenge.rw_nonepassed_k17_fault_exactly_where_no_st) (q := view (OpenLaw.row PySem.Challenge.rw_nonepassed_k17_fault_exactly_where_no_st).prog [75]) (H := Hd.hk) (ob := Hd.ob) (M := 30000) (loose := Hd.nms) (d := HandSHeadRun.topDef (OpenLaw.row PySem.Challenge.rw_nonepassed_k17_fault_exactly_where_no_st).prog 75) (kwd := []) Hd.ob_eq
    (by kernel_rfl) (fun s => by kernel_rfl) Hd.run (by kernel_rfl) (by kernel_rfl) (by kernel_rfl) (by rfl) (by first | assumption | decide +kernel) (by decide +kernel) ⟨rfl, rfl, rfl, rfl, rfl, by decide +kernel⟩ ?hw ?hc
  case hw => w_witness2
  case hc =>
    refine L2.walk_ofE (l := PySem.Challenge.rw_nonepassed_k17_fault_exactly_where_no_st) (n := 63) (k := 13) (x := "script") (CX := L2.CX0) rfl (by decide) (by kernel_rfl) ⟨rfl, by decide, by decide⟩ ?F (fun _ _ _ _ z => z)
    intro w mg fa h Y G hmg0
    obtain ⟨K, KX, c⟩ := Y
    have hmg : mg ("law" : PySem.Str) = some (.ref fa) := by
      have e : (HandSHeadRun.topDef (OpenLaw.row PySem.Challenge.rw_nonepassed_k17_fault_exactly_where_no_st).prog 75).name = ("law" : PySem.Str) := by kernel_rfl
      rw [← e]
      exact hmg0
    obtain ⟨fd, hb, hF⟩ := Hd.facts (P := (PySem.Challenge.rw_nonepassed_k17_fault_exactly_where_no_st).prog) (w := w) KX G hmg c
    exact ⟨K, fd, (fun vs H Q _ => N.liftSp K (N.sp_law K) vs H Q L2.E0), KX, hb, fun H a ns hl hO hS => N.law_in hl hO hS, hF⟩
