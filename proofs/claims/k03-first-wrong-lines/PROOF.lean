import PyProof.Rows.All
import Wide.All
import OpenK.AllK
import Wide.FinOn
import KE.KStateDown
import HandS.ForMost
import HandS.ForSpec
import HandS.ExcInit
import HandS.IsInst
import HandS.OwnEq
import HandS.DictComp
import HandS.Flow
import HandS.More
import HandS.Defaults
import HandS.Lambda
import HandS.SetKeys
import HandS.CallSlots
import HandS.Walk
import HandS.Zip
import KE.GoesEnum
import HandS.HeadWalk
import HandS.Wide
import HandS.TupAny
import HandS.Text
import HandS.RaiseMore
import HandS.SetTxt0
import HandS.Strs
import PyProof.Rows.SortShellAny
import HandS.EndTab
import HandS.Head0
import HandS.Head1
import HandS.Head2
import HandS.HeadEnd
import HandS.HeadHook4
import KE.KExcIs
import HandS.ExcField
import HandS.ExcIs
import HandS.ClsMeth
import HandS.Style
import PySem.Challenge.RW_roadwarrant_k03_whole_first_wrong_lines
set_option Elab.async false
set_option linter.all false
set_option maxRecDepth 100000
set_option maxHeartbeats 8000000
/-! PX1: deep values over the layer: what stands still is plain data; what changes is a small store. -/
namespace L2
namespace PX
open PySem PySem.Spec PyProof.Rows

inductive PV where
  | non | bl (b : Bool) | int (i : Int) | str (x : Str) | ref (a : Addr) | ty (n : String)
  | tup (xs : List PV) | lst (xs : List PV) | dct (kvs : List (Key × PV)) | obj (C : Addr) (fs : List (Str × PV))
/-- what changes -/
inductive MO where
  | lst (xs : List PV) | dct (kvs : List (Key × PV)) | ins (C : Addr) (fs : List (Str × PV))
abbrev Sto := Addr → Option MO
def updS (S : Sto) (a : Addr) (o : MO) : Sto := fun b => if b = a then some o else S b
theorem updS_same {S : Sto} {a : Addr} {o : MO} : updS S a o a = some o := if_pos rfl
theorem updS_ne {S : Sto} {a b : Addr} {o : MO} (h : b ≠ a) : updS S a o b = S b := if_neg h
abbrev Slots := List (Option PV)
structure Exc where
  cls : Addr
  fs : List (Str × PV)
/-- the written part; the tables of the defs that make lambdas -/
structure Gk where
  K : PySem.W.Frag
  T : List (Addr × Str)

/-- what never changes stays -/
structure Imm (H H' : Hp) : Prop where
  tup : ∀ a xs, H a = some (.tup xs) → H' a = some (.tup xs)
  frz : ∀ a o u, H a = some (.frz o u) → H' a = some (.frz o u)
abbrev Grow (H H' : Hp) : Prop := ∀ a o, H a = some o → H' a = some o
theorem Imm.refl (H : Hp) : Imm H H := ⟨fun _ _ h => h, fun _ _ _ h => h⟩
theorem Imm.trans {H H1 H2 : Hp} (a : Imm H H1) (b : Imm H1 H2) : Imm H H2 := ⟨fun c xs h => b.tup c xs (a.tup c xs h), fun c o u h => b.frz c o u (a.frz c o u h)⟩
theorem Imm.of {H H' : Hp} (g : Grow H H') : Imm H H' := ⟨fun a xs h => g a _ h, fun a o u h => g a _ h⟩
theorem grow_upd {H : Hp} {p : Addr} {o : HO} (h : H p = none) : Grow H (upd H p o) := fun a u e => by rw [upd_ne (ne_of_none e h)]; exact e
theorem Grow.refl (H : Hp) : Grow H H := fun _ _ h => h
theorem Grow.trans {H H1 H2 : Hp} (a : Grow H H1) (b : Grow H1 H2) : Grow H H2 := fun c o h => b c o (a c o h)
/-- a plain thing that may be written -/
def Pl : HO → Prop
  | .lst _ => True
  | .dK _ => True
  | .ins _ _ _ => True
  | _ => False
theorem imm_upd {H : Hp} {a : Addr} {o u : HO} (h : H a = some o) (p : Pl o) : Imm H (upd H a u) :=
  ⟨fun b xs e => by
    have n : b ≠ a := fun z => by rw [z, h] at e; cases e; exact p
    rw [upd_ne n]; exact e, fun b o' u' e => by
    have n : b ≠ a := fun z => by rw [z, h] at e; cases e; exact p
    rw [upd_ne n]; exact e⟩

def KL (K : PySem.W.Frag) (a : Addr) (xs : List V) : Prop :=
  ∃ (o : Obj) (its : Array Value) (n : Nat), K.lookup a = some o ∧ o.cls = .type "list" ∧ o.dict = none ∧ o.data = .seq its n ∧ its.size ≤ sizeLine ∧ Vals xs its.toList
/-- a list that never changes -/
def FzL (K : PySem.W.Frag) (H : Hp) (a : Addr) (xs : List V) : Prop := (∃ o, H a = some (.frz o (.lst xs))) ∨ KL K a xs
theorem FzL.sq {K : PySem.W.Frag} {H : Hp} {a : Addr} {xs : List V} (h : FzL K H a xs) : SqL K H a xs := h.elim (fun ⟨o, e⟩ => .inl (.inr ⟨o, e⟩)) .inr
theorem FzL.imm {K : PySem.W.Frag} {H H' : Hp} {a : Addr} {xs : List V} (i : Imm H H') (h : FzL K H a xs) : FzL K H' a xs := h.elim (fun ⟨o, e⟩ => .inl ⟨o, i.frz _ _ _ e⟩) .inr
theorem sqT_imm {K : PySem.W.Frag} {H H' : Hp} {a : Addr} {xs : List V} (i : Imm H H') (h : SqT K H a xs) : SqT K H' a xs := by
  rcases h with (h | ⟨o, h⟩) | h
  · exact .inl (.inl (i.tup _ _ h))
  · exact .inl (.inr ⟨o, i.frz _ _ _ h⟩)
  · exact .inr h

mutual
inductive RV (K : PySem.W.Frag) (H : Hp) : PV → V → Prop
  | non : RV K H .non .non
  | bl (b : Bool) : RV K H (.bl b) (.bl b)
  | int (i : Int) : RV K H (.int i) (.int i)
  | str (x : Str) : RV K H (.str x) (.str x)
  | ref (a : Addr) : RV K H (.ref a) (.ref a)
  | ty (n : String) : RV K H (.ty n) (.ty n)
  | tup {a : Addr} {vs : List V} {xs : List PV} : SqT K H a vs → RVs K H xs vs → RV K H (.tup xs) (.ref a)
  | lst {a : Addr} {vs : List V} {xs : List PV} : FzL K H a vs → RVs K H xs vs → RV K H (.lst xs) (.ref a)
  | dct {a : Addr} {o : Obj} {gs : List (Key × V)} {ks : List (Key × PV)} : H a = some (.frz o (.dK gs)) → ks.map (·.1) = gs.map (·.1) → RVs K H (ks.map (·.2)) (gs.map (·.2)) → RV K H (.dct ks) (.ref a)
  | obj {a C dx : Addr} {o : Obj} {gs : List (Str × V)} {fs : List (Str × PV)} : H a = some (.frz o (.ins C dx gs)) → fs.map (·.1) = gs.map (·.1) → RVs K H (fs.map (·.2)) (gs.map (·.2)) → RV K H (.obj C fs) (.ref a)
inductive RVs (K : PySem.W.Frag) (H : Hp) : List PV → List V → Prop
  | nil : RVs K H [] []
  | cons {x : PV} {v : V} {xs : List PV} {vs : List V} : RV K H x v → RVs K H xs vs → RVs K H (x :: xs) (v :: vs)
end
mutual
theorem RV.imm {K : PySem.W.Frag} {H H' : Hp} (i : Imm H H') : ∀ {p : PV} {v : V}, RV K H p v → RV K H' p v
  | _, _, .non => .non
  | _, _, .bl b => .bl b
  | _, _, .int b => .int b
  | _, _, .str b => .str b
  | _, _, .ref b => .ref b
  | _, _, .ty b => .ty b
  | _, _, .tup h r => .tup (sqT_imm i h) (RVs.imm i r)
  | _, _, .lst h r => .lst (FzL.imm i h) (RVs.imm i r)
  | _, _, .dct h e r => .dct (i.frz _ _ _ h) e (RVs.imm i r)
  | _, _, .obj h e r => .obj (i.frz _ _ _ h) e (RVs.imm i r)
theorem RVs.imm {K : PySem.W.Frag} {H H' : Hp} (i : Imm H H') : ∀ {p : List PV} {v : List V}, RVs K H p v → RVs K H' p v
  | _, _, .nil => .nil
  | _, _, .cons h r => .cons (RV.imm i h) (RVs.imm i r)
end
section
variable {K : PySem.W.Frag} {H H' : Hp}
theorem RVs.length : ∀ {xs : List PV} {vs : List V}, RVs K H xs vs → xs.length = vs.length
  | _, _, .nil => rfl
  | _, _, .cons _ r => by simp [RVs.length r]
theorem RVs.get : ∀ {xs : List PV} {vs : List V} {i : Nat} {x : PV}, RVs K H xs vs → xs[i]? = some x → ∃ v, vs[i]? = some v ∧ RV K H x v
  | _, _, i, _, .nil, e => by simp at e
  | _, _, 0, _, .cons r _, e => by simp at e; subst e; exact ⟨_, rfl, r⟩
  | _, _, i + 1, x, .cons _ t, e => by
    obtain ⟨u, h1, h2⟩ := RVs.get (i := i) (x := x) t (by simpa using e)
    exact ⟨u, by simpa using h1, h2⟩
theorem RVs.getV : ∀ {xs : List PV} {vs : List V} {i : Nat} {v : V}, RVs K H xs vs → vs[i]? = some v → ∃ x, xs[i]? = some x ∧ RV K H x v
  | _, _, i, _, .nil, e => by simp at e
  | _, _, 0, _, .cons r _, e => by simp at e; subst e; exact ⟨_, rfl, r⟩
  | _, _, i + 1, x, .cons _ t, e => by
    obtain ⟨u, h1, h2⟩ := RVs.getV (i := i) (v := x) t (by simpa using e)
    exact ⟨u, by simpa using h1, h2⟩
theorem RVs.append : ∀ {xs ys : List PV} {vs ws : List V}, RVs K H xs vs → RVs K H ys ws → RVs K H (xs ++ ys) (vs ++ ws)
  | _, _, _, _, .nil, s => s
  | _, _, _, _, .cons r t, s => .cons r (RVs.append t s)
theorem RVs.set {x : PV} {v : V} (r : RV K H x v) : ∀ {xs : List PV} {vs : List V} (i : Nat), RVs K H xs vs → RVs K H (xs.set i x) (vs.set i v)
  | _, _, _, .nil => .nil
  | _, _, 0, .cons _ t => .cons r t
  | _, _, i + 1, .cons q t => .cons q (RVs.set r i t)
theorem RVs.take : ∀ {xs : List PV} {vs : List V} (n : Nat), RVs K H xs vs → RVs K H (xs.take n) (vs.take n)
  | _, _, 0, _ => by simp; exact .nil
  | _, _, _ + 1, .nil => .nil
  | _, _, n + 1, .cons r t => .cons r (RVs.take n t)
theorem RVs.drop : ∀ {xs : List PV} {vs : List V} (n : Nat), RVs K H xs vs → RVs K H (xs.drop n) (vs.drop n)
  | _, _, 0, r => r
  | _, _, _ + 1, .nil => .nil
  | _, _, n + 1, .cons _ t => RVs.drop n t
theorem RVs.reverse : ∀ {xs : List PV} {vs : List V}, RVs K H xs vs → RVs K H xs.reverse vs.reverse
  | _, _, .nil => .nil
  | _, _, .cons r t => by rw [List.reverse_cons, List.reverse_cons]; exact (RVs.reverse t).append (.cons r .nil)
theorem RVs.eraseIdx : ∀ {xs : List PV} {vs : List V} (i : Nat), RVs K H xs vs → RVs K H (xs.eraseIdx i) (vs.eraseIdx i)
  | _, _, _, .nil => .nil
  | _, _, 0, .cons _ t => t
  | _, _, i + 1, .cons q t => .cons q (RVs.eraseIdx i t)
theorem RVs.dropLast {xs : List PV} {vs : List V} (h : RVs K H xs vs) : RVs K H xs.dropLast vs.dropLast := by
  rw [List.dropLast_eq_take, List.dropLast_eq_take, ← h.length]
  exact h.take _
theorem RVs.ints : ∀ {ns : List Int} {vs : List V}, RVs K H (ns.map PV.int) vs → vs = ns.map V.int
  | [], _, .nil => rfl
  | n :: ns, _, .cons r t => by cases r; rw [RVs.ints t]; rfl
theorem RVs.of_ints : ∀ (ns : List Int), RVs K H (ns.map PV.int) (ns.map V.int)
  | [] => .nil
  | n :: ns => .cons (.int n) (RVs.of_ints ns)
theorem RVs.strs : ∀ {ns : List Str} {vs : List V}, RVs K H (ns.map PV.str) vs → vs = ns.map V.str
  | [], _, .nil => rfl
  | n :: ns, _, .cons r t => by cases r; rw [RVs.strs t]; rfl
theorem RVs.of_strs : ∀ (ns : List Str), RVs K H (ns.map PV.str) (ns.map V.str)
  | [] => .nil
  | n :: ns => .cons (.str n) (RVs.of_strs ns)
theorem RVs.bls : ∀ {ns : List Bool} {vs : List V}, RVs K H (ns.map PV.bl) vs → vs = ns.map V.bl
  | [], _, .nil => rfl
  | n :: ns, _, .cons r t => by cases r; rw [RVs.bls t]; rfl
end
/-- pairs -/
def Pr {κ : Type} (K : PySem.W.Frag) (H : Hp) (ks : List (κ × PV)) (gs : List (κ × V)) : Prop := ks.map (·.1) = gs.map (·.1) ∧ RVs K H (ks.map (·.2)) (gs.map (·.2))
theorem Pr.imm {κ : Type} {K : PySem.W.Frag} {H H' : Hp} {ks : List (κ × PV)} {gs : List (κ × V)} (i : Imm H H') (h : Pr K H ks gs) : Pr K H' ks gs := ⟨h.1, h.2.imm i⟩
theorem Pr.nil {κ : Type} {K : PySem.W.Frag} {H : Hp} : Pr (κ := κ) K H [] [] := ⟨rfl, .nil⟩
theorem Pr.cons {κ : Type} {K : PySem.W.Frag} {H : Hp} {k : κ} {x : PV} {v : V} {ks : List (κ × PV)} {gs : List (κ × V)} (r : RV K H x v) (h : Pr K H ks gs) : Pr K H ((k, x) :: ks) ((k, v) :: gs) :=
  ⟨by simp [h.1], .cons r h.2⟩
theorem Pr.un {κ : Type} {K : PySem.W.Frag} {H : Hp} {k : κ} {x : PV} {ks : List (κ × PV)} {gs : List (κ × V)} (h : Pr K H ((k, x) :: ks) gs) : ∃ v gs', gs = (k, v) :: gs' ∧ RV K H x v ∧ Pr K H ks gs' := by
  obtain ⟨h1, h2⟩ := h
  cases gs with
  | nil => simp at h1
  | cons g gs =>
    obtain ⟨k', v⟩ := g
    simp at h1
    obtain ⟨rfl, h1⟩ := h1
    cases h2 with
    | cons r t => exact ⟨v, gs, rfl, r, h1, t⟩
theorem Pr.length {κ : Type} {K : PySem.W.Frag} {H : Hp} {ks : List (κ × PV)} {gs : List (κ × V)} (h : Pr K H ks gs) : ks.length = gs.length := by
  have := congrArg List.length h.1
  simpa using this

def RM (K : PySem.W.Frag) (H : Hp) (a : Addr) : MO → Prop
  | .lst xs => ∃ vs, H a = some (.lst vs) ∧ RVs K H xs vs
  | .dct kvs => ∃ gs, H a = some (.dK gs) ∧ Pr K H kvs gs
  | .ins C fs => ∃ dx gs, H a = some (.ins C dx gs) ∧ Pr K H fs gs
theorem RM.imm {K : PySem.W.Frag} {H H' : Hp} {a : Addr} {o : MO} (i : Imm H H') (e : H' a = H a) (h : RM K H a o) : RM K H' a o := by
  cases o with
  | lst xs => obtain ⟨vs, h1, h2⟩ := h; exact ⟨vs, e.trans h1, h2.imm i⟩
  | dct kvs => obtain ⟨vs, h1, h2⟩ := h; exact ⟨vs, e.trans h1, h2.imm i⟩
  | ins C fs => obtain ⟨dx, vs, h1, h2⟩ := h; exact ⟨dx, vs, e.trans h1, h2.imm i⟩
theorem RM.at {K : PySem.W.Frag} {H : Hp} {a : Addr} {o : MO} (h : RM K H a o) : ∃ u, H a = some u ∧ Pl u := by
  cases o with
  | lst xs => obtain ⟨vs, h1, h2⟩ := h; exact ⟨_, h1, trivial⟩
  | dct kvs => obtain ⟨vs, h1, h2⟩ := h; exact ⟨_, h1, trivial⟩
  | ins C fs => obtain ⟨dx, vs, h1, h2⟩ := h; exact ⟨_, h1, trivial⟩
structure RS (G : Gk) (H : Hp) (S : Sto) : Prop where
  mo : ∀ a o, S a = some o → RM G.K H a o
  tab : LamX.Tabs G.T H
theorem RS.grow {G : Gk} {H H' : Hp} {S : Sto} (g : Grow H H') (h : RS G H S) : RS G H' S := ⟨fun a o e => by
    obtain ⟨u, hu, _⟩ := (h.mo a o e).at
    exact (h.mo a o e).imm (.of g) ((g _ _ hu).trans hu.symm), h.tab.ext g⟩
theorem tabs_upd {T : List (Addr × Str)} {H : Hp} {a : Addr} {o u : HO} (h : LamX.Tabs T H) (e : H a = some o) (p : Pl o) : LamX.Tabs T (upd H a u) := fun q hq => by
  obtain ⟨ps, h1, h2, h3⟩ := h q hq
  have n : ∀ {b : Addr} {w : HO}, H b = some w → ¬ Pl w → b ≠ a := fun {b w} e' np z => by rw [z, e] at e'; cases e'; exact np p
  refine ⟨ps, by rw [upd_ne (n h1 fun z => z)]; exact h1, h2, fun pos cv hc => ?_⟩
  obtain ⟨c, e1, e2⟩ := h3 pos cv hc
  exact ⟨c, e1, by rw [upd_ne (n e2 fun z => z)]; exact e2⟩
/-- a thing of the store is changed -/
theorem RS.put {G : Gk} {H : Hp} {S : Sto} {a : Addr} {o u : HO} {m : MO} (h : RS G H S) (e : H a = some o) (p : Pl o) (new : RM G.K (upd H a u) a m) : RS G (upd H a u) (updS S a m) :=
  ⟨fun b q eq => by
    by_cases hb : b = a
    · subst hb; rw [updS_same] at eq; cases eq; exact new
    · rw [updS_ne hb] at eq
      exact (h.mo b q eq).imm (imm_upd e p) (upd_ne hb), tabs_upd h.tab e p⟩
/-- a new thing of the store -/
theorem RS.new {G : Gk} {H : Hp} {S : Sto} {a : Addr} {u : HO} {m : MO} (h : RS G H S) (e : H a = none) (new : RM G.K (upd H a u) a m) : RS G (upd H a u) (updS S a m) :=
  ⟨fun b q eq => by
    by_cases hb : b = a
    · subst hb; rw [updS_same] at eq; cases eq; exact new
    · rw [updS_ne hb] at eq
      exact (h.mo b q eq).imm (.of (grow_upd e)) (upd_ne hb), h.tab.ext (grow_upd e)⟩
theorem RS.free {G : Gk} {H : Hp} {S : Sto} {a : Addr} (h : RS G H S) (e : H a = none) : S a = none := by
  cases q : S a with
  | none => rfl
  | some o =>
    obtain ⟨u, hu, _⟩ := (h.mo a o q).at
    rw [e] at hu; cases hu
/-- S is part of S' -/
def Sub (S S' : Sto) : Prop := ∀ a o, S a = some o → S' a = some o
theorem RS.sub {G : Gk} {H : Hp} {S S' : Sto} (u : Sub S S') (h : RS G H S') : RS G H S := ⟨fun a o e => h.mo a o (u a o e), h.tab⟩

/-- from (S, H) to (S', H'): what never changes stays; what stands outside of S stays; what S' has more was not there -/
structure Fr (S : Sto) (H : Hp) (S' : Sto) (H' : Hp) : Prop where
  imm : Imm H H'
  keep : ∀ a o, S a = none → H a = some o → H' a = some o
  new : ∀ a, S a = none → H a ≠ none → S' a = none
theorem Fr.refl (S : Sto) (H : Hp) : Fr S H S H := ⟨.refl H, fun _ _ _ h => h, fun _ h _ => h⟩
theorem Fr.trans {S S1 S2 : Sto} {H H1 H2 : Hp} (a : Fr S H S1 H1) (b : Fr S1 H1 S2 H2) : Fr S H S2 H2 :=
  ⟨a.imm.trans b.imm, fun c o n h => b.keep c o (a.new c n (by rw [h]; simp)) (a.keep c o n h), fun c n h => by
    cases q : H c with
    | none => exact absurd q h
    | some o => exact b.new c (a.new c n h) (by rw [a.keep c o n q]; simp)⟩
theorem Fr.grow {S : Sto} {H H' : Hp} (g : Grow H H') : Fr S H S H' := ⟨.of g, fun a o _ h => g a o h, fun _ h _ => h⟩
theorem Fr.fresh {S : Sto} {H : Hp} {p : Addr} {u : HO} {m : MO} (h : H p = none) : Fr S H (updS S p m) (upd H p u) :=
  ⟨.of (grow_upd h), fun a o _ e => grow_upd h a o e, fun a n e => by
    rw [updS_ne fun z => e (by rw [z]; exact h)]; exact n⟩
theorem Fr.put {S : Sto} {H : Hp} {a : Addr} {o u : HO} {m : MO} (h : H a = some o) (p : Pl o) (hs : S a ≠ none) : Fr S H (updS S a m) (upd H a u) :=
  ⟨imm_upd h p, fun b v n e => by rw [upd_ne fun z => hs (by rw [← z]; exact n)]; exact e, fun b n _ => by rw [updS_ne fun z => hs (by rw [← z]; exact n)]; exact n⟩
theorem Fr.sub {S S' S'' : Sto} {H H' : Hp} (f : Fr S H S' H') (u : Sub S'' S') : Fr S H S'' H' := ⟨f.imm, f.keep, fun a n e => by
  cases q : S'' a with
  | none => rfl
  | some o => have := u a o q; rw [f.new a n e] at this; cases this⟩
/-- the slots -/
structure RSl (K : PySem.W.Frag) (H : Hp) (ρ : Slots) (σ : St) : Prop where
  len : ρ.length = σ.length
  at_ : ∀ (i : Nat) (p : PV), ρ[i]? = some (some p) → ∃ v, σ[i]? = some (some v) ∧ RV K H p v
theorem RSl.imm {K : PySem.W.Frag} {H H' : Hp} {ρ : Slots} {σ : St} (i : Imm H H') (h : RSl K H ρ σ) : RSl K H' ρ σ := ⟨h.len, fun j p e => by
  obtain ⟨v, h1, h2⟩ := h.at_ j p e
  exact ⟨v, h1, h2.imm i⟩⟩
theorem RSl.set {K : PySem.W.Frag} {H : Hp} {ρ : Slots} {σ : St} {i : Nat} {p : PV} {v : V} (h : RSl K H ρ σ) (r : RV K H p v) : RSl K H (ρ.set i (some p)) (σ.set i (some v)) := ⟨by simp [h.len], fun j q e => by
  by_cases hj : i = j
  · subst hj
    by_cases hi : i < ρ.length
    · rw [List.getElem?_set_self hi] at e
      cases e
      exact ⟨v, List.getElem?_set_self (by rw [← h.len]; exact hi), r⟩
    · rw [List.getElem?_eq_none (by simp; omega)] at e; cases e
  · rw [List.getElem?_set_ne hj] at e ⊢
    exact h.at_ j q e⟩
def wipeP (ρ : Slots) : List Nat → Slots
  | [] => ρ
  | i :: r => (wipeP ρ r).set i none
theorem RSl.start {K : PySem.W.Frag} {H : Hp} {xs : List PV} {vs : List V} (n : Nat) (r : RVs K H xs vs) : RSl K H (xs.map some ++ List.replicate (n - xs.length) none) (vs.map some ++ List.replicate (n - vs.length) none) := ⟨by simp [r.length], fun i p e => by
  by_cases hi : i < xs.length
  · rw [List.getElem?_append_left (by simpa using hi), List.getElem?_map] at e
    cases q : xs[i]? with
    | none => rw [q] at e; cases e
    | some x =>
      rw [q] at e; cases e
      obtain ⟨v, h1, h2⟩ := r.get q
      refine ⟨v, ?_, h2⟩
      rw [List.getElem?_append_left (by simp; rw [← r.length]; exact hi), List.getElem?_map, h1]; rfl
  · rw [List.getElem?_append_right (by simp; omega)] at e
    rw [List.getElem?_replicate] at e
    split at e <;> cases e⟩
end PX
end L2

/-! PX2: the lifts and the rules. -/
namespace L2
namespace PX
open PySem PySem.Spec PyProof.Rows

abbrev RK := PV → Sto → Prop
abbrev ZK := Exc → Sto → Prop
abbrev WE := Slots → Sto → RK → ZK → Prop
abbrev WT := Slots → Sto → (Bool → Sto → Prop) → ZK → Prop
abbrev WA := Slots → Sto → (List PV → Sto → Prop) → ZK → Prop
abbrev WI := Slots → Sto → (List PV → (Sto → Prop) → Sto → Prop) → ZK → Prop
structure PEnds where
  nx : Slots → Sto → Prop
  rt : PV → Sto → Prop
  bk : Slots → Sto → Prop := fun _ _ => False
  ct : Slots → Sto → Prop := fun _ _ => False
  ex : Exc → Slots → Sto → Prop := fun _ _ _ => False
abbrev WS := PEnds → Slots → Sto → Prop
structure Jv where
  p : Hp → Prop
  st : ∀ H H', Imm H H' → p H → p H'
def J0 : Jv := ⟨fun _ => True, fun _ _ _ _ => trivial⟩
structure Lc where
  T : List (Addr × Str)
  W : WX
  J : Jv
abbrev RSK (K : PySem.W.Frag) (L : Lc) (H : Hp) (S : Sto) : Prop := RS ⟨K, L.T⟩ H S
def RX (K : PySem.W.Frag) (H : Hp) (e : Exc) (cls : Value) (d : Option Addr) : Prop := cls = .ref e.cls ∧ match d with
  | some d => ∃ o gs, H d = some (.frz o (.xd gs)) ∧ Pr K H e.fs gs
  | none => e.fs = []
theorem RX.imm {K : PySem.W.Frag} {H H' : Hp} {e : Exc} {cls : Value} {d : Option Addr} (i : Imm H H') (h : RX K H e cls d) : RX K H' e cls d := by
  obtain ⟨h1, h2⟩ := h
  refine ⟨h1, ?_⟩
  cases d with
  | none => exact h2
  | some d => obtain ⟨o, gs, h3, h4⟩ := h2; exact ⟨o, gs, i.frz _ _ _ h3, h4.imm i⟩
def ZC (K : PySem.W.Frag) (L : Lc) (S : Sto) (H : Hp) (σ : L2.St) (Z : ZK) : Prop := ∀ e S' cls d H', Fr S H S' H' → RSK K L H' S' → RX K H' e cls d → Z e S' → L.W cls d σ H'
def VC (K : PySem.W.Frag) (L : Lc) (S : Sto) (H : Hp) (R : RK) (Q : VK) : Prop := ∀ p S' v H', Fr S H S' H' → RSK K L H' S' → RV K H' p v → R p S' → Q v H'
theorem ZC.fr {K : PySem.W.Frag} {L : Lc} {S S' : Sto} {H H' : Hp} {σ : L2.St} {Z : ZK} (i : Fr S H S' H') (h : ZC K L S H σ Z) : ZC K L S' H' σ Z := fun e S' cls d H2 i2 => h e S' cls d H2 (i.trans i2)
theorem VC.fr {K : PySem.W.Frag} {L : Lc} {S S' : Sto} {H H' : Hp} {R : RK} {Q : VK} (i : Fr S H S' H') (h : VC K L S H R Q) : VC K L S' H' R Q := fun e S' cls H2 i2 => h e S' cls H2 (i.trans i2)
/-- where one stands -/
structure At (K : PySem.W.Frag) (L : Lc) (σ : L2.St) (H : Hp) (ρ : Slots) (S : Sto) : Prop where
  sl : RSl K H ρ σ
  st : RSK K L H S
  j : L.J.p H
theorem At.fr {K : PySem.W.Frag} {L : Lc} {σ : L2.St} {H H' : Hp} {ρ : Slots} {S S' : Sto} (a : At K L σ H ρ S) (i : Fr S H S' H') (s : RSK K L H' S') : At K L σ H' ρ S' := ⟨a.sl.imm i.imm, s, L.J.st _ _ i.imm a.j⟩
def LE (K : PySem.W.Frag) (L : Lc) (w : WE) : TE := fun σ H Q => ∃ ρ S R Z, At K L σ H ρ S ∧ w ρ S R Z ∧ VC K L S H R Q ∧ ZC K L S H σ Z
def LT (K : PySem.W.Frag) (L : Lc) (w : WT) : TT := fun σ H Q => ∃ ρ S R Z, At K L σ H ρ S ∧ w ρ S R Z ∧ (∀ b S' H', Fr S H S' H' → RSK K L H' S' → R b S' → Q b H') ∧ ZC K L S H σ Z
def LA (K : PySem.W.Frag) (L : Lc) (w : WA) : TA := fun σ H Q => ∃ ρ S R Z, At K L σ H ρ S ∧ w ρ S R Z ∧ (∀ ps S' vs H', Fr S H S' H' → RSK K L H' S' → RVs K H' ps vs → R ps S' → Q vs H') ∧ ZC K L S H σ Z
structure Yl (K : PySem.W.Frag) (L : Lc) (items : List PV) (ok : Sto → Prop) (H0 : Hp) (J : It) : Prop where
  go : ∀ i H S x, items[i]? = some x → Imm H0 H → RSK K L H S → ok S → J.go i H ∧ ∀ v H', J.yld i H v H' → Grow H H' ∧ RV K H' x v
  stop : ∀ H S, Imm H0 H → RSK K L H S → ok S → J.stop items.length H
def LI (K : PySem.W.Frag) (L : Lc) (w : WI) : TI := fun σ H Q => ∃ ρ S R Z, At K L σ H ρ S ∧ w ρ S R Z ∧ (∀ items ok S' J H', Fr S H S' H' → RSK K L H' S' → Yl K L items ok H' J → R items ok S' → Q J H') ∧ ZC K L S H σ Z
structure EC (K : PySem.W.Frag) (L : Lc) (S0 : Sto) (H : Hp) (P : PEnds) (D : Ends) : Prop where
  nx : ∀ ρ S σ H', Fr S0 H S H' → At K L σ H' ρ S → P.nx ρ S → D.nx σ H'
  rt : ∀ p S v H', Fr S0 H S H' → RSK K L H' S → RV K H' p v → P.rt p S → D.rt v H'
  bk : ∀ ρ S σ H', Fr S0 H S H' → At K L σ H' ρ S → P.bk ρ S → D.bk σ H'
  ct : ∀ ρ S σ H', Fr S0 H S H' → At K L σ H' ρ S → P.ct ρ S → D.ct σ H'
  ex : ∀ e ρ S cls d σ H', Fr S0 H S H' → At K L σ H' ρ S → RX K H' e cls d → P.ex e ρ S → L.W cls d σ H'
theorem EC.fr {K : PySem.W.Frag} {L : Lc} {S S' : Sto} {H H' : Hp} {P : PEnds} {D : Ends} (i : Fr S H S' H') (h : EC K L S H P D) : EC K L S' H' P D :=
  ⟨fun ρ S σ H2 i2 => h.nx ρ S σ H2 (i.trans i2), fun ρ S σ H2 i2 => h.rt ρ S σ H2 (i.trans i2), fun ρ S σ H2 i2 => h.bk ρ S σ H2 (i.trans i2), fun ρ S σ H2 i2 => h.ct ρ S σ H2 (i.trans i2), fun e ρ S cls d σ H2 i2 => h.ex e ρ S cls d σ H2 (i.trans i2)⟩
def LS (K : PySem.W.Frag) (L : Lc) (w : WS) : TS := fun D σ H => ∃ ρ S P, At K L σ H ρ S ∧ w P ρ S ∧ EC K L S H P D

/-- the judgements -/
abbrev DE (X : Cx) (L : Lc) (e : Expr) (w : WE) : Prop := PE X e (LE X.K L w)
abbrev DT (X : Cx) (L : Lc) (e : Expr) (w : WT) : Prop := PT X e (LT X.K L w)
abbrev DW (X : Cx) (L : Lc) (e : Expr) (w : WT) : Prop := PW X e (LT X.K L w)
abbrev DA (X : Cx) (L : Lc) (es : List Expr) (w : WA) : Prop := PA X es (LA X.K L w)
abbrev DI (X : Cx) (L : Lc) (tg e : Expr) (w : WI) : Prop := PI X tg e (LI X.K L w)
abbrev DS (X : Cx) (L : Lc) (st : Stmt) (w : WS) : Prop := PS X st (LS X.K L w)
abbrev DSs (X : Cx) (L : Lc) (st : List Stmt) (w : WS) : Prop := PSs X st (LS X.K L w)

section
variable {X : Cx} {L : Lc} {a b c e : Expr} {wa wb wc w : WE} {pos : Pos}
/-- consequence -/
theorem _root_.L2.PE.imp {t t' : TE} (h : PE X e t) (i : ∀ σ H Q, t' σ H Q → t σ H Q) : PE X e t' := ⟨fun pins s σ H Q I q => h.run pins s σ H Q I (i _ _ _ q)⟩
theorem _root_.L2.PT.imp {t t' : TT} (h : PT X e t) (i : ∀ σ H Q, t' σ H Q → t σ H Q) : PT X e t' := ⟨fun pins s σ H Q I q => h.run pins s σ H Q I (i _ _ _ q)⟩
theorem _root_.L2.PW.imp {t t' : TT} (h : PW X e t) (i : ∀ σ H Q, t' σ H Q → t σ H Q) : PW X e t' := ⟨fun wh pins s σ H Q I q => h.run wh pins s σ H Q I (i _ _ _ q)⟩
theorem _root_.L2.PA.imp {es : List Expr} {t t' : TA} (h : PA X es t) (i : ∀ σ H Q, t' σ H Q → t σ H Q) : PA X es t' := ⟨fun p pins s σ H Q I q => h.run p pins s σ H Q I (i _ _ _ q)⟩
theorem _root_.L2.PI.imp {tg : Expr} {t t' : TI} (h : PI X tg e t) (i : ∀ σ H Q, t' σ H Q → t σ H Q) : PI X tg e t' := ⟨fun pins s σ H Q I q => h.run pins s σ H Q I (i _ _ _ q)⟩
theorem _root_.L2.PS.imp {st : Stmt} {t t' : TS} (h : PS X st t) (i : ∀ D σ H, t' D σ H → t D σ H) : PS X st t' := ⟨fun pins s σ H D I q => h.run pins s σ H D I (i _ _ _ q)⟩
theorem _root_.L2.PSs.imp {st : List Stmt} {t t' : TS} (h : PSs X st t) (i : ∀ D σ H, t' D σ H → t D σ H) : PSs X st t' := ⟨fun pins s σ H D I q => h.run pins s σ H D I (i _ _ _ q)⟩

/-! ### names, constants -/
def gs : Slots → Nat → Option PV
  | [], _ => none
  | x :: _, 0 => x
  | _ :: r, n + 1 => gs r n
theorem gs_eq : ∀ {ρ : Slots} {i : Nat} {p : PV}, gs ρ i = some p → ρ[i]? = some (some p)
  | [], _, _, h => by cases h
  | x :: r, 0, p, h => by simpa [gs] using h
  | x :: r, n + 1, p, h => by simpa using gs_eq (ρ := r) (i := n) h
def wVar (i : Nat) : WE := fun ρ S R _ => match gs ρ i with
  | some p => R p S
  | none => False
def wC (p : PV) : WE := fun _ S R _ => R p S
theorem de_var (i : Nat) {x : Str} (hN : X.N[i]? = some x := by rfl) (hv : Vis X.env.scope x := by first | exact Or.inl rfl | exact Or.inr (Or.inl rfl) | exact Or.inr (Or.inr rfl)) (hd : (x == ("__debug__" : Str)) = false := by decide)
    (hcd : (x == ("__classdict__" : Str)) = false := by decide) : DE X L (.Name x pos) (wVar i) := (pe_var hN hv hd hcd).imp fun σ H Q ⟨ρ, S, R, Z, A, h, q, _⟩ => by
  unfold wVar at h
  cases g : gs ρ i with
  | none => rw [g] at h; exact h.elim
  | some p =>
    rw [g] at h
    obtain ⟨v, h1, h2⟩ := A.sl.at_ i p (gs_eq g)
    exact ⟨v, h1, q p S v H (.refl S H) A.st h2 h⟩
theorem de_c {v : V} {p : PV} {t : TE} (h : PE X e t) (ht : ∀ σ H Q, Q v H → t σ H Q) (r : ∀ H, RV X.K H p v) : DE X L e (wC p) := h.imp fun σ H Q ⟨ρ, S, R, Z, A, h, q, _⟩ => ht σ H Q (q p S v H (.refl S H) A.st (r H) h)
theorem de_int {i j} : DE X L (.Constant (.int i) j pos) (wC (.int i)) := de_c pe_int (fun _ _ _ q => q) fun _ => .int i
theorem de_bl {b j} : DE X L (.Constant (.bool b) j pos) (wC (.bl b)) := de_c pe_bl (fun _ _ _ q => q) fun _ => .bl b
theorem de_non {j} : DE X L (.Constant .none j pos) (wC .non) := de_c pe_non (fun _ _ _ q => q) fun _ => .non
theorem de_str {x j} : DE X L (.Constant (.str x) j pos) (wC (.str x)) := de_c pe_str (fun _ _ _ q => q) fun _ => .str x
/-- a global constant: an int, a text, a class -/
theorem de_gint {x : Str} {i : Int} (hm : ∃ t, X.mg x = some (.int i t)) (hg : Gl X x := by rfl) (hd : (x == ("__debug__" : Str)) = false := by decide) : DE X L (.Name x pos) (wC (.int i)) := by
  obtain ⟨t, hm⟩ := hm
  exact de_c (pe_glob (v := .int i) hg hm ⟨t, rfl⟩ hd) (fun _ _ _ q => q) fun _ => .int i
theorem de_gstr {x z : Str} (hm : ∃ t, X.mg x = some (.str z t)) (hg : Gl X x := by rfl) (hd : (x == ("__debug__" : Str)) = false := by decide) : DE X L (.Name x pos) (wC (.str z)) := by
  obtain ⟨t, hm⟩ := hm
  exact de_c (pe_glob (v := .str z) hg hm ⟨t, rfl⟩ hd) (fun _ _ _ q => q) fun _ => .str z
theorem de_gref {x : Str} {f : Addr} (hm : X.mg x = some (.ref f)) (hg : Gl X x := by rfl) (hd : (x == ("__debug__" : Str)) = false := by decide) : DE X L (.Name x pos) (wC (.ref f)) :=
  de_c (pe_glob (v := .ref f) hg hm rfl hd) (fun _ _ _ q => q) fun _ => .ref f
theorem de_ty {x : Str} {n : String} (hm : X.mg x = none) (hv : bootBuiltins x = some (.type n)) (hg : Gl X x := by rfl) (hn : x ≠ "__name__" := by decide) (hd : (x == ("__debug__" : Str)) = false := by decide) : DE X L (.Name x pos) (wC (.ty n)) :=
  de_c (pe_bltn (v := .ty n) hg hm hv rfl hn hd) (fun _ _ _ q => q) fun _ => .ty n

/-! ### operators by values -/
/-- the thing behind a store's address -/
def dr (S : Sto) : PV → PV
  | .ref a => match S a with
    | some (.lst xs) => .lst xs
    | some (.dct ks) => .dct ks
    | some (.ins C fs) => .obj C fs
    | none => .ref a
  | p => p
abbrev K2 := PV → PV → Sto → RK → Prop
def Op2 (X : Cx) (L : Lc) (f : Value → Value → Sem Value) (k : K2) : Prop :=
  ∀ (pins : List (Addr × Obj)) (s : Shared) (σ : L2.St) (H : Hp) (x y : V) (v u : Value) (p q : PV) (S : Sto) (R : RK) (Q : VK), Inv X pins σ H s → RelV x v → RelV y u → RSK X.K L H S → RV X.K H p x → RV X.K H q y → k p q S R → VC X.K L S H R Q →
    wpAny (model X.prog X.w) X.A (f v u) (EP X pins σ Q) X.xe s
def wB (k : K2) (wa wb : WE) : WE := fun ρ S R Z => wa ρ S (fun p S1 => wb ρ S1 (fun q S2 => k p q S2 R) Z) Z
theorem lbin (ha : DE X L a wa) (hb : DE X L b wb) {pins : List (Addr × Obj)} {s : Shared} {σ : L2.St} {H : Hp} {ρ : Slots} {S : Sto} {Z : ZK} {k : PV → PV → Sto → Prop} (I : Inv X pins σ H s) (A : At X.K L σ H ρ S)
    (h : wa ρ S (fun p S1 => wb ρ S1 (fun q S2 => k p q S2) Z) Z) (hZ : ZC X.K L S H σ Z) {Q : Value → Shared → Prop} {f : Value → Value → Sem Value}
    (hf : ∀ v u s2 x y H2 p q S2, Inv X pins σ H2 s2 → RelV x v → RelV y u → Fr S H S2 H2 → At X.K L σ H2 ρ S2 → RV X.K H2 p x → RV X.K H2 q y → k p q S2 → wpAny (model X.prog X.w) X.A (f v u) Q X.xe s2) :
    wpAny (model X.prog X.w) X.A (eval a X.env) (fun v s₁ => wpAny (model X.prog X.w) X.A (eval b X.env) (fun u s₂ => wpAny (model X.prog X.w) X.A (f v u) Q X.xe s₂) X.xe s₁) X.xe s := by
  refine binT ha hb I (R := fun x y H2 => ∃ p q S2, Fr S H S2 H2 ∧ At X.K L σ H2 ρ S2 ∧ RV X.K H2 p x ∧ RV X.K H2 q y ∧ k p q S2) ?_ fun v u s2 x y H2 I2 rx ry ⟨p, q, S2, i, A2, r1, r2, hk⟩ => hf v u s2 x y H2 p q S2 I2 rx ry i A2 r1 r2 hk
  refine ⟨ρ, S, _, Z, A, h, fun p S1 x H1 i1 st1 r1 h1 => ?_, hZ⟩
  refine ⟨ρ, S1, _, Z, A.fr i1 st1, h1, fun q S2 y H2 i2 st2 r2 h2 => ?_, hZ.fr i1⟩
  exact ⟨p, q, S2, i1.trans i2, A.fr (i1.trans i2) st2, r1.imm i2.imm, r2, h2⟩
theorem de_bin {op : Operator} {k : K2} (ho : Op2 X L (binaryOp op) k) (ha : DE X L a wa) (hb : DE X L b wb) : DE X L (.BinOp a op b pos) (wB k wa wb) := by
  refine ⟨fun pins s σ H Q I ⟨ρ, S, R, Z, A, h, q, hZ⟩ => ?_⟩
  exact wpAny_BinOp (lbin ha hb I A h hZ fun v u s2 x y H2 p q' S2 I2 rx ry i A2 r1 r2 hk => ho pins s2 σ H2 x y v u p q' S2 R Q I2 rx ry A2.st r1 r2 hk (q.fr i))
theorem de_cmp {op : CmpOp} {k : K2} (ho : Op2 X L (compareOp op) k) (ha : DE X L a wa) (hb : DE X L b wb) (hm : behindInMarks op b = false := by first | exact nomark _ | rfl) : DE X L (.Compare a [op] [b] pos) (wB k wa wb) := by
  refine ⟨fun pins s σ H Q I ⟨ρ, S, R, Z, A, h, q, hZ⟩ => ?_⟩
  exact wpAny_Compare1 (lbin ha hb I A h hZ fun v u s2 x y H2 p q' S2 I2 rx ry i A2 r1 r2 hk => ho pins s2 σ H2 x y v u p q' S2 R Q I2 rx ry A2.st r1 r2 hk (q.fr i)) hm
/-- the truth of a flag -/
def kB (k : Bool → Sto → Prop) : RK := fun p S => match p with
  | .bl c => k c S
  | _ => False
def tst (w : WE) : WT := fun ρ S R Z => w ρ S (kB R) Z
theorem kB_of {k : Bool → Sto → Prop} {p : PV} {S : Sto} (h : kB k p S) : ∃ c, p = .bl c ∧ k c S := by
  cases p with
  | bl c => exact ⟨c, rfl, h⟩
  | _ => exact h.elim
theorem vc_kB {K : PySem.W.Frag} {S : Sto} {H : Hp} {R : Bool → Sto → Prop} {Q : Bool → Hp → Prop} (q : ∀ b S' H', Fr S H S' H' → RSK K L H' S' → R b S' → Q b H') : VC K L S H (kB R) fun x H' => ∃ k, x = .bl k ∧ Q k H' := fun p S' v H' i st r h => by
  obtain ⟨c, rfl, h⟩ := kB_of h
  cases r
  exact ⟨c, rfl, q c S' H' i st h⟩
theorem dt_cmp {op : CmpOp} {k : K2} (ho : Op2 X L (compareOp op) k) (ha : DE X L a wa) (hb : DE X L b wb) (hm : behindInMarks op b = false := by first | exact nomark _ | rfl) : DT X L (.Compare a [op] [b] pos) (tst (wB k wa wb)) := by
  refine ⟨fun pins s σ H Q I ⟨ρ, S, R, Z, A, h, q, hZ⟩ => ?_⟩
  refine wpAny_isTrue_Compare1 (thn (lbin ha hb I A h hZ (f := compareOp op) (Q := fun u s' => ∃ k H', u = Value.bool k ∧ Inv X pins σ H' s' ∧ Q k H') fun v u s2 x y H2 p q' S2 I2 rx ry i A2 r1 r2 hk => thn (ho pins s2 σ H2 x y v u p q' S2 (kB R) (fun x H' => ∃ k, x = .bl k ∧ Q k H') I2 rx ry A2.st r1 r2 hk ((vc_kB (L := L) (K := X.K) q).fr i)) fun u s3 ⟨z, H3, I3, r3, c, e, q3⟩ => by
    subst e; cases r3; exact ⟨c, H3, rfl, I3, q3⟩) fun v s1 h1 => thn h1 fun u s2 h2 => thn h2 fun c s3 ⟨d, H3, e, I3, q3⟩ => ?_) hm
  subst e
  exact wpAny_truthy_bool ⟨H3, I3, q3⟩
/-- a op b op c -/
def wCh (k k' : K2) (wa wb wc : WE) : WE := fun ρ S R Z => wa ρ S (fun p S1 => wb ρ S1 (fun q S2 => k p q S2 fun z S3 => match z with
  | .bl true => wc ρ S3 (fun r S4 => k' q r S4 R) Z
  | .bl false => R (.bl false) S3
  | _ => False) Z) Z
def wCh.of {k' : K2} {wc : WE} {ρ : Slots} {q z : PV} {S3 : Sto} {R : RK} {Z : ZK} (h : match z with
  | .bl true => wc ρ S3 (fun r S4 => k' q r S4 R) Z
  | .bl false => R (.bl false) S3
  | _ => False) : (z = .bl true ∧ wc ρ S3 (fun r S4 => k' q r S4 R) Z) ∨ (z = .bl false ∧ R (.bl false) S3) := by
  cases z with
  | bl d => cases d with
    | true => exact .inl ⟨rfl, h⟩
    | false => exact .inr ⟨rfl, h⟩
  | _ => exact h.elim
theorem lchain {op op' : CmpOp} {k k' : K2} (ho : Op2 X L (compareOp op) k) (ho' : Op2 X L (compareOp op') k') (ha : DE X L a wa) (hb : DE X L b wb) (hc : DE X L c wc) {σ : L2.St} {H : Hp} {ρ : Slots} {S : Sto} {R : RK} {Z : ZK} {Q : VK} (A : At X.K L σ H ρ S)
    (h : wCh k k' wa wb wc ρ S R Z) (q : VC X.K L S H R Q) (hZ : ZC X.K L S H σ Z) :
    tChain (fun x y H2 Q2 => ∃ p q S R, RSK X.K L H2 S ∧ RV X.K H2 p x ∧ RV X.K H2 q y ∧ k p q S R ∧ VC X.K L S H2 R Q2) (fun x y H2 Q2 => ∃ p q S R, RSK X.K L H2 S ∧ RV X.K H2 p x ∧ RV X.K H2 q y ∧ k' p q S R ∧ VC X.K L S H2 R Q2) (LE X.K L wa) (LE X.K L wb) (LE X.K L wc) σ H Q := by
  refine ⟨ρ, S, _, Z, A, h, fun p S1 x H1 i1 st1 r1 h1 => ?_, hZ⟩
  refine ⟨ρ, S1, _, Z, A.fr i1 st1, h1, fun q' S2 y H2 i2 st2 r2 h2 => ?_, hZ.fr i1⟩
  refine ⟨p, q', S2, _, st2, r1.imm i2.imm, r2, h2, fun z S3 zv H3 i3 st3 r3 h3 => ?_⟩
  rcases wCh.of h3 with ⟨rfl, h3⟩ | ⟨rfl, h3⟩
  · cases r3
    refine ⟨true, rfl, iteT ⟨ρ, S3, _, Z, A.fr ((i1.trans i2).trans i3) st3, h3, fun r S4 w' H4 i4 st4 r4 h4 => ?_, hZ.fr ((i1.trans i2).trans i3)⟩⟩
    exact ⟨q', r, S4, R, st4, r2.imm (i3.trans i4).imm, r4, h4, q.fr (((i1.trans i2).trans i3).trans i4)⟩
  · cases r3
    exact ⟨false, rfl, iteF (q (.bl false) S3 (.bl false) H3 ((i1.trans i2).trans i3) st3 (.bl false) h3)⟩
theorem Op2.opr {f : Value → Value → Sem Value} {k : K2} (ho : Op2 X L f k) : OpR X f (fun x y H2 Q2 => ∃ p q S R, RSK X.K L H2 S ∧ RV X.K H2 p x ∧ RV X.K H2 q y ∧ k p q S R ∧ VC X.K L S H2 R Q2) :=
  fun pins s σ H x y v u Q I rx ry ⟨p, q, S, R, st, r1, r2, hk, hq⟩ => ho pins s σ H x y v u p q S R Q I rx ry st r1 r2 hk hq
theorem de_chain {op op' : CmpOp} {k k' : K2} (ho : Op2 X L (compareOp op) k) (ho' : Op2 X L (compareOp op') k') (ha : DE X L a wa) (hb : DE X L b wb) (hc : DE X L c wc)
    (hm : lastMarks [op, op'] [b, c] = false := by with_unfolding_all rfl) : DE X L (.Compare a [op, op'] [b, c] pos) (wCh k k' wa wb wc) :=
  (pe_chain ho.opr ho'.opr ha hb hc hm).imp fun σ H Q ⟨ρ, S, R, Z, A, h, q, hZ⟩ => lchain ho ho' ha hb hc A h q hZ
theorem dt_chain {op op' : CmpOp} {k k' : K2} (ho : Op2 X L (compareOp op) k) (ho' : Op2 X L (compareOp op') k') (ha : DE X L a wa) (hb : DE X L b wb) (hc : DE X L c wc)
    (hm : lastMarks [op, op'] [b, c] = false := by with_unfolding_all rfl) : DT X L (.Compare a [op, op'] [b, c] pos) (tst (wCh k k' wa wb wc)) :=
  (pt_chain ho.opr ho'.opr ha hb hc hm).imp fun σ H Q ⟨ρ, S, R, Z, A, h, q, hZ⟩ => lchain ho ho' ha hb hc A h (vc_kB q) hZ
abbrev K1 := PV → Sto → RK → Prop
def w1 (k : K1) (wa : WE) : WE := fun ρ S R Z => wa ρ S (fun p S1 => k p S1 R) Z
def Op1 (X : Cx) (L : Lc) (f : Value → Sem Value) (k : K1) : Prop :=
  ∀ (pins : List (Addr × Obj)) (s : Shared) (σ : L2.St) (H : Hp) (x : V) (v : Value) (p : PV) (S : Sto) (R : RK) (Q : VK), Inv X pins σ H s → RelV x v → RSK X.K L H S → RV X.K H p x → k p S R → VC X.K L S H R Q →
    wpAny (model X.prog X.w) X.A (f v) (EP X pins σ Q) X.xe s
theorem lone (ha : DE X L a wa) {pins : List (Addr × Obj)} {s : Shared} {σ : L2.St} {H : Hp} {ρ : Slots} {S : Sto} {Z : ZK} {k : PV → Sto → Prop} (I : Inv X pins σ H s) (A : At X.K L σ H ρ S) (h : wa ρ S k Z) (hZ : ZC X.K L S H σ Z) {Q : Value → Shared → Prop}
    (hf : ∀ v s2 x H2 p S2, Inv X pins σ H2 s2 → RelV x v → Fr S H S2 H2 → At X.K L σ H2 ρ S2 → RV X.K H2 p x → k p S2 → Q v s2) :
    wpAny (model X.prog X.w) X.A (eval a X.env) Q X.xe s :=
  thn (ha.run pins s σ H (fun x H2 => ∃ p S2, Fr S H S2 H2 ∧ At X.K L σ H2 ρ S2 ∧ RV X.K H2 p x ∧ k p S2) I ⟨ρ, S, k, Z, A, h, fun p S1 x H1 i1 st1 r1 h1 => ⟨p, S1, i1, A.fr i1 st1, r1, h1⟩, hZ⟩) fun v s2 ⟨x, H2, I2, rx, p, S2, i, A2, r, hk⟩ => hf v s2 x H2 p S2 I2 rx i A2 r hk
theorem de_un {op : UnaryOp} {k : K1} (ho : Op1 X L (unaryOp op) k) (ha : DE X L a wa) : DE X L (.UnaryOp op a pos) (w1 k wa) := by
  refine ⟨fun pins s σ H Q I ⟨ρ, S, R, Z, A, h, q, hZ⟩ => ?_⟩
  exact UnaryOp_ (lone ha I A h hZ fun v s2 x H2 p S2 I2 rx i A2 r hk => ho pins s2 σ H2 x v p S2 R Q I2 rx A2.st r hk (q.fr i))

/-! ### truth -/
def TruP (S : Sto) (p : PV) (k : Bool) : Prop := match dr S p with
  | .non => k = false
  | .bl b => k = b
  | .int i => k = (i != 0)
  | .str y => y.length ≤ sizeLine ∧ k = ((y.length : Int) != 0)
  | .lst xs => k = !xs.isEmpty
  | .tup xs => k = !xs.isEmpty
  | _ => False
theorem emp_of {K : PySem.W.Frag} {H : Hp} {xs : List PV} {vs : List V} (r : RVs K H xs vs) : (!xs.isEmpty) = !vs.isEmpty := by cases r <;> rfl
theorem dr_ref {S : Sto} {a : Addr} : (∃ xs, S a = some (.lst xs) ∧ dr S (.ref a) = .lst xs) ∨ (∃ xs, S a = some (.dct xs) ∧ dr S (.ref a) = .dct xs) ∨ (∃ C fs, S a = some (.ins C fs) ∧ dr S (.ref a) = .obj C fs) ∨ (S a = none ∧ dr S (.ref a) = .ref a) := by
  cases h : S a with
  | none => exact .inr (.inr (.inr ⟨rfl, by simp [dr, h]⟩))
  | some o => cases o with
    | lst xs => exact .inl ⟨xs, rfl, by simp [dr, h]⟩
    | dct xs => exact .inr (.inl ⟨xs, rfl, by simp [dr, h]⟩)
    | ins C fs => exact .inr (.inr (.inl ⟨C, fs, rfl, by simp [dr, h]⟩))
/-- a list to be read -/
theorem rd_lst {H : Hp} {S : Sto} {p : PV} {v : V} {xs : List PV} (st : RSK X.K L H S) (r : RV X.K H p v) (e : dr S p = .lst xs) : ∃ a vs, v = .ref a ∧ SqL X.K H a vs ∧ RVs X.K H xs vs := by
  cases r with
  | ref a =>
    rcases dr_ref (S := S) (a := a) with ⟨ys, h1, h2⟩ | ⟨ys, h1, h2⟩ | ⟨C, fs, h1, h2⟩ | ⟨h1, h2⟩
    · rw [h2] at e; cases e
      obtain ⟨vs, h3, h4⟩ := st.mo a _ h1
      exact ⟨a, vs, rfl, SqL.of h3, h4⟩
    all_goals (rw [h2] at e; cases e)
  | lst h hr => cases e; exact ⟨_, _, rfl, h.sq, hr⟩
  | _ => cases e
theorem rd_tup {H : Hp} {S : Sto} {p : PV} {v : V} {xs : List PV} (r : RV X.K H p v) (e : dr S p = .tup xs) : ∃ a vs, v = .ref a ∧ SqT X.K H a vs ∧ RVs X.K H xs vs := by
  cases r with
  | ref a =>
    rcases dr_ref (S := S) (a := a) with ⟨ys, h1, h2⟩ | ⟨ys, h1, h2⟩ | ⟨C, fs, h1, h2⟩ | ⟨h1, h2⟩
    all_goals (rw [h2] at e; cases e)
  | tup h hr => cases e; exact ⟨_, _, rfl, h, hr⟩
  | _ => cases e
theorem rd_flat {H : Hp} {S : Sto} {p : PV} {v : V} (r : RV X.K H p v) : (∀ i, dr S p = .int i → v = .int i) ∧ (∀ i, dr S p = .str i → v = .str i) ∧ (∀ i, dr S p = .bl i → v = .bl i) ∧ (dr S p = .non → v = .non) ∧ ∀ a, dr S p = .ref a → v = .ref a := by
  cases r with
  | ref a =>
    rcases dr_ref (S := S) (a := a) with ⟨ys, h1, h2⟩ | ⟨ys, h1, h2⟩ | ⟨C, fs, h1, h2⟩ | ⟨h1, h2⟩
    all_goals (rw [h2]; refine ⟨?_, ?_, ?_, ?_, ?_⟩ <;> intros <;> first | contradiction | rename_i h; cases h | skip)
    all_goals first | rfl | skip
  | _ => refine ⟨?_, ?_, ?_, ?_, ?_⟩ <;> intros <;> first | (rename_i h; cases h; rfl) | (rename_i h; cases h)
theorem tru_of {H : Hp} {S : Sto} {p : PV} {v : V} {k : Bool} (st : RSK X.K L H S) (r : RV X.K H p v) (h : TruP S p k) : TruV X.K v H k := by
  unfold TruP at h
  obtain ⟨f1, f2, f3, f4, f5⟩ := rd_flat (X := X) (S := S) r
  cases e : dr S p with
  | non => rw [e] at h; rw [f4 e]; exact h
  | bl b => rw [e] at h; rw [f3 b e]; exact h
  | int i => rw [e] at h; rw [f1 i e]; exact h
  | str y => rw [e] at h; rw [f2 y e]; exact h
  | lst xs =>
    rw [e] at h
    obtain ⟨a, vs, rfl, h1, h2⟩ := rd_lst (X := X) (L := L) st r e
    exact .inl ⟨vs, h1, by rw [← emp_of h2]; exact h⟩
  | tup xs =>
    rw [e] at h
    obtain ⟨a, vs, rfl, h1, h2⟩ := rd_tup (X := X) (S := S) r e
    exact .inr (.inl ⟨vs, h1, by rw [← emp_of h2]; exact h⟩)
  | _ => rw [e] at h; exact h.elim
def wTru (wa : WE) : WT := fun ρ S R Z => wa ρ S (fun p S1 => ∃ k, TruP S1 p k ∧ R k S1) Z
theorem dt_tru (ha : DE X L a wa) (he : ∀ whole, isTrue a X.env whole = (do let v ← whole; standAt a.pos; holding [v] (truthy v)) := by intro _; rfl) : DT X L a (wTru wa) :=
  (pt_truth ha he).imp fun σ H Q ⟨ρ, S, R, Z, A, h, q, hZ⟩ => ⟨ρ, S, _, Z, A, h, fun p S1 v H1 i1 st1 r1 ⟨k, t, h1⟩ => ⟨k, tru_of st1 r1 t, q k S1 H1 i1 st1 h1⟩, hZ⟩
/-- a flag as a test -/
theorem dt_val (ha : DE X L a wa) (he : ∀ whole, isTrue a X.env whole = (do let v ← whole; standAt a.pos; holding [v] (truthy v)) := by intro _; rfl) : DT X L a (tst wa) :=
  (pt_val ha he).imp fun σ H Q ⟨ρ, S, R, Z, A, h, q, hZ⟩ => ⟨ρ, S, _, Z, A, h, vc_kB q, hZ⟩
def wNotT (t : WT) : WT := fun ρ S R Z => t ρ S (fun b S1 => R (!b) S1) Z
def wAndT (t u : WT) : WT := fun ρ S R Z => t ρ S (fun b S1 => if b = true then u ρ S1 R Z else R false S1) Z
def wOrT (t u : WT) : WT := fun ρ S R Z => t ρ S (fun b S1 => if b = true then R true S1 else u ρ S1 R Z) Z
variable {t u : WT} {rest : List Expr}
theorem dt_not (h : DT X L a t) : DT X L (.UnaryOp .Not a pos) (wNotT t) := (pt_not h).imp fun σ H Q ⟨ρ, S, R, Z, A, h, q, hZ⟩ => ⟨ρ, S, _, Z, A, h, fun b S1 H1 i st r => q _ S1 H1 i st r, hZ⟩
theorem dw_and1 (h : DT X L a t) : DW X L (.BoolOp .And [a] pos) t := pw_and1 h
theorem dw_or1 (h : DT X L a t) : DW X L (.BoolOp .Or [a] pos) t := pw_or1 h
theorem dw_and (ha : DT X L a t) (hb : DW X L (.BoolOp .And (b :: rest) pos) u) : DW X L (.BoolOp .And (a :: b :: rest) pos) (wAndT t u) := (pw_and ha hb).imp fun σ H Q ⟨ρ, S, R, Z, A, h, q, hZ⟩ => ⟨ρ, S, _, Z, A, h, fun b S1 H1 i st r => by
  cases b with
  | true => exact iteT ⟨ρ, S1, R, Z, A.fr i st, r, fun b S2 H2 i2 => q b S2 H2 (i.trans i2), hZ.fr i⟩
  | false => exact iteF (q false S1 H1 i st r), hZ⟩
theorem dw_or (ha : DT X L a t) (hb : DW X L (.BoolOp .Or (b :: rest) pos) u) : DW X L (.BoolOp .Or (a :: b :: rest) pos) (wOrT t u) := (pw_or ha hb).imp fun σ H Q ⟨ρ, S, R, Z, A, h, q, hZ⟩ => ⟨ρ, S, _, Z, A, h, fun b S1 H1 i st r => by
  cases b with
  | true => exact iteT (q true S1 H1 i st r)
  | false => exact iteF ⟨ρ, S1, R, Z, A.fr i st, r, fun b S2 H2 i2 => q b S2 H2 (i.trans i2), hZ.fr i⟩, hZ⟩
/-- as values -/
def wAndV (wa wb : WE) : WE := fun ρ S R Z => wa ρ S (fun p S1 => ∃ k, TruP S1 p k ∧ if k = true then wb ρ S1 R Z else R p S1) Z
def wOrV (wa wb : WE) : WE := fun ρ S R Z => wa ρ S (fun p S1 => ∃ k, TruP S1 p k ∧ if k = true then R p S1 else wb ρ S1 R Z) Z
def wNotV (wa : WE) : WE := fun ρ S R Z => wa ρ S (fun p S1 => ∃ k, TruP S1 p k ∧ R (.bl (!k)) S1) Z
theorem de_one {op} (h : DE X L a wa) : DE X L (.BoolOp op [a] pos) wa := pe_one h
theorem de_and (ha : DE X L a wa) (hb : DE X L (.BoolOp .And (b :: rest) pos) wb) : DE X L (.BoolOp .And (a :: b :: rest) pos) (wAndV wa wb) := (pe_andT ha hb).imp fun σ H Q ⟨ρ, S, R, Z, A, h, q, hZ⟩ => ⟨ρ, S, _, Z, A, h, fun p S1 v H1 i st r ⟨k, t, h1⟩ => by
  refine ⟨k, tru_of st r t, ?_⟩
  cases k with
  | true => exact iteT ⟨ρ, S1, R, Z, A.fr i st, h1, q.fr i, hZ.fr i⟩
  | false => exact iteF (q p S1 v H1 i st r h1), hZ⟩
theorem de_or (ha : DE X L a wa) (hb : DE X L (.BoolOp .Or (b :: rest) pos) wb) : DE X L (.BoolOp .Or (a :: b :: rest) pos) (wOrV wa wb) := (pe_orT ha hb).imp fun σ H Q ⟨ρ, S, R, Z, A, h, q, hZ⟩ => ⟨ρ, S, _, Z, A, h, fun p S1 v H1 i st r ⟨k, t, h1⟩ => by
  refine ⟨k, tru_of st r t, ?_⟩
  cases k with
  | true => exact iteT (q p S1 v H1 i st r h1)
  | false => exact iteF ⟨ρ, S1, R, Z, A.fr i st, h1, q.fr i, hZ.fr i⟩, hZ⟩
theorem de_not (ha : DE X L a wa) : DE X L (.UnaryOp .Not a pos) (wNotV wa) := (pe_notT ha).imp fun σ H Q ⟨ρ, S, R, Z, A, h, q, hZ⟩ => ⟨ρ, S, _, Z, A, h, fun p S1 v H1 i st r ⟨k, t, h1⟩ => ⟨k, tru_of st r t, q _ S1 _ H1 i st (.bl _) h1⟩, hZ⟩
def wIf (t : WT) (wa wb : WE) : WE := fun ρ S R Z => t ρ S (fun b S1 => if b = true then wa ρ S1 R Z else wb ρ S1 R Z) Z
theorem de_ifx (hc : DT X L c t) (ha : DE X L a wa) (hb : DE X L b wb) : DE X L (.IfExp c a b pos) (wIf t wa wb) := (pe_ifExp hc ha hb).imp fun σ H Q ⟨ρ, S, R, Z, A, h, q, hZ⟩ => ⟨ρ, S, _, Z, A, h, fun k S1 H1 i st r => by
  cases k with
  | true => exact iteT ⟨ρ, S1, R, Z, A.fr i st, r, q.fr i, hZ.fr i⟩
  | false => exact iteF ⟨ρ, S1, R, Z, A.fr i st, r, q.fr i, hZ.fr i⟩, hZ⟩

/-! ### arguments, displays -/
def wNil : WA := fun _ S R _ => R [] S
def wCons (wa : WE) (wr : WA) : WA := fun ρ S R Z => wa ρ S (fun p S1 => wr ρ S1 (fun ps S2 => R (p :: ps) S2) Z) Z
variable {es : List Expr} {wr : WA}
theorem da_nil : DA X L [] wNil := pa_nil.imp fun σ H Q ⟨ρ, S, R, Z, A, h, q, hZ⟩ => q [] S [] H (.refl S H) A.st .nil h
theorem da_cons (ha : DE X L e wa) (hr : DA X L es wr) (hs : starEach (e :: es) X.env = (false, eval e X.env) :: starEach es X.env := by rfl) : DA X L (e :: es) (wCons wa wr) := (pa_cons ha hr hs).imp fun σ H Q ⟨ρ, S, R, Z, A, h, q, hZ⟩ => by
  refine ⟨ρ, S, _, Z, A, h, fun p S1 x H1 i1 st1 r1 h1 => ?_, hZ⟩
  exact ⟨ρ, S1, _, Z, A.fr i1 st1, h1, fun ps S2 xs H2 i2 st2 r2 h2 => q _ S2 _ H2 (i1.trans i2) st2 (.cons (r1.imm i2.imm) r2) h2, hZ.fr i1⟩
def wTup (wr : WA) : WE := fun ρ S R Z => wr ρ S (fun ps S1 => ps.length ≤ sizeLine ∧ R (.tup ps) S1) Z
theorem de_tup {x1} (h : DA X L es wr) : DE X L (.Tuple es x1 pos) (wTup wr) := (pe_tup h).imp fun σ H Q ⟨ρ, S, R, Z, A, h, q, hZ⟩ => ⟨ρ, S, _, Z, A, h, fun ps S1 vs H1 i st r ⟨z, h1⟩ =>
  ⟨by rw [← r.length]; exact z, fun p hp => q _ S1 _ _ (i.trans (.grow (grow_upd hp))) (st.grow (grow_upd hp)) (.tup (SqT.of upd_same) (r.imm (.of (grow_upd hp)))) h1⟩, hZ⟩
/-- a list that will change -/
def wLst (wr : WA) : WE := fun ρ S R Z => wr ρ S (fun ps S1 => ps.length ≤ sizeLine ∧ ∀ a, S1 a = none → R (.ref a) (updS S1 a (.lst ps))) Z
theorem de_lstM (h : DA X L es wr) : DE X L (.List es pos) (wLst wr) := (pe_lst h).imp fun σ H Q ⟨ρ, S, R, Z, A, h, q, hZ⟩ => ⟨ρ, S, _, Z, A, h, fun ps S1 vs H1 i st r ⟨z, h1⟩ =>
  ⟨by rw [← r.length]; exact z, fun p hp => q _ _ _ _ (i.trans (.fresh hp)) (st.new (m := .lst ps) hp ⟨vs, upd_same, r.imm (.of (grow_upd hp))⟩) (.ref p) (h1 p (st.free hp))⟩, hZ⟩
/-- a list that stands still -/
def wLstF (wr : WA) : WE := fun ρ S R Z => wr ρ S (fun ps S1 => ps.length ≤ sizeLine ∧ R (.lst ps) S1) Z
theorem pe_lstF {t : TA} (h : PA X es t) : PE X (.List es pos) (fun σ H Q => t σ H fun xs H1 => xs.length ≤ sizeLine ∧ ∀ p o, H1 p = none → Q (.ref p) (upd H1 p (.frz o (.lst xs)))) := by
  refine ⟨fun pins s σ H Q I hq => ?_⟩
  refine wpAny_List_spliced (thn (h.run pos pins s σ H _ I hq) fun us s1 ⟨xs, H1, I1, r, z, q⟩ => ⟨by rw [← r.length]; exact z, ?_⟩)
  have hf : H1 s1.heap.objs.size = none := I1.hok.fresh (Nat.le_refl _)
  refine ⟨.ref s1.heap.objs.size, _, I1.laid (o := .frz { cls := .type "list", data := .seq us.toArray 0 } (.lst xs)) (t' := s1.toks) (fun b u e => Heap.get?_push_of_some _ e) (Nat.le_refl _) ?_, rfl, q _ _ hf⟩
  exact ⟨Heap.get?_push_size _ rfl, z, us, 0, r, Heap.get?_push_size _ rfl⟩
theorem de_lstF (h : DA X L es wr) : DE X L (.List es pos) (wLstF wr) := (pe_lstF h).imp fun σ H Q ⟨ρ, S, R, Z, A, h, q, hZ⟩ => ⟨ρ, S, _, Z, A, h, fun ps S1 vs H1 i st r ⟨z, h1⟩ =>
  ⟨by rw [← r.length]; exact z, fun p o hp => q _ _ _ _ (i.trans (.grow (grow_upd hp))) (st.grow (grow_upd hp)) (.lst (.inl ⟨o, upd_same⟩) (r.imm (.of (grow_upd hp)))) h1⟩, hZ⟩
end
end PX
end L2

/-! PX3: statements, calls, loops, comprehensions. -/
namespace L2
namespace PX
open PySem PySem.Spec PyProof.Rows
section
variable {X : Cx} {L : Lc} {a b c e : Expr} {wa wb wc w we : WE} {t : WT} {pos : Pos} {st : Stmt} {sts rest : List Stmt} {u v : WS}
theorem EC.zc {K : PySem.W.Frag} {σ : L2.St} {H : Hp} {ρ : Slots} {S : Sto} {P : PEnds} {D : Ends} (A : At K L σ H ρ S) (E : EC K L S H P D) : ZC K L S H σ (fun e S' => P.ex e ρ S') := fun e S' cls d H' i st rx z => E.ex e ρ S' cls d σ H' i (A.fr i st) rx z

/-! ### statements -/
def wNext : WS := fun P ρ S => P.nx ρ S
def wSeq (v u : WS) : WS := fun P ρ S => v { P with nx := u P } ρ S
theorem ls_seq {K : PySem.W.Frag} {D : Ends} {σ : L2.St} {H : Hp} (h : LS K L (wSeq v u) D σ H) : tSeq (LS K L v) (LS K L u) D σ H := by
  obtain ⟨ρ, S, P, A, h, E⟩ := h
  exact ⟨ρ, S, _, A, h, ⟨fun ρ' S' σ' H' i A' n => ⟨ρ', S', P, A', n, E.fr i⟩, E.rt, E.bk, E.ct, E.ex⟩⟩
theorem dss_nil : DSs X L [] wNext := pss_nil.imp fun D σ H ⟨ρ, S, P, A, h, E⟩ => E.nx ρ S σ H (.refl S H) A h
theorem dss_cons (h1 : DS X L st v) (h2 : DSs X L rest u) : DSs X L (st :: rest) (wSeq v u) := (pss_cons h1 h2).imp fun D σ H h => ls_seq h
theorem dss_one (h1 : DS X L st v) : DSs X L [st] v := pss_one h1
def wBrk : WS := fun P ρ S => P.bk ρ S
def wCnt : WS := fun P ρ S => P.ct ρ S
theorem ds_pass : DS X L (.Pass pos) wNext := ps_pass.imp fun D σ H ⟨ρ, S, P, A, h, E⟩ => E.nx ρ S σ H (.refl S H) A h
theorem ds_break : DS X L (.Break pos) wBrk := ps_break.imp fun D σ H ⟨ρ, S, P, A, h, E⟩ => E.bk ρ S σ H (.refl S H) A h
theorem ds_continue : DS X L (.Continue pos) wCnt := ps_continue.imp fun D σ H ⟨ρ, S, P, A, h, E⟩ => E.ct ρ S σ H (.refl S H) A h
def wNever : WS := fun _ _ _ => False
theorem ds_never : DS X L st wNever := ps_never.imp fun D σ H ⟨ρ, S, P, A, h, E⟩ => h
def wRet (we : WE) : WS := fun P ρ S => we ρ S P.rt (fun e S' => P.ex e ρ S')
theorem ds_ret (he : DE X L e we) : DS X L (.Return (some e) pos) (wRet we) := (ps_ret he).imp fun D σ H ⟨ρ, S, P, A, h, E⟩ => ⟨ρ, S, P.rt, _, A, h, E.rt, E.zc A⟩
def wRetN : WS := fun P ρ S => P.rt .non S
theorem ds_retN : DS X L (.Return none pos) wRetN := ps_retN.imp fun D σ H ⟨ρ, S, P, A, h, E⟩ => E.rt .non S .non H (.refl S H) A.st .non h
def wExpr (we : WE) : WS := fun P ρ S => we ρ S (fun _ S' => P.nx ρ S') (fun e S' => P.ex e ρ S')
theorem ds_expr (he : DE X L e we) (hs : swapsWith e none pos.line X.env = pure false := by rfl) : DS X L (.Expr e pos) (wExpr we) := (ps_expr he hs).imp fun D σ H ⟨ρ, S, P, A, h, E⟩ =>
  ⟨ρ, S, _, _, A, h, fun p S' v H' i st r n => E.nx ρ S' σ H' i (A.fr i st) n, E.zc A⟩
def wIfS (t : WT) (v u : WS) : WS := fun P ρ S => t ρ S (fun b S' => if b = true then v P ρ S' else u P ρ S') (fun e S' => P.ex e ρ S')
theorem ds_if {p q : List Stmt} (hc : DT X L c t) (ha : DSs X L p v) (hb : DSs X L q u) : DS X L (.If c p q pos) (wIfS t v u) := (ps_if hc ha hb).imp fun D σ H ⟨ρ, S, P, A, h, E⟩ =>
  ⟨ρ, S, _, _, A, h, fun b S' H' i st r => by
    cases b with
    | true => exact iteT ⟨ρ, S', P, A.fr i st, r, E.fr i⟩
    | false => exact iteF ⟨ρ, S', P, A.fr i st, r, E.fr i⟩, E.zc A⟩
/-- name = e -/
def wSet (i : Nat) (we : WE) : WS := fun P ρ S => we ρ S (fun p S' => P.nx (ρ.set i (some p)) S') (fun e S' => P.ex e ρ S')
theorem At.set {K : PySem.W.Frag} {σ : L2.St} {H : Hp} {ρ : Slots} {S : Sto} {i : Nat} {p : PV} {v : V} (A : At K L σ H ρ S) (r : RV K H p v) : At K L (σ.set i (some v)) H (ρ.set i (some p)) S := ⟨A.sl.set r, A.st, A.j⟩
theorem ls_set {K : PySem.W.Frag} {D : Ends} {σ : L2.St} {H : Hp} {i : Nat} (h : LS K L (wSet i we) D σ H) : tAsg (LE K L we) (gName i) D σ H := by
  obtain ⟨ρ, S, P, A, h, E⟩ := h
  exact ⟨ρ, S, _, _, A, h, fun p S' v H' f st r n => E.nx _ S' _ H' f ((A.fr f st).set r) n, E.zc A⟩
theorem ds_set (i : Nat) {x : Str} {pos' : Pos} (hN : X.N.Nodup) (he : DE X L e we) (hi : X.N[i]? = some x := by rfl) (hx : Loc X.env.scope x := by first | exact Or.inl rfl | exact Or.inr rfl) (hs : swapsWith e (some (.Name x pos')) pos.line X.env = pure false := by rfl)
    (hf : X.fn x = true ∨ X.env.scope.names.lookup x = some .local := by first | exact .inl rfl | exact .inr rfl | assumption) : DS X L (.Assign [.Name x pos'] e pos) (wSet i we) := (ps_set hN hi hx he hs hf).imp fun D σ H h => ls_set h
/-- targets: a name, names in a tuple -/
inductive Tg where
  | nm (i : Nat)
  | tp (is : List Nat)
def setM (ρ : Slots) : List Nat → List PV → Slots
  | i :: is, p :: ps => setM (ρ.set i (some p)) is ps
  | _, _ => ρ
def asg (g : Tg) (p : PV) (ρ : Slots) (S : Sto) (k : Slots → Prop) : Prop := match g with
  | .nm i => k (ρ.set i (some p))
  | .tp is => match dr S p with
    | .tup ps => ps.length = is.length ∧ k (setM ρ is ps)
    | .lst ps => ps.length = is.length ∧ k (setM ρ is ps)
    | _ => False
def setMV (σ : L2.St) : List Nat → List V → L2.St
  | i :: is, p :: ps => setMV (σ.set i (some p)) is ps
  | _, _ => σ
def gTg (K : PySem.W.Frag) (g : Tg) : TG := match g with
  | .nm i => gName i
  | .tp is => fun v σ H Q => ∃ a xs, v = .ref a ∧ (SqT K H a xs ∨ SqL K H a xs) ∧ xs.length = is.length ∧ Q (setMV σ is xs) H
theorem At.setM {K : PySem.W.Frag} {H : Hp} {S : Sto} : ∀ {is : List Nat} {ps : List PV} {vs : List V} {σ : L2.St} {ρ : Slots}, At K L σ H ρ S → RVs K H ps vs → At K L (setMV σ is vs) H (setM ρ is ps) S
  | [], _, _, _, _, A, _ => by unfold PX.setM PX.setMV; exact A
  | i :: is, _, _, _, _, A, .nil => by unfold PX.setM PX.setMV; exact A
  | i :: is, _, _, _, _, A, .cons r rs => by unfold PX.setM PX.setMV; exact At.setM (A.set r) rs
theorem asg_of {σ : L2.St} {H : Hp} {ρ : Slots} {S : Sto} {p : PV} {v : V} {g : Tg} {k : Slots → Prop} {Q : L2.St → Hp → Prop} (A : At X.K L σ H ρ S) (r : RV X.K H p v) (h : asg g p ρ S k) (q : ∀ ρ' σ', At X.K L σ' H ρ' S → k ρ' → Q σ' H) : gTg X.K g v σ H Q := by
  cases g with
  | nm i => exact q _ _ (A.set r) h
  | tp is =>
    unfold asg at h
    dsimp only at h
    cases e : dr S p with
    | tup ps =>
      rw [e] at h
      obtain ⟨a, vs, rfl, h1, h2⟩ := rd_tup (X := X) r e
      exact ⟨a, vs, rfl, .inl h1, h2.length.symm.trans h.1, q _ _ (At.setM A h2) h.2⟩
    | lst ps =>
      rw [e] at h
      obtain ⟨a, vs, rfl, h1, h2⟩ := rd_lst (X := X) (L := L) A.st r e
      exact ⟨a, vs, rfl, .inr h1, h2.length.symm.trans h.1, q _ _ (At.setM A h2) h.2⟩
    | _ => rw [e] at h; exact h.elim
/-- a target of ours -/
def TgOk (X : Cx) (tg : Expr) (g : Tg) : Prop := PG X tg (gTg X.K g)
theorem tg_nm (i : Nat) {x : Str} (hN : X.N.Nodup) (hi : X.N[i]? = some x := by rfl) (hx : Loc X.env.scope x := by first | exact Or.inl rfl | exact Or.inr rfl)
    (hf : X.fn x = true ∨ X.env.scope.names.lookup x = some .local := by first | exact .inl rfl | exact .inr rfl | assumption) : TgOk X (.Name x pos) (.nm i) := pg_name hN hi hx hf
/-- names in a row -/
def TgsOk (X : Cx) (es : List Expr) (is : List Nat) : Prop := PGs X es fun vs σ H Q => vs.length = is.length ∧ Q (setMV σ is vs) H
theorem tgs_nil : TgsOk X [] [] := ⟨fun pins s σ H vs us Q I r ⟨h1, h2⟩ => by
  cases r with
  | nil => exact assignInOrder_nil ⟨σ, H, I, h2⟩
  | cons _ _ => simp at h1⟩
theorem tgs_cons {es : List Expr} {is : List Nat} {i : Nat} (h1 : TgOk X e (.nm i)) (h2 : TgsOk X es is) (hs : (assignEach (e :: es) X.env).map (·.2) = assign e X.env :: (assignEach es X.env).map (·.2) := by rfl) : TgsOk X (e :: es) (i :: is) := ⟨fun pins s σ H vs us Q I r ⟨h, q⟩ => by
  cases r with
  | nil => simp at h
  | @cons v0 u0 vr ur r rr =>
    rw [hs]
    refine assignInOrder_cons (thn (h1.run pins s σ H v0 u0 (fun σ' H' => vr.length = is.length ∧ Q (setMV σ' is vr) H') I r ⟨by simpa using h, q⟩) fun _ s1 ⟨σ1, H1, I1, q1⟩ => ?_)
    exact h2.run pins s1 σ1 H1 vr ur Q I1 rr q1⟩
theorem tg_tp {es : List Expr} {is : List Nat} {k : Nat} (hc : X.calm = true) (h : TgsOk X es is) (hn : (assignEach es X.env).length = is.length := by rfl) (hst : (assignEach es X.env).findIdx? (·.1) = none := by rfl) : TgOk X (.Tuple es k pos) (.tp is) := by
  refine ⟨fun pins s σ H v u Q I r hw => ?_⟩
  obtain ⟨a, xs, e1, hq, hl, hw⟩ := hw
  rcases hq with hq | hq
  · exact (pg_tup hc h hn hst).run pins s σ H v u Q I r ⟨a, xs, e1, hq, hl, hl, hw⟩
  · exact (pg_lst hc h hn hst).run pins s σ H v u Q I r ⟨a, xs, e1, hq, hl, hl, hw⟩
def wAsg (g : Tg) (we : WE) : WS := fun P ρ S => we ρ S (fun p S' => asg g p ρ S' fun ρ' => P.nx ρ' S') (fun e S' => P.ex e ρ S')
theorem ds_asg {tg : Expr} {g : Tg} (hg : TgOk X tg g) (he : DE X L e we) (hs : swapsWithSole [tg] e pos.line X.env = pure false := by rfl) (hw : swappedStores [tg] e X.env = pure none := by rfl)
    (h1 : (assignEach [tg] X.env).map (·.2) = [assign tg X.env] := by rfl) : DS X L (.Assign [tg] e pos) (wAsg g we) := (ps_asg he hg hs hw h1).imp fun D σ H ⟨ρ, S, P, A, h, E⟩ =>
  ⟨ρ, S, _, _, A, h, fun p S' v H' i st r n => asg_of (A.fr i st) r n fun ρ' σ' A' n' => E.nx ρ' S' σ' H' i A' n', E.zc A⟩
/-- a, b = x, y -/
def wPar (i j : Nat) (wr : WA) : WS := fun P ρ S => wr ρ S (fun ps S' => match ps with
  | [p, q] => P.nx ((ρ.set i (some p)).set j (some q)) S'
  | _ => False) (fun e S' => P.ex e ρ S')
theorem ds_par (i j : Nat) {x y : Str} {wr : WA} {px py pt : Pos} {kt k2 pt2} (hc : X.calm = true) (hN : X.N.Nodup) (ha : DA X L [a, b] wr) (hi : X.N[i]? = some x := by rfl) (hj : X.N[j]? = some y := by rfl) (hij : i ≠ j := by decide)
    (hx : X.env.scope.names.lookup x = some .local := by rfl) (hy : X.env.scope.names.lookup y = some .local := by rfl)
    (hw : swappedStores [.Tuple [.Name x px, .Name y py] kt pt] (.Tuple [a, b] k2 pt2) X.env = pure (some [x, y]) := by rfl)
    (hs : swapsWithSole [.Tuple [.Name x px, .Name y py] kt pt] (.Tuple [a, b] k2 pt2) pos.line X.env = pure false := by rfl) :
    DS X L (.Assign [.Tuple [.Name x px, .Name y py] kt pt] (.Tuple [a, b] k2 pt2) pos) (wPar i j wr) := (ps_par hc hN hi hj hij hx hy ha hw hs).imp fun D σ H ⟨ρ, S, P, A, h, E⟩ =>
  ⟨ρ, S, _, _, A, h, fun ps S' vs H' f st r n => by
    cases r with
    | nil => exact n.elim
    | cons r1 r =>
      cases r with
      | nil => exact n.elim
      | cons r2 r =>
        cases r with
        | nil => exact ⟨_, _, rfl, E.nx _ S' _ H' f (((A.fr f st).set r1).set r2) n⟩
        | cons _ _ => exact n.elim, E.zc A⟩

/-! ### calls -/
abbrev PSp := List PV → Sto → RK → ZK → Prop
def CallP (X : Cx) (L : Lc) (f : Value) (k : PSp) : Prop :=
  ∀ (pins : List (Addr × Obj)) (s : Shared) (σ : L2.St) (H : Hp) (xs : List V) (us : List Value) (ps : List PV) (S : Sto) (R : RK) (Z : ZK) (Q : VK), Inv X pins σ H s → Vals xs us → RSK X.K L H S → L.J.p H → RVs X.K H ps xs → k ps S R Z → VC X.K L S H R Q → ZC X.K L S H σ Z →
    wpAny (model X.prog X.w) X.A (call f us) (EP X pins σ Q) X.xe s
def wCall (k : PSp) (wr : WA) : WE := fun ρ S R Z => wr ρ S (fun ps S' => k ps S' R Z) Z
variable {es : List Expr} {wr : WA} {x : Str} {p : Pos} {k : PSp}
theorem largs (ha : DA X L es wr) {pins : List (Addr × Obj)} {s : Shared} {σ : L2.St} {H : Hp} {ρ : Slots} {S : Sto} {R : RK} {Z : ZK} {Q : VK} (I : Inv X pins σ H s) (A : At X.K L σ H ρ S) (h : wCall k wr ρ S R Z) (q : VC X.K L S H R Q) (hZ : ZC X.K L S H σ Z) (pos : Pos) {Qf : List Value → Shared → Prop}
    (hf : ∀ us s1 xs ps S1 H1, Inv X pins σ H1 s1 → Fr S H S1 H1 → Vals xs us → RSK X.K L H1 S1 → L.J.p H1 → RVs X.K H1 ps xs → k ps S1 R Z → VC X.K L S1 H1 R Q → ZC X.K L S1 H1 σ Z → Qf us s1) :
    wpAny (model X.prog X.w) X.A (spliced (backTo pos (starEach es X.env))) Qf X.xe s :=
  thn (ha.run pos pins s σ H (fun vs H1 => ∃ ps S1, Fr S H S1 H1 ∧ RSK X.K L H1 S1 ∧ L.J.p H1 ∧ RVs X.K H1 ps vs ∧ k ps S1 R Z ∧ VC X.K L S1 H1 R Q ∧ ZC X.K L S1 H1 σ Z) I ⟨ρ, S, _, Z, A, h, fun ps S1 vs H1 i st r hk => ⟨ps, S1, i, st, L.J.st _ _ i.imm A.j, r, hk, q.fr i, hZ.fr i⟩, hZ⟩)
    fun us s1 ⟨xs, H1, I1, rv, ps, S1, i, st, j, r, hk, q1, z1⟩ => hf us s1 xs ps S1 H1 I1 i rv st j r hk q1 z1
theorem de_callB {id : String} (hc : CallP X L (.builtin id) k) (hm : X.mg x = none) (ha : DA X L (e :: es) wr) (hv : bootBuiltins x = some (.builtin id) := by decide +kernel) (hg : Gl X x := by rfl) (hn : x ≠ "__name__" := by decide) (hdb : (x == ("__debug__" : Str)) = false := by decide)
    (he : starEach (e :: es) X.env = (false, eval e X.env) :: starEach es X.env := by rfl) (hpl : (backTo pos (starEach es X.env)).any (·.1) = false := by rfl) : DE X L (.Call (.Name x p) (e :: es) [] pos) (wCall k wr) := by
  refine ⟨fun pins s σ H Q I ⟨ρ, S, R, Z, A, h, q, hZ⟩ => ?_⟩
  refine wpAny_Call_Name_kw (ld_blt I hg hm hv ?_ hn hdb)
  exact PyProof.Rows.callWith_builtin1 (largs ha I A h q hZ pos fun us s1 xs ps S1 H1 I1 i rv st j r hk q1 z1 => hc pins s1 σ H1 xs us ps S1 R Z Q I1 rv st j r hk q1 z1) he hpl
theorem de_callT {T : String} (hc : CallP X L (.type T) k) (hm : X.mg x = none) (ha : DA X L (e :: es) wr) (hv : bootBuiltins x = some (.type T) := by decide +kernel) (hg : Gl X x := by rfl) (hn : x ≠ "__name__" := by decide) (hdb : (x == ("__debug__" : Str)) = false := by decide)
    (he : starEach (e :: es) X.env = (false, eval e X.env) :: starEach es X.env := by rfl) (hpl : (backTo pos (starEach es X.env)).any (·.1) = false := by rfl) : DE X L (.Call (.Name x p) (e :: es) [] pos) (wCall k wr) := by
  refine ⟨fun pins s σ H Q I ⟨ρ, S, R, Z, A, h, q, hZ⟩ => ?_⟩
  refine wpAny_Call_Name_kw (ld_blt I hg hm hv ?_ hn hdb)
  exact PyProof.Rows.callWith_type1 (largs ha I A h q hZ pos fun us s1 xs ps S1 H1 I1 i rv st j r hk q1 z1 => hc pins s1 σ H1 xs us ps S1 R Z Q I1 rv st j r hk q1 z1) he hpl
/-- f(..), C(..) of the module -/
theorem de_call {f : Addr} (hc : CallP X L (.ref f) k) (hm : X.mg x = some (.ref f)) (hk : PySem.W.keepIn X.K (.ref f) = true) (ha : DA X L (e :: es) wr) (hg : Gl X x := by rfl) (hdb : (x == ("__debug__" : Str)) = false := by decide)
    (he : starEach (e :: es) X.env = (false, eval e X.env) :: starEach es X.env := by rfl) (hpl : (backTo pos (starEach es X.env)).any (·.1) = false := by rfl) : DE X L (.Call (.Name x p) (e :: es) [] pos) (wCall k wr) := by
  refine ⟨fun pins s σ H Q I ⟨ρ, S, R, Z, A, h, q, hZ⟩ => ?_⟩
  refine wpAny_Call_Name_kw (ld_glob I hg hm ?_ hdb)
  exact PySem.W.callWith_K (h₀ := X.base) I.ok.mod.kin hk (largs ha I A h q hZ pos fun us s1 xs ps S1 H1 I1 i rv st j r hk' q1 z1 => ⟨I1.kIn, hc pins s1 σ H1 xs us ps S1 R Z Q I1 rv st j r hk' q1 z1⟩) he hpl
theorem de_call0 {f : Addr} (hc : CallP X L (.ref f) k) (hm : X.mg x = some (.ref f)) (hk : PySem.W.keepIn X.K (.ref f) = true) (hg : Gl X x := by rfl) (hdb : (x == ("__debug__" : Str)) = false := by decide) : DE X L (.Call (.Name x p) [] [] pos) (wCall k wNil) := by
  refine ⟨fun pins s σ H Q I ⟨ρ, S, R, Z, A, h, q, hZ⟩ => ?_⟩
  refine wpAny_Call_Name_kw (ld_glob I hg hm ?_ hdb)
  exact PySem.W.callWith_K0 I.kIn hk (hc pins s σ H [] [] [] S R Z Q I .nil A.st A.j .nil h q hZ)

/-! ### defs -/
def spL (K : PySem.W.Frag) (T : List (Addr × Str)) (n : Nat) (sp : PSp) : Sp := fun vs H Q E => vs.length = n ∧ ∃ ps S R Z, RVs K H ps vs ∧ RS ⟨K, T⟩ H S ∧ sp ps S R Z ∧ (∀ p S' v H', Fr S H S' H' → RS ⟨K, T⟩ H' S' → RV K H' p v → R p S' → Q v H') ∧
  ∀ e S' cls d H', Fr S H S' H' → RS ⟨K, T⟩ H' S' → RX K H' e cls d → Z e S' → E cls d H'
/-- with the number of arguments -/
def arN (n : Nat) (sp : PSp) : PSp := fun ps S R Z => ps.length = n ∧ sp ps S R Z
/-- a def called -/
theorem call_fn {P : Program} {n lv : Nat} {f : Addr} {fd : FuncData} {pn : List Str} {sp : PSp} (tk : Takes X L.W) (F : FnOk X.prog X.w X.K X.mg X.base (CX X.prog X.w) lv f fd pn (spL X.K L.T n sp)) (hr : Room lv X.A) (hb : Binds X.K fd pn []) : CallP X L (.ref f) (arN n sp) := by
  intro pins s σ H xs us ps S R Z Q I rv st j r ⟨hn, hk⟩ q z
  have hp : PassesAt (CX X.prog X.w) X σ (fun cls d H => L.W cls d σ H) := fun pins H s e s' I c => tk e s' (XE.of_call I (fun cls d H' h => h) c)
  refine run_fnSD (E := fun σ cls d H => L.W cls d σ H) F hr hb .nil hp I rv ?_
  rw [List.append_nil]
  exact ⟨r.length.symm.trans hn, ps, S, R, Z, r, st, hk, q, z⟩

end
end PX
end L2

/-! PX4: the ghost, defs, loops. -/
namespace L2
namespace PX
open PySem PySem.Spec PyProof.Rows

/-! ### the ghost: a thing of the store stands still from now on -/
structure Gst (A : Addr → Prop) (H H' : Hp) : Prop where
  no : ∀ a, ¬ A a → H' a = H a
  ye : ∀ a, A a → ∃ u o, H a = some u ∧ Pl u ∧ H' a = some (.frz o u)
theorem pl_cases {u : HO} (p : Pl u) : (∃ xs, u = .lst xs) ∨ (∃ xs, u = .dK xs) ∨ ∃ C dx fs, u = .ins C dx fs := by
  cases u with
  | lst xs => exact .inl ⟨_, rfl⟩
  | dK xs => exact .inr (.inl ⟨_, rfl⟩)
  | ins C dx fs => exact .inr (.inr ⟨_, _, _, rfl⟩)
  | _ => exact p.elim
section
variable {X : Cx} {pins : List (Addr × Obj)} {σ : L2.St} {H H' : Hp} {s : Shared} {A : Addr → Prop}
theorem obj_at {P : Program} {w : World} {H : Hp} {h : Heap} {a : Addr} {u : HO} (x : ObjOk P w H h a u) (p : Pl u) : ∃ o, h.get? a = some o := by
  rcases pl_cases p with ⟨xs, rfl⟩ | ⟨xs, rfl⟩ | ⟨C, dx, fs, rfl⟩
  · obtain ⟨_, its, n, _, e⟩ := x; exact ⟨_, e⟩
  · obtain ⟨_, _, vs, _, o, es, ep, e, _⟩ := x; exact ⟨_, e⟩
  · obtain ⟨_, _, _, e, _⟩ := x; exact ⟨_, e⟩
theorem Inv.ghost (I : Inv X pins σ H s) (g : ∀ a, H' a = H a ∨ ∃ u o, H a = some u ∧ Pl u ∧ s.heap.get? a = some o ∧ H' a = some (.frz o u)) : Inv X pins σ H' s := by
  have non : ∀ a, H a = none → H' a = none := fun a e => by
    rcases g a with q | ⟨u, o, q, _⟩
    · exact q.trans e
    · rw [e] at q; cases q
  have np : ∀ a w, H a = some w → ¬ Pl w → H' a = some w := fun a w e n => by
    rcases g a with q | ⟨u, o, q, p, _⟩
    · exact q.trans e
    · rw [e] at q; cases q; exact absurd p n
  have ok : ∀ a u, ObjOk X.prog X.w H s.heap a u → ObjOk X.prog X.w H' s.heap a u := fun a u x => x.stay (fun b v _ q => q) (fun b q => np b _ q fun z => z) fun b xs q => np b _ q fun z => z
  refine ⟨I.ok, I.os, I.bare, ⟨I.base.keep, I.base.slot, fun b o e n hx => non b (I.base.free b o e n hx), I.base.there, fun b xs e => np b _ (I.base.tups b xs e) fun z => z, fun b o u e => np b _ (I.base.frzs b o u e) fun z => z, fun b ps e => ?_⟩,
    I.loc, I.cell, non _ I.free, fun x c e => non _ (I.freeC x c e), fun p hp => ?_, fun a u e => ?_, I.len⟩
  · obtain ⟨more, q⟩ := I.base.tbls b ps e
    exact ⟨more, np b _ q fun z => z⟩
  · obtain ⟨h1, h2, h3⟩ := I.pin p hp
    exact ⟨h1, non _ h2, h3⟩
  · rcases g a with q | ⟨v, o, q, p, ho, q2⟩
    · rw [q] at e
      exact ok a u (I.hok a u e)
    · rw [q2] at e; cases e
      exact ⟨ho, ok a v (I.hok a v q)⟩
open Classical in
theorem Inv.gst (I : Inv X pins σ H s) (A : Addr → Prop) (hA : ∀ a, A a → ∃ u, H a = some u ∧ Pl u) : ∃ H', Gst A H H' ∧ Inv X pins σ H' s := by
  have f : ∀ a, ∃ r : Option HO, (¬ A a → r = H a) ∧ (A a → ∃ u o, H a = some u ∧ Pl u ∧ s.heap.get? a = some o ∧ r = some (.frz o u)) := fun a => by
    by_cases h : A a
    · obtain ⟨u, hu, p⟩ := hA a h
      obtain ⟨o, ho⟩ := obj_at (I.hok a u hu) p
      exact ⟨some (.frz o u), fun n => absurd h n, fun _ => ⟨u, o, hu, p, ho, rfl⟩⟩
    · exact ⟨H a, fun _ => rfl, fun n => absurd n h⟩
  have f' := Classical.axiomOfChoice f
  obtain ⟨H', hH⟩ := f'
  refine ⟨H', ⟨fun a n => (hH a).1 n, fun a y => ?_⟩, Inv.ghost I fun a => ?_⟩
  · obtain ⟨u, o, h1, h2, _, h3⟩ := (hH a).2 y
    exact ⟨u, o, h1, h2, h3⟩
  · by_cases h : A a
    · exact .inr ((hH a).2 h)
    · exact .inl ((hH a).1 h)
end
theorem Gst.imm {A : Addr → Prop} {H H' : Hp} (g : Gst A H H') : Imm H H' := by
  have np : ∀ a w, H a = some w → ¬ Pl w → H' a = some w := fun a w e n => by
    by_cases h : A a
    · obtain ⟨u, o, q, p, _⟩ := g.ye a h
      rw [e] at q; cases q; exact absurd p n
    · exact (g.no a h).trans e
  exact ⟨fun a xs e => np a _ e fun z => z, fun a o u e => np a _ e fun z => z⟩
mutual
/-- p, the things of A standing still, is q -/
inductive Fz (S : Sto) (A : Addr → Prop) : PV → PV → Prop
  | same (p : PV) : Fz S A p p
  | lst {a : Addr} {xs ys : List PV} : A a → S a = some (.lst xs) → Fzs S A xs ys → Fz S A (.ref a) (.lst ys)
  | dct {a : Addr} {ks ls : List (Key × PV)} : A a → S a = some (.dct ks) → ks.map (·.1) = ls.map (·.1) → Fzs S A (ks.map (·.2)) (ls.map (·.2)) → Fz S A (.ref a) (.dct ls)
  | obj {a C : Addr} {ks ls : List (Str × PV)} : A a → S a = some (.ins C ks) → ks.map (·.1) = ls.map (·.1) → Fzs S A (ks.map (·.2)) (ls.map (·.2)) → Fz S A (.ref a) (.obj C ls)
  | tup {xs ys : List PV} : Fzs S A xs ys → Fz S A (.tup xs) (.tup ys)
  | lstF {xs ys : List PV} : Fzs S A xs ys → Fz S A (.lst xs) (.lst ys)
  | dctF {ks ls : List (Key × PV)} : ks.map (·.1) = ls.map (·.1) → Fzs S A (ks.map (·.2)) (ls.map (·.2)) → Fz S A (.dct ks) (.dct ls)
  | objF {C : Addr} {ks ls : List (Str × PV)} : ks.map (·.1) = ls.map (·.1) → Fzs S A (ks.map (·.2)) (ls.map (·.2)) → Fz S A (.obj C ks) (.obj C ls)
inductive Fzs (S : Sto) (A : Addr → Prop) : List PV → List PV → Prop
  | nil : Fzs S A [] []
  | cons {x y : PV} {xs ys : List PV} : Fz S A x y → Fzs S A xs ys → Fzs S A (x :: xs) (y :: ys)
end
mutual
theorem Fz.rv {K : PySem.W.Frag} {T : List (Addr × Str)} {S : Sto} {A : Addr → Prop} {H H' : Hp} (st : RS ⟨K, T⟩ H S) (g : Gst A H H') : ∀ {p q : PV} {v : V}, Fz S A p q → RV K H p v → RV K H' q v
  | _, _, _, .same p, r => r.imm g.imm
  | _, _, _, .lst ha hs f, r => by
    cases r with | ref a =>
    obtain ⟨vs, h1, h2⟩ := st.mo _ _ hs
    obtain ⟨u, o, e1, _, e2⟩ := g.ye _ ha
    rw [h1] at e1; cases e1
    exact .lst (.inl ⟨o, e2⟩) (Fzs.rv st g f h2)
  | _, _, _, .dct ha hs e f, r => by
    cases r with | ref a =>
    obtain ⟨vs, h1, h2, h3⟩ := st.mo _ _ hs
    obtain ⟨u, o, e1, _, e2⟩ := g.ye _ ha
    rw [h1] at e1; cases e1
    exact .dct e2 (e.symm.trans h2) (Fzs.rv st g f h3)
  | _, _, _, .obj ha hs e f, r => by
    cases r with | ref a =>
    obtain ⟨dx, vs, h1, h2, h3⟩ := st.mo _ _ hs
    obtain ⟨u, o, e1, _, e2⟩ := g.ye _ ha
    rw [h1] at e1; cases e1
    exact .obj e2 (e.symm.trans h2) (Fzs.rv st g f h3)
  | _, _, _, .tup f, r => by
    cases r with | tup h r => exact .tup (sqT_imm g.imm h) (Fzs.rv st g f r)
  | _, _, _, .lstF f, r => by
    cases r with | lst h r => exact .lst (FzL.imm g.imm h) (Fzs.rv st g f r)
  | _, _, _, .dctF e f, r => by
    cases r with | dct h e' r => exact .dct (g.imm.frz _ _ _ h) (e.symm.trans e') (Fzs.rv st g f r)
  | _, _, _, .objF e f, r => by
    cases r with | obj h e' r => exact .obj (g.imm.frz _ _ _ h) (e.symm.trans e') (Fzs.rv st g f r)
theorem Fzs.rv {K : PySem.W.Frag} {T : List (Addr × Str)} {S : Sto} {A : Addr → Prop} {H H' : Hp} (st : RS ⟨K, T⟩ H S) (g : Gst A H H') : ∀ {p q : List PV} {v : List V}, Fzs S A p q → RVs K H p v → RVs K H' q v
  | _, _, _, .nil, r => by cases r; exact .nil
  | _, _, _, .cons f fs, r => by
    cases r with | cons r rs => exact .cons (Fz.rv st g f r) (Fzs.rv st g fs rs)
end
/-- what is left of the store -/
theorem Gst.rs {K : PySem.W.Frag} {T : List (Addr × Str)} {S S' : Sto} {A : Addr → Prop} {H H' : Hp} (st : RS ⟨K, T⟩ H S) (g : Gst A H H') (u : Sub S' S) (n : ∀ a, A a → S' a = none) : RS ⟨K, T⟩ H' S' := by
  refine ⟨fun a o e => ?_, fun q hq => ?_⟩
  · have h : ¬ A a := fun z => by rw [n a z] at e; cases e
    exact (st.mo a o (u a o e)).imm g.imm (g.no a h)
  · obtain ⟨ps, h1, h2, h3⟩ := st.tab q hq
    have np : ∀ a w, H a = some w → ¬ Pl w → H' a = some w := fun a w e n => by
      by_cases h : A a
      · obtain ⟨u, o, q, p, _⟩ := g.ye a h
        rw [e] at q; cases q; exact absurd p n
      · exact (g.no a h).trans e
    refine ⟨ps, np _ _ h1 fun z => z, h2, fun pos cv hc => ?_⟩
    obtain ⟨c, e1, e2⟩ := h3 pos cv hc
    exact ⟨c, e1, np _ _ e2 fun z => z⟩
theorem Fr.gst {S0 S S' : Sto} {A : Addr → Prop} {H0 H H' : Hp} (f : Fr S0 H0 S H) (g : Gst A H H') (hA : ∀ a, A a → S a ≠ none) (u : Sub S' S) : Fr S0 H0 S' H' :=
  ⟨f.imm.trans g.imm, fun a o n e => (g.no a fun z => hA a z (f.new a n (by rw [e]; simp))).trans (f.keep a o n e), (f.sub u).new⟩
def gK (Q : VK) : VK := fun v H => ∃ A : Addr → Prop, (∀ a, A a → ∃ u, H a = some u ∧ Pl u) ∧ ∀ H', Gst A H H' → Q v H'
theorem pe_ghost {X : Cx} {e : Expr} {t : TE} (h : PE X e t) : PE X e (fun σ H Q => t σ H (gK Q)) := ⟨fun pins s σ H Q I q => thn (h.run pins s σ H _ I q) fun u s1 ⟨v, H1, I1, r, A, hA, k⟩ => by
  obtain ⟨H', g, I'⟩ := Inv.gst I1 A hA
  exact ⟨v, H', I', r, k H' g⟩⟩
theorem pss_ghost {X : Cx} {b : List Stmt} {t : TS} (h : PSs X b t) : PSs X b (fun D σ H => t { D with rt := gK D.rt } σ H) := ⟨fun pins s σ H D I q => thn (h.run pins s σ H _ I q) fun f s1 hs => by
  cases f with
  | ret u =>
    obtain ⟨v, σ', H1, I1, r, A, hA, k⟩ := hs
    obtain ⟨H', g, I'⟩ := Inv.gst I1 A hA
    exact ⟨v, σ', H', I', r, k H' g⟩
  | next => exact hs
  | brk => exact hs
  | cont => exact hs⟩
/-- the ghost at values -/
def gR (R : RK) : RK := fun p S => ∃ (A : Addr → Prop) (q : PV) (S' : Sto), (∀ a, A a → S a ≠ none) ∧ Fz S A p q ∧ Sub S' S ∧ (∀ a, A a → S' a = none) ∧ R q S'
theorem vc_ghost {K : PySem.W.Frag} {L : Lc} {S : Sto} {H : Hp} {R : RK} {Q : VK} (q : VC K L S H R Q) : VC K L S H (gR R) (gK Q) := fun p S1 v H1 i st r ⟨A, p', S', hA, f, u, n, h⟩ => by
  refine ⟨A, fun a z => ?_, fun H' g => q p' S' v H' (i.gst g hA u) (g.rs st u n) (f.rv st g r) h⟩
  cases e : S1 a with
  | none => exact absurd e (hA a z)
  | some o => exact (st.mo a o e).at
theorem de_ghost {X : Cx} {L : Lc} {e : Expr} {w : WE} (h : DE X L e w) : DE X L e (fun ρ S R Z => w ρ S (gR R) Z) := (pe_ghost h).imp fun σ H Q ⟨ρ, S, R, Z, A, h, q, hZ⟩ => ⟨ρ, S, _, Z, A, h, vc_ghost q, hZ⟩

/-! ### a def -/
def startP (N : List Str) (ps : List PV) : Slots := ps.map some ++ List.replicate (N.length - ps.length) none
def wfg (R : RK) : RK := fun p S => ∃ S', Sub S' S ∧ R p S'
def zfg (Z : ZK) : ZK := fun e S => ∃ S', Sub S' S ∧ Z e S'
/-- the lift's surroundings in a def -/
abbrev lcOf (T : List (Addr × Str)) (E : XK) : Lc := ⟨T, fun cls d _ H => E cls d H, J0⟩
theorem fn_ok {P : Program} {w : World} {K : PySem.W.Frag} {mg : Str → Option Value} {base : Heap} {x qual : Str} {params : Arguments} {body : List Stmt} {scope : Scope} {f : Addr} {fd : FuncData} {N pn : List Str} {lv n : Nat} {T : List (Addr × Str)} {sp : PSp} {wb : WS}
    (F : FunD K x qual params body scope [] [] f fd) (S : FnScope N pn scope) (hn : pn.length = n)
    (hb : ∀ (cdv : Value) (A : Around) (outer : List Env) (s : Shared) (H : Hp) (E : XK), Room lv (A.deeper (envOfC qual scope s.heap.objs.size f cdv)) → DSs (cxOf (CX P w) P w K mg base N qual scope f cdv A outer s H E) (lcOf T E) body wb)
    (pure : ∀ ps S R Z, ps.length = n → sp ps S R Z → wb { nx := fun _ S' => wfg R .non S', rt := gR R, ex := fun e _ S' => zfg Z e S' } (startP N ps) S) : FnOk P w K mg base (CX P w) (lv + 1) f fd pn (spL K T n sp) := by
  refine F.ok S (fun vs H Q E h => h.1.trans hn.symm) fun cdv A outer s H vs Q E hr ⟨hl, ps, S0, R, Z, r, st, h, q, z⟩ => ⟨_, pss_ghost (hb cdv A outer s H E hr), ?_⟩
  refine ⟨startP N ps, S0, _, ⟨?_, st, trivial⟩, pure ps S0 R Z (r.length.trans hl) h, ?_⟩
  · have := RSl.start N.length r
    exact this
  · refine ⟨fun ρ S1 σ H1 i A1 ⟨S', u, h1⟩ => q .non S' .non H1 (i.sub u) (A1.st.sub u) .non h1, vc_ghost (L := lcOf T E) q, fun _ _ _ _ _ _ z => z.elim, fun _ _ _ _ _ _ z => z.elim, fun e ρ S1 cls d σ H1 i A1 rx ⟨S', u, h1⟩ => z e S' cls d H1 (i.sub u) (A1.st.sub u) rx h1⟩

/-! ### for, while -/
section
variable {X : Cx} {L : Lc} {a b c e iter tg : Expr} {wi : WI} {g : Tg} {t : WT} {pos : Pos} {body : List Stmt} {v : WS}
def wForL (ok : Sto → Prop) (g : Tg) (v : WS) (P : PEnds) : List PV → Slots → Sto → Prop
  | [], ρ, S => ok S ∧ P.nx ρ S
  | x :: r, ρ, S => ok S ∧ asg g x ρ S fun ρ' => v { P with nx := wForL ok g v P r, ct := wForL ok g v P r, bk := P.nx } ρ' S
def wFor (wi : WI) (g : Tg) (v : WS) : WS := fun P ρ S => wi ρ S (fun items ok S' => wForL ok g v P items ρ S') (fun e S' => P.ex e ρ S')
theorem wForL_ok {ok : Sto → Prop} {P : PEnds} {items : List PV} {ρ : Slots} {S : Sto} (h : wForL ok g v P items ρ S) : ok S := by
  cases items with
  | nil => exact h.1
  | cons x r => exact h.1
theorem drop_cons {α : Type} {xs : List α} {i : Nat} {x : α} (h : xs[i]? = some x) : xs.drop i = x :: xs.drop (i + 1) := by
  obtain ⟨h1, h2⟩ := List.getElem?_eq_some_iff.mp h
  rw [← h2]
  exact List.drop_eq_getElem_cons h1
theorem ds_for (hp : PassesOwn (model X.prog X.w) X.A X.env X.xe) (hc : X.calm = true) (hi : DI X L tg iter wi) (hg : TgOk X tg g) (hb : DSs X L body v) (hs : ∀ x, foldedSetIterable iter X.env x = pure x := by intro _; rfl) :
    DS X L (.For tg iter body [] pos) (wFor wi g v) := (ps_for hp hc hi hg hb hs).imp fun D σ H ⟨ρ, S, P, A, h, E⟩ => by
  refine ⟨ρ, S, _, _, A, h, fun items ok S1 J H1 i st yl h1 => ?_, E.zc A⟩
  refine ⟨fun j m σ2 H2 => m = items.length - j ∧ j ≤ items.length ∧ ∃ ρ2 S2, Fr S1 H1 S2 H2 ∧ At X.K L σ2 H2 ρ2 S2 ∧ wForL ok g v P (items.drop j) ρ2 S2, ⟨_, rfl, Nat.zero_le _, ρ, S1, .refl _ _, A.fr i st, h1⟩, ?_⟩
  rintro j m σ2 H2 ⟨rfl, hj, ρ2, S2, f2, A2, h2⟩
  by_cases hlt : j < items.length
  · obtain ⟨x, hx⟩ : ∃ x, items[j]? = some x := ⟨_, List.getElem?_eq_getElem hlt⟩
    have hok := wForL_ok h2
    rw [drop_cons hx] at h2
    obtain ⟨go, yd⟩ := yl.go j H2 S2 x hx f2.imm A2.st hok
    refine .inr ⟨go, fun σ' H' => ∃ ρ' S', Fr S1 H1 S' H' ∧ At X.K L σ' H' ρ' S' ∧ wForL ok g v P (items.drop (j + 1)) ρ' S', fun σ' H' ⟨ρ', S', f', A', h'⟩ => ⟨items.length - (j + 1), by omega, rfl, hlt, ρ', S', f', A', h'⟩, fun y H3 hy => ?_⟩
    obtain ⟨gr, rv⟩ := yd y H3 hy
    have f3 : Fr S2 H2 S2 H3 := .grow gr
    refine asg_of (A2.fr f3 (A2.st.grow gr)) rv h2.2 fun ρ4 σ4 A4 h4 => ⟨ρ4, S2, _, A4, h4, ?_⟩
    have f4 : Fr S1 H1 S2 H3 := f2.trans f3
    have E4 := E.fr (i.trans f4)
    exact ⟨fun ρ5 S5 σ5 H5 i5 A5 n5 => ⟨ρ5, S5, f4.trans i5, A5, n5⟩, E4.rt, E4.nx, fun ρ5 S5 σ5 H5 i5 A5 n5 => ⟨ρ5, S5, f4.trans i5, A5, n5⟩, E4.ex⟩
  · have e : j = items.length := by omega
    subst e
    rw [List.drop_length] at h2
    exact .inl ⟨yl.stop H2 S2 f2.imm A2.st h2.1, E.nx ρ2 S2 σ2 H2 (i.trans f2) A2 h2.2⟩
def wWhN (t : WT) (v : WS) (P : PEnds) : Nat → Slots → Sto → Prop
  | 0, _, _ => False
  | n + 1, ρ, S => t ρ S (fun b S' => if b = true then v { P with nx := wWhN t v P n, ct := wWhN t v P n, bk := P.nx } ρ S' else P.nx ρ S') (fun e S' => P.ex e ρ S')
def wWh (t : WT) (v : WS) : WS := fun P ρ S => ∃ n, wWhN t v P n ρ S
theorem ds_while (hp : PassesOwn (model X.prog X.w) X.A X.env X.xe) (hc : DT X L c t) (hb : DSs X L body v) : DS X L (.While c body [] pos) (wWh t v) := (ps_while hp hc hb).imp fun D σ H ⟨ρ, S, P, A, ⟨n, h⟩, E⟩ => by
  refine ⟨fun m σ2 H2 => ∃ ρ2 S2, Fr S H S2 H2 ∧ At X.K L σ2 H2 ρ2 S2 ∧ wWhN t v P m ρ2 S2, ⟨n, ρ, S, .refl _ _, A, h⟩, ?_⟩
  rintro m σ2 H2 ⟨ρ2, S2, f2, A2, h2⟩
  cases m with
  | zero => exact h2.elim
  | succ m =>
    have E2 := E.fr f2
    refine ⟨ρ2, S2, _, _, A2, h2, fun b S3 H3 i3 st3 h3 => ?_, E2.zc A2⟩
    cases b with
    | false => exact iteF (E2.nx ρ2 S3 σ2 H3 i3 (A2.fr i3 st3) h3)
    | true =>
      refine iteT ⟨fun σ' H' => ∃ ρ' S', Fr S H S' H' ∧ At X.K L σ' H' ρ' S' ∧ wWhN t v P m ρ' S', fun σ' H' h' => ⟨m, Nat.lt_succ_self m, h'⟩, ρ2, S3, _, A2.fr i3 st3, h3, ?_⟩
      have E3 := E2.fr i3
      exact ⟨fun ρ5 S5 σ5 H5 i5 A5 n5 => ⟨ρ5, S5, (f2.trans i3).trans i5, A5, n5⟩, E3.rt, E3.nx, fun ρ5 S5 σ5 H5 i5 A5 n5 => ⟨ρ5, S5, (f2.trans i3).trans i5, A5, n5⟩, E3.ex⟩
end
end PX
end L2

/-! PX5: what is walked; comprehensions. -/
namespace L2
namespace PX
open PySem PySem.Spec PyProof.Rows

/-! ### walks -/
theorem Yl.of {K : PySem.W.Frag} {L : Lc} {J : It} {n : Nat} {G : Hp → Prop} {Y : Nat → Hp → V → Hp → Prop} {items : List PV} {ok : Sto → Prop} {H0 : Hp} (w : Walk J n G Y) (hn : items.length = n) (hg : ∀ H S, Imm H0 H → RSK K L H S → ok S → G H)
    (hy : ∀ i H S x v H', items[i]? = some x → Imm H0 H → RSK K L H S → ok S → Y i H v H' → Grow H H' ∧ RV K H' x v) : Yl K L items ok H0 J := by
  subst hn
  exact ⟨fun i H S x hx im st o => by
    have hi : i < items.length := (List.getElem?_eq_some_iff.mp hx).1
    exact ⟨w.goes i H hi (hg H S im st o), fun v H' y => hy i H S x v H' hx im st o (w.yields i H v H' hi (hg H S im st o) y)⟩, fun H S im st o => w.stops H (hg H S im st o)⟩
theorem yAt_of {K : PySem.W.Frag} {H H' : Hp} {xs : List PV} {vs : List V} {i : Nat} {x : PV} {v : V} (r : RVs K H xs vs) (hx : xs[i]? = some x) (y : YAt vs i H v H') : Grow H H' ∧ RV K H' x v := by
  obtain ⟨rfl, hv⟩ := y
  obtain ⟨v', h1, h2⟩ := r.get hx
  rw [hv] at h1; cases h1
  exact ⟨.refl _, h2⟩
theorem yPair_of {K : PySem.W.Frag} {H H' : Hp} {fx fy : Nat → Option V} {i : Nat} {x y : PV} {v : V} (h : YPair fx fy i H v H') (h1 : ∀ u, fx i = some u → RV K H x u) (h2 : ∀ u, fy i = some u → RV K H y u) : Grow H H' ∧ RV K H' (.tup [x, y]) v := by
  obtain ⟨T, a, b, rfl, hT, rfl, ha, hb⟩ := h
  have g : Grow H (upd H T (.tup [a, b])) := grow_upd hT
  exact ⟨g, .tup (SqT.of upd_same) (.cons ((h1 a ha).imm (.of g)) (.cons ((h2 b hb).imm (.of g)) .nil))⟩
/-- what a value is walked as -/
def itK (p : PV) (S : Sto) (R : List PV → (Sto → Prop) → Sto → Prop) : Prop := match p with
  | .lst xs => R xs (fun _ => True) S
  | .tup xs => R xs (fun _ => True) S
  | .str z => R (z.cps.toList.map fun c => PV.str ⟨#[c]⟩) (fun _ => True) S
  | .dct ks => R (ks.map fun q => match q.1 with
    | .inl i => PV.int i
    | .inr x => PV.str x) (fun _ => True) S
  | .ref a => match S a with
    | some (.lst xs) => R xs (fun S' => S' a = some (.lst xs)) S
    | _ => False
  | _ => False
def keyP : Key → PV
  | .inl i => .int i
  | .inr x => .str x
theorem rv_key {K : PySem.W.Frag} {H : Hp} (k : Key) : RV K H (keyP k) (kV k) := by cases k <;> constructor
section
variable {X : Cx} {L : Lc} {tg e a b : Expr} {we wa : WE} {wr : WA} {pos p tpos : Pos}
theorem pi_any {tl : TE} (hl : PE X e tl) : PI X tg e (fun σ H R => tl σ H fun x H1 => (∃ a xs, x = .ref a ∧ SqL X.K H1 a xs ∧ R (Itl X.K a) H1) ∨ (∃ a xs, x = .ref a ∧ SqT X.K H1 a xs ∧ R (Itt X.K a) H1) ∨ (∃ z, x = .str z ∧ R (Its z) H1) ∨
    ∃ d o kvs, x = .ref d ∧ H1 d = some (.frz o (.dK kvs)) ∧ R (Itk d o kvs) H1) := by
  refine ⟨fun pins s σ H R I h => ?_⟩
  refine thn (hl.run pins s σ H _ I h) fun v s1 ⟨x, H1, I1, r1, q1⟩ => ?_
  have mk : PE X e (fun σ' H' Q => ∃ (u : V), False) := ⟨fun pins s σ H Q I ⟨_, z⟩ => z.elim⟩
  rcases q1 with ⟨a, xs, rfl, hq, q⟩ | ⟨a, xs, rfl, hq, q⟩ | ⟨z, rfl, q⟩ | ⟨d, o, kvs, rfl, hq, q⟩
  · cases r1
    obtain ⟨its, rv, p, hz⟩ := I1.list hq
    refine wpAny_pyIter_list p.isList ?_
    refine ⟨s1.heap.objs.size, [s1.heap.objs.size], _, _, H1, rfl, I1.kept (t' := s1.toks) fun b o e => Heap.get?_push_of_some _ e, turn_list a _, ⟨_, Heap.get?_push_size _ rfl, rfl, rfl⟩, fun b hb => ?_, q⟩
    have e : b = s1.heap.objs.size := by simpa using hb
    subst e
    exact I1.fpOk (Nat.le_refl _) (I1.hok.fresh (Nat.le_refl _))
  · cases r1
    obtain ⟨its, rv, p, hz⟩ := I1.tuple hq
    refine wpAny_pyIter_tuple (show s1.heap.IsTuple a its.toArray from p) ?_
    refine ⟨s1.heap.objs.size, [s1.heap.objs.size], _, _, H1, rfl, I1.kept (t' := s1.toks) fun b o e => Heap.get?_push_of_some _ e, turn_tuple a _, ⟨_, Heap.get?_push_size _ rfl, rfl, rfl⟩, fun b hb => ?_, q⟩
    have e : b = s1.heap.objs.size := by simpa using hb
    subst e
    exact I1.fpOk (Nat.le_refl _) (I1.hok.fresh (Nat.le_refl _))
  · obtain ⟨t, rfl⟩ := r1
    refine wpAny_pyIter_strU ?_
    have hty : strIterType z = "str_ascii_iterator" ∨ strIterType z = "str_iterator" := by
      unfold strIterType
      split
      · exact .inl rfl
      · exact .inr rfl
    refine ⟨s1.heap.objs.size, [s1.heap.objs.size], _, _, H1, rfl, I1.kept (t' := s1.toks) fun b o e => Heap.get?_push_of_some _ e, turn_str _ z t (strIterType z) hty, ?_, fun b hb => ?_, q⟩
    · first
        | exact ⟨rfl, _, Heap.get?_push_size _ rfl, rfl, rfl⟩
        | exact ⟨_, Heap.get?_push_size _ rfl, rfl, rfl⟩
        | exact ⟨⟨_, Heap.get?_push_size _ rfl, rfl, rfl⟩, rfl⟩
    have e : b = s1.heap.objs.size := by simpa using hb
    subst e
    exact I1.fpOk (Nat.le_refl _) (I1.hok.fresh (Nat.le_refl _))
  · cases r1
    obtain ⟨hs, hgd, hx, es, ep, vs, hdt, hsz, kv, hm⟩ := I1.frzK hq
    refine iter_keys hs hgd hx hdt (pi_one (tk := s1.toks) I1 _ (turn_keys _ hdt) ⟨_, Heap.get?_push_size _ rfl, rfl, ?_⟩ q)
    rw [hsz] <;> rfl
def wIt (we : WE) : WI := fun ρ S R Z => we ρ S (fun p S' => itK p S' R) Z
theorem getElem?_of_map {α β : Type} {f : α → β} {xs : List α} {i : Nat} {y : β} (h : (xs.map f)[i]? = some y) : ∃ x, xs[i]? = some x ∧ y = f x := by
  rw [List.getElem?_map] at h
  cases e : xs[i]? with
  | none => rw [e] at h; cases h
  | some x => rw [e] at h; cases h; exact ⟨x, rfl, rfl⟩
/-- for .. in e -/
theorem di_seq (he : DE X L e we) : DI X L tg e (wIt we) := (pi_any he).imp fun σ H Q ⟨ρ, S, R, Z, A, h, q, hZ⟩ => by
  refine ⟨ρ, S, _, Z, A, h, fun p S1 v H1 i st r h1 => ?_, hZ⟩
  unfold itK at h1
  cases r with
  | @lst a vs xs hf hr =>
    refine .inl ⟨a, vs, rfl, hf.sq, q xs _ S1 _ H1 i st (Yl.of walk_list hr.length (fun H2 S2 im _ _ => (hf.imm im).sq) fun j H2 S2 x v H3 hx im _ _ y => yAt_of (hr.imm im) hx y) h1⟩
  | @tup a vs xs hf hr =>
    refine .inr (.inl ⟨a, vs, rfl, hf, q xs _ S1 _ H1 i st (Yl.of walk_tup hr.length (fun H2 S2 im _ _ => sqT_imm im hf) fun j H2 S2 x v H3 hx im _ _ y => yAt_of (hr.imm im) hx y) h1⟩)
  | str z =>
    refine .inr (.inr (.inl ⟨z, rfl, q _ _ S1 _ H1 i st (Yl.of walk_str (by simp) (fun _ _ _ _ _ => trivial) fun j H2 S2 x v H3 hx im _ _ y => ?_) h1⟩))
    obtain ⟨rfl, c, hc, rfl⟩ := y
    obtain ⟨c', h2, rfl⟩ := getElem?_of_map hx
    rw [Array.getElem?_toList, hc] at h2
    cases h2
    exact ⟨.refl _, .str _⟩
  | @dct a o gs ks hf he hr =>
    refine .inr (.inr (.inr ⟨a, o, gs, rfl, hf, q _ _ S1 _ H1 i st (Yl.of walk_keys (by have := congrArg List.length he; simpa using this) (fun H2 S2 im _ _ => im.frz _ _ _ hf) fun j H2 S2 x v H3 hx im _ _ y => ?_) h1⟩))
    obtain ⟨rfl, k, v', hk, rfl⟩ := y
    obtain ⟨⟨k', p'⟩, h2, rfl⟩ := getElem?_of_map hx
    have e1 : (ks.map (·.1))[j]? = some k' := by rw [List.getElem?_map, h2]; rfl
    have e2 : (gs.map (·.1))[j]? = some k := by rw [List.getElem?_map, hk]; rfl
    rw [he, e2] at e1
    cases e1
    exact ⟨.refl _, by have := rv_key (K := X.K) (H := H3) k; cases k <;> exact this⟩
  | ref a =>
    rcases dr_ref (S := S1) (a := a) with ⟨xs, h2, _⟩ | ⟨xs, h2, _⟩ | ⟨C, fs, h2, _⟩ | ⟨h2, _⟩
    · simp only [h2] at h1
      obtain ⟨vs, h3, h4⟩ := st.mo a _ h2
      refine .inl ⟨a, vs, rfl, SqL.of h3, q xs _ S1 _ H1 i st ⟨fun j H2 S2 x hx im st2 ok2 => ?_, fun H2 S2 im st2 ok2 => ?_⟩ h1⟩
      · obtain ⟨vs2, h5, h6⟩ := st2.mo a _ ok2
        have hj : j < vs2.length := by rw [← h6.length]; exact (List.getElem?_eq_some_iff.mp hx).1
        exact ⟨walk_list.goes j H2 hj (SqL.of h5), fun v H' y => yAt_of h6 hx (walk_list.yields j H2 v H' hj (SqL.of h5) y)⟩
      · obtain ⟨vs2, h5, h6⟩ := st2.mo a _ ok2
        rw [h6.length]
        exact walk_list.stops H2 (SqL.of h5)
    · simp only [h2] at h1
    · simp only [h2] at h1
    · simp only [h2] at h1
  | _ => exact h1.elim
def intB (p : PV) (k : Int → Prop) : Prop := match p with
  | .int i => k i
  | _ => False
theorem intB_of {p : PV} {k : Int → Prop} (h : intB p k) : ∃ i, p = .int i ∧ k i := by
  cases p with
  | int i => exact ⟨i, rfl, h⟩
  | _ => exact h.elim
theorem yl_range {K : PySem.W.Frag} {H : Hp} {lo : Int} {n : Nat} : Yl K L ((List.range n).map fun (k : Nat) => PV.int (lo + k)) (fun _ => True) H (Itr lo n) :=
  Yl.of walk_range (by simp) (fun _ _ _ _ _ => trivial) fun j H2 S2 x v H3 hx im _ _ y => by
    obtain ⟨rfl, rfl⟩ := y
    obtain ⟨k, h2, rfl⟩ := getElem?_of_map hx
    obtain ⟨h3, h4⟩ := List.getElem?_eq_some_iff.mp h2
    rw [List.getElem_range] at h4
    subst h4
    exact ⟨.refl _, .int _⟩
/-- range(n), range(a, b) -/
def wRng1 (wa : WE) : WI := fun ρ S R Z => wa ρ S (fun p S' => intB p fun j => (-(2 ^ 62) ≤ j ∧ j < 2 ^ 62) ∧ R ((List.range j.toNat).map fun (k : Nat) => PV.int (0 + k)) (fun _ => True) S') Z
def wRng2 (wa wb : WE) : WI := fun ρ S R Z => wa ρ S (fun p S1 => wb ρ S1 (fun q S' => intB p fun i => intB q fun j => (-(2 ^ 62) ≤ i ∧ i < 2 ^ 62 ∧ -(2 ^ 62) ≤ j ∧ j < 2 ^ 62) ∧ R ((List.range (j - i).toNat).map fun (k : Nat) => PV.int (i + k)) (fun _ => True) S') Z) Z
def on1 (k : PV → Sto → Prop) : List PV → Sto → Prop
  | [p], S => k p S
  | _, _ => False
def on2 (k : PV → PV → Sto → Prop) : List PV → Sto → Prop
  | [p, q], S => k p q S
  | _, _ => False
theorem on1_of {k : PV → Sto → Prop} {ps : List PV} {S : Sto} {K : PySem.W.Frag} {H : Hp} {vs : List V} (h : on1 k ps S) (r : RVs K H ps vs) : ∃ p v, ps = [p] ∧ vs = [v] ∧ RV K H p v ∧ k p S := by
  cases r with
  | nil => exact h.elim
  | cons r rs =>
    cases rs with
    | nil => exact ⟨_, _, rfl, rfl, r, h⟩
    | cons _ _ => exact h.elim
theorem on2_of {k : PV → PV → Sto → Prop} {ps : List PV} {S : Sto} {K : PySem.W.Frag} {H : Hp} {vs : List V} (h : on2 k ps S) (r : RVs K H ps vs) : ∃ p v q u, ps = [p, q] ∧ vs = [v, u] ∧ RV K H p v ∧ RV K H q u ∧ k p q S := by
  cases r with
  | nil => exact h.elim
  | cons r rs =>
    cases rs with
    | nil => exact h.elim
    | cons r2 rs =>
      cases rs with
      | nil => exact ⟨_, _, _, _, rfl, rfl, r, r2, h⟩
      | cons _ _ => exact h.elim
theorem di_range1 (hm : X.mg "range" = none) (ha : DE X L a wa) (hg : Gl X "range" := by rfl) (hs : starEach [a] X.env = [(false, eval a X.env)] := by rfl) : DI X L tg (.Call (.Name "range" p) [a] [] pos) (wRng1 wa) :=
  (pi_range1 hg hm (da_cons ha da_nil hs) hs).imp fun σ H Q ⟨ρ, S, R, Z, A, h, q, hZ⟩ => by
  refine ⟨ρ, S, on1 fun p S' => intB p fun j => (-(2 ^ 62) ≤ j ∧ j < 2 ^ 62) ∧ R ((List.range j.toNat).map fun (k : Nat) => PV.int (0 + k)) (fun _ => True) S', Z, A, h, fun ps S1 vs H1 i st r h1 => ?_, hZ⟩
  obtain ⟨p, v, rfl, rfl, rp, h1⟩ := on1_of h1 r
  obtain ⟨j, rfl, b, h1⟩ := intB_of h1
  cases rp
  exact ⟨j, rfl, b.1, b.2, q _ _ S1 _ H1 i st yl_range h1⟩
theorem di_range2 (hm : X.mg "range" = none) (ha : DE X L a wa) (hb : DE X L b we) (hg : Gl X "range" := by rfl) (hs : starEach [a, b] X.env = [(false, eval a X.env), (false, eval b X.env)] := by rfl) (hs2 : starEach [b] X.env = [(false, eval b X.env)] := by rfl) :
    DI X L tg (.Call (.Name "range" p) [a, b] [] pos) (wRng2 wa we) := (pi_range2 hg hm (da_cons ha (da_cons hb da_nil hs2) (by rw [hs, hs2])) hs hs2).imp fun σ H Q ⟨ρ, S, R, Z, A, h, q, hZ⟩ => by
  refine ⟨ρ, S, on2 fun p q S' => intB p fun i => intB q fun j => (-(2 ^ 62) ≤ i ∧ i < 2 ^ 62 ∧ -(2 ^ 62) ≤ j ∧ j < 2 ^ 62) ∧ R ((List.range (j - i).toNat).map fun (k : Nat) => PV.int (i + k)) (fun _ => True) S', Z, A, h, fun ps S1 vs H1 i st r h1 => ?_, hZ⟩
  obtain ⟨p, v, p2, v2, rfl, rfl, rp, rp2, h2⟩ := on2_of h1 r
  obtain ⟨i1, rfl, h3⟩ := intB_of h2
  obtain ⟨j, rfl, b, h4⟩ := intB_of h3
  cases rp
  cases rp2
  exact ⟨i1, j, rfl, b, q _ _ S1 _ H1 i st yl_range h4⟩

/-! ### enumerate: over a list (HandS.Iter), over a tuple -/
theorem meets_enumT {v : Value} {o : Obj} {H : Heap → Prop} (B : Begins v o H) :
    Meets (Builtin.«enumerate.__new__» ⟨[.type "enumerate", v], []⟩) (fun _ R s => H s.heap ∧
      R (.ok (.ret (.ref (s.heap.push o).objs.size))) { s with heap := (s.heap.push o).push { cls := .type "enumerate", data := .fields #[.none, .bool false, .ref s.heap.objs.size, rawInt 0, .none, .none] } }) :=
  .of_wp fun prog w A R s h => by
    obtain ⟨hp, g, d, tk, os⟩ := s; obtain ⟨h1, h⟩ := h
    have hsub := sub_enumerate
    have q1 : ∀ {A' : Around} {E : Value → Shared → Prop} {Q : Value → Shared → Prop}, Q (.ref hp.objs.size) ⟨hp.push o, g, d, tk, os⟩ → wpAny (model prog w) A' (pyIter v) Q E ⟨hp, g, d, tk, os⟩ :=
      fun q => B.iter prog w _ _ ⟨hp, g, d, tk, os⟩ _ h1 q
    wp_walk using q1
    refine wpAny_stack_any fun st => wpAny_pure ?_
    split
    · rename_i c _ _ _ _ _
      cases (c == Value.type "enumerate")
      · wp_walk using q1
        exact ⟨_, rfl, h⟩
      · wp_walk using q1
        exact ⟨_, rfl, h⟩
    · wp_walk using q1
      exact ⟨_, rfl, h⟩
theorem call_enumT {prog : Program} {w : World} {A : Around} {E : Value → Shared → Prop} {s : Shared} {v : Value} {o : Obj} {H : Heap → Prop} {Q : Value → Shared → Prop} (B : Begins v o H) (h1 : H s.heap)
    (h : ∀ h', IsEnum h' (s.heap.objs.size + 1) s.heap.objs.size 0 .none → h'.get? s.heap.objs.size = some o → h'.objs.size = s.heap.objs.size + 2 → (∀ b o, s.heap.get? b = some o → h'.get? b = some o) → Q (.ref (s.heap.objs.size + 1)) { s with heap := h' }) :
    wpAny (model prog w) A (call (.type "enumerate") [v]) Q E s := by
  refine callType_new F.called_enumerate (by decide) (F.typeCall_enumerate_1 _) (F.newCall_enumerate_1 _) (fun obj => F.args_object_init_2 obj _) F.entry_enumerate_new (meets_enumT B) ⟨h1, ?_⟩
  have hz : (s.heap.push o).objs.size = s.heap.objs.size + 1 := Heap.size_push ..
  show _ ∧ _
  rw [hz]
  have he : IsEnum ((s.heap.push o).push { cls := .type "enumerate", data := .fields #[.none, .bool false, .ref s.heap.objs.size, rawInt 0, .none, .none] }) (s.heap.objs.size + 1) s.heap.objs.size 0 .none := by
    have := Heap.get?_push_size (s.heap.push o) (o := { cls := .type "enumerate", data := .fields #[.none, .bool false, .ref s.heap.objs.size, rawInt 0, .none, .none] }) rfl
    rw [hz] at this; exact this
  refine ⟨⟨_, he, rfl⟩, h _ he (Heap.get?_push_of_some _ (Heap.get?_push_size _ B.free)) (by rw [Heap.size_push, hz]) fun b o x => Heap.get?_push_of_some _ (Heap.get?_push_of_some _ x)⟩
def IteT (K : PySem.W.Frag) (a : Addr) : It :=
  ⟨fun i H => ∃ xs x, SqT K H a xs ∧ xs[i]? = some x, fun i H v H' => ∃ T x, v = .ref T ∧ H T = none ∧ H' = upd H T (.tup [.int (i : Nat), x]) ∧ ∀ xs, SqT K H a xs → xs[i]? = some x, fun i H => ∃ xs, SqT K H a xs ∧ xs.length ≤ i⟩
theorem turn_enumT {P : Program} {w : World} {K : PySem.W.Frag} {elts : List Expr} {kk : Nat} {tpos : Pos} (a e it : Addr) :
    Turn P w K (.Tuple elts kk tpos) (IteT K a) [e, it] e (fun i h => (∃ old, IsEnum h e it ((i : Nat) : Int) old) ∧ h.IsTupleIter it a i ∧ e ≠ it ∧ a ≠ it ∧ a ≠ e) where
  mem := by simp
  obj := fun i h st b hb => by
    obtain ⟨⟨old, he⟩, ⟨o, ho, hc, hd⟩, _⟩ := st
    have e' : b = e ∨ b = it := by simpa using hb
    rcases e' with z | z
    · rw [z]; exact ⟨_, he, fun v q => nomatch q⟩
    · rw [z]; exact ⟨o, ho, fun v q => by rw [hd] at q; cases q⟩
  keep := fun i h h' st k => let ⟨⟨old, he⟩, hi, hne⟩ := st; ⟨⟨old, k e (by simp) _ he⟩, hi.at fun o q => k it (by simp) o q, hne⟩
  item := by
    intro X hP hw hK hc i pins s σ H E I hf st hg
    subst hP hw hK
    obtain ⟨⟨old, he⟩, hit, hne, hai, hae⟩ := st
    obtain ⟨xs, x, hq, hx⟩ := hg
    obtain ⟨its, rv, p, hz⟩ := I.tuple hq
    obtain ⟨u, hu, ru⟩ := rv.get hx
    have hel : e < s.heap.objs.size := Heap.lt_size he
    have hil : it < s.heap.objs.size := by obtain ⟨_, q, _⟩ := hit; exact Heap.lt_size q
    have D := Draws.tuple (prog := X.prog) (w := X.w) (A := X.A.in1) (by exact I.ok.hd hc) it a hai its.toArray
    refine wpAny_pyNext_enum_itemD D he ⟨hit, show s.heap.IsTuple a its.toArray from p⟩ (by simp; exact (List.getElem?_eq_some_iff.mp hu).1) hne (by simp; exact ⟨hne, fun z => hae z.symm⟩) fun y h' tk hy ho hit' hT hsz hk => ?_
    have ey : y = u := by
      have h1 : its.toArray[i]? = some y := hy
      have h2 : its.toArray[i]? = some u := by simpa using hu
      rw [h1] at h2; exact Option.some.inj h2
    subst ey
    refine ⟨_, rfl, wpAny_letOwnedTupleGo_enum (s := { s with heap := h', toks := tk + 1 }) ho fun h'' he' sb => ?_⟩
    have hT2 : h''.get? s.heap.objs.size = some { cls := .type "tuple", data := .seq #[.int i tk, y] } := (sb.2 _ (Nat.ne_of_gt hel)).trans hT
    have new : ObjOk X.prog X.w (upd H s.heap.objs.size (.tup [.int (i : Nat), x])) h'' s.heap.objs.size (.tup [.int (i : Nat), x]) :=
      ⟨by show 2 ≤ sizeLine; decide, [.int i tk, y], .cons ⟨_, rfl⟩ (.cons ru .nil), ⟨_, hT2, rfl, _, rfl⟩⟩
    have I1 : Inv X pins σ (upd H s.heap.objs.size (.tup [.int (i : Nat), x])) { s with heap := h'', toks := tk + 1 } :=
      I.turnedNew (ch := [e, it]) (fun b ob hb q => (sb.2 b (fun z => hb (by simp [z]))).trans (hk b ob (fun z => hb (by simp [z])) (fun z => hb (by simp [z])) q)) hf (Nat.le_refl _) new
    refine ⟨.ref s.heap.objs.size, _, I1, rfl, ⟨_, x, rfl, I.hok.fresh (Nat.le_refl _), rfl, fun ys hy => by rw [I.tuple_inj hy hq]; exact hx⟩, ⟨⟨y, ?_⟩, hit'.1.at fun o q => (sb.2 it (Ne.symm hne)).trans q, hne, hai, hae⟩, fun b hb => ?_⟩
    · have e1 : ((i + 1 : Nat) : Int) = (i : Int) + 1 := by omega
      rw [e1]; exact he'
    · have hb' : b < s.heap.objs.size := by
        have e' : b = e ∨ b = it := by simpa using hb
        rcases e' with z | z
        · rw [z]; exact hel
        · rw [z]; exact hil
      rw [upd_ne (Nat.ne_of_lt hb')]
      exact (hf b hb).1
  done := by
    intro X hP hw hK hc i pins s σ H E I hf st hg
    subst hP hw hK
    obtain ⟨⟨old, he⟩, hit, hne, hai, hae⟩ := st
    obtain ⟨xs, hq, hx⟩ := hg
    obtain ⟨its, rv, p, hz⟩ := I.tuple hq
    obtain ⟨f0, f1, f2, f3, f4, f5⟩ := hf it (by simp)
    have hl := rv.length
    have hT : s.TypeIs (.ref e) "enumerate" := ⟨_, he, rfl⟩
    unfold pyNext
    refine wpAny_bind (wpAny_attempt (wpAny_callSpecial?_slot (name := Str.ofString "__next__") hT F.slot_enumerate_next
      (wpAny_call_entry F.slot_enumerate_next hT F.entry_enumerate_next ?_ (F.args_enumerate_next_1 _))))
    show wpAny _ _ (field (.ref e) 2 >>= _) _ _ _
    refine wpAny_bind (wpAny_field he rfl (x := .ref it) rfl ?_)
    refine wpAny_bind (wpAny_nextOf_tuple_end (by exact I.ok.hd hc) hit (show s.heap.IsTuple a its.toArray from p) (by simp; omega) fun h' x eb hx' => ?_)
    obtain ⟨o, ho, hcx⟩ := hx'
    refine wpAny_bind (wpAny_isInstance (T := "StopIteration") (b := true) ⟨o, ho, hcx⟩ isSubtype_stop ?_)
    exact wpAny_pure ⟨rfl, I.turned (t' := s.toks) (fun b o hb q => eb b o hb q) f0 f1 f3 f4 f5⟩
  self := fun A i s Q E st h => let ⟨⟨_, he⟩, _⟩ := st; wpAny_pyIter_enum he h
theorem walk_enumT {K : PySem.W.Frag} {a : Addr} {xs : List V} : Walk (IteT K a) xs.length (fun H => SqT K H a xs) (YPair (fun i => some (.int (i : Nat))) (fun i => xs[i]?)) := by
  refine ⟨fun i _ hi q => ⟨xs, xs[i], q, by simp [hi]⟩, fun _ q => ⟨xs, q, Nat.le_refl _⟩, fun i H v H' _ q y => ?_⟩
  obtain ⟨T, x, h1, h2, h3, h4⟩ := y
  exact ⟨T, .int (i : Nat), x, h1, h2, h3, rfl, h4 xs q⟩
theorem pi_enumA {elts : List Expr} {kk : Nat} {ta : TA} (hg : Gl X "enumerate") (hm : X.mg "enumerate" = none) (ha : PA X [e] ta) (hs : starEach [e] X.env = [(false, eval e X.env)] := by rfl) :
    PI X (.Tuple elts kk tpos) (.Call (.Name "enumerate" p) [e] [] pos) (fun σ H R => ta σ H fun vs H1 => ∃ a, vs = [.ref a] ∧ ((∃ xs, SqL X.K H1 a xs ∧ R (Ite X.K a) H1) ∨ ∃ xs, SqT X.K H1 a xs ∧ R (IteT X.K a) H1)) := by
  refine ⟨fun pins s σ H R I h => ?_⟩
  refine Call_ (ld_blt I hg hm boot_enumerate (PyProof.Rows.callWith_type1 (thn (ha.run pos pins s σ H _ I h) fun us s1 ⟨vs, H1, I1, r1, a, ex, q1⟩ => ?_) hs rfl))
  subst ex
  cases r1 with
  | cons r rr =>
    cases rr
    cases r
    have fresh2 : ∀ b ∈ [s1.heap.objs.size + 1, s1.heap.objs.size], FpOk X pins H1 b := fun b hb => by
      have e' : b = s1.heap.objs.size + 1 ∨ b = s1.heap.objs.size := by simpa using hb
      have hle : s1.heap.objs.size ≤ b := by
        rcases e' with z | z
        · rw [z]; exact Nat.le_add_right _ _
        · rw [z]; exact Nat.le_refl _
      exact I1.fpOk hle (I1.hok.fresh hle)
    rcases q1 with ⟨xs, hq, q⟩ | ⟨xs, hq, q⟩
    · obtain ⟨its, rv, p', hz⟩ := I1.list hq
      refine call_enumerate_list p'.isList fun h' he hit hsz hk => wpAny_pyIter_enum he ?_
      have I2 : Inv X pins σ H1 { s1 with heap := h' } := I1.kept (t' := s1.toks) hk
      exact ⟨s1.heap.objs.size + 1, [s1.heap.objs.size + 1, s1.heap.objs.size], _, _, H1, rfl, I2, turn_enum a (s1.heap.objs.size + 1) s1.heap.objs.size, ⟨⟨.none, he⟩, hit, Nat.succ_ne_self _⟩, fresh2, q⟩
    · obtain ⟨its, rv, p', hz⟩ := I1.tuple hq
      refine call_enumT (begins_tuple a its.toArray) (show s1.heap.IsTuple a its.toArray from p') fun h' he hit hsz hk => wpAny_pyIter_enum he ?_
      have I2 : Inv X pins σ H1 { s1 with heap := h' } := I1.kept (t' := s1.toks) hk
      have la : a < s1.heap.objs.size := p'.lt
      exact ⟨s1.heap.objs.size + 1, [s1.heap.objs.size + 1, s1.heap.objs.size], _, _, H1, rfl, I2, turn_enumT a (s1.heap.objs.size + 1) s1.heap.objs.size, ⟨⟨.none, he⟩, ⟨_, hit, rfl, rfl⟩, Nat.succ_ne_self _, Nat.ne_of_lt la, Nat.ne_of_lt (Nat.lt_succ_of_lt la)⟩, fresh2, q⟩
/-- the pairs of enumerate -/
def enumP (xs : List PV) : List PV := (List.range xs.length).map fun (i : Nat) => PV.tup [.int i, xs.getD i .non]
def wEnum (we : WE) : WI := fun ρ S R Z => we ρ S (fun p S' => match p with
  | .lst xs => R (enumP xs) (fun _ => True) S'
  | .tup xs => R (enumP xs) (fun _ => True) S'
  | _ => False) Z
theorem enumP_at {xs : List PV} {j : Nat} {x : PV} (h : (enumP xs)[j]? = some x) : ∃ y, xs[j]? = some y ∧ x = .tup [.int j, y] := by
  obtain ⟨k, h2, rfl⟩ := getElem?_of_map h
  obtain ⟨h3, h4⟩ := List.getElem?_eq_some_iff.mp h2
  rw [List.getElem_range] at h4
  subst h4
  have hj : j < xs.length := by simpa using h3
  exact ⟨xs[j], List.getElem?_eq_getElem hj, by simp [List.getD, List.getElem?_eq_getElem hj]⟩
theorem di_enum {elts : List Expr} {kk : Nat} (hm : X.mg "enumerate" = none) (ha : DE X L e we) (hg : Gl X "enumerate" := by rfl) (hs : starEach [e] X.env = [(false, eval e X.env)] := by rfl) :
    DI X L (.Tuple elts kk tpos) (.Call (.Name "enumerate" p) [e] [] pos) (wEnum we) := (pi_enumA hg hm (da_cons ha da_nil hs) hs).imp fun σ H Q ⟨ρ, S, R, Z, A, h, q, hZ⟩ => by
  refine ⟨ρ, S, on1 fun p S' => match p with
    | .lst xs => R (enumP xs) (fun _ => True) S'
    | .tup xs => R (enumP xs) (fun _ => True) S'
    | _ => False, Z, A, h, fun ps S1 vs H1 i st r h1 => ?_, hZ⟩
  obtain ⟨p, v, rfl, rfl, rp, h2⟩ := on1_of h1 r
  cases rp with
  | @lst a vs xs hf hr => exact ⟨a, rfl, .inl ⟨vs, hf.sq, q _ _ S1 _ H1 i st (Yl.of walk_enum (by unfold enumP; simp [hr.length]) (fun H2 S2 im _ _ => (hf.imm im).sq) fun j H2 S2 x v H3 hx im _ _ y => by
      obtain ⟨y', h3, rfl⟩ := enumP_at hx
      exact yPair_of y (fun u e => by cases e; exact .int _) fun u e => by
        obtain ⟨v', h4, h5⟩ := (hr.imm im).get h3
        rw [e] at h4; cases h4; exact h5) h2⟩⟩
  | @tup a vs xs hf hr => exact ⟨a, rfl, .inr ⟨vs, hf, q _ _ S1 _ H1 i st (Yl.of walk_enumT (by unfold enumP; simp [hr.length]) (fun H2 S2 im _ _ => sqT_imm im hf) fun j H2 S2 x v H3 hx im _ _ y => by
      obtain ⟨y', h3, rfl⟩ := enumP_at hx
      exact yPair_of y (fun u e => by cases e; exact .int _) fun u e => by
        obtain ⟨v', h4, h5⟩ := (hr.imm im).get h3
        rw [e] at h4; cases h4; exact h5) h2⟩⟩
  | _ => exact h2.elim
end
end PX
end L2

/-! PX6: comprehensions. -/
namespace L2
namespace PX
open PySem PySem.Spec PyProof.Rows

theorem wipe_in {σ : L2.St} {i : Nat} : ∀ {vs : List Nat}, i ∈ vs → (wipe σ vs)[i]? = if i < σ.length then some none else none
  | v :: vs, h => by
    unfold wipe
    by_cases e : v = i
    · subst e
      by_cases hl : v < σ.length
      · rw [if_pos hl, List.getElem?_set_self (by rw [wipe_length]; exact hl)]
      · rw [if_neg hl, List.getElem?_eq_none (by rw [List.length_set, wipe_length]; omega)]
    · rw [List.getElem?_set_ne e]
      exact wipe_in (by
        rcases List.mem_cons.mp h with q | q
        · exact absurd q.symm e
        · exact q)
theorem wipe_congr {σ τ : L2.St} {vs : List Nat} (hl : σ.length = τ.length) (h : ∀ i, i ∉ vs → σ[i]? = τ[i]?) : wipe σ vs = wipe τ vs := by
  apply List.ext_getElem?
  intro i
  by_cases hi : i ∈ vs
  · rw [wipe_in hi, wipe_in hi, hl]
  · rw [wipe_out hi, wipe_out hi, h i hi]
def Tg.ixs : Tg → List Nat
  | .nm i => [i]
  | .tp is => is
theorem setMV_length : ∀ {is : List Nat} {vs : List V} {σ : L2.St}, (setMV σ is vs).length = σ.length
  | [], _, _ => by unfold setMV; rfl
  | i :: is, [], _ => by unfold setMV; rfl
  | i :: is, v :: vs, _ => by unfold setMV; rw [setMV_length, List.length_set]
theorem setMV_out : ∀ {is : List Nat} {vs : List V} {σ : L2.St} {j : Nat}, j ∉ is → (setMV σ is vs)[j]? = σ[j]?
  | [], _, _, _, _ => by unfold setMV; rfl
  | i :: is, [], _, _, _ => by unfold setMV; rfl
  | i :: is, v :: vs, _, j, h => by
    unfold setMV
    rw [setMV_out fun z => h (List.mem_cons_of_mem _ z), List.getElem?_set_ne fun z => h (by rw [z]; exact List.mem_cons_self)]
/-- what a target leaves of the slots, the own ones wiped -/
theorem gTg_wipe {K : PySem.W.Frag} {g : Tg} {own : List Nat} {v : V} {σ : L2.St} {H : Hp} {Q : L2.St → Hp → Prop} (ho : ∀ i ∈ g.ixs, i ∈ own) (h : gTg K g v (wipe σ own) H Q) : gTg K g v (wipe σ own) H fun σ2 H2 => wipe σ2 own = wipe σ own ∧ Q σ2 H2 := by
  have ww : ∀ {τ : L2.St}, τ.length = (wipe σ own).length → (∀ i, i ∉ own → τ[i]? = (wipe σ own)[i]?) → wipe τ own = wipe σ own := fun {τ} hl hi =>
    wipe_congr (by rw [hl, wipe_length]) fun i n => by rw [hi i n, wipe_out n]
  cases g with
  | nm i => exact ⟨ww (by simp) fun j n => List.getElem?_set_ne fun z => n (by rw [← z]; exact ho i (by simp [Tg.ixs])), h⟩
  | tp is =>
    obtain ⟨a, xs, e, hq, hl, k⟩ := h
    exact ⟨a, xs, e, hq, hl, ww setMV_length fun j n => setMV_out fun z => n (ho j z), k⟩
theorem RSl.wipe {K : PySem.W.Frag} {H : Hp} {ρ : Slots} {σ : L2.St} (h : RSl K H ρ σ) : ∀ (own : List Nat), RSl K H (wipeP ρ own) (L2.wipe σ own)
  | [] => h
  | i :: own => by
    have ih := RSl.wipe h own
    refine ⟨by unfold wipeP L2.wipe; simp [ih.len], fun j p e => ?_⟩
    unfold wipeP at e
    unfold L2.wipe
    by_cases hij : i = j
    · subst hij
      by_cases hl : i < (wipeP ρ own).length
      · rw [List.getElem?_set_self hl] at e; cases e
      · rw [List.getElem?_eq_none (by simp; omega)] at e; cases e
    · rw [List.getElem?_set_ne hij] at e ⊢
      exact ih.at_ j p e
theorem At.wipe {K : PySem.W.Frag} {L : Lc} {σ : L2.St} {H : Hp} {ρ : Slots} {S : Sto} (A : At K L σ H ρ S) (own : List Nat) : At K L (L2.wipe σ own) H (wipeP ρ own) S := ⟨A.sl.wipe own, A.st, A.j⟩
/-- a thing outside of the store is changed -/
theorem RS.out {G : Gk} {H : Hp} {S : Sto} {a : Addr} {o u : HO} (h : RS G H S) (n : S a = none) (e : H a = some o) (p : Pl o) : RS G (upd H a u) S :=
  ⟨fun b q eq => by
    have hb : b ≠ a := fun z => by rw [z, n] at eq; cases eq
    exact (h.mo b q eq).imm (imm_upd e p) (upd_ne hb), tabs_upd h.tab e p⟩
abbrev Lc.in_ (L : Lc) : Lc := ⟨L.T, fun _ _ _ _ => False, L.J⟩
theorem At.in_ {K : PySem.W.Frag} {L : Lc} {σ : L2.St} {H : Hp} {ρ : Slots} {S : Sto} (A : At K L σ H ρ S) : At K L.in_ σ H ρ S := ⟨A.sl, A.st, A.j⟩
def Z0 : ZK := fun _ _ => False
theorem zc0 {K : PySem.W.Frag} {L : Lc} {S : Sto} {H : Hp} {σ : L2.St} : ZC K L S H σ Z0 := fun _ _ _ _ _ _ _ _ z => z.elim
def wLcL (ok : Sto → Prop) (g : Tg) (t : WT) (we : WE) (ρ0 : Slots) (k : List PV → Sto → Prop) : List PV → List PV → Sto → Prop
  | [], acc, S => ok S ∧ k acc S
  | x :: r, acc, S => ok S ∧ asg g x ρ0 S fun ρ' => t ρ' S (fun b S2 => if b = true then we ρ' S2 (fun y S3 => acc.length < sizeLine ∧ wLcL ok g t we ρ0 k r (acc ++ [y]) S3) Z0 else wLcL ok g t we ρ0 k r acc S2) Z0
def wLc (wi : WI) (g : Tg) (t : WT) (we : WE) (own : List Nat) : WE := fun ρ S R Z => wi ρ S (fun items ok S1 => wLcL ok g t we (wipeP ρ own) (fun ys S2 => R (.lst ys) S2) items [] S1) Z
theorem wLcL_ok {ok : Sto → Prop} {g : Tg} {t : WT} {we : WE} {ρ0 : Slots} {k : List PV → Sto → Prop} {items acc : List PV} {S : Sto} (h : wLcL ok g t we ρ0 k items acc S) : ok S := by
  cases items with
  | nil => exact h.1
  | cons x r => exact h.1
def wYes : WT := fun _ S R _ => R true S
section
variable {X : Cx} {L : Lc} {elt tg iter c : Expr} {we : WE} {wi : WI} {t : WT} {g : Tg} {pos : Pos}
abbrev DTs (X : Cx) (L : Lc) (ifs : List Expr) (t : WT) : Prop := PTs X ifs (LT X.K L t)
theorem dts_nil : DTs X L [] wYes := ⟨fun pins s σ H Q I ⟨ρ, S, R, Z, A, h, q, hZ⟩ => pts_nil.run pins s σ H Q I (q true S H (.refl S H) A.st h)⟩
theorem dts_one (h : DT X L c t) : DTs X L [c] t := pts_one h
theorem lc_lift {own : List Nat} {σ : L2.St} {H : Hp} {Q : VK} (ho : ∀ i ∈ g.ixs, i ∈ own) (h : LE X.K L (wLc wi g t we own) σ H Q) : tLc (LI X.K L wi) (gTg X.K g) (LT X.K L.in_ t) (LE X.K L.in_ we) own σ H (gK Q) := by
  obtain ⟨ρ, S, R, Z, A, h, q, hZ⟩ := h
  refine ⟨ρ, S, _, Z, A, h, fun items ok S1 J H1 i st yl h1 D hD => ?_, hZ⟩
  have sD : S1 D = none := st.free hD
  have w0 : Imm H1 (upd H1 D (.lst [])) := .of (grow_upd hD)
  refine ⟨fun j m H2 => m = items.length - j ∧ j ≤ items.length ∧ ∃ S2 acc accV, Fr S1 H1 S2 H2 ∧ RSK X.K L H2 S2 ∧ H2 D = some (.lst accV) ∧ RVs X.K H2 acc accV ∧ S2 D = none ∧ wLcL ok g t we (wipeP ρ own) (fun ys S2 => R (.lst ys) S2) (items.drop j) acc S2,
    ⟨_, rfl, Nat.zero_le _, S1, [], [], .grow (grow_upd hD), st.grow (grow_upd hD), upd_same, .nil, sD, h1⟩, ?_⟩
  rintro j m H2 ⟨rfl, hj, S2, acc, accV, f2, st2, hD2, r2, sD2, h2⟩
  have fr2 := f2
  by_cases hlt : j < items.length
  · obtain ⟨x, hx⟩ : ∃ x, items[j]? = some x := ⟨_, List.getElem?_eq_getElem hlt⟩
    have hok := wLcL_ok h2
    rw [drop_cons hx] at h2
    obtain ⟨go, yd⟩ := yl.go j H2 S2 x hx fr2.imm st2 hok
    refine .inr ⟨go, fun H' => ∃ S' acc' accV', Fr S1 H1 S' H' ∧ RSK X.K L H' S' ∧ H' D = some (.lst accV') ∧ RVs X.K H' acc' accV' ∧ S' D = none ∧ wLcL ok g t we (wipeP ρ own) (fun ys S2 => R (.lst ys) S2) (items.drop (j + 1)) acc' S',
      fun H' h' => ⟨items.length - (j + 1), by omega, rfl, hlt, h'⟩, fun y H3 hy => gTg_wipe ho ?_⟩
    obtain ⟨gr, rv⟩ := yd y H3 hy
    have st3 := st2.grow gr
    have f3 : Fr S1 H1 S2 H3 := f2.trans (.grow gr)
    have A3 : At X.K L (L2.wipe σ own) H3 (wipeP ρ own) S2 := (A.fr (i.trans (fr2.trans (.grow gr))) st3).wipe own
    refine asg_of A3 rv h2.2 fun ρ4 σ4 A4 h4 => ?_
    refine ⟨ρ4, S2, _, Z0, A4.in_, h4, fun b S5 H5 i5 st5 h5 => ?_, zc0⟩
    have hD5 : H5 D = some (.lst accV) := i5.keep D _ sD2 (gr _ _ hD2)
    have sD5 : S5 D = none := i5.new D sD2 (by rw [gr _ _ hD2]; simp)
    have f5 := f3.trans i5
    have r5 := (r2.imm (.of gr)).imm i5.imm
    cases b with
    | false => exact iteF ⟨S5, acc, accV, f5, st5, hD5, r5, sD5, h5⟩
    | true =>
      refine iteT ⟨ρ4, S5, _, Z0, (A4.in_.fr i5 st5), h5, fun y S6 v6 H6 i6 st6 ry ⟨hz, h6⟩ => ?_, zc0⟩
      have hD6 : H6 D = some (.lst accV) := i6.keep D _ sD5 hD5
      have sD6 : S6 D = none := i6.new D sD5 (by rw [hD5]; simp)
      have im7 : Imm H6 (upd H6 D (.lst (accV ++ [v6]))) := imm_upd hD6 trivial
      have r6 := r5.imm i6.imm
      have f6 := f5.trans i6
      exact ⟨accV, hD6, by rw [← r6.length]; exact hz, S6, _, _, ⟨f6.imm.trans im7, fun a o n e => by rw [upd_ne (by rintro rfl; rw [hD] at e; cases e)]; exact f6.keep a o n e, f6.new⟩, st6.out sD6 hD6 trivial, upd_same, (r6.imm im7).append (.cons (ry.imm im7) .nil), sD6, h6⟩
  · have e : j = items.length := by omega
    subst e
    rw [List.drop_length] at h2
    refine .inl ⟨yl.stop H2 S2 fr2.imm st2 h2.1, fun a => a = D, fun a e => ⟨.lst accV, by cases e; exact hD2, trivial⟩, fun H' gh => ?_⟩
    obtain ⟨u, o, e1, _, e2⟩ := gh.ye D rfl
    rw [hD2] at e1; cases e1
    have fr' : Fr S1 H1 S2 H' := ⟨fr2.imm.trans gh.imm, fun a o n e => (gh.no a (by rintro rfl; rw [hD] at e; cases e)).trans (fr2.keep a o n e), fr2.new⟩
    refine q _ S2 _ H' (i.trans fr') (gh.rs st2 (fun a o e => e) fun a e => by cases e; exact sD2) (.lst (.inl ⟨o, e2⟩) (r2.imm gh.imm)) h2.2
/-- [e for x in xs if c] -/
theorem de_lc {scope : Scope} {ifs : List Expr} (own : List (Str × Nat)) (hc : X.calm = true) (hN : X.N.Nodup) (hi : DI X L tg iter wi) (ok : BlkOk X.N X.env.scope scope own)
    (hg : ∀ (s : Shared) (H : Hp) (C : Addr) (cl : List (Str × Addr)) (fp : List Addr), TgOk (X.blk s H scope (compEnvC scope cl C X.env) fp) tg g) (ht : ∀ (s : Shared) (H : Hp) (C : Addr) (cl : List (Str × Addr)) (fp : List Addr), DTs (X.blk s H scope (compEnvC scope cl C X.env) fp) L.in_ ifs t)
    (he : ∀ (s : Shared) (H : Hp) (C : Addr) (cl : List (Str × Addr)) (fp : List Addr), DE (X.blk s H scope (compEnvC scope cl C X.env) fp) L.in_ elt we) (ho : ∀ i ∈ g.ixs, i ∈ own.map (·.2) := by decide) (hs : ∀ x, foldedSetIterable iter X.env x = pure x := by intro _; rfl) :
    DE X L (.ListComp elt [⟨tg, iter, ifs, 0⟩] scope pos) (wLc wi g t we (own.map (·.2))) :=
  (pe_ghost (pe_lc (g := gTg X.K g) (tt := LT X.K L.in_ t) (te := LE X.K L.in_ we) hc hN hi ok hg ht he hs)).imp fun σ H Q h => lc_lift ho h
def gN (N : L2.St → Hp → Prop) : L2.St → Hp → Prop := fun σ H => ∃ A : Addr → Prop, (∀ a, A a → ∃ u, H a = some u ∧ Pl u) ∧ ∀ H', Gst A H H' → N σ H'
theorem ps_ghost {st : Stmt} {t : TS} (h : PS X st t) : PS X st (fun D σ H => t { D with nx := gN D.nx } σ H) := ⟨fun pins s σ H D I q => thn (h.run pins s σ H _ I q) fun f s1 hs => by
  cases f with
  | next =>
    obtain ⟨σ', H1, I1, A, hA, k⟩ := hs
    obtain ⟨H', g, I'⟩ := Inv.gst I1 A hA
    exact ⟨σ', H', I', k H' g⟩
  | ret u => exact hs
  | brk => exact hs
  | cont => exact hs⟩
/-- y = [..] on one line, y a local -/
theorem ds_setLc (i : Nat) {y : Str} {py spos : Pos} {scope : Scope} {ifs : List Expr} (own : List (Str × Nat)) (hc : X.calm = true) (hN : X.N.Nodup) (hi : DI X L tg iter wi) (ok : BlkOk X.N X.env.scope scope own)
    (hg : ∀ (s : Shared) (H : Hp) (C : Addr) (cl : List (Str × Addr)) (fp : List Addr), TgOk (X.blk s H scope (compEnvC scope cl C X.env) fp) tg g) (ht : ∀ (s : Shared) (H : Hp) (C : Addr) (cl : List (Str × Addr)) (fp : List Addr), DTs (X.blk s H scope (compEnvC scope cl C X.env) fp) L.in_ ifs t)
    (he : ∀ (s : Shared) (H : Hp) (C : Addr) (cl : List (Str × Addr)) (fp : List Addr), DE (X.blk s H scope (compEnvC scope cl C X.env) fp) L.in_ elt we) (ho : ∀ i ∈ g.ixs, i ∈ own.map (·.2) := by decide) (hy : X.N[i]? = some y := by rfl) (hyl : X.env.scope.names.lookup y = some .local := by rfl)
    (hsw : swapsWith (.ListComp elt [⟨tg, iter, ifs, 0⟩] scope pos) (some (.Name y py)) spos.line X.env = pure true := by exact sw_true rfl rfl rfl (by decide +kernel)) (hs : ∀ x, foldedSetIterable iter X.env x = pure x := by intro _; rfl) :
    DS X L (.Assign [.Name y py] (.ListComp elt [⟨tg, iter, ifs, 0⟩] scope pos) spos) (wSet i (wLc wi g t we (own.map (·.2)))) :=
  (ps_ghost (ps_setLc (g := gTg X.K g) (tt := LT X.K L.in_ t) (te := LE X.K L.in_ we) hc hN hy hyl hsw hi ok hg ht he hs)).imp fun D σ H h => by
    have h1 := ls_set h
    exact lc_lift (Q := fun x H1 => gName i x σ H1 D.nx) ho h1
end

/-! ### {k: v for ..} -/
def dget (ks : List (Key × PV)) (k : Key) : Option PV := (ks.find? fun kv => decide (kv.1 = k)).map (·.2)
def dput (ks : List (Key × PV)) (k : Key) (v : PV) : List (Key × PV) := if ks.any (fun kv => decide (kv.1 = k)) then ks.map (fun kv => if kv.1 = k then (kv.1, v) else kv) else ks ++ [(k, v)]
theorem dget_nil {k : Key} : dget [] k = none := rfl
theorem dget_pos {p : Key × PV} {r : List (Key × PV)} {k : Key} (e : p.1 = k) : dget (p :: r) k = some p.2 := by simp [dget, List.find?_cons, e]
theorem dget_neg {p : Key × PV} {r : List (Key × PV)} {k : Key} (e : ¬ p.1 = k) : dget (p :: r) k = dget r k := by simp [dget, List.find?_cons, e]
theorem Pr.dget {K : PySem.W.Frag} {H : Hp} {k : Key} : ∀ {ks : List (Key × PV)} {gs : List (Key × V)}, Pr K H ks gs → (∀ p, dget ks k = some p → ∃ v, valV gs k = some v ∧ RV K H p v) ∧ (dget ks k = none → valV gs k = none)
  | [], gs, h => by
    cases gs with
    | nil => exact ⟨fun p e => by simp [PX.dget] at e, fun _ => rfl⟩
    | cons g gs => have := h.1; simp at this
  | (k', x) :: ks, gs, h => by
    obtain ⟨v, gs', rfl, r, h'⟩ := h.un
    by_cases e : k' = k
    · rw [dget_pos (p := (k', x)) e, valV_pos (p := (k', v)) e]
      exact ⟨fun p q => by cases q; exact ⟨v, rfl, r⟩, fun q => by cases q⟩
    · rw [dget_neg (p := (k', x)) e, valV_neg (p := (k', v)) e]
      exact Pr.dget h'
theorem dget_any (k : Key) : ∀ ks : List (Key × PV), (ks.any fun kv => decide (kv.1 = k)) = (dget ks k).isSome
  | [] => rfl
  | p :: r => by
    rw [List.any_cons]
    by_cases e : p.1 = k
    · simp only [dget_pos e, decide_eq_true e, Bool.true_or, Option.isSome_some]
    · rw [dget_neg e, decide_eq_false e, Bool.false_or]; exact dget_any k r
theorem Pr.map_put {K : PySem.W.Frag} {H : Hp} {k : Key} {p : PV} {v : V} (r : RV K H p v) : ∀ {ks : List (Key × PV)} {gs : List (Key × V)}, Pr K H ks gs → Pr K H (ks.map fun kv => if kv.1 = k then (kv.1, p) else kv) (gs.map fun kv => if kv.1 = k then (kv.1, v) else kv)
  | [], gs, h => by
    cases gs with
    | nil => exact h
    | cons g gs => have := h.1; simp at this
  | (k', x) :: ks, gs, h => by
    obtain ⟨u, gs', rfl, r', h'⟩ := h.un
    have ih := Pr.map_put (k := k) r h'
    rw [List.map_cons, List.map_cons]
    by_cases e : k' = k
    · rw [if_pos e, if_pos e]; exact .cons r ih
    · rw [if_neg e, if_neg e]; exact .cons r' ih
theorem Pr.append {κ : Type} {K : PySem.W.Frag} {H : Hp} {ks ls : List (κ × PV)} {gs hs : List (κ × V)} (h : Pr K H ks gs) (h' : Pr K H ls hs) : Pr K H (ks ++ ls) (gs ++ hs) := by
  refine ⟨by simp [h.1, h'.1], ?_⟩
  rw [List.map_append, List.map_append]
  exact h.2.append h'.2
theorem Pr.dput {K : PySem.W.Frag} {H : Hp} {k : Key} {p : PV} {v : V} {ks : List (Key × PV)} {gs : List (Key × V)} (h : Pr K H ks gs) (r : RV K H p v) : Pr K H (dput ks k p) (putK gs k v) := by
  have e : (ks.any fun kv => decide (kv.1 = k)) = (gs.any fun kv => decide (kv.1 = k)) := by
    rw [dget_any, valV_any]
    obtain ⟨h1, h2⟩ := h.dget (k := k)
    cases q : PX.dget ks k with
    | none => rw [h2 q]; rfl
    | some x => obtain ⟨u, hu, _⟩ := h1 x q; rw [hu]; rfl
  unfold PX.dput putK
  rw [e]
  split
  · exact h.map_put r
  · exact h.append (.cons r .nil)
def keyB (p : PV) (k : Key → Prop) : Prop := match p with
  | .int i => k (.inl i)
  | .str x => k (.inr x)
  | _ => False
theorem keyB_of {K : PySem.W.Frag} {H : Hp} {p : PV} {v : V} {k : Key → Prop} (r : RV K H p v) (h : keyB p k) : ∃ q, v = kV q ∧ p = keyP q ∧ k q := by
  cases r with
  | int i => exact ⟨.inl i, rfl, rfl, h⟩
  | str x => exact ⟨.inr x, rfl, rfl, h⟩
  | _ => exact h.elim
def wDcL (ok : Sto → Prop) (g : Tg) (t : WT) (wk wv : WE) (ρ0 : Slots) (k : List (Key × PV) → Sto → Prop) : List PV → List (Key × PV) → Sto → Prop
  | [], acc, S => ok S ∧ k acc S
  | x :: r, acc, S => ok S ∧ asg g x ρ0 S fun ρ' => t ρ' S (fun b S2 => if b = true then wk ρ' S2 (fun y S3 => wv ρ' S3 (fun z S4 => keyB y fun q => acc.length < sizeLine ∧ wDcL ok g t wk wv ρ0 k r (dput acc q z) S4) Z0) Z0 else wDcL ok g t wk wv ρ0 k r acc S2) Z0
def wDc (wi : WI) (g : Tg) (t : WT) (wk wv : WE) (own : List Nat) : WE := fun ρ S R Z => wi ρ S (fun items ok S1 => wDcL ok g t wk wv (wipeP ρ own) (fun ks S2 => R (.dct ks) S2) items [] S1) Z
theorem wDcL_ok {ok : Sto → Prop} {g : Tg} {t : WT} {wk wv : WE} {ρ0 : Slots} {k : List (Key × PV) → Sto → Prop} {items : List PV} {acc : List (Key × PV)} {S : Sto} (h : wDcL ok g t wk wv ρ0 k items acc S) : ok S := by
  cases items with
  | nil => exact h.1
  | cons x r => exact h.1
section
variable {X : Cx} {L : Lc} {kx vx tg iter c : Expr} {wk wv : WE} {wi : WI} {t : WT} {g : Tg} {pos : Pos}
theorem dc_lift {own : List Nat} {σ : L2.St} {H : Hp} {Q : VK} (ho : ∀ i ∈ g.ixs, i ∈ own) (h : LE X.K L (wDc wi g t wk wv own) σ H Q) : tDc (LI X.K L wi) (gTg X.K g) (LT X.K L.in_ t) (LE X.K L.in_ wk) (LE X.K L.in_ wv) own σ H (gK Q) := by
  obtain ⟨ρ, S, R, Z, A, h, q, hZ⟩ := h
  refine ⟨ρ, S, _, Z, A, h, fun items ok S1 J H1 i st yl h1 D hD => ?_, hZ⟩
  have sD : S1 D = none := st.free hD
  refine ⟨fun j m H2 => m = items.length - j ∧ j ≤ items.length ∧ ∃ S2 acc accV, Fr S1 H1 S2 H2 ∧ RSK X.K L H2 S2 ∧ H2 D = some (.dK accV) ∧ Pr X.K H2 acc accV ∧ S2 D = none ∧ wDcL ok g t wk wv (wipeP ρ own) (fun ys S2 => R (.dct ys) S2) (items.drop j) acc S2,
    ⟨_, rfl, Nat.zero_le _, S1, [], [], .grow (grow_upd hD), st.grow (grow_upd hD), upd_same, .nil, sD, h1⟩, ?_⟩
  rintro j m H2 ⟨rfl, hj, S2, acc, accV, f2, st2, hD2, r2, sD2, h2⟩
  by_cases hlt : j < items.length
  · obtain ⟨x, hx⟩ : ∃ x, items[j]? = some x := ⟨_, List.getElem?_eq_getElem hlt⟩
    have hok := wDcL_ok h2
    rw [drop_cons hx] at h2
    obtain ⟨go, yd⟩ := yl.go j H2 S2 x hx f2.imm st2 hok
    refine .inr ⟨go, fun H' => ∃ S' acc' accV', Fr S1 H1 S' H' ∧ RSK X.K L H' S' ∧ H' D = some (.dK accV') ∧ Pr X.K H' acc' accV' ∧ S' D = none ∧ wDcL ok g t wk wv (wipeP ρ own) (fun ys S2 => R (.dct ys) S2) (items.drop (j + 1)) acc' S',
      fun H' h' => ⟨items.length - (j + 1), by omega, rfl, hlt, h'⟩, fun y H3 hy => gTg_wipe ho ?_⟩
    obtain ⟨gr, rv⟩ := yd y H3 hy
    have st3 := st2.grow gr
    have f3 : Fr S1 H1 S2 H3 := f2.trans (.grow gr)
    have A3 : At X.K L (L2.wipe σ own) H3 (wipeP ρ own) S2 := (A.fr (i.trans (f2.trans (.grow gr))) st3).wipe own
    refine asg_of A3 rv h2.2 fun ρ4 σ4 A4 h4 => ?_
    refine ⟨ρ4, S2, _, Z0, A4.in_, h4, fun b S5 H5 i5 st5 h5 => ?_, zc0⟩
    have hD5 : H5 D = some (.dK accV) := i5.keep D _ sD2 (gr _ _ hD2)
    have sD5 : S5 D = none := i5.new D sD2 (by rw [gr _ _ hD2]; simp)
    have f5 := f3.trans i5
    have r5 := (r2.imm (.of gr)).imm i5.imm
    cases b with
    | false => exact iteF ⟨S5, acc, accV, f5, st5, hD5, r5, sD5, h5⟩
    | true =>
      refine iteT ⟨ρ4, S5, _, Z0, (A4.in_.fr i5 st5), h5, fun y S6 v6 H6 i6 st6 ry h6 => ?_, zc0⟩
      refine ⟨ρ4, S6, _, Z0, ((A4.in_.fr i5 st5).fr i6 st6), h6, fun z S7 v7 H7 i7 st7 rz h7 => ?_, zc0⟩
      have f67 := i6.trans i7
      have hD7 : H7 D = some (.dK accV) := f67.keep D _ sD5 hD5
      have sD7 : S7 D = none := f67.new D sD5 (by rw [hD5]; simp)
      obtain ⟨q1, rfl, rfl, hz, h8⟩ := keyB_of ry h7
      have im8 : Imm H7 (upd H7 D (.dK (putK accV q1 v7))) := imm_upd hD7 trivial
      have r7 := r5.imm f67.imm
      have f7 := f5.trans f67
      exact ⟨accV, q1, rfl, hD7, by rw [← r7.length]; exact hz, S7, _, _, ⟨f7.imm.trans im8, fun a o n e => by rw [upd_ne (by rintro rfl; rw [hD] at e; cases e)]; exact f7.keep a o n e, f7.new⟩, st7.out sD7 hD7 trivial, upd_same, (r7.imm im8).dput (rz.imm im8), sD7, h8⟩
  · have e : j = items.length := by omega
    subst e
    rw [List.drop_length] at h2
    refine .inl ⟨yl.stop H2 S2 f2.imm st2 h2.1, fun a => a = D, fun a e => ⟨.dK accV, by cases e; exact hD2, trivial⟩, fun H' gh => ?_⟩
    obtain ⟨u, o, e1, _, e2⟩ := gh.ye D rfl
    rw [hD2] at e1; cases e1
    have fr' : Fr S1 H1 S2 H' := ⟨f2.imm.trans gh.imm, fun a o n e => (gh.no a (by rintro rfl; rw [hD] at e; cases e)).trans (f2.keep a o n e), f2.new⟩
    have r' := r2.imm gh.imm
    exact q _ S2 _ H' (i.trans fr') (gh.rs st2 (fun a o e => e) fun a e => by cases e; exact sD2) (.dct e2 r'.1 r'.2) h2.2
theorem de_dc {scope : Scope} {ifs : List Expr} (own : List (Str × Nat)) (hc : X.calm = true) (hN : X.N.Nodup) (hi : DI X L tg iter wi) (ok : BlkOk X.N X.env.scope scope own)
    (hg : ∀ (s : Shared) (H : Hp) (C : Addr) (cl : List (Str × Addr)) (fp : List Addr), TgOk (X.blk s H scope (compEnvC scope cl C X.env) fp) tg g) (ht : ∀ (s : Shared) (H : Hp) (C : Addr) (cl : List (Str × Addr)) (fp : List Addr), DTs (X.blk s H scope (compEnvC scope cl C X.env) fp) L.in_ ifs t)
    (hk : ∀ (s : Shared) (H : Hp) (C : Addr) (cl : List (Str × Addr)) (fp : List Addr), DE (X.blk s H scope (compEnvC scope cl C X.env) fp) L.in_ kx wk)
    (he : ∀ (s : Shared) (H : Hp) (C : Addr) (cl : List (Str × Addr)) (fp : List Addr), DE (X.blk s H scope (compEnvC scope cl C X.env) fp) L.in_ vx wv) (ho : ∀ i ∈ g.ixs, i ∈ own.map (·.2) := by decide) (hs : ∀ x, foldedSetIterable iter X.env x = pure x := by intro _; rfl) :
    DE X L (.DictComp kx vx [⟨tg, iter, ifs, 0⟩] scope pos) (wDc wi g t wk wv (own.map (·.2))) :=
  (pe_ghost (pe_dc (g := gTg X.K g) (tt := LT X.K L.in_ t) (tk := LE X.K L.in_ wk) (tv := LE X.K L.in_ wv) hc hN hi ok hg ht hk he hs)).imp fun σ H Q h => dc_lift ho h
end
end PX
end L2

/-! PX7: instances. -/
namespace L2
namespace PX
open PySem PySem.Spec PyProof.Rows

def putP (f : Str) (v : PV) : List (Str × PV) → List (Str × PV)
  | [] => [(f, v)]
  | (g, w) :: r => if g = f then (g, v) :: r else (g, w) :: putP f v r
theorem putF_cons (f g : Str) (v w : V) (r : List (Str × V)) : putF f v ((g, w) :: r) = if g = f then (g, v) :: r else (g, w) :: putF f v r := by
  first
    | rfl
    | (unfold putF; rfl)
    | (simp [putF])
theorem Pr.putP {K : PySem.W.Frag} {H : Hp} {f : Str} {p : PV} {v : V} (r : RV K H p v) : ∀ {ks : List (Str × PV)} {gs : List (Str × V)}, Pr K H ks gs → Pr K H (putP f p ks) (putF f v gs)
  | [], gs, h => by
    cases gs with
    | nil => exact .cons r .nil
    | cons g gs => have := h.1; simp at this
  | (k', x) :: ks, gs, h => by
    obtain ⟨u, gs', rfl, r', h'⟩ := h.un
    rw [putF_cons]
    unfold PX.putP
    by_cases e : k' = f
    · rw [if_pos e, if_pos e]; exact .cons r h'
    · rw [if_neg e, if_neg e]; exact .cons r' (Pr.putP r h')
theorem Pr.look {K : PySem.W.Frag} {H : Hp} {f : Str} : ∀ {ks : List (Str × PV)} {gs : List (Str × V)}, Pr K H ks gs → (∀ p, ks.lookup f = some p → ∃ v, gs.lookup f = some v ∧ RV K H p v) ∧ (ks.lookup f = none → gs.lookup f = none)
  | [], gs, h => by
    cases gs with
    | nil => exact ⟨fun p e => by simp at e, fun _ => rfl⟩
    | cons g gs => have := h.1; simp at this
  | (k', x) :: ks, gs, h => by
    obtain ⟨u, gs', rfl, r', h'⟩ := h.un
    rw [List.lookup_cons, List.lookup_cons]
    cases e : f == k' with
    | true => exact ⟨fun p q => by cases q; exact ⟨u, rfl, r'⟩, fun q => by cases q⟩
    | false => exact Pr.look h'
section
variable {X : Cx} {L : Lc} {pins : List (Addr × Obj)} {σ : L2.St} {H : Hp} {s : Shared} {a C dx : Addr} {A : Around} {E : Value → Shared → Prop}
theorem ins_getR {P : Program} {w : World} {h : Heap} {fs : List (Str × V)} (hok : HOk P w H h) (e : Rd H a (.ins C dx fs)) : ∃ mA, ObjM h a dx C mA ∧ (∀ f, RelO (fs.lookup f) (mA f)) ∧ PySem.Within mA (fs.map (·.1)) ∧ fs.length ≤ 1000 := by
  obtain ⟨d, z, ne, ob, mA, n, r, q⟩ := (show ObjOk P w H h a (.ins C dx fs) from e.ok hok)
  exact ⟨mA, ⟨ob, n, ne⟩, r, q, z⟩
theorem getattr_R {b : Bool} {f : Str} {v : V} {fs : List (Str × V)} {Q : Value → Shared → Prop} (I : Inv X pins σ H s) (e : Rd H a (.ins C dx fs)) (c : Cls X.K C) (n : NoAttr X.K C f) (l : fs.lookup f = some v)
    (h : ∀ u s', Inv X pins σ H s' → RelV v u → Q u s') : wpAny (model X.prog X.w) A (getAttr (.ref a) f b) Q E s := by
  obtain ⟨mA, O, r, _, _⟩ := ins_getR I.hok e
  obtain ⟨u, hu, ru⟩ := RelO.some_of (v := v) (o := mA f) (by rw [← l]; exact r f)
  exact get_map I.kIn O (c.get f) c.hd n hu (handed_of ru) (h u _ (I.tok _) ru)
theorem getmeth_R {m : Str} {g : Addr} {fs : List (Str × V)} {pl : Sem Bool} {Q : Value × List Value → Shared → Prop} (I : Inv X pins σ H s) (e : Rd H a (.ins C dx fs)) (c : Cls X.K C) (k : Meth X.K C m g) (l : fs.lookup m = none)
    (h : Q (.ref g, [.ref a]) s) : wpAny (model X.prog X.w) A (getMethod (.ref a) m pl) Q E s := by
  obtain ⟨mA, O, r, _, _⟩ := ins_getR I.hok e
  have hn : mA m = none := RelO.none_of (by rw [← l]; exact r m)
  exact get_meth I.kIn O (c.get m) k.at_ k.fn hn h
/-- an instance to be read -/
theorem rd_obj {S : Sto} {p : PV} {v : V} {fs : List (Str × PV)} (st : RSK X.K L H S) (r : RV X.K H p v) (e : dr S p = .obj C fs) : ∃ a dx gs, v = .ref a ∧ Rd H a (.ins C dx gs) ∧ Pr X.K H fs gs := by
  cases r with
  | ref a =>
    rcases dr_ref (S := S) (a := a) with ⟨ys, h1, h2⟩ | ⟨ys, h1, h2⟩ | ⟨C, fs, h1, h2⟩ | ⟨h1, h2⟩
    · rw [h2] at e; cases e
    · rw [h2] at e; cases e
    · rw [h2] at e; cases e
      obtain ⟨dx, gs, h3, h4⟩ := st.mo a _ h1
      exact ⟨a, dx, gs, rfl, .inl h3, h4⟩
    · rw [h2] at e; cases e
  | obj h e1 hr => cases e; exact ⟨_, _, _, rfl, .inr ⟨_, h⟩, e1, hr⟩
  | _ => cases e
end
/-- fields of classes of ours -/
def fldK (f : Str) (p : PV) (S : Sto) (R : RK) (ok : Addr → Prop) : Prop := match dr S p with
  | .obj C fs => ok C ∧ match fs.lookup f with
    | some v => R v S
    | none => False
  | _ => False
def wFld (Cs : List Addr) (f : Str) (we : WE) : WE := fun ρ S R Z => we ρ S (fun p S' => fldK f p S' R (· ∈ Cs)) Z
theorem fldK_of {f : Str} {p : PV} {S : Sto} {R : RK} {ok : Addr → Prop} (h : fldK f p S R ok) : ∃ C fs v, dr S p = .obj C fs ∧ ok C ∧ fs.lookup f = some v ∧ R v S := by
  unfold fldK at h
  cases e : dr S p with
  | obj C fs =>
    rw [e] at h
    obtain ⟨h1, h2⟩ := h
    cases q : fs.lookup f with
    | some v => simp only [q] at h2; exact ⟨C, fs, v, rfl, h1, q, h2⟩
    | none => simp only [q] at h2
  | _ => rw [e] at h; exact h.elim
section
variable {X : Cx} {L : Lc} {o e value a : Expr} {f m : Str} {pos pos' apos p : Pos} {we wo wv : WE} {es : List Expr} {wr : WA} {k : PSp}
theorem de_fld (Cs : List Addr) (hc : ∀ C ∈ Cs, Cls X.K C ∧ NoAttr X.K C f) (he : DE X L e we) (hb : attributeBase e f X.env (eval e X.env) = eval e X.env := by rfl) : DE X L (.Attribute e f pos) (wFld Cs f we) := by
  refine ⟨fun pins s σ H Q I ⟨ρ, S, R, Z, A, h, q, hZ⟩ => ?_⟩
  refine attr_of hb (lone he I A h hZ fun u s1 x H1 p S1 I1 rx i A1 r hk => ?_)
  obtain ⟨C, fs, v, e1, hC, l, hR⟩ := fldK_of hk
  obtain ⟨a, dx, gs, rfl, rd, pr⟩ := rd_obj (X := X) (L := L) A1.st r e1
  obtain rfl : u = Value.ref a := rx
  obtain ⟨v', l', rv⟩ := (pr.look (f := f)).1 v l
  exact getattr_R I1 rd (hc C hC).1 (hc C hC).2 l' fun u' s2 I2 ru => ⟨v', H1, I2, ru, q v S1 v' H1 i A1.st rv hR⟩
/-- o.f = e -/
def setFK (f : Str) (o v : PV) (S : Sto) (k : Sto → Prop) (ok : Addr → Prop) : Prop := match o with
  | .ref a => match S a with
    | some (.ins C fs) => ok C ∧ fs.length < 1000 ∧ k (updS S a (.ins C (putP f v fs)))
    | _ => False
  | _ => False
theorem setFK_of {f : Str} {o v : PV} {S : Sto} {k : Sto → Prop} {ok : Addr → Prop} (h : setFK f o v S k ok) : ∃ a C fs, o = .ref a ∧ S a = some (.ins C fs) ∧ ok C ∧ fs.length < 1000 ∧ k (updS S a (.ins C (putP f v fs))) := by
  unfold setFK at h
  cases o with
  | ref a =>
    dsimp only at h
    cases e : S a with
    | none => simp only [e] at h
    | some m =>
      cases m with
      | ins C fs => simp only [e] at h; exact ⟨a, C, fs, rfl, e, h⟩
      | _ => simp only [e] at h
  | _ => exact h.elim
def wSetF (Cs : List Addr) (f : Str) (wo wv : WE) : WS := fun P ρ S => wv ρ S (fun v S1 => wo ρ S1 (fun o S2 => setFK f o v S2 (fun S3 => P.nx ρ S3) (· ∈ Cs)) (fun e S' => P.ex e ρ S')) (fun e S' => P.ex e ρ S')
theorem ds_setF (Cs : List Addr) (hc : ∀ C ∈ Cs, Cls X.K C ∧ NoAttr X.K C f) (ho : DE X L o wo) (hv : DE X L value wv) (hs : swapsWith value (some (.Attribute o f pos')) pos.line X.env = pure false := by rfl) : DS X L (.Assign [.Attribute o f pos'] value pos) (wSetF Cs f wo wv) :=
  (ps_fld ho hv hs).imp fun D σ H ⟨ρ, S, P, A, h, E⟩ => by
  refine ⟨ρ, S, _, _, A, h, fun v S1 vv H1 i1 st1 rv h1 => ?_, E.zc A⟩
  refine ⟨ρ, S1, _, _, A.fr i1 st1, h1, fun o S2 ov H2 i2 st2 ro h2 => ?_, (E.zc A).fr i1⟩
  obtain ⟨a, C, fs, rfl, e, hC, hl, hk⟩ := setFK_of h2
  cases ro
  obtain ⟨dx, gs, h3, pr⟩ := st2.mo a _ e
  have im : Imm H2 (upd H2 a (.ins C dx (putF f vv gs))) := imm_upd h3 trivial
  have f3 : Fr S2 H2 (updS S2 a (.ins C (PX.putP f v fs))) (upd H2 a (.ins C dx (putF f vv gs))) := .put h3 trivial (by rw [e]; simp)
  have st3 : RSK X.K L (upd H2 a (.ins C dx (putF f vv gs))) (updS S2 a (.ins C (PX.putP f v fs))) := st2.put h3 trivial ⟨dx, _, upd_same, (pr.imm im).putP ((rv.imm i2.imm).imm im)⟩
  exact ⟨a, C, dx, gs, rfl, h3, (hc C hC).1, (hc C hC).2, by rw [← pr.length]; exact hl, E.nx ρ _ σ _ ((i1.trans i2).trans f3) (A.fr ((i1.trans i2).trans f3) st3) hk⟩
/-- o.m(..) of a class of ours -/
def methK (m : Str) (p : PV) (S : Sto) (ok : Addr → Prop) : Prop := match dr S p with
  | .obj C fs => ok C ∧ fs.lookup m = none
  | _ => False
theorem methK_of {m : Str} {p : PV} {S : Sto} {ok : Addr → Prop} (h : methK m p S ok) : ∃ C fs, dr S p = .obj C fs ∧ ok C ∧ fs.lookup m = none := by
  unfold methK at h
  cases e : dr S p with
  | obj C fs => rw [e] at h; exact ⟨C, fs, rfl, h⟩
  | _ => rw [e] at h; exact h.elim
def wMeth (C : Addr) (m : Str) (k : PSp) (wo : WE) (wr : WA) : WE := fun ρ S R Z => wo ρ S (fun p S1 => methK m p S1 (· = C) ∧ wr ρ S1 (fun ps S2 => k (p :: ps) S2 R Z) Z) Z
theorem de_meth {pl : Sem Bool} {C g : Addr} (cl : Cls X.K C) (hm : Meth X.K C m g) (hk : CallP X L (.ref g) k) (ho : DE X L o wo) (ha : DA X L (e :: es) wr)
    (hst : starEach (e :: es) X.env = (false, eval e X.env) :: starEach es X.env := by rfl) (hpl : (backTo pos (starEach es X.env)).any (·.1) = false := by rfl)
    (ht : eval (.Call (.Attribute o m apos) (e :: es) [] pos) X.env = (do
      let ov ← eval o X.env
      standAt apos.atName
      let (f, first) ← holding [ov] (getMethod ov m pl)
      callWith pos f first (backTo pos (starEach (e :: es) X.env)) (backToKw pos (keywordEach [] X.env))) := by first | rfl | exact mcall_line rfl rfl) : DE X L (.Call (.Attribute o m apos) (e :: es) [] pos) (wMeth C m k wo wr) := by
  refine ⟨fun pins s σ H Q I ⟨ρ, S, R, Z, A, h, q, hZ⟩ => ?_⟩
  refine PySem.W.methodCall_KW (pl := pl) (lone ho I A h hZ fun u s1 x H1 p S1 I1 rx i A1 r ⟨hmk, hk1⟩ => ?_) ht
  obtain ⟨C', fs, e1, rfl, l⟩ := methK_of hmk
  obtain ⟨a, dx, gs, rfl, rd, pr⟩ := rd_obj (X := X) (L := L) A1.st r e1
  obtain rfl : u = Value.ref a := rx
  refine getmeth_R I1 rd cl hm ((pr.look (f := m)).2 l) ?_
  refine PySem.W.callWith_K (first := [.ref a]) (h₀ := X.base) I.ok.mod.kin hm.kp (largs (k := fun ps S2 R Z => k (p :: ps) S2 R Z) ha I1 A1 hk1 (q.fr i) (hZ.fr i) pos fun us s2 xs ps S2 H2 I2 i2 rv st j rr hk2 q2 z2 => ⟨I2.kIn, ?_⟩) hst hpl
  exact hk pins s2 σ H2 (.ref a :: xs) (.ref a :: us) (p :: ps) S2 R Z Q I2 (.cons rfl rv) st j (.cons (r.imm i2.imm) rr) hk2 q2 z2
theorem de_meth0 {pl : Sem Bool} {C g : Addr} (cl : Cls X.K C) (hm : Meth X.K C m g) (hk : CallP X L (.ref g) k) (ho : DE X L o wo)
    (ht : eval (.Call (.Attribute o m apos) [] [] pos) X.env = (do
      let ov ← eval o X.env
      standAt apos.atName
      let (f, first) ← holding [ov] (getMethod ov m pl)
      callWith pos f first (backTo pos (starEach [] X.env)) (backToKw pos (keywordEach [] X.env))) := by first | rfl | exact mcall_line rfl rfl) : DE X L (.Call (.Attribute o m apos) [] [] pos) (wMeth C m k wo wNil) := by
  refine ⟨fun pins s σ H Q I ⟨ρ, S, R, Z, A, h, q, hZ⟩ => ?_⟩
  refine PySem.W.methodCall_KW (pl := pl) (lone ho I A h hZ fun u s1 x H1 p S1 I1 rx i A1 r ⟨hmk, hk1⟩ => ?_) ht
  obtain ⟨C', fs, e1, rfl, l⟩ := methK_of hmk
  obtain ⟨a, dx, gs, rfl, rd, pr⟩ := rd_obj (X := X) (L := L) A1.st r e1
  obtain rfl : u = Value.ref a := rx
  refine getmeth_R I1 rd cl hm ((pr.look (f := m)).2 l) ?_
  exact PySem.W.callWith_K0 (first := [.ref a]) I1.kIn hm.kp (hk pins s1 σ H1 [.ref a] [.ref a] [p] S1 R Z Q I1 (.cons rfl .nil) A1.st A1.j (.cons r .nil) hk1 (q.fr i) (hZ.fr i))
/-- C(..): a new instance, its __init__, then the ghost -/
def kMake (C : Addr) (sp : PSp) : PSp := fun ps S R Z => ∀ x, S x = none → sp (.ref x :: ps) (updS S x (.ins C [])) (fun v S2 => v = .non ∧ gR R (.ref x) S2) Z
theorem call_make {C f : Addr} {lv n : Nat} {fd : FuncData} {pn : List Str} {sp : PSp} (M : Mk X.K C f) (tk : Takes X L.W) (F : FnOk X.prog X.w X.K X.mg X.base (CX X.prog X.w) lv f fd pn (spL X.K L.T (n + 1) sp)) (hr : Room (lv + 1) X.A) (hb : Binds X.K fd pn []) :
    CallP X L (.ref C) (arN n (kMake C sp)) := by
  intro pins s σ H xs us ps S R Z Q I rv st j r ⟨hn, hk⟩ q z
  have hx0 : H (s.heap.objs.size + 1) = none := I.hok.fresh (Nat.le_succ _)
  have hd0 : H s.heap.objs.size = none := I.hok.fresh (Nat.le_refl _)
  have ne : s.heap.objs.size + 1 ≠ s.heap.objs.size := Nat.succ_ne_self _
  have I2 := Inv.made (C := C) I
  have g1 : Grow H (upd H s.heap.objs.size (.own (s.heap.objs.size + 1))) := grow_upd hd0
  have hx1 : upd H s.heap.objs.size (.own (s.heap.objs.size + 1)) (s.heap.objs.size + 1) = none := by rw [upd_ne ne]; exact hx0
  have st2 : RSK X.K L (upd (upd H s.heap.objs.size (.own (s.heap.objs.size + 1))) (s.heap.objs.size + 1) (.ins C s.heap.objs.size [])) (updS S (s.heap.objs.size + 1) (.ins C [])) :=
    (st.grow g1).new (m := .ins C []) hx1 ⟨_, [], upd_same, .nil⟩
  have f2 : Fr S H (updS S (s.heap.objs.size + 1) (.ins C [])) (upd (upd H s.heap.objs.size (.own (s.heap.objs.size + 1))) (s.heap.objs.size + 1) (.ins C s.heap.objs.size [])) := (Fr.grow g1).trans (.fresh hx1)
  have hs := hk _ (st.free hx0)
  have r2 : Vals (V.ref (s.heap.objs.size + 1) :: xs) (Value.ref (s.heap.objs.size + 1) :: us) := .cons rfl rv
  have hlp : xs.length = ps.length := r.length.symm
  have hsp : spL X.K L.T (n + 1) sp (V.ref (s.heap.objs.size + 1) :: xs) (upd (upd H s.heap.objs.size (.own (s.heap.objs.size + 1))) (s.heap.objs.size + 1) (.ins C s.heap.objs.size [])) (fun v H' => v = .non ∧ gK Q (.ref (s.heap.objs.size + 1)) H') (fun cls d H => L.W cls d σ H) := by
    refine ⟨?_, _, _, _, Z, .cons (.ref _) (r.imm f2.imm), st2, hs, fun p S' v H' f st' rp ⟨ep, hg⟩ => ?_, fun e S' cls d H' f st' rx hz => z e S' cls d H' (f2.trans f) st' rx hz⟩
    · simp [hlp, hn]
    · subst ep
      cases rp
      exact ⟨rfl, vc_ghost (q.fr f2) (.ref _) S' (.ref _) H' f st' (.ref _) hg⟩
  have hl : (Value.ref (s.heap.objs.size + 1) :: us ++ []).length = pn.length := by
    have e := F.len _ _ _ _ hsp
    rw [List.append_nil, ← e, ← r2.length]
  refine wpAny_call (make_map (f := f) I.kIn M.makes M.init (beq_iff_eq.mp M.fn) (codeAny_mono (F.run _ X.stack _ _ ⟨Value.ref (s.heap.objs.size + 1) :: us, []⟩ (Value.ref (s.heap.objs.size + 1) :: us) _ _ _ (hr.make C us [])
    (I2.env0.make C us []) (by have := hb _ (Value.ref (s.heap.objs.size + 1) :: us) I2.kIn hl; rwa [List.append_nil] at this) r2 hsp) fun r s' hq' => ?_))
  cases r with
  | error e => exact passAt tk σ pins _ _ e s' I2 hq'
  | ok fl =>
    cases fl with
    | ret u =>
      obtain ⟨v, H', I3, rv', ev, A, hA, k3⟩ := I2.after hq'
      subst ev
      obtain ⟨H'', g3, I4⟩ := Inv.gst I3 A hA
      exact ⟨rv', ⟨V.ref (s.heap.objs.size + 1), H'', I4, rfl, k3 H'' g3⟩⟩
    | next => exact False.elim hq'
    | brk => exact False.elim hq'
    | cont => exact False.elim hq'
end
end PX
end L2

/-! PX8: operators, subscripts, slices by values. -/
namespace L2
namespace PX
open PySem PySem.Spec PyProof.Rows
theorem VC.now {K : PySem.W.Frag} {L : Lc} {S : Sto} {H : Hp} {R : RK} {Q : VK} {p : PV} {v : V} (q : VC K L S H R Q) (st : RSK K L H S) (r : RV K H p v) (h : R p S) : Q v H := q p S v H (.refl S H) st r h
/-- a new frozen list -/
theorem VC.newL {K : PySem.W.Frag} {L : Lc} {S : Sto} {H : Hp} {R : RK} {Q : VK} {xs : List PV} {vs : List V} {a : Addr} (q : VC K L S H R Q) (st : RSK K L H S) (r : RVs K H xs vs) (ha : H a = none) (h : R (.lst xs) S) : gK Q (.ref a) (upd H a (.lst vs)) := by
  have hs : S a = none := st.free ha
  have g0 : Grow H (upd H a (.lst vs)) := grow_upd ha
  refine ⟨fun b => b = a, fun b e => ⟨.lst vs, by cases e; exact upd_same, trivial⟩, fun H' gh => ?_⟩
  obtain ⟨u, o, e1, _, e2⟩ := gh.ye a rfl
  rw [upd_same] at e1; cases e1
  have g : Grow H H' := fun b o' e => by
    have n : b ≠ a := ne_of_none e ha
    rw [gh.no b n]; exact g0 b o' e
  exact q _ S _ H' (.grow g) (st.grow g) (.lst (.inl ⟨o, e2⟩) (r.imm (.of g))) h
/-- a new tuple -/
theorem VC.newT {K : PySem.W.Frag} {L : Lc} {S : Sto} {H : Hp} {R : RK} {Q : VK} {xs : List PV} {vs : List V} {a : Addr} (q : VC K L S H R Q) (st : RSK K L H S) (r : RVs K H xs vs) (ha : H a = none) (h : R (.tup xs) S) : Q (.ref a) (upd H a (.tup vs)) :=
  q _ S _ _ (.grow (grow_upd ha)) (st.grow (grow_upd ha)) (.tup (SqT.of upd_same) (r.imm (.of (grow_upd ha)))) h
/-- a new list of the store -/
theorem VC.newM {K : PySem.W.Frag} {L : Lc} {S : Sto} {H : Hp} {R : RK} {Q : VK} {xs : List PV} {vs : List V} {a : Addr} (q : VC K L S H R Q) (st : RSK K L H S) (r : RVs K H xs vs) (ha : H a = none) (h : ∀ a, S a = none → R (.ref a) (updS S a (.lst xs))) : Q (.ref a) (upd H a (.lst vs)) :=
  q _ _ _ _ (.fresh ha) (st.new (m := .lst xs) ha ⟨vs, upd_same, r.imm (.of (grow_upd ha))⟩) (.ref a) (h a (st.free ha))
section
variable {X : Cx} {L : Lc} {pins : List (Addr × Obj)} {s : Shared} {σ : L2.St} {H : Hp} {Q : VK} {v : Value}
theorem ghostR {m : Sem Value} (h : wpAny (model X.prog X.w) X.A m (EP X pins σ (gK Q)) X.xe s) : wpAny (model X.prog X.w) X.A m (EP X pins σ Q) X.xe s :=
  thn h fun u s1 ⟨v, H1, I1, r, A, hA, k⟩ => by
    obtain ⟨H', g, I'⟩ := Inv.gst I1 A hA
    exact ⟨v, H', I', r, k H' g⟩
theorem opr_ghost {f : Value → Value → Sem Value} {r : R2} (ho : OpR X f r) : OpR X f (fun x y H Q => r x y H (gK Q)) := fun pins s σ H x y v u Q I rx ry h => ghostR (ho pins s σ H x y v u (gK Q) I rx ry h)
theorem callr_ghost {f : Value} {r : List V → Hp → VK → Prop} (ho : CallR X f r) : CallR X f (fun xs H Q => r xs H (gK Q)) := fun pins s σ H xs us Q I rv h => ghostR (ho pins s σ H xs us (gK Q) I rv h)
end
theorem RV.dInt {K : PySem.W.Frag} {H : Hp} {S : Sto} {p : PV} {v : V} {i : Int} (X : Cx) (hK : X.K = K) (r : RV K H p v) (e : dr S p = .int i) : v = .int i := by subst hK; exact (rd_flat (X := X) (S := S) r).1 i e
section
variable {X : Cx} {L : Lc} {H : Hp} {S : Sto} {p : PV} {v : V}
theorem d_int {i : Int} (r : RV X.K H p v) (e : dr S p = .int i) : v = .int i := (rd_flat (X := X) (S := S) r).1 i e
theorem d_str {i : Str} (r : RV X.K H p v) (e : dr S p = .str i) : v = .str i := (rd_flat (X := X) (S := S) r).2.1 i e
theorem d_bl {i : Bool} (r : RV X.K H p v) (e : dr S p = .bl i) : v = .bl i := (rd_flat (X := X) (S := S) r).2.2.1 i e
theorem d_non (r : RV X.K H p v) (e : dr S p = .non) : v = .non := (rd_flat (X := X) (S := S) r).2.2.2.1 e
theorem dr_non {p : PV} (h : ∀ a, p ≠ .ref a) : dr S p = p := by cases p <;> first | rfl | exact absurd rfl (h _)
end
/-! ### operators of ints, texts, tuples, lists -/
/-- list + list, any two that are read -/
def rCatL (K : PySem.W.Frag) : R2 := fun x y H Q => ∃ l b xs zs, x = .ref l ∧ y = .ref b ∧ SqL K H l xs ∧ SqL K H b zs ∧ xs.length + zs.length ≤ sizeLine ∧ ∀ p, H p = none → Q (.ref p) (upd H p (.lst (xs ++ zs)))
theorem op_catL {X : Cx} : OpR X (binaryOp .Add) (rCatL X.K) := by
  intro pins s σ H x y v u Q I rx ry h
  obtain ⟨l, b, xs, zs, rfl, rfl, hH, hB, hz, q⟩ := h
  cases rx
  cases ry
  obtain ⟨its, r, pl, _⟩ := I.list hH
  obtain ⟨its2, r2, pl2, _⟩ := I.list hB
  obtain ⟨⟨cls, dd, data, sl⟩, ho, hc, n, hd⟩ := pl.isList
  obtain ⟨⟨cls2, dd2, data2, sl2⟩, ho2, hc2, n2, hd2⟩ := pl2.isList
  simp only at hc hd hc2 hd2
  subst hc hd hc2 hd2
  have h1 := r.length
  have h2 := r2.length
  have e : its.toArray ++ its2.toArray = (its ++ its2).toArray := by simp
  refine concat_meets ⟨_, ho, rfl⟩ ⟨_, ho2, rfl⟩ noFill_list_add seq_list_add PySem.F.slot_list_add PySem.F.entry_list_add (PySem.F.args_list_add_2 _ _) (list_addW l b its.toArray its2.toArray n n2 dd dd2 sl sl2 (by simp only [List.size_toArray]; omega)) ⟨ho, ho2, ?_⟩
  rw [e]
  exact ⟨.ref _, _, I.lnew (t' := s.toks) (r.append r2) (by rw [List.length_append]; omega), rfl, q _ I.fresh⟩
def kAdd : K2 := fun p q S R => match dr S p, dr S q with
  | .int i, .int j => R (.int (i + j)) S
  | .str x, .str y => x.length + y.length ≤ sizeLine ∧ R (.str (x ++ y)) S
  | .tup xs, .tup ys => xs.length + ys.length ≤ sizeLine ∧ R (.tup (xs ++ ys)) S
  | .lst xs, .lst ys => xs.length + ys.length ≤ sizeLine ∧ R (.lst (xs ++ ys)) S
  | _, _ => False
section
variable {X : Cx} {L : Lc}
theorem o_add : Op2 X L (binaryOp .Add) kAdd := by
  intro pins s σ H x y v u p q S R Q I rx ry st r1 r2 hk hq
  unfold kAdd at hk
  split at hk
  · rename_i i j e1 e2
    have := d_int r1 e1
    have := d_int r2 e2
    subst x y
    exact op_add pins s σ H _ _ v u Q I rx ry ⟨i, j, rfl, rfl, hq.now st (.int _) hk⟩
  · rename_i i j e1 e2
    have := d_str r1 e1
    have := d_str r2 e2
    subst x y
    exact op_add_str pins s σ H _ _ v u Q I rx ry ⟨i, j, rfl, rfl, hk.1, hq.now st (.str _) hk.2⟩
  · rename_i xs ys e1 e2
    obtain ⟨a, vs, rfl, h1, h2⟩ := rd_tup (X := X) r1 e1
    obtain ⟨b, ws, rfl, h3, h4⟩ := rd_tup (X := X) r2 e2
    refine op_catA pins s σ H _ _ v u Q I rx ry ⟨a, b, vs, ws, rfl, rfl, h1, h3, by rw [← h2.length, ← h4.length]; exact hk.1, fun e => ?_, fun _ e => ?_, fun _ _ p hp => hq.newT st (h2.append h4) hp hk.2⟩
    · subst e; cases h2; exact hq.now st (.tup h3 h4) hk.2
    · subst e; cases h4
      have h6 := hk.2
      rw [List.append_nil] at h6
      exact hq.now st (.tup h1 h2) h6
  · rename_i xs ys e1 e2
    obtain ⟨a, vs, rfl, h1, h2⟩ := rd_lst (X := X) st r1 e1
    obtain ⟨b, ws, rfl, h3, h4⟩ := rd_lst (X := X) st r2 e2
    exact opr_ghost op_catL pins s σ H _ _ v u Q I rx ry ⟨a, b, vs, ws, rfl, rfl, h1, h3, by rw [← h2.length, ← h4.length]; exact hk.1, fun p hp => hq.newL st (h2.append h4) hp hk.2⟩
  · exact hk.elim
/-- ints alone -/
def kI (C : Int → Int → Prop) (g : Int → Int → PV) : K2 := fun p q S R => match dr S p, dr S q with
  | .int i, .int j => C i j ∧ R (g i j) S
  | _, _ => False
theorem o_I {f : Value → Value → Sem Value} {C : Int → Int → Prop} {g : Int → Int → V} {g' : Int → Int → PV} (ho : OpR X f (rI C g)) (hg : ∀ K H i j, RV K H (g' i j) (g i j)) : Op2 X L f (kI C g') := by
  intro pins s σ H x y v u p q S R Q I rx ry st r1 r2 hk hq
  unfold kI at hk
  split at hk
  · rename_i i j e1 e2
    have := d_int r1 e1
    have := d_int r2 e2
    subst x y
    exact ho pins s σ H _ _ v u Q I rx ry ⟨i, j, rfl, rfl, hk.1, hq.now st (hg _ _ _ _) hk.2⟩
  · exact hk.elim
def kSub : K2 := kI (fun _ _ => True) fun i j => .int (i - j)
def kMul : K2 := kI CMul fun i j => .int (i * j)
def kDiv : K2 := kI CDiv fun i j => .int (i / j)
def kMod : K2 := kI (fun _ j => 0 < j) fun i j => .int (i % j)
def kPow : K2 := kI CPow fun i j => .int (i ^ j.toNat)
theorem rI_of {g : Int → Int → V} {f : Value → Value → Sem Value} (h : OpR X f (rI0 g)) : OpR X f (rI (fun _ _ => True) g) := fun pins s σ H x y v u Q I rx ry ⟨i, j, a, b, _, q⟩ => h pins s σ H x y v u Q I rx ry ⟨i, j, a, b, q⟩
theorem o_sub : Op2 X L (binaryOp .Sub) kSub := o_I (rI_of op_sub) fun _ _ _ _ => .int _
theorem o_mul : Op2 X L (binaryOp .Mult) kMul := o_I op_mul fun _ _ _ _ => .int _
theorem o_div : Op2 X L (binaryOp .FloorDiv) kDiv := o_I op_fdiv fun _ _ _ _ => .int _
theorem o_mod : Op2 X L (binaryOp .Mod) kMod := o_I op_mod fun _ _ _ _ => .int _
theorem o_pow : Op2 X L (binaryOp .Pow) kPow := o_I op_pow fun _ _ _ _ => .int _
def kNeg : K1 := fun p S R => match dr S p with
  | .int i => R (.int (-i)) S
  | _ => False
theorem o_neg : Op1 X L (unaryOp .USub) kNeg := by
  intro pins s σ H x v p S R Q I rx st r hk hq
  unfold kNeg at hk
  split at hk
  · rename_i i e
    have := d_int r e
    subst x
    exact un_neg pins s σ H _ v Q I rx ⟨i, rfl, hq.now st (.int _) hk⟩
  · exact hk.elim

/-! ### order -/
/-- the order of texts -/
def ltS (a b : Str) : Bool := decide (a.cps.toList < b.cps.toList)
def kOrd (f : Int → Int → Bool) (g : Str → Str → Bool) : K2 := fun p q S R => match dr S p, dr S q with
  | .int i, .int j => R (.bl (f i j)) S
  | .str i, .str j => R (.bl (g i j)) S
  | _, _ => False
theorem o_ord {op : Value → Value → Sem Value} {f : Int → Int → Bool} {g : Str → Str → Bool} (hI : OpR X op (rI0 fun i j => .bl (f i j))) (hS : OpR X op (fun x y H Q => ∃ i j, x = .str i ∧ y = .str j ∧ Q (.bl (g i j)) H)) : Op2 X L op (kOrd f g) := by
  intro pins s σ H x y v u p q S R Q I rx ry st r1 r2 hk hq
  unfold kOrd at hk
  split at hk
  · rename_i i j e1 e2
    have := d_int r1 e1
    have := d_int r2 e2
    subst x y
    exact hI pins s σ H _ _ v u Q I rx ry ⟨i, j, rfl, rfl, hq.now st (.bl _) hk⟩
  · rename_i i j e1 e2
    have := d_str r1 e1
    have := d_str r2 e2
    subst x y
    exact hS pins s σ H _ _ v u Q I rx ry ⟨i, j, rfl, rfl, hq.now st (.bl _) hk⟩
  · exact hk.elim
def kLt : K2 := kOrd (fun i j => decide (i < j)) fun a b => ltS a b
def kLe : K2 := kOrd (fun i j => decide (i ≤ j)) fun a b => !ltS b a
def kGt : K2 := kOrd (fun i j => decide (j < i)) fun a b => ltS b a
def kGe : K2 := kOrd (fun i j => decide (j ≤ i)) fun a b => !ltS a b
theorem o_lt : Op2 X L (compareOp .Lt) kLt := o_ord op_lt op_lt_str
theorem o_le : Op2 X L (compareOp .LtE) kLe := o_ord op_le op_le_str
theorem o_gt : Op2 X L (compareOp .Gt) kGt := o_ord op_gt op_gt_str
theorem o_ge : Op2 X L (compareOp .GtE) kGe := o_ord op_ge op_ge_str

/-! ### is None -/
def isNon : PV → Option Bool
  | .non => some true
  | .bl _ => some false
  | .int _ => some false
  | .str _ => some false
  | .ty _ => none
  | _ => some false
def kIs (neg : Bool) : K2 := fun p q S R => match q with
  | .non => match p with
    | .ty _ => False
    | .non => R (.bl (!neg)) S
    | _ => R (.bl neg) S
  | _ => False
theorem rv_non {H : Hp} {p : PV} {v : V} (r : RV X.K H p v) : (p = .non ↔ v = .non) := by cases r <;> simp
theorem kIs_of {neg : Bool} {p q : PV} {S : Sto} {R : RK} (h : kIs neg p q S R) : q = .non ∧ ((p = .non ∧ R (.bl (!neg)) S) ∨ (p ≠ .non ∧ R (.bl neg) S)) := by
  unfold kIs at h
  cases q with
  | non =>
    refine ⟨rfl, ?_⟩
    cases p with
    | non => exact .inl ⟨rfl, h⟩
    | ty _ => exact h.elim
    | _ => exact .inr ⟨(fun z => by cases z), h⟩
  | _ => exact h.elim
theorem o_is : Op2 X L (compareOp .Is) (kIs false) := by
  intro pins s σ H x y v u p q S R Q I rx ry st r1 r2 hk hq
  obtain ⟨eq, hw⟩ := kIs_of hk
  subst eq
  cases r2
  refine op_isN pins s σ H _ _ v u Q I rx ry ⟨rfl, ?_⟩
  rcases hw with ⟨ep, hk⟩ | ⟨hp, hk⟩
  · subst ep; cases r1; exact hq.now st (.bl _) hk
  · have e : decide (x = V.non) = false := decide_eq_false fun z => hp ((rv_non r1).mpr z)
    rw [e]; exact hq.now st (.bl _) hk
theorem o_isnot : Op2 X L (compareOp .IsNot) (kIs true) := by
  intro pins s σ H x y v u p q S R Q I rx ry st r1 r2 hk hq
  obtain ⟨eq, hw⟩ := kIs_of hk
  subst eq
  cases r2
  refine op_notN pins s σ H _ _ v u Q I rx ry ⟨rfl, ?_⟩
  rcases hw with ⟨ep, hk⟩ | ⟨hp, hk⟩
  · subst ep; cases r1; exact hq.now st (.bl _) hk
  · have e : decide (x = V.non) = false := decide_eq_false fun z => hp ((rv_non r1).mpr z)
    rw [e]; exact hq.now st (.bl _) hk
end

/-! ### == of data -/
mutual
def toD : PV → Option PyData
  | .non => some .none
  | .bl b => some (.bool b)
  | .int i => some (.int i)
  | .str x => some (.str x)
  | .tup xs => (toDs xs).map .tuple
  | .lst xs => (toDs xs).map .list
  | _ => none
def toDs : List PV → Option (List PyData)
  | [] => some []
  | x :: xs => (toD x).bind fun d => (toDs xs).map (d :: ·)
end
mutual
theorem dp_of {K : PySem.W.Frag} {H : Hp} : ∀ (p : PV) (v : V) (d : PyData), RV K H p v → toD p = some d → Dp K H v d
  | .non, _, _, r, e => by cases r; simp [toD] at e; subst e; exact .non
  | .bl b, _, _, r, e => by cases r; simp [toD] at e; subst e; exact .bl b
  | .int b, _, _, r, e => by cases r; simp [toD] at e; subst e; exact .int b
  | .str b, _, _, r, e => by cases r; simp [toD] at e; subst e; exact .str b
  | .tup xs, _, _, r, e => by
    cases r with | tup h hr =>
    simp only [toD, Option.map_eq_some_iff] at e
    obtain ⟨ds, e1, rfl⟩ := e
    exact .tup h (dps_of xs _ ds hr e1)
  | .lst xs, _, _, r, e => by
    cases r with | lst h hr =>
    simp only [toD, Option.map_eq_some_iff] at e
    obtain ⟨ds, e1, rfl⟩ := e
    exact .lst h.sq (dps_of xs _ ds hr e1)
  | .ref _, _, _, _, e => by simp [toD] at e
  | .ty _, _, _, _, e => by simp [toD] at e
  | .dct _, _, _, _, e => by simp [toD] at e
  | .obj _ _, _, _, _, e => by simp [toD] at e
theorem dps_of {K : PySem.W.Frag} {H : Hp} : ∀ (p : List PV) (v : List V) (d : List PyData), RVs K H p v → toDs p = some d → DpAll K H v d
  | [], _, _, r, e => by cases r; simp [toDs] at e; subst e; exact .nil
  | x :: xs, _, _, r, e => by
    cases r with | cons r rs =>
    simp only [toDs, Option.bind_eq_some_iff, Option.map_eq_some_iff] at e
    obtain ⟨d, e1, ds, e2, rfl⟩ := e
    exact .cons (dp_of x _ d r e1) (dps_of xs _ ds rs e2)
end
section
variable {X : Cx} {L : Lc}
/-- a list of the store, too -/
theorem dp_dr {H : Hp} {S : Sto} {p : PV} {v : V} {d : PyData} (st : RSK X.K L H S) (r : RV X.K H p v) (e : toD (dr S p) = some d) : Dp X.K H v d := by
  cases r with
  | ref a =>
    rcases dr_ref (S := S) (a := a) with ⟨ys, h1, h2⟩ | ⟨ys, h1, h2⟩ | ⟨C, fs, h1, h2⟩ | ⟨h1, h2⟩
    · rw [h2] at e
      obtain ⟨vs, h3, h4⟩ := st.mo a _ h1
      simp only [toD, Option.map_eq_some_iff] at e
      obtain ⟨ds, e1, rfl⟩ := e
      exact .lst (SqL.of h3) (dps_of _ _ ds h4 e1)
    all_goals (rw [h2] at e; simp [toD] at e)
  | _ => rw [dr_non (fun a z => by cases z)] at e; exact dp_of _ _ d (by first | exact .non | exact .bl _ | exact .int _ | exact .str _ | exact .ty _ | exact .tup (by assumption) (by assumption) | exact .lst (by assumption) (by assumption) | exact .dct (by assumption) (by assumption) (by assumption) | exact .obj (by assumption) (by assumption) (by assumption)) e
def kEqD (neg : Bool) : K2 := fun p q S R => match toD (dr S p), toD (dr S q) with
  | some d, some e => SeqAt.shaped d = true ∧ SeqAt.shaped e = true ∧ R (.bl (PyData.eqv d e != neg)) S
  | _, _ => False
theorem o_eqD (hu : X.A.units + 64 < cLine) : Op2 X L (compareOp .Eq) (kEqD false) := by
  intro pins s σ H x y v u p q S R Q I rx ry st r1 r2 hk hq
  unfold kEqD at hk
  split at hk
  · rename_i d e e1 e2
    refine op_eqD hu pins s σ H _ _ v u Q I rx ry ⟨d, e, dp_dr st r1 e1, dp_dr st r2 e2, hk.1, hk.2.1, ?_⟩
    have h := hk.2.2
    rw [Bool.bne_false] at h
    exact hq.now st (.bl _) h
  · exact hk.elim
theorem o_neD (hu : X.A.units + 64 < cLine) : Op2 X L (compareOp .NotEq) (kEqD true) := by
  intro pins s σ H x y v u p q S R Q I rx ry st r1 r2 hk hq
  unfold kEqD at hk
  split at hk
  · rename_i d e e1 e2
    refine op_neD hu pins s σ H _ _ v u Q I rx ry ⟨d, e, dp_dr st r1 e1, dp_dr st r2 e2, hk.1, hk.2.1, ?_⟩
    have h := hk.2.2
    rw [Bool.bne_true] at h
    exact hq.now st (.bl _) h
  · exact hk.elim
end

/-! ### in -/
def eqF : PV → PV → Bool
  | .non, .non => true
  | .bl a, .bl b => a == b
  | .bl a, .int b => (if a then 1 else 0) == b
  | .int a, .bl b => a == (if b then 1 else 0)
  | .int a, .int b => a == b
  | .str a, .str b => a == b
  | _, _ => false
def flatP : PV → Bool
  | .non => true
  | .bl _ => true
  | .int _ => true
  | .str _ => true
  | _ => false
theorem flat_rv {K : PySem.W.Frag} {H : Hp} {p : PV} {v : V} (r : RV K H p v) (h : flatP p = true) : flatV v = true := by cases r <;> first | rfl | cases h
theorem eqF_rv {K : PySem.W.Frag} {H : Hp} {p q : PV} {v u : V} (r : RV K H p v) (r2 : RV K H q u) (h : flatP p = true) (h2 : flatP q = true) : eqV v u = eqF p q := by
  cases r <;> first | cases h | skip
  all_goals (cases r2 <;> first | rfl | cases h2)
theorem inF_rv {K : PySem.W.Frag} {H : Hp} {x : PV} {v : V} (r : RV K H x v) (hx : flatP x = true) : ∀ {xs : List PV} {vs : List V}, RVs K H xs vs → xs.all flatP = true → vs.all flatV = true ∧ inV v vs = xs.any fun y => eqF y x
  | _, _, .nil, _ => ⟨rfl, rfl⟩
  | _, _, .cons r1 rs, h => by
    rw [List.all_cons, Bool.and_eq_true] at h
    obtain ⟨h1, h2⟩ := inF_rv r hx rs h.2
    refine ⟨by rw [List.all_cons, flat_rv r1 h.1, h1]; rfl, ?_⟩
    show (eqV _ _ || inV _ _) = _
    rw [eqF_rv r1 r h.1 hx, h2]; rfl
/-- the members of a tuple or list, the keys of a dict, the signs of a text -/
def kIn (neg : Bool) : K2 := fun p q S R => match dr S q with
  | .tup xs => flatP p = true ∧ xs.all flatP = true ∧ R (.bl (xs.any (fun y => eqF y p) != neg)) S
  | .lst xs => flatP p = true ∧ xs.all flatP = true ∧ R (.bl (xs.any (fun y => eqF y p) != neg)) S
  | .dct ks => match p with
    | .str k => R (.bl ((dget ks (.inr k)).isSome != neg)) S
    | .int k => R (.bl ((dget ks (.inl k)).isSome != neg)) S
    | _ => False
  | .str z => match p with
    | .str c => c.length = 1 ∧ R (.bl (z.cps.toList.contains (c.cps.getD 0 0) != neg)) S
    | _ => False
  | _ => False
section
variable {X : Cx} {L : Lc}
theorem rd_dct {H : Hp} {S : Sto} {p : PV} {v : V} {ks : List (Key × PV)} (st : RSK X.K L H S) (r : RV X.K H p v) (e : dr S p = .dct ks) : ∃ a gs, v = .ref a ∧ Rd H a (.dK gs) ∧ Pr X.K H ks gs := by
  cases r with
  | ref a =>
    rcases dr_ref (S := S) (a := a) with ⟨ys, h1, h2⟩ | ⟨ys, h1, h2⟩ | ⟨C, fs, h1, h2⟩ | ⟨h1, h2⟩
    · rw [h2] at e; cases e
    · rw [h2] at e; cases e
      obtain ⟨gs, h3, h4⟩ := st.mo a _ h1
      exact ⟨a, gs, rfl, .inl h3, h4⟩
    · rw [h2] at e; cases e
    · rw [h2] at e; cases e
  | dct h e1 hr => cases e; exact ⟨_, _, rfl, .inr ⟨_, h⟩, e1, hr⟩
  | _ => cases e
theorem Pr.some_eq {K : PySem.W.Frag} {H : Hp} {k : Key} {ks : List (Key × PV)} {gs : List (Key × V)} (h : Pr K H ks gs) : (valV gs k).isSome = (PX.dget ks k).isSome := by
  obtain ⟨h1, h2⟩ := h.dget (k := k)
  cases q : PX.dget ks k with
  | none => rw [h2 q]; rfl
  | some x => obtain ⟨u, hu, _⟩ := h1 x q; rw [hu]; rfl
theorem one_sign {c : Str} (h : c.length = 1) : c = ⟨#[c.cps.getD 0 0]⟩ := by
  obtain ⟨⟨l⟩⟩ := c
  match l, h with
  | [x], _ => rfl
theorem o_inA (neg : Bool) (op : CmpOp) (hS : OpR X (compareOp op) (rIn X.K neg)) (hC : OpR X (compareOp op) (fun x y H Q => ∃ (c : Nat) (z : Str), x = .str ⟨#[c]⟩ ∧ y = .str z ∧ Q (.bl (decide (c ∈ z.cps.toList) != neg)) H))
    (hD : ∀ (pins : List (Addr × Obj)) (s : Shared) (σ : L2.St) (H : Hp) (a : Addr) (y : V) (u : Value) (o : Option V) (Q : VK), Inv X pins σ H s → DGet H a y o → RelV y u → Q (.bl (o.isSome != neg)) H → wpAny (model X.prog X.w) X.A (compareOp op u (.ref a)) (EP X pins σ Q) X.xe s) :
    Op2 X L (compareOp op) (kIn neg) := by
  intro pins s σ H x y v u p q S R Q I rx ry st r1 r2 hk hq
  unfold kIn at hk
  have sw : ∀ b : Bool, (if neg then !b else b) = (b != neg) := fun b => by cases neg <;> cases b <;> rfl
  split at hk
  · rename_i xs e
    obtain ⟨a, vs, rfl, h1, h2⟩ := rd_tup (X := X) r2 e
    obtain ⟨h3, h4⟩ := inF_rv r1 hk.1 h2 hk.2.1
    refine hS pins s σ H _ _ v u Q I rx ry ⟨a, vs, rfl, .inr h1, flat_rv r1 hk.1, h3, ?_⟩
    rw [sw, h4]
    exact hq.now st (.bl _) hk.2.2
  · rename_i xs e
    obtain ⟨a, vs, rfl, h1, h2⟩ := rd_lst (X := X) st r2 e
    obtain ⟨h3, h4⟩ := inF_rv r1 hk.1 h2 hk.2.1
    refine hS pins s σ H _ _ v u Q I rx ry ⟨a, vs, rfl, .inl h1, flat_rv r1 hk.1, h3, ?_⟩
    rw [sw, h4]
    exact hq.now st (.bl _) hk.2.2
  · rename_i ks e
    obtain ⟨a, gs, rfl, h1, h2⟩ := rd_dct (X := X) st r2 e
    cases ry
    have key : ∀ k : Key, x = kV k → R (.bl ((dget ks k).isSome != neg)) S → wpAny (model X.prog X.w) X.A (compareOp op v (.ref a)) (EP X pins σ Q) X.xe s := fun k ek hR =>
      hD pins s σ H a x v (valV gs k) Q I (.inl ⟨gs, k, h1, ek, rfl⟩) rx (by rw [h2.some_eq]; exact hq.now st (.bl _) hR)
    cases r1 with
    | str k => exact key (.inr k) rfl hk
    | int k => exact key (.inl k) rfl hk
    | _ => exact hk.elim
  · rename_i z e
    have := d_str r2 e
    subst y
    cases r1 with
    | str c =>
      have ec := one_sign hk.1
      refine hC pins s σ H _ _ v u Q I (by rw [← ec]; exact rx) ry ⟨_, z, rfl, rfl, ?_⟩
      have h := hk.2
      have e2 : z.cps.toList.contains (c.cps.getD 0 0) = decide (c.cps.getD 0 0 ∈ z.cps.toList) := by rw [Bool.eq_iff_iff]; simp
      rw [e2] at h
      exact hq.now st (.bl _) h
    | _ => exact hk.elim
  · exact hk.elim
theorem o_in (hu : X.A.units + 1 < cLine) : Op2 X L (compareOp .In) (kIn false) :=
  o_inA false .In op_in_seq (fun pins s σ H x y v u Q I rx ry ⟨c, z, e1, e2, q⟩ => op_in_sign pins s σ H x y v u Q I rx ry ⟨c, z, e1, e2, by rw [Bool.bne_false] at q; exact q⟩)
    fun pins s σ H a y u o Q I g ry q => d_in hu I g ry fun s3 I3 => ⟨.bl o.isSome, H, I3, rfl, by rw [Bool.bne_false] at q; exact q⟩
theorem o_notin (hu : X.A.units + 1 < cLine) : Op2 X L (compareOp .NotIn) (kIn true) :=
  o_inA true .NotIn op_notIn_seq (fun pins s σ H x y v u Q I rx ry ⟨c, z, e1, e2, q⟩ => op_notIn_sign pins s σ H x y v u Q I rx ry ⟨c, z, e1, e2, by rw [Bool.bne_true] at q; exact q⟩)
    fun pins s σ H a y u o Q I g ry q => d_notIn hu I g ry fun s3 I3 => ⟨.bl (!o.isSome), H, I3, rfl, by rw [Bool.bne_true] at q; exact q⟩
end
end PX
end L2

/-! PX9: subscripts, slices, stores, builtins. -/
namespace L2
namespace PX
open PySem PySem.Spec PyProof.Rows
theorem RVs.atI {K : PySem.W.Frag} {H : Hp} {xs : List PV} {vs : List V} {i : Int} {p : PV} (h : RVs K H xs vs) (e : atI xs i = some p) : ∃ v, atI vs i = some v ∧ RV K H p v := by
  unfold L2.atI at e ⊢
  rw [← h.length]
  cases q : ixN xs.length i with
  | none => rw [q] at e; cases e
  | some j => rw [q] at e; exact h.get e
def cutP (xs : List PV) (lo hi : Option Int) : List PV := (xs.drop (HT.sIx xs.length 0 lo)).take (HT.sIx xs.length xs.length hi - HT.sIx xs.length 0 lo)
theorem RVs.cut {K : PySem.W.Frag} {H : Hp} {xs : List PV} {vs : List V} (h : RVs K H xs vs) (lo hi : Option Int) : RVs K H (cutP xs lo hi) (cutV vs lo hi) := by
  unfold cutP cutV
  rw [← h.length]
  exact (h.drop _).take _
/-! ### o[i] -/
def kIx : K2 := fun p q S R => match dr S p with
  | .lst xs => match q with
    | .int i => ∃ z, atI xs i = some z ∧ R z S
    | _ => False
  | .tup xs => match q with
    | .int i => ∃ z, atI xs i = some z ∧ R z S
    | _ => False
  | .str x => match q with
    | .int i => x.length ≤ sizeLine ∧ ∃ c, atI x.cps.toList i = some c ∧ R (.str ⟨#[c]⟩) S
    | _ => False
  | .dct ks => match q with
    | .int i => ∃ z, dget ks (.inl i) = some z ∧ R z S
    | .str i => ∃ z, dget ks (.inr i) = some z ∧ R z S
    | _ => False
  | _ => False
section
variable {X : Cx} {L : Lc} {a b e o i value : Expr} {wa wb we wo wi wv : WE} {pos pos' p2 : Pos}
theorem o_ix (hu : X.A.units + 1 < cLine) (ve sl : Expr) (hs : ∀ o i, subscripted sl false o i = operate [o, i] (getItem o i)) : Op2 X L (fun v u => subscriptTail ve sl v u) kIx := by
  intro pins s σ H x y v u p q S R Q I rx ry st r1 r2 hk hq
  unfold kIx at hk
  have dct : ∀ (ks : List (Key × PV)) (k : Key) (z : PV), dr S p = .dct ks → y = kV k → dget ks k = some z → R z S → wpAny (model X.prog X.w) X.A (subscriptTail ve sl v u) (EP X pins σ Q) X.xe s := fun ks k z e ey hz hR => by
    obtain ⟨a, gs, rfl, h1, h2⟩ := rd_dct (X := X) st r1 e
    obtain rfl : v = Value.ref a := rx
    obtain ⟨w, hw, rw'⟩ := (h2.dget (k := k)).1 z hz
    have g : DGet H a y (some w) := .inl ⟨gs, k, h1, ey, hw.symm⟩
    exact PyProof.Rows.tail_any (dict_typeIs I g) PySem.F.slot_dict_getitem.lookup (d_getItem hu I g ry fun w' s3 I3 rw3 => ⟨w, H, I3, rw3, hq.now st rw' hR⟩) (hs _ _)
  split at hk
  · rename_i xs e
    split at hk
    · rename_i i
      cases r2
      obtain ⟨z, hz, hR⟩ := hk
      obtain ⟨a, vs, rfl, h1, h2⟩ := rd_lst (X := X) st r1 e
      obtain ⟨w, hw, rw'⟩ := h2.atI hz
      exact ix_list ve sl pins s σ H _ _ v u Q I rx ry ⟨a, vs, i, w, rfl, rfl, h1, hw, hq.now st rw' hR⟩ (hs _ _)
    · exact hk.elim
  · rename_i xs e
    split at hk
    · rename_i i
      cases r2
      obtain ⟨z, hz, hR⟩ := hk
      obtain ⟨a, vs, rfl, h1, h2⟩ := rd_tup (X := X) r1 e
      obtain ⟨w, hw, rw'⟩ := h2.atI hz
      exact ix_tup ve sl pins s σ H _ _ v u Q I rx ry ⟨a, vs, i, w, rfl, rfl, h1, hw, hq.now st rw' hR⟩ (hs _ _)
    · exact hk.elim
  · rename_i z e
    split at hk
    · rename_i i
      cases r2
      obtain ⟨hl, c, hc, hR⟩ := hk
      have := d_str r1 e
      subst x
      exact ix_str ve sl pins s σ H _ _ v u Q I rx ry ⟨z, i, c, rfl, rfl, hl, hc, hq.now st (.str _) hR⟩ (hs _ _)
    · exact hk.elim
  · rename_i ks e
    split at hk
    · rename_i i
      cases r2
      obtain ⟨z, hz, hR⟩ := hk
      exact dct ks (.inl i) z e rfl hz hR
    · rename_i i
      cases r2
      obtain ⟨z, hz, hR⟩ := hk
      exact dct ks (.inr i) z e rfl hz hR
    · exact hk.elim
  · exact hk.elim
theorem de_ix (hu : X.A.units + 1 < cLine) (ha : DE X L a wa) (hb : DE X L b wb) (hs : ∀ o i, subscripted b false o i = operate [o, i] (getItem o i) := by intro _ _; rfl) : DE X L (.Subscript a b pos) (wB kIx wa wb) := by
  refine ⟨fun pins s σ H Q I ⟨ρ, S, R, Z, A, h, q, hZ⟩ => ?_⟩
  exact Subscript_ (lbin (f := fun v u => subscriptTail a b v u) ha hb I A h hZ fun v u s2 x y H2 p q' S2 I2 rx ry i A2 r1 r2 hk => o_ix hu a b hs pins s2 σ H2 x y v u p q' S2 R Q I2 rx ry A2.st r1 r2 hk (q.fr i))
/-! ### o[i] = v -/
def kPut (o i v : PV) (S : Sto) (k : Sto → Prop) : Prop := match o with
  | .ref a => match S a with
    | some (.lst xs) => match i with
      | .int j => ∃ n, ixN xs.length j = some n ∧ k (updS S a (.lst (xs.set n v)))
      | _ => False
    | some (.dct ks) => match i with
      | .int j => ks.length < sizeLine ∧ k (updS S a (.dct (dput ks (.inl j) v)))
      | .str j => ks.length < sizeLine ∧ k (updS S a (.dct (dput ks (.inr j) v)))
      | _ => False
    | _ => False
  | _ => False
def wPut (wo wi wv : WE) : WS := fun P ρ S => wv ρ S (fun v S1 => wo ρ S1 (fun o S2 => wi ρ S2 (fun i S3 => kPut o i v S3 (fun S4 => P.nx ρ S4)) (fun e S' => P.ex e ρ S')) (fun e S' => P.ex e ρ S')) (fun e S' => P.ex e ρ S')
theorem ds_put (hu : X.A.units + 1 < cLine) (ho : DE X L o wo) (hi : DE X L i wi) (hv : DE X L value wv) (hs : swapsWith value (some (.Subscript o i pos')) pos.line X.env = pure false := by rfl) : DS X L (.Assign [.Subscript o i pos'] value pos) (wPut wo wi wv) := by
  refine ⟨fun pins s σ H D I ⟨ρ, S, P, A, h, E⟩ => ?_⟩
  have Z := E.zc A
  refine wpAny_Assign_Subscript (lone hv I A h Z fun r s1 x1 H1 v S1 I1 rr i1 A1 r1 h1 => lone ho I1 A1 h1 (Z.fr i1) fun u s2 x2 H2 o' S2 I2 ru i2 A2 r2 h2 => lone hi I2 A2 h2 ((Z.fr i1).fr i2) fun iv s3 x3 H3 i' S3 I3 ri i3 A3 r3 h3 => ?_) hs
  have r1' := (r1.imm i2.imm).imm i3.imm
  have r2' := r2.imm i3.imm
  have fr := (i1.trans i2).trans i3
  unfold kPut at h3
  have dct : ∀ (a : Addr) (ks : List (Key × PV)) (k : Key), x2 = .ref a → S3 a = some (.dct ks) → x3 = kV k → ks.length < sizeLine → P.nx ρ (updS S3 a (.dct (dput ks k v))) → wpAny (model X.prog X.w) X.A (setItem u iv r) (fun _ => SP X pins D .next) X.xe s3 := fun a ks k ea e ek hl hn => by
    subst ea
    obtain rfl : u = Value.ref a := ru
    obtain ⟨gs, h4, pr⟩ := A3.st.mo a _ e
    have f4 : Fr S3 H3 (updS S3 a (.dct (dput ks k v))) (upd H3 a (.dK (putK gs k x1))) := .put h4 trivial (by rw [e]; simp)
    have im := f4.imm
    have st4 : RSK X.K L (upd H3 a (.dK (putK gs k x1))) (updS S3 a (.dct (dput ks k v))) := A3.st.put h4 trivial ⟨_, upd_same, (pr.imm im).dput (r1'.imm im)⟩
    exact d_setItem hu I3 (.inl ⟨gs, k, h4, ek, by rw [← pr.length]; exact hl, rfl⟩) ri rr fun s4 I4 => ⟨σ, _, I4, E.nx ρ _ σ _ (fr.trans f4) (A.fr (fr.trans f4) st4) hn⟩
  cases r2 with
  | ref a =>
    dsimp only at h3
    split at h3
    · rename_i xs e
      split at h3
      · rename_i j
        cases r3
        obtain ⟨n, hn, h3⟩ := h3
        obtain ⟨vs, h4, h5⟩ := A3.st.mo a _ e
        have f4 : Fr S3 H3 (updS S3 a (.lst (xs.set n v))) (upd H3 a (.lst (vs.set n x1))) := .put h4 trivial (by rw [e]; simp)
        have im := f4.imm
        have st4 : RSK X.K L (upd H3 a (.lst (vs.set n x1))) (updS S3 a (.lst (xs.set n v))) := A3.st.put h4 trivial ⟨_, upd_same, (h5.imm im).set (r1'.imm im) n⟩
        exact thn (set_list pins s3 σ H3 (.ref a) (.int j) x1 u iv r (fun H' => H' = upd H3 a (.lst (vs.set n x1))) I3 ru ri rr ⟨a, vs, j, n, rfl, rfl, h4, by rw [← h5.length]; exact hn, rfl⟩) fun _ s4 ⟨H4, I4, e4⟩ => by
          subst e4
          exact ⟨σ, _, I4, E.nx ρ _ σ _ (fr.trans f4) (A.fr (fr.trans f4) st4) h3⟩
      · exact h3.elim
    · rename_i ks e
      split at h3
      · cases r3
        exact dct a ks (.inl _) rfl e rfl h3.1 h3.2
      · cases r3
        exact dct a ks (.inr _) rfl e rfl h3.1 h3.2
      · exact h3.elim
    · exact h3.elim
  | _ => exact h3.elim
/-! ### slices -/
abbrev WO := Slots → Sto → (Option Int → Sto → Prop) → ZK → Prop
def LO (K : PySem.W.Frag) (L : Lc) (w : WO) : TO := fun σ H Q => ∃ ρ S R Z, At K L σ H ρ S ∧ w ρ S R Z ∧ (∀ b S' H', Fr S H S' H' → RSK K L H' S' → R b S' → Q b H') ∧ ZC K L S H σ Z
abbrev DO (X : Cx) (L : Lc) (e : Option Expr) (w : WO) : Prop := PO X e (LO X.K L w)
def wNo : WO := fun _ S R _ => R none S
def wSo (we : WE) : WO := fun ρ S R Z => we ρ S (fun p S' => intB p fun i => R (some i) S') Z
theorem _root_.L2.PO.imp {X : Cx} {e : Option Expr} {t t' : TO} (h : PO X e t) (i : ∀ σ H Q, t' σ H Q → t σ H Q) : PO X e t' := ⟨fun pins s σ H Q I q => h.run pins s σ H Q I (i _ _ _ q)⟩
theorem do_none : DO X L none wNo := po_none.imp fun σ H Q ⟨ρ, S, R, Z, A, h, q, hZ⟩ => q none S H (.refl S H) A.st h
theorem do_some (h : DE X L e we) : DO X L (some e) (wSo we) := (po_some h).imp fun σ H Q ⟨ρ, S, R, Z, A, h, q, hZ⟩ => ⟨ρ, S, _, Z, A, h, fun p S1 v H1 i st r h1 => by
  obtain ⟨j, rfl, h1⟩ := intB_of h1
  cases r
  exact ⟨j, rfl, q _ S1 H1 i st h1⟩, hZ⟩
def kSl (p : PV) (lo hi : Option Int) (S : Sto) (R : RK) : Prop := match dr S p with
  | .lst xs => R (.lst (cutP xs lo hi)) S
  | .tup xs => R (.tup (cutP xs lo hi)) S
  | .str z => z.length ≤ sizeLine ∧ R (.str (cutS z lo hi)) S
  | _ => False
def wSl (we : WE) (wl wh : WO) : WE := fun ρ S R Z => we ρ S (fun p S1 => wl ρ S1 (fun lo S2 => wh ρ S2 (fun hi S3 => kSl p lo hi S3 R) Z) Z) Z
def rSlAny (K : PySem.W.Frag) : V → Option Int → Option Int → Hp → VK → Prop := fun x lo hi H Q => rSlL K x lo hi H Q ∨ rSlA K x lo hi H Q ∨ rSlS x lo hi H Q
theorem sl_any : SlR X (rSlAny X.K) := sl_list.or (sl_tupA.or sl_str)
theorem de_slice {lo hi : Option Expr} {wl wh : WO} (he : DE X L e we) (hl : DO X L lo wl) (hh : DO X L hi wh) : DE X L (.Subscript e (.Slice lo hi none p2) pos) (wSl we wl wh) :=
  (pe_ghost (pe_slice sl_any he hl hh)).imp fun σ H Q ⟨ρ, S, R, Z, A, h, q, hZ⟩ => by
  refine ⟨ρ, S, _, Z, A, h, fun p S1 x H1 i1 st1 r1 h1 => ?_, hZ⟩
  refine ⟨ρ, S1, _, Z, A.fr i1 st1, h1, fun l S2 H2 i2 st2 h2 => ?_, hZ.fr i1⟩
  refine ⟨ρ, S2, _, Z, A.fr (i1.trans i2) st2, h2, fun u S3 H3 i3 st3 h3 => ?_, hZ.fr (i1.trans i2)⟩
  have r3 := (r1.imm i2.imm).imm i3.imm
  have q3 := q.fr ((i1.trans i2).trans i3)
  unfold kSl at h3
  split at h3
  · rename_i xs e
    obtain ⟨a, vs, rfl, h4, h5⟩ := rd_lst (X := X) st3 r3 e
    exact .inl ⟨a, vs, rfl, h4, fun p hp => q3.newL st3 (h5.cut l u) hp h3⟩
  · rename_i xs e
    obtain ⟨a, vs, rfl, h4, h5⟩ := rd_tup (X := X) r3 e
    have gg : ∀ {v H'}, Q v H' → gK Q v H' := fun {v H'} z => ⟨fun _ => False, fun _ w => w.elim, fun H2 g => by
      have e : H2 = H' := funext fun b => g.no b fun z => z
      rw [e]; exact z⟩
    refine .inr (.inl ⟨a, vs, rfl, h4, fun hw => gg (q3.now st3 (.tup h4 ?_) h3), fun hw p hp => gg (q3.newT st3 (h5.cut l u) hp h3)⟩)
    have e2 : cutV vs l u = vs := by
      unfold cutV
      rw [hw.1, hw.2]; simp
    have := h5.cut l u
    rw [e2] at this; exact this
  · rename_i z e
    have := d_str r3 e
    subst x
    have gg : ∀ {v H'}, Q v H' → gK Q v H' := fun {v H'} z => ⟨fun _ => False, fun _ w => w.elim, fun H2 g => by
      have e : H2 = H' := funext fun b => g.no b fun z => z
      rw [e]; exact z⟩
    exact .inr (.inr ⟨z, rfl, h3.1, gg (q3.now st3 (.str _) h3.2)⟩)
  · exact h3.elim
end
theorem gK_now {Q : VK} {v : V} {H : Hp} (z : Q v H) : gK Q v H := ⟨fun _ => False, fun _ w => w.elim, fun H2 g => by
  have e : H2 = H := funext fun b => g.no b fun z => z
  rw [e]; exact z⟩
/-! ### builtins -/
def p1 (k : PV → Sto → RK → Prop) : PSp := fun ps S R _ => match ps with
  | [p] => k p S R
  | _ => False
def p2 (k : PV → PV → Sto → RK → Prop) : PSp := fun ps S R _ => match ps with
  | [p, q] => k p q S R
  | _ => False
section
variable {X : Cx} {L : Lc}
theorem call1_of {f : Value} {k : PV → Sto → RK → Prop} (h : ∀ (pins : List (Addr × Obj)) (s : Shared) (σ : L2.St) (H : Hp) (x : V) (us : List Value) (p : PV) (S : Sto) (R : RK) (Q : VK), Inv X pins σ H s → Vals [x] us → RSK X.K L H S → RV X.K H p x → k p S R → VC X.K L S H R Q →
    wpAny (model X.prog X.w) X.A (call f us) (EP X pins σ Q) X.xe s) : CallP X L f (p1 k) := by
  intro pins s σ H xs us ps S R Z Q I rv st j r hk q z
  cases r with
  | nil => exact hk.elim
  | cons r rs =>
    cases rs with
    | cons _ _ => exact hk.elim
    | nil => exact h pins s σ H _ us _ S R Q I rv st r hk q
theorem call2_of {f : Value} {k : PV → PV → Sto → RK → Prop} (h : ∀ (pins : List (Addr × Obj)) (s : Shared) (σ : L2.St) (H : Hp) (x y : V) (us : List Value) (p p' : PV) (S : Sto) (R : RK) (Q : VK), Inv X pins σ H s → Vals [x, y] us → RSK X.K L H S → RV X.K H p x → RV X.K H p' y → k p p' S R → VC X.K L S H R Q →
    wpAny (model X.prog X.w) X.A (call f us) (EP X pins σ Q) X.xe s) : CallP X L f (p2 k) := by
  intro pins s σ H xs us ps S R Z Q I rv st j r hk q z
  cases r with
  | nil => exact hk.elim
  | cons r rs =>
    cases rs with
    | nil => exact hk.elim
    | cons r' rs =>
      cases rs with
      | cons _ _ => exact hk.elim
      | nil => exact h pins s σ H _ _ us _ _ S R Q I rv st r r' hk q
def kLen : PV → Sto → RK → Prop := fun p S R => match dr S p with
  | .str z => z.length ≤ sizeLine ∧ R (.int z.length) S
  | .lst xs => R (.int xs.length) S
  | .tup xs => R (.int xs.length) S
  | .dct xs => R (.int xs.length) S
  | _ => False
theorem c_len : CallP X L (.builtin "len") (p1 kLen) := call1_of fun pins s σ H x us p S R Q I rv st r hk q => by
  unfold kLen at hk
  split at hk
  · rename_i z e
    have := d_str r e
    subst x
    exact call_len pins s σ H _ us Q I rv ⟨_, z.length, rfl, ⟨hk.1, rfl⟩, q.now st (.int _) hk.2⟩
  · rename_i xs e
    obtain ⟨a, vs, rfl, h1, h2⟩ := rd_lst (X := X) st r e
    exact call_len pins s σ H _ us Q I rv ⟨_, xs.length, rfl, .inl ⟨vs, h1, h2.length⟩, q.now st (.int _) hk⟩
  · rename_i xs e
    obtain ⟨a, vs, rfl, h1, h2⟩ := rd_tup (X := X) r e
    exact call_len pins s σ H _ us Q I rv ⟨_, xs.length, rfl, .inr ⟨vs, h1, h2.length⟩, q.now st (.int _) hk⟩
  · rename_i ks e
    obtain ⟨a, gs, rfl, h1, h2⟩ := rd_dct (X := X) st r e
    rw [Vals.ref1 rv]
    exact d_len I h1 fun t s' I' => ⟨.int gs.length, H, I', ⟨t, rfl⟩, by rw [← h2.length]; exact q.now st (.int _) hk⟩
  · exact hk.elim
def kInt : PV → Sto → RK → Prop := fun p S R => match p with
  | .int i => R (.int i) S
  | .bl b => R (.int (if b then 1 else 0)) S
  | .str x => ∃ n, PySem.intText? x = some n ∧ x.length ≤ 640 ∧ R (.int n) S
  | _ => False
theorem c_int : CallP X L (.type "int") (p1 kInt) := call1_of fun pins s σ H x us p S R Q I rv st r hk q => by
  cases r with
  | int i => exact call_int1 pins s σ H _ us Q I rv (.inl ⟨_, rfl, q.now st (.int _) hk⟩)
  | bl b => exact call_int1 pins s σ H _ us Q I rv (.inr ⟨_, rfl, q.now st (.int _) hk⟩)
  | str x => obtain ⟨n, h1, h2, h3⟩ := hk; exact call_int_str pins s σ H _ us Q I rv ⟨_, n, rfl, h1, h2, q.now st (.int _) h3⟩
  | _ => exact hk.elim
def kAbs : PV → Sto → RK → Prop := fun p S R => match p with
  | .int i => R (.int (if i < 0 then -i else i)) S
  | _ => False
theorem c_abs : CallP X L (.builtin "abs") (p1 kAbs) := call1_of fun pins s σ H x us p S R Q I rv st r hk q => by
  cases r with
  | int i => exact call_abs pins s σ H _ us Q I rv ⟨_, rfl, q.now st (.int _) hk⟩
  | _ => exact hk.elim
def kStr : PV → Sto → RK → Prop := fun p S R => match p with
  | .int i => i.natAbs.log2 < 1920 ∧ R (.str (toString i)) S
  | .str x => R (.str x) S
  | _ => False
theorem c_str : CallP X L (.type "str") (p1 kStr) := call1_of fun pins s σ H x us p S R Q I rv st r hk q => by
  cases r with
  | int i => exact call_str_int pins s σ H _ us Q I rv ⟨_, rfl, hk.1, q.now st (.str _) hk.2⟩
  | str x => exact SkE.call_str_str pins s σ H _ us Q I rv ⟨_, rfl, q.now st (.str _) hk⟩
  | _ => exact hk.elim
/-- flags -/
def blsOf : List PV → Option (List Bool)
  | [] => some []
  | .bl b :: r => (blsOf r).map (b :: ·)
  | _ :: _ => none
theorem blsOf_rv {K : PySem.W.Frag} {H : Hp} : ∀ {xs : List PV} {vs : List V} {bs : List Bool}, RVs K H xs vs → blsOf xs = some bs → vs = bs.map V.bl
  | _, _, _, .nil, e => by simp [blsOf] at e; subst e; rfl
  | _, _, _, .cons r rs, e => by
    cases r with
    | bl b =>
      simp only [blsOf, Option.map_eq_some_iff] at e
      obtain ⟨bs', e1, rfl⟩ := e
      rw [blsOf_rv rs e1]; rfl
    | _ => simp [blsOf] at e
def kAll : PV → Sto → RK → Prop := fun p S R => match dr S p with
  | .lst xs => match blsOf xs with
    | some bs => R (.bl (bs.all id)) S
    | none => False
  | _ => False
def kAny : PV → Sto → RK → Prop := fun p S R => match dr S p with
  | .lst xs => match blsOf xs with
    | some bs => R (.bl (bs.any id)) S
    | none => False
  | _ => False
theorem c_all (hc : X.calm = true) : CallP X L (.builtin "all") (p1 kAll) := call1_of fun pins s σ H x us p S R Q I rv st r hk q => by
  unfold kAll at hk
  split at hk
  · rename_i xs e
    split at hk
    · rename_i bs eb
      obtain ⟨a, vs, rfl, h1, h2⟩ := rd_lst (X := X) st r e
      have := blsOf_rv h2 eb
      subst vs
      exact cr_all hc pins s σ H _ us Q I rv ⟨a, bs, rfl, h1, q.now st (.bl _) hk⟩
    · exact hk.elim
  · exact hk.elim
theorem c_any (hc : X.calm = true) : CallP X L (.builtin "any") (p1 kAny) := call1_of fun pins s σ H x us p S R Q I rv st r hk q => by
  unfold kAny at hk
  split at hk
  · rename_i xs e
    split at hk
    · rename_i bs eb
      obtain ⟨a, vs, rfl, h1, h2⟩ := rd_lst (X := X) st r e
      have := blsOf_rv h2 eb
      subst vs
      exact cr_any hc pins s σ H _ us Q I rv ⟨a, bs, rfl, h1, q.now st (.bl _) hk⟩
    · exact hk.elim
  · exact hk.elim
def kTup : PV → Sto → RK → Prop := fun p S R => match dr S p with
  | .lst xs => R (.tup xs) S
  | .tup xs => R (.tup xs) S
  | _ => False
theorem c_tup : CallP X L (.type "tuple") (p1 kTup) := call1_of fun pins s σ H x us p S R Q I rv st r hk q => by
  unfold kTup at hk
  split at hk
  · rename_i xs e
    obtain ⟨a, vs, rfl, h1, h2⟩ := rd_lst (X := X) st r e
    exact call_tuple_of pins s σ H _ us Q I rv ⟨a, vs, rfl, .inl ⟨h1, fun l hl => q.newT st h2 hl hk⟩⟩
  · rename_i xs e
    obtain ⟨a, vs, rfl, h1, h2⟩ := rd_tup (X := X) r e
    exact call_tuple_of pins s σ H _ us Q I rv ⟨a, vs, rfl, .inr ⟨h1, q.now st (.tup h1 h2) hk⟩⟩
  · exact hk.elim
/-- list(xs): a new one of the store; one that stands still -/
def kList : PV → Sto → RK → Prop := fun p S R => match dr S p with
  | .lst xs => ∀ a, S a = none → R (.ref a) (updS S a (.lst xs))
  | .tup xs => ∀ a, S a = none → R (.ref a) (updS S a (.lst xs))
  | _ => False
theorem c_list : CallP X L (.type "list") (p1 kList) := call1_of fun pins s σ H x us p S R Q I rv st r hk q => by
  unfold kList at hk
  split at hk
  · rename_i xs e
    obtain ⟨a, vs, rfl, h1, h2⟩ := rd_lst (X := X) st r e
    exact call_list_of pins s σ H _ us Q I rv ⟨a, vs, rfl, .inl h1, fun l hl => q.newM st h2 hl hk⟩
  · rename_i xs e
    obtain ⟨a, vs, rfl, h1, h2⟩ := rd_tup (X := X) r e
    exact call_list_of pins s σ H _ us Q I rv ⟨a, vs, rfl, .inr h1, fun l hl => q.newM st h2 hl hk⟩
  · exact hk.elim
/-! ### isinstance -/
def tagB : PV → Option String
  | .non => some "NoneType"
  | .bl _ => some "bool"
  | .int _ => some "int"
  | .str _ => some "str"
  | .tup _ => some "tuple"
  | .lst _ => some "list"
  | .dct _ => some "dict"
  | _ => none
def tyNames : List String := ["int", "bool", "str", "tuple", "list", "dict"]
def isTyB (a n : String) : Bool := a == n || (a == "bool" && n == "int")
theorem isTyB_ok {p : PV} {a n : String} (h : tagB p = some a) (hn : n ∈ tyNames) : kitB a n = some (isTyB a n) := by
  have ha : a ∈ ["NoneType", "bool", "int", "str", "tuple", "list", "dict"] := by
    cases p <;> simp only [tagB, Option.some.injEq, reduceCtorEq] at h <;> subst h <;> decide
  have key : ∀ a ∈ ["NoneType", "bool", "int", "str", "tuple", "list", "dict"], ∀ n ∈ tyNames, kitB a n = some (isTyB a n) := by decide +kernel
  exact key a ha n hn
/-- what isinstance asks of a class of ours -/
structure IsC (K : PySem.W.Frag) (C : Addr) : Prop where
  cl : Cls K C
  ha : PySem.W.findIn K (.ref C) "__class__" = some (some (.builtin "object.__class__"))
  hn : PySem.W.specialIn K (.builtin "object.__class__") "__get__" = some (some (.builtin "getset_descriptor.__get__"))
  ht : PySem.W.takesIn K (.builtin "object.__class__") = some true
  hm : PySem.W.mroIn K C (.type "object") = some true
abbrev TyN := String ⊕ Addr
def tyVal : TyN → Value
  | .inl n => .type n
  | .inr C => .ref C
def tyP : PV → Option TyN
  | .obj C _ => some (.inr C)
  | p => (tagB p).map Sum.inl
def clP : PV → Option TyN
  | .ty n => some (.inl n)
  | .ref C => some (.inr C)
  | _ => none
def ansI (F : TyN → TyN → Option Bool) (t c : TyN) : Option Bool := match t, c with
  | .inl a, .inl n => if n ∈ tyNames then some (isTyB a n) else F t c
  | .inr C, .inr D => if C = D then some true else F t c
  | _, _ => F t c
def kIsi (F : TyN → TyN → Option Bool) : PV → PV → Sto → RK → Prop := fun p q S R => match tyP (dr S p), clP q with
  | some t, some c => match ansI F t c with
    | some b => R (.bl b) S
    | none => False
  | _, _ => False
theorem kit_rv {pins : List (Addr × Obj)} {σ : L2.St} {H : Hp} {s : Shared} {S : Sto} {p : PV} {v : V} {u : Value} {t : TyN} (I : Inv X pins σ H s) (ru : RelV v u) (st : RSK X.K L H S) (r : RV X.K H p v) (ht : tyP (dr S p) = some t) (hC : ∀ C, t = .inr C → IsC X.K C) :
    ∃ P : Heap → Prop, PySem.W.KitX X.K u (tyVal t) P ∧ P s.heap ∧ u ≠ .builtin "__main__.__loader__#opaque" := by
  have base : ∀ {a : String}, TyX X.K H v (.type a) → t = .inl a → ∃ P : Heap → Prop, PySem.W.KitX X.K u (tyVal t) P ∧ P s.heap ∧ u ≠ .builtin "__main__.__loader__#opaque" := fun h e => by subst e; exact kit_of I ru h
  cases e : dr S p with
  | lst xs =>
    rw [e] at ht; simp [tyP, tagB] at ht
    obtain ⟨a, vs, rfl, h1, h2⟩ := rd_lst (X := X) st r e
    rcases h1 with (h1 | ⟨o, h1⟩) | ⟨o, _, _, h1, h3, _⟩
    · exact base (.base (.lst h1)) ht.symm
    · exact base (.base (.frz h1)) ht.symm
    · exact base (.kList h1 h3) ht.symm
  | tup xs =>
    rw [e] at ht; simp [tyP, tagB] at ht
    obtain ⟨a, vs, rfl, h1, h2⟩ := rd_tup (X := X) r e
    rcases h1 with (h1 | ⟨o, h1⟩) | h1
    · exact base (.base (.tup h1)) ht.symm
    · exact base (.fTuple h1) ht.symm
    · have h9 : ∃ o, X.K.lookup a = some o ∧ o.cls = .type "tuple" := by
        obtain ⟨o, h⟩ := h1
        first
          | exact ⟨o, h.1, h.2.1⟩
          | (obtain ⟨n, h⟩ := h; exact ⟨o, h.1, h.2.1⟩)
          | (obtain ⟨n, m, h⟩ := h; exact ⟨o, h.1, h.2.1⟩)
      obtain ⟨o, h5, h6⟩ := h9
      exact base (.kTuple h5 h6) ht.symm
  | dct ks =>
    rw [e] at ht; simp [tyP, tagB] at ht
    obtain ⟨a, gs, rfl, h1, h2⟩ := rd_dct (X := X) st r e
    rcases h1 with h1 | ⟨o, h1⟩
    · exact base (.base (.dK h1)) ht.symm
    · exact base (.fDict h1) ht.symm
  | obj C fs =>
    rw [e] at ht; simp [tyP] at ht
    subst ht
    have c := hC C rfl
    obtain ⟨a, dx, gs, rfl, rd, pr⟩ := rd_obj (X := X) (L := L) st r e
    obtain rfl : u = Value.ref a := ru
    obtain ⟨mA, O, _⟩ := ins_getR I.hok rd
    obtain ⟨od, J, _⟩ := O.look
    exact ⟨_, PySem.W.kitx_own (c.cl.get _) c.cl.hd c.ha c.hn c.ht c.hm, J, fun z => nomatch z⟩
  | non => rw [e] at ht; simp [tyP, tagB] at ht; have := d_non r e; subst v; exact base (.base .non) ht.symm
  | bl b => rw [e] at ht; simp [tyP, tagB] at ht; have := d_bl r e; subst v; exact base (.base (.bl _)) ht.symm
  | int b => rw [e] at ht; simp [tyP, tagB] at ht; have := d_int r e; subst v; exact base (.base (.int _)) ht.symm
  | str b => rw [e] at ht; simp [tyP, tagB] at ht; have := d_str r e; subst v; exact base (.base (.str _)) ht.symm
  | ref a => rw [e] at ht; simp [tyP, tagB] at ht
  | ty a => rw [e] at ht; simp [tyP, tagB] at ht
theorem c_isi {F : TyN → TyN → Option Bool} (Cs : List Addr) (hC : ∀ C ∈ Cs, IsC X.K C) (hF : ∀ t c b, F t c = some b → PySem.W.kitOne X.K (tyVal t) (tyVal c) = some b) (k : PV → PV → Sto → RK → Prop)
    (hk : ∀ p q S R, k p q S R → kIsi F p q S R ∧ ∀ C fs, dr S p = .obj C fs → C ∈ Cs) : CallP X L (.builtin "isinstance") (p2 k) := call2_of fun pins s σ H x y us p p' S R Q I rv st r r' hkk q => by
  obtain ⟨hk1, hk2⟩ := hk p p' S R hkk
  unfold kIsi at hk1
  split at hk1
  · rename_i t c et ec
    split at hk1
    · rename_i b eb
      obtain ⟨u1, u2, rfl, r1, r2⟩ := vals2 rv
      obtain ⟨P, K1, K2, hx⟩ := kit_rv I r1 st r et fun C eC => by
        cases ed : dr S p with
        | obj D fs =>
          rw [ed] at et; simp only [tyP, Option.some.injEq] at et
          subst et; cases eC
          exact hC _ (hk2 _ _ ed)
        | _ => rw [ed] at et; simp [tyP, tagB] at et <;> (subst et; cases eC)
      have eu : u2 = tyVal c := by
        cases r' <;> simp only [clP, Option.some.injEq, reduceCtorEq] at ec <;> subst ec <;> exact r2
      subst eu
      have one : PySem.W.kitOne X.K (tyVal t) (tyVal c) = some b := by
        unfold ansI at eb
        split at eb
        · rename_i a n
          split at eb
          · rename_i hn
            cases eb
            have ha : tagB (dr S p) = some a := by
              cases ed : dr S p <;> rw [ed] at et <;> simp_all [tyP]
            exact kit_ty (isTyB_ok ha hn)
          · exact hF _ _ _ eb
        · split at eb
          · rename_i e1
            cases eb
            subst e1
            unfold PySem.W.kitOne tyVal
            rw [if_pos (by simp)]
          · exact hF _ _ _ eb
        · exact hF _ _ _ eb
      exact PySem.W.kia_one K1 I.kIn K2 one hx fun tk => ⟨.bl b, H, I.tok tk, rfl, q.now st (.bl _) hk1⟩
    · exact hk1.elim
  · exact hk1.elim
end
end PX
end L2

/-! PX10: sets of texts, sorted. -/
namespace L2
namespace PX
open PySem PySem.Spec PyProof.Rows
def keyT (e : Int × Value) : Str := match e.2 with
  | .str k _ => k
  | _ => Str.empty
def GoodT (P : Program) (w : World) (e : Int × Value) : Prop := ∃ k tk, e.2 = Value.str k tk ∧ e.1 = (PySem.strKind P w).hash k
/-- the set of texts at a: its members, their number; it can be walked -/
def TxR (P : Program) (w : World) (h : Heap) (a : Addr) (S : Str → Bool) (n : Nat) : Prop :=
  ∃ o es ep t, h.get? a = some o ∧ o.ExactSet ∧ o.data = .set es ep t ∧ (∀ e ∈ es.toList, GoodT P w e) ∧ (es.toList.map keyT).Nodup ∧ (∀ k, S k = true ↔ k ∈ es.toList.map keyT) ∧
    es.size < scanBound ∧ t.fits es.size = true ∧ es.size = n ∧ Ris t.place.toList ∧ (w.params.followText "set-order" = true ∨ t.led = true)
section
variable {P : Program} {w : World} {h h' : Heap} {a : Addr} {S : Str → Bool} {n : Nat}
theorem TxR.at (R : TxR P w h a S n) (k : ∀ o, h.get? a = some o → h'.get? a = some o) : TxR P w h' a S n := by
  obtain ⟨o, es, ep, t, ho, r⟩ := R
  exact ⟨o, es, ep, t, k o ho, r⟩
theorem TxR.congr {S' : Str → Bool} {n' : Nat} (R : TxR P w h a S n) (e : ∀ k, S' k = S k) (en : n = n') : TxR P w h a S' n' := by
  have q : S' = S := funext e
  subst en
  rw [q]; exact R
theorem goodT_elems {l : List (Int × Value)} (g : ∀ e ∈ l, GoodT P w e) : ElemsOf (PySem.strKind P w) l := fun e he => by
  obtain ⟨k, tk, h1, h2⟩ := g e he
  exact ⟨⟨k, by rw [h1]; exact strKind_is _ _ _ _, h2⟩, by rw [h1] <;> rfl⟩
theorem goodT_is {e : Int × Value} (g : GoodT P w e) (k : Str) : (PySem.strKind P w).is k e.2 = true ↔ keyT e = k := by
  obtain ⟨k0, tk, h1, _⟩ := g
  unfold keyT
  rw [h1]
  show ((PySem.strKind P w).is k (.str k0 tk) = true) ↔ k0 = k
  constructor
  · intro z
    exact (PySem.strKind P w).inj _ _ _ (strKind_is _ _ _ _) z
  · rintro rfl
    exact strKind_is _ _ _ _
theorem goodT_mem {l : List (Int × Value)} (g : ∀ e ∈ l, GoodT P w e) (k : Str) : k ∈ l.map keyT ↔ ∃ e ∈ l, (PySem.strKind P w).is k e.2 = true := by
  rw [List.mem_map]
  constructor
  · rintro ⟨e, he, q⟩
    exact ⟨e, he, (goodT_is (g e he) k).2 q⟩
  · rintro ⟨e, he, q⟩
    exact ⟨e, he, (goodT_is (g e he) k).1 q⟩
end
section
variable {P : Program} {w : World} {A : Around} {E : Value → Shared → Prop} {s : Shared} {a : Addr} {S : Str → Bool} {n : Nat}
theorem txR_add_tail {g : Bool → Sem Unit} (hg : ∀ (b : Bool) (s₁ : Shared) (Q' : Unit → Shared → Prop), Q' () s₁ → wpAny (model P w) A (g b) Q' E s₁)
    {o : Obj} {es : Array (Int × Value)} {ep : Nat} {t : SetTable} (ho : s.heap.get? a = some o) (hex : o.ExactSet) (hd : o.data = .set es ep t)
    {es1 : Array (Int × Value)} {t2 : SetTable} {S' : Str → Bool} (g1 : ∀ e ∈ es1.toList, GoodT P w e) (nd1 : (es1.toList.map keyT).Nodup) (m1 : ∀ k, S' k = true ↔ k ∈ es1.toList.map keyT)
    (hb1 : es1.size < scanBound) (hf2 : t2.fits es1.size = true) (hr : Ris t2.place.toList) (hl : w.params.followText "set-order" = true ∨ t2.led = true) {wasDummy : Bool} {R : Option Bool → Shared → Prop}
    (hR : ∀ h', Heap.SameBut a s.heap h' → TxR P w h' a S' es1.size → R (some true) { s with heap := h' }) :
    wpAny (model P w) A (do
        storeSet a es1 t2
        if (!wasDummy && t2.tooFull) = true then do
            g (relayAll t2 es1 (SetTable.grown es1.size)).2.2
            storeSet a (relayAll t2 es1 (SetTable.grown es1.size)).1 (relayAll t2 es1 (SetTable.grown es1.size)).2.1
            pure (some true)
          else pure (some true)) R E s := by
  refine wpAny_bind (wpAny_storeSet_of ho hd ?_ (fits_of_scanBound hb1))
  have ho1 := store_at (es' := es1) (t' := t2) ho hd
  have sb1 := Heap.SameBut.update s.heap a (Obj.putSet es1 t2)
  split
  · have pm := relayAll_perm t2 es1 (SetTable.grown es1.size)
    have hf3 := relayAll_fits t2 es1 (SetTable.grown es1.size)
    have hr3 := relayAll_ris t2 es1 (SetTable.grown es1.size)
    have hl3 := relayAll_led t2 es1 (SetTable.grown es1.size)
    generalize relayAll t2 es1 (SetTable.grown es1.size) = Z at pm hf3 hr3 hl3 ⊢
    obtain ⟨es2, t3, gave⟩ := Z
    dsimp only at pm hf3 hr3 hl3 ⊢
    have hsz : es2.size = es1.size := by rw [← Array.length_toList, pm.length_eq, Array.length_toList]
    have hb2 : es2.size < scanBound := by rw [hsz]; exact hb1
    refine wpAny_bind (hg _ _ _ ?_)
    refine wpAny_bind (wpAny_storeSet_of ho1 rfl ?_ (fits_of_scanBound hb2))
    have ho2 := store_at (es' := es2) (t' := t3) ho1 rfl
    refine wpAny_pure (hR _ (sb1.trans (Heap.SameBut.update _ a _)) ?_)
    exact ⟨_, es2, _, t3, ho2, hex, rfl, fun e he => g1 e (pm.mem_iff.mp he), (pm.map keyT).nodup_iff.mpr nd1, fun k => (m1 k).trans (pm.map keyT).mem_iff.symm, hb2, hf3, hsz, hr3,
      hl.imp id fun z => by rw [hl3]; exact z⟩
  · exact wpAny_pure (hR _ sb1 ⟨_, es1, _, t2, ho1, hex, rfl, g1, nd1, m1, hb1, hf2, rfl, hr, hl⟩)
theorem txR_add {k : Str} {tk : Tok} {Q : Bool → Shared → Prop} (R : TxR P w s.heap a S n) (room : n + 1 < scanBound)
    (hQ : ∀ h', Heap.SameBut a s.heap h' → TxR P w h' a (fun j => S j || decide (j = k)) (if S k = true then n else n + 1) → Q (!S k) { s with heap := h' }) :
    wpAny (model P w) A (setAddHashed a (.str k tk) ((PySem.strKind P w).hash k)) Q E s := by
  obtain ⟨o, es, ep, t, ho, hex, hd, g, nd, hm, hb, hf, hn, hr, hl⟩ := R
  have hkey : (PySem.strKind P w).is k (.str k tk) = true := strKind_is _ _ _ _
  have hsc : (Value.str k tk).scannable = true := rfl
  have hel : ElemsOf (PySem.strKind P w) es.toList := goodT_elems g
  unfold setAddHashed setAddHashedIn
  refine wpAny_holding (wpAny_bind (wpAny_setState_of ho hd hf ?_))
  dsimp only
  rw [byScan_of hsc hb hel]
  simp only [↓reduceIte]
  unfold setAddByScan
  refine wpAny_bind ?_
  refine wpAny_bind (wpAny_rule ?_)
  refine wpAny_bind (wpAny_setScan_of hkey ho hd hf hel ?_)
  cases hfi : List.findIdx? (fun e => (PySem.strKind P w).is k e.2) es.toList with
  | some j =>
    dsimp only
    obtain ⟨hj, pj, _⟩ := List.findIdx?_eq_some_iff_getElem.mp hfi
    have hSk : S k = true := (hm k).2 ((goodT_mem (P := P) (w := w) g k).2 ⟨es.toList[j], List.getElem_mem hj, pj⟩)
    refine wpAny_pure (wpAny_pure ?_)
    have q := hQ s.heap (Heap.SameBut.refl a s.heap) ⟨o, es, ep, t, ho, hex, hd, g, nd, fun i => by
      rw [Bool.or_eq_true, decide_eq_true_eq, ← hm i]
      exact ⟨fun z => z.elim id (fun e => e ▸ hSk), .inl⟩, hb, hf, by rw [if_pos hSk]; exact hn, hr, hl⟩
    rw [hSk] at q
    exact q
  | none =>
    dsimp only
    have hnk : k ∉ es.toList.map keyT := fun z => by
      obtain ⟨e, he, q⟩ := (goodT_mem (P := P) (w := w) g k).1 z
      have c := List.findIdx?_eq_none_iff.mp hfi e he
      rw [q] at c
      cases c
    have hSk : S k = false := by
      cases q : S k with
      | false => rfl
      | true => exact absurd ((hm k).1 q) hnk
    have hgw : ∀ (b : Bool) {s₁ : Shared} {Q' : Unit → Shared → Prop}, Q' () s₁ → wpAny (model P w) A (match b with | true => rule "set.scan.the-table-gave-way" | false => pure ()) Q' E s₁ :=
      fun b s₁ Q' q => by cases b <;> first | exact wpAny_pure q | exact wpAny_rule q
    have pm := layNew_perm t es ((PySem.strKind P w).hash k) (.str k tk)
    have hf1 := layNew_fits t es ((PySem.strKind P w).hash k) (.str k tk)
    have hr1 := layNew_ris t es ((PySem.strKind P w).hash k) (.str k tk) hr
    have hl1 := layNew_led t es ((PySem.strKind P w).hash k) (.str k tk)
    generalize layNew t es ((PySem.strKind P w).hash k) (.str k tk) = Z at pm hf1 hr1 hl1 ⊢
    obtain ⟨es1, t1, wasDummy, gave⟩ := Z
    dsimp only at pm hf1 hr1 hl1 ⊢
    rw [Array.toList_push] at pm
    have pc : es1.toList.Perm (((PySem.strKind P w).hash k, Value.str k tk) :: es.toList) := pm.trans (List.perm_append_singleton _ _)
    have pk : (es1.toList.map keyT).Perm (k :: es.toList.map keyT) := pc.map keyT
    have g1 : ∀ e ∈ es1.toList, GoodT P w e := fun e he => by
      rcases List.mem_cons.mp (pc.mem_iff.mp he) with z | z
      · rw [z]; exact ⟨k, tk, rfl, rfl⟩
      · exact g e z
    have nd1 : (es1.toList.map keyT).Nodup := pk.nodup_iff.mpr (List.nodup_cons.mpr ⟨hnk, nd⟩)
    have m1 : ∀ i, (S i || decide (i = k)) = true ↔ i ∈ es1.toList.map keyT := fun i => by
      rw [Bool.or_eq_true, decide_eq_true_eq, hm i, pk.mem_iff, List.mem_cons]
      exact Or.comm
    have hsz : es1.size = n + 1 := by rw [← Array.length_toList, pc.length_eq, List.length_cons, Array.length_toList, hn]
    have hb1 : es1.size < scanBound := by rw [hsz]; exact room
    have hled : w.params.followText "set-order" = true ∨ t1.led = true := hl.imp id fun z => by rw [hl1]; exact z
    have fin : ∀ h', Heap.SameBut a s.heap h' → TxR P w h' a (fun j => S j || decide (j = k)) es1.size → Q true { s with heap := h' } := fun h' sb r => by
      have q := hQ h' sb
      rw [hSk] at q
      rw [hsz] at r
      exact q r
    refine wpAny_bind (hgw _ ?_)
    split
    · refine wpAny_bind ?_
      rw [hashByValue_scannable 8 hsc]
      refine wpAny_pure ?_
      refine txR_add_tail ?_ ho hex hd g1 nd1 m1 hb1 ?_ ?_ ?_ ?_
      · intro b s₁ Q' q; cases b <;> first | exact wpAny_pure q | exact wpAny_rule q
      · first | (split <;> first | exact hf1 | exact SetTable.fits_plain_off hf1) | exact hf1
      · first | (split <;> exact hr1) | exact hr1
      · first | (split <;> exact hled) | exact hled
      · intro h' sb r; dsimp only; exact wpAny_pure (fin h' sb r)
    · refine wpAny_bind (wpAny_pure ?_)
      simp only [↓reduceIte]
      refine txR_add_tail ?_ ho hex hd g1 nd1 m1 hb1 hf1 hr1 hled ?_
      · intro b s₁ Q' q; cases b <;> first | exact wpAny_pure q | exact wpAny_rule q
      · intro h' sb r; dsimp only; exact wpAny_pure (fin h' sb r)
end
/-- the number of the first i, each counted once -/
def metN (xs : List Str) : Nat → Nat
  | 0 => 0
  | i + 1 => if (xs.take i).any (· == xs.getD i Str.empty) then metN xs i else metN xs i + 1
theorem metN_le (xs : List Str) : ∀ i, metN xs i ≤ i
  | 0 => Nat.le_refl _
  | i + 1 => by
    have := metN_le xs i
    unfold metN
    split <;> omega
theorem take_any {xs : List Str} {i : Nat} (h : i < xs.length) (k : Str) : ((xs.take i).any (· == k) || decide (k = xs.getD i Str.empty)) = (xs.take (i + 1)).any (· == k) := by
  have e : xs.take (i + 1) = xs.take i ++ [xs.getD i Str.empty] := by
    rw [List.take_succ]
    congr 1
    rw [List.getElem?_eq_getElem h, List.getD_eq_getElem?_getD, List.getElem?_eq_getElem h]; rfl
  rw [e, List.any_append]
  congr 1
  rw [List.any_cons, List.any_nil, Bool.or_false]
  by_cases q : k = xs.getD i Str.empty
  · rw [decide_eq_true q, q]; simp
  · rw [decide_eq_false q]
    exact (beq_eq_false_iff_ne.mpr fun z => q z.symm).symm
section
variable {prog : Program} {w : World} {A : Around} {R : Result → Shared → Prop} {I : Addr} {fp wr : List Addr} {G : Array GenState → Array GenState → Prop} {n : Nat} {P : Nat → Value → Prop} {St : Nat → Shared → Prop}
theorem loopT (W : WalksS prog w A.in1 I fp wr G n P St) (S : Addr) (hSf : S ∉ fp) (xs : List Str) (hsz : xs.length = n) (hb : n + 1 < scanBound)
    (hval : ∀ i v, P i v → ∃ t, v = .str (xs.getD i Str.empty) t) :
    ∀ (k i : Nat) (s : Shared), n - i = k → i ≤ n → St i s →
      TxR prog w s.heap S (fun k' => (xs.take i).any (· == k')) (metN xs i) →
      (∀ s', Moved (S :: wr) G s s' → TxR prog w s'.heap S (fun k' => (xs.take n).any (· == k')) (metN xs n) → R (.ok (.ret .none)) s') →
      codeAny (model prog w) A (.builtin "set.update.loop" ⟨[.ref S, .ref I], []⟩) R s := by
  have hSw : S ∉ wr := fun h => hSf (W.sub _ h)
  have hsub : ∀ b ∈ wr, b ∈ S :: wr := fun b hb => List.mem_cons_of_mem _ hb
  intro k
  induction k with
  | zero =>
    intro i s hk hi hst hS hR
    have hin : i = n := by omega
    subst hin
    refine codeAny_builtin PyProof.Rows.F.entry_set_update_loop ?_
    rw [Around.under_plainId PyProof.Rows.F.plain_set_update_loop _]
    show wpAny _ A.in1 (pyNext (.ref I) >>= _) _ _ s
    refine wpAny_bind (W.done s _ _ hst fun s' hm => ?_)
    show wpAny _ A.in1 (ret Value.none) _ _ s'
    exact wpAny_pure (hR s' (hm.mono hsub) (hS.at fun o q => hm.heap S o hSw q))
  | succ k ih =>
    intro i s hk hi hst hS hR
    have hlt : i < n := by omega
    refine codeAny_builtin PyProof.Rows.F.entry_set_update_loop ?_
    rw [Around.under_plainId PyProof.Rows.F.plain_set_update_loop _]
    show wpAny _ A.in1 (pyNext (.ref I) >>= _) _ _ s
    refine wpAny_bind (W.item i s _ _ hlt hst fun v s' hP hst' hm => ?_)
    obtain ⟨t, rfl⟩ := hval i v hP
    have hS' : TxR prog w s'.heap S (fun k' => (xs.take i).any (· == k')) (metN xs i) := hS.at fun o q => hm.heap S o hSw q
    show wpAny _ A.in1 (holding [Value.str (xs.getD i Str.empty) t] (setAdd S (.str (xs.getD i Str.empty) t)) >>= _) _ _ s'
    refine wpAny_bind (wpAny_holding ?_)
    unfold setAdd
    refine wpAny_holding ?_
    refine wpAny_bind ((PySem.strKind prog w).pyHash (k := xs.getD i Str.empty) (strKind_is _ _ _ _) ?_)
    have hroom : metN xs i + 1 < scanBound := by have := metN_le xs i; omega
    refine txR_add (s := { s' with toks := s'.toks + 1 }) hS' hroom fun h' hsb hS2 => ?_
    have hSi : TxR prog w h' S (fun k' => (xs.take (i + 1)).any (· == k')) (metN xs (i + 1)) :=
      hS2.congr (fun k' => (take_any (by omega) k').symm) (by
        show (if (xs.take i).any (· == xs.getD i Str.empty) = true then metN xs i else metN xs i + 1) = metN xs (i + 1)
        rfl)
    refine wpAny_pure ⟨plainId_quiet PyProof.Rows.F.plain_set_update_loop _, ih (i + 1) _ (by omega) hlt (W.frame _ s' _ _ hst' (Nat.le_succ _) fun b hb o e => ?_) hSi fun s'' hm'' hS'' => ?_⟩
    · rw [hsb.2 b (fun h : b = S => hSf (by rw [← h]; exact hb))]; exact e
    · refine hR s'' (Moved.trans W.gtrans ((hm.mono hsub).then_heap (Nat.le_succ _) fun b o hb e => ?_) hm'') hS''
      rw [hsb.2 b (fun h : b = S => hb (by rw [h]; exact List.mem_cons_self))]; exact e
end
section
variable {P : Program} {w : World} {A : Around} {E : Value → Shared → Prop} {s : Shared}
abbrev setObj (w : World) : Obj := { cls := .type "set", dict := none, data := .set #[] 0 (.fresh 0 0 (!w.params.followText "set-order")) }
theorem txR_fresh {h : Heap} {a : Addr} (ho : h.get? a = some (setObj w)) : TxR P w h a (fun _ => false) 0 :=
  ⟨_, #[], 0, _, ho, ⟨rfl, rfl, rfl⟩, rfl, (fun e he => by simp at he), (by simp), (fun k => by simp), (by decide), (by rfl), rfl, List.Pairwise.nil, by
    show _ ∨ (!w.params.followText "set-order") = true
    cases w.params.followText "set-order"
    · exact .inr rfl
    · exact .inl rfl⟩
theorem code_setT (a : Value) {Q₁ : Value → Shared → Prop} (h : Q₁ (.ref s.heap.objs.size) { s with heap := s.heap.push (setObj w) }) :
    codeAny (model P w) A (.call (.builtin "set.__new__") ⟨[.type "set", a], []⟩) (wants Q₁ E) s := by
  refine codeAny_of_tree ?_
  show wpAny _ A.in1 (do checkBuiltinCall "set.__new__" ⟨[.type "set", a], []⟩; again (.builtin "set.__new__" ⟨[.type "set", a], []⟩)) _ _ s
  refine wpAny_bind (wpAny_of_eq (F.newCall_set_1 a) (wpAny_pure ⟨plainId_quiet F.plain_set_new _, codeAny_builtin F.entry_set_new ?_⟩))
  rw [Around.under_plainId F.plain_set_new _]
  unfold Builtin.«set.__new__» Builtin.Frozenset.newClass
  have hsub := sub_set_self
  obtain ⟨hp, g, d, tk, os⟩ := s
  dsimp only
  wp_walk
  refine wpAny_askSetting (wpAny_pure ?_)
  dsimp only
  simp only [newObj]
  refine wpAny_bind (wpAny_alloc (wpAny_pure ?_))
  exact wpAny_pure h
/-- set(xs) of a list or tuple of texts -/
theorem call_setT {T : String} (hT0 : T = "list" ∨ T = "tuple") {l : Addr} {ol : Obj} {items : Array Value} {nl : Nat} {xs : List Str} {Q : Value → Shared → Prop}
    (hh : A.handled = none) (hol : s.heap.get? l = some ol) (hcl : ol.cls = .type T) (hdl : ol.data = .seq items nl) (hi : PyProof.Rows.StrsAre items.toList xs) (hb : items.size + 1 < scanBound)
    (h : ∀ (h' : Heap) (tk : Nat), TxR P w h' s.heap.objs.size (fun k' => xs.any (· == k')) (metN xs xs.length) →
      (∀ b o, b < s.heap.objs.size → s.heap.get? b = some o → h'.get? b = some o) → Q (.ref s.heap.objs.size) { s with heap := h', toks := tk }) :
    wpAny (model P w) A (call (.type "set") [.ref l]) Q E s := by
  obtain ⟨c, tl, hmro⟩ := PySem.F.called_set.mro
  have hmade := PySem.F.called_set.made
  have hsub := PySem.F.called_set.sub
  refine wpAny_call (codeAny_of_tree ?_)
  show wpAny _ _ (callAny (.type "set") _) _ _ _
  refine wpAny_pure ⟨Code.quiet_builtin _ (by decide +kernel), codeAny_builtin PySem.F.entry_type_call ?_⟩
  rw [Around.under_plain (weight_type_call_type "set" [.ref l] []) rfl]
  have h1 := PySem.F.called_set.notType
  have h2 := PySem.F.called_set.canCreate
  have hct := PySem.F.typeCall_set_1 (.ref l)
  repeat (any_goals (first | assumption | wp_step))
  refine codeAny_mono (code_setT (.ref l) (E := E) (Q₁ := fun obj s₁ => obj = .ref s.heap.objs.size ∧ s₁ = { s with heap := s.heap.push (setObj w) }) ⟨rfl, rfl⟩) fun r s₁ hr => ?_
  cases r with
  | error e => exact hr
  | ok fl =>
    cases fl with
    | ret obj =>
      obtain ⟨rfl, rfl⟩ := hr
      have hS : (s.heap.push (setObj w)).get? s.heap.objs.size = some (setObj w) := Heap.get?_push_size _ rfl
      have hT : Shared.TypeIs { s with heap := s.heap.push (setObj w) } (.ref s.heap.objs.size) "set" := ⟨_, hS, rfl⟩
      have hli := PySem.F.called_set.init.lookup
      have hbi := PySem.F.called_set.init.bind (.ref s.heap.objs.size)
      repeat (any_goals (first | assumption | wp_step))
      refine codeAny_mono (codeAny_call_builtin (R := wants (fun r s₂ => r = .none ∧ ∃ h' tk, s₂ = { s with heap := h', toks := tk } ∧
          TxR P w h' s.heap.objs.size (fun k' => xs.any (· == k')) (metN xs xs.length) ∧
          (∀ b o, b < s.heap.objs.size → s.heap.get? b = some o → h'.get? b = some o)) E) PySem.F.called_set.init.plain PySem.F.entry_set_init (check_set_init_1 hT ?_)) fun r₂ s₂ hr₂ => ?_
      · obtain ⟨ocls, odict, odata, oslots⟩ := ol
        simp only at hcl hdl
        subst hcl; subst hdl
        have hlS : l < s.heap.objs.size := Heap.lt_size hol
        have hh3 : A.in1.in1.in1.handled = none := by simp [hh]
        have hsz : xs.length = items.size := by rw [← StrsAre.len_eq hi, Array.length_toList]
        have hval : ∀ (i : Nat) (v : Value), items[i]? = some v → ∃ t, v = .str (xs.getD i Str.empty) t := fun i v hv => SS.strs_at hi i v (by rw [Array.getElem?_toList]; exact hv)
        have hneI : l ≠ (s.heap.push (setObj w)).objs.size := by
          rw [Heap.size_push]; exact Nat.ne_of_lt (Nat.lt_succ_of_lt hlS)
        have hSf : s.heap.objs.size ∉ [(s.heap.push (setObj w)).objs.size, l] := by
          rw [Heap.size_push]; simp only [List.mem_cons, List.mem_singleton, List.not_mem_nil, or_false, not_or]
          exact ⟨Nat.ne_of_lt (Nat.lt_succ_self _), Nat.ne_of_gt hlS⟩
        have hR : ∀ (io : Obj) (h0 : Heap), h0 = (s.heap.push (setObj w)).push io → ∀ s', Moved (s.heap.objs.size :: [(s.heap.push (setObj w)).objs.size]) (fun x y => y = x) { s with heap := h0 } s' → TxR P w s'.heap s.heap.objs.size (fun k' => (xs.take items.size).any (· == k')) (metN xs items.size) →
            ∃ h' tk, s' = { s with heap := h', toks := tk } ∧ TxR P w h' s.heap.objs.size (fun k' => xs.any (· == k')) (metN xs xs.length) ∧ (∀ b o, b < s.heap.objs.size → s.heap.get? b = some o → h'.get? b = some o) := by
          intro io h0 e0 s' hm hS'
          subst e0
          obtain ⟨h', g', d', tk', os'⟩ := s'
          have eg := hm.gens
          have ed : d' = s.drawn := hm.drawn
          have eo : os' = s.os := hm.os
          have eg' : g' = s.gens := by first | exact eg | exact eg.symm
          subst eg'; subst ed; subst eo
          refine ⟨h', tk', rfl, hS'.congr (fun k => by rw [← hsz, List.take_length]) (by rw [hsz]), fun b o hb e => ?_⟩
          have hb1 : b ≠ s.heap.objs.size := Nat.ne_of_lt hb
          have hb2 : b ≠ (s.heap.push (setObj w)).objs.size := by
            rw [Heap.size_push]; exact Nat.ne_of_lt (Nat.lt_succ_of_lt hb)
          exact hm.heap b o (by simp only [List.mem_cons, List.mem_singleton, List.not_mem_nil, or_false, not_or]; exact ⟨hb1, hb2⟩) (Heap.get?_push_of_some _ (Heap.get?_push_of_some _ e))
        rcases hT0 with rfl | rfl
        · have hol' : (s.heap.push (setObj w)).get? l = some { cls := .type "list", dict := odict, data := .seq items nl, slots := oslots } := Heap.get?_push_of_some _ hol
          have hsls := PySem.F.sub_list_set
          have hslf := PySem.F.sub_list_frozenset
          have hne : (Value.type "list" == Value.type "dict") = false := by decide
          have hl1 : (s.heap.push (setObj w)).IsList l items := ⟨_, hol', rfl, nl, rfl⟩
          unfold Builtin.«set.__init__» noKeywords Builtin.Frozenset.updateFrom
          generalize hPI : pyIter = PI
          wp_walk
          subst hPI
          refine wpAny_pyIter_list hl1 ?_
          refine wpAny_bind (wpAny_runValue ?_)
          refine loopT ((Walks.list hh3 _ l hneI items).toS) s.heap.objs.size hSf xs hsz hb hval (items.size - 0) 0 _ (by omega) (Nat.zero_le _)
            ⟨⟨_, Heap.get?_push_size _ rfl, rfl, rfl⟩, (hl1.push _)⟩ (txR_fresh (Heap.get?_push_of_some _ hS)) fun s' hm hS' => ?_
          obtain ⟨h', tk', rfl, h3, h4⟩ := hR _ _ rfl s' hm hS'
          show wpAny _ _ _ _ _ _
          refine wpAny_pure ?_
          show wpAny _ _ (ret Value.none) _ _ _
          exact wpAny_pure ⟨rfl, h', tk', rfl, h3, h4⟩
        · have hol' : (s.heap.push (setObj w)).get? l = some { cls := .type "tuple", dict := odict, data := .seq items nl, slots := oslots } := Heap.get?_push_of_some _ hol
          have hsls := PySem.F.sub_tuple_set
          have hslf := PySem.F.sub_tuple_frozenset
          have hne : (Value.type "tuple" == Value.type "dict") = false := by decide
          have hl1 : (s.heap.push (setObj w)).IsTuple l items := ⟨_, hol', rfl, nl, rfl⟩
          unfold Builtin.«set.__init__» noKeywords Builtin.Frozenset.updateFrom
          generalize hPI : pyIter = PI
          wp_walk
          subst hPI
          refine wpAny_pyIter_tuple hl1 ?_
          refine wpAny_bind (wpAny_runValue ?_)
          refine loopT ((Walks.tuple hh3 _ l hneI items).toS) s.heap.objs.size hSf xs hsz hb hval (items.size - 0) 0 _ (by omega) (Nat.zero_le _)
            ⟨⟨_, Heap.get?_push_size _ rfl, rfl, rfl⟩, (hl1.push _)⟩ (txR_fresh (Heap.get?_push_of_some _ hS)) fun s' hm hS' => ?_
          obtain ⟨h', tk', rfl, h3, h4⟩ := hR _ _ rfl s' hm hS'
          show wpAny _ _ _ _ _ _
          refine wpAny_pure ?_
          show wpAny _ _ (ret Value.none) _ _ _
          exact wpAny_pure ⟨rfl, h', tk', rfl, h3, h4⟩
      · cases r₂ with
        | error e => exact hr₂
        | ok fl₂ =>
          cases fl₂ with
          | ret r =>
            obtain ⟨rfl, h', tk, rfl, hS', hk'⟩ := hr₂
            repeat (any_goals (first | assumption | wp_step))
            exact h _ _ hS' hk'
          | _ => exact hr₂.elim
    | _ => exact hr.elim
end
end PX
end L2

/-! PX11: methods of builtins, own ==, repr. -/
namespace L2
namespace PX
open PySem PySem.Spec PyProof.Rows
/-! ### methods of lists, texts, dicts -/
def tyB (T : String) (p : PV) : Prop := match p with
  | .lst _ => T = "list"
  | .str _ => T = "str"
  | .dct _ => T = "dict"
  | _ => False
section
variable {X : Cx} {L : Lc}
theorem ty_at {pins : List (Addr × Obj)} {σ : L2.St} {H : Hp} {s : Shared} {S : Sto} {p : PV} {x : V} {v : Value} {T : String} (I : Inv X pins σ H s) (rx : RelV x v) (st : RSK X.K L H S) (r : RV X.K H p x) (h : tyB T (dr S p)) :
    s.TypeIs v T ∧ ∀ a, v = .ref a → ∃ ob, s.heap.get? a = some ob ∧ ob.dict = none := by
  unfold tyB at h
  split at h
  · rename_i xs e
    subst h
    obtain ⟨a, vs, rfl, h1, h2⟩ := rd_lst (X := X) st r e
    obtain rfl : v = Value.ref a := rx
    obtain ⟨its, _, pl, _⟩ := I.list h1
    refine ⟨pl.isList.typeIs, fun b e => ?_⟩
    cases e
    obtain ⟨o, n, e, c, hd, _⟩ := pl
    exact ⟨o, e, hd⟩
  · rename_i z e
    subst h
    have := d_str r e
    subst x
    obtain ⟨t, rfl⟩ := rx
    exact ⟨typeIs_str s z t, fun _ e => nomatch e⟩
  · rename_i ks e
    subst h
    obtain ⟨a, gs, rfl, h1, h2⟩ := rd_dct (X := X) st r e
    obtain rfl : v = Value.ref a := rx
    obtain ⟨_, _, vs, _, o, _, _, e1, ex, _⟩ := dk_rd I.hok h1
    exact ⟨⟨o, e1, ex.1⟩, fun b e => by cases e; exact ⟨o, e1, ex.2.1⟩⟩
  · exact h.elim
abbrev MSp := PV → List PV → Sto → RK → Prop
def MtP (X : Cx) (L : Lc) (id : String) (k : MSp) : Prop :=
  ∀ (pins : List (Addr × Obj)) (s : Shared) (σ : L2.St) (H : Hp) (x : V) (xs : List V) (v : Value) (us : List Value) (p : PV) (ps : List PV) (S : Sto) (R : RK) (Q : VK), Inv X pins σ H s → RelV x v → Vals xs us → RSK X.K L H S → RV X.K H p x → RVs X.K H ps xs → k p ps S R → VC X.K L S H R Q →
    wpAny (model X.prog X.w) X.A (call (.builtin id) (v :: us)) (EP X pins σ Q) X.xe s
def wBM (T : String) (k : MSp) (wo : WE) (wr : WA) : WE := fun ρ S R Z => wo ρ S (fun p S1 => tyB T (dr S1 p) ∧ wr ρ S1 (fun ps S2 => k p ps S2 R) Z) Z
variable {o e : Expr} {es : List Expr} {wo : WE} {wr : WA} {k : MSp} {name : Str} {T id : String} {apos cpos : Pos}
theorem de_bm (pa : PlainAttrs T) (slot : Slot T name id) (hty : typeOf (.builtin id) = pure (.type "method_descriptor")) (hm : MtP X L id k) (ho : DE X L o wo) (ha : DA X L (e :: es) wr)
    (hbase : attributeBase o name X.env (eval o X.env) = eval o X.env := by rfl)
    (hfew : ((backTo cpos (starEach (e :: es) X.env)).all (fun x => !x.1) && (backToKw cpos (keywordEach [] X.env)).all (fun x => x.1.isSome)
      && decide ((e :: es).length + ([] : List Keyword).length + (if ([] : List Keyword).isEmpty then 0 else 1) < 30)) = true := by rfl)
    (hline : (apos.endLine == cpos.line) = true := by rfl) (hs : starEach (e :: es) X.env = (false, eval e X.env) :: starEach es X.env := by rfl) (hplain : (backTo cpos (starEach es X.env)).any (·.1) = false := by rfl) :
    DE X L (.Call (.Attribute o name apos) (e :: es) [] cpos) (wBM T k wo wr) := by
  refine ⟨fun pins s σ H Q I ⟨ρ, S, R, Z, A, h, q, hZ⟩ => ?_⟩
  refine wpAny_Call_method_late hbase hfew hline rfl (lone ho I A h hZ fun v s1 x H1 p S1 I1 rx i A1 r ⟨ty, hk1⟩ => ?_)
  obtain ⟨h1, h2⟩ := ty_at I1 rx A1.st r ty
  refine ⟨T, id, pa, slot, hty, h1, h2, ?_⟩
  have hA := largs (k := fun ps S2 R Z => k p ps S2 R) ha I1 A1 hk1 (q.fr i) (hZ.fr i) cpos (Qf := fun us s2 => wpAny (model X.prog X.w) X.A (call (.builtin id) (v :: us)) (EP X pins σ Q) X.xe s2) fun us s2 xs ps S2 H2 I2 i2 rv st j rr hk2 q2 z2 => hm pins s2 σ H2 x xs v us p ps S2 R Q I2 rx rv st (r.imm i2.imm) rr hk2 q2
  rw [hs] at hA ⊢
  refine Calls.callWith_builtin (by show (false || (backTo cpos (starEach es X.env)).any (·.1)) = false; rw [hplain] <;> rfl) (Calls.evalArgs_plain ?_)
  exact hA
theorem de_bm0 (pa : PlainAttrs T) (slot : Slot T name id) (hty : typeOf (.builtin id) = pure (.type "method_descriptor")) (hm : MtP X L id k) (ho : DE X L o wo)
    (hbase : attributeBase o name X.env (eval o X.env) = eval o X.env := by rfl) (hline : (apos.endLine == cpos.line) = true := by rfl) : DE X L (.Call (.Attribute o name apos) [] [] cpos) (wBM T k wo wNil) := by
  refine ⟨fun pins s σ H Q I ⟨ρ, S, R, Z, A, h, q, hZ⟩ => ?_⟩
  refine wpAny_Call_method0_late hbase hline (lone ho I A h hZ fun v s1 x H1 p S1 I1 rx i A1 r ⟨ty, hk1⟩ => ?_)
  obtain ⟨h1, h2⟩ := ty_at I1 rx A1.st r ty
  exact ⟨T, id, pa, slot, hty, h1, h2, Calls.callWith_builtin rfl (PySem.evalArgs_none (hm pins s1 σ H1 x [] v [] p [] S1 R Q I1 rx .nil A1.st r .nil hk1 (q.fr i)))⟩
/-- xs.append(x), xs of the store -/
def kApp : MSp := fun p ps S R => match p with
  | .ref a => match S a with
    | some (.lst xs) => match ps with
      | [y] => xs.length < sizeLine ∧ R .non (updS S a (.lst (xs ++ [y])))
      | _ => False
    | _ => False
  | _ => False
theorem m_app : MtP X L "list.append" kApp := by
  intro pins s σ H x xs v us p ps S R Q I rx rv st r rr hk q
  cases r with
  | ref a =>
    unfold kApp at hk
    dsimp only at hk
    split at hk
    · rename_i ys e
      split at hk
      · rename_i y
        cases rr with | cons ry rr =>
        cases rr
        obtain ⟨vs, h1, h2⟩ := st.mo a _ e
        rename_i yv
        have f : Fr S H (updS S a (.lst (ys ++ [y]))) (upd H a (.lst (vs ++ [yv]))) := .put h1 trivial (by rw [e]; simp)
        refine mt_append pins s σ H _ _ v us Q I rx rv ⟨a, vs, yv, rfl, rfl, h1, by rw [← h2.length]; exact hk.1, ?_⟩
        exact q _ _ _ _ f (st.put h1 trivial ⟨_, upd_same, (h2.imm f.imm).append (.cons (ry.imm f.imm) .nil)⟩) .non hk.2
      · exact hk.elim
    · exact hk.elim
  | _ => exact hk.elim
theorem de_append (ho : DE X L o wo) (ha : DA X L [e] wr) (hbase : attributeBase o "append" X.env (eval o X.env) = eval o X.env := by rfl)
    (hfew : ((backTo cpos (starEach [e] X.env)).all (fun x => !x.1) && (backToKw cpos (keywordEach [] X.env)).all (fun x => x.1.isSome)
      && decide ([e].length + ([] : List Keyword).length + (if ([] : List Keyword).isEmpty then 0 else 1) < 30)) = true := by rfl)
    (hline : (apos.endLine == cpos.line) = true := by rfl) (hs : starEach [e] X.env = (false, eval e X.env) :: starEach [] X.env := by rfl) (hplain : (backTo cpos (starEach [] X.env)).any (·.1) = false := by rfl) :
    DE X L (.Call (.Attribute o "append" apos) [e] [] cpos) (wBM "list" kApp wo wr) := de_bm F.plainAttrs_list F.slot_list_append F.type_list_append m_app ho ha hbase hfew hline hs hplain
def strsOf : List PV → Option (List Str)
  | [] => some []
  | .str b :: r => (strsOf r).map (b :: ·)
  | _ :: _ => none
theorem strsOf_rv {K : PySem.W.Frag} {H : Hp} : ∀ {xs : List PV} {vs : List V} {bs : List Str}, RVs K H xs vs → strsOf xs = some bs → vs = bs.map V.str
  | _, _, _, .nil, e => by simp [strsOf] at e; subst e; rfl
  | _, _, _, .cons r rs, e => by
    cases r with
    | str b =>
      simp only [strsOf, Option.map_eq_some_iff] at e
      obtain ⟨bs', e1, rfl⟩ := e
      rw [strsOf_rv rs e1]; rfl
    | _ => simp [strsOf] at e
def intsOf : List PV → Option (List Int)
  | [] => some []
  | .int b :: r => (intsOf r).map (b :: ·)
  | _ :: _ => none
theorem intsOf_rv {K : PySem.W.Frag} {H : Hp} : ∀ {xs : List PV} {vs : List V} {bs : List Int}, RVs K H xs vs → intsOf xs = some bs → vs = bs.map V.int
  | _, _, _, .nil, e => by simp [intsOf] at e; subst e; rfl
  | _, _, _, .cons r rs, e => by
    cases r with
    | int b =>
      simp only [intsOf, Option.map_eq_some_iff] at e
      obtain ⟨bs', e1, rfl⟩ := e
      rw [intsOf_rv rs e1]; rfl
    | _ => simp [intsOf] at e
def seqOf : PV → Option (List PV)
  | .lst xs => some xs
  | .tup xs => some xs
  | _ => none
def kJoin : MSp := fun p ps S R => match p, ps with
  | .str a, [q] => match seqOf (dr S q) with
    | some xs => match strsOf xs with
      | some ys => (ys.map (·.length)).sum + ys.length * a.length ≤ 16777216 ∧ R (.str (Txt.join a ys)) S
      | none => False
    | none => False
  | _, _ => False
theorem rd_seq {H : Hp} {S : Sto} {p : PV} {v : V} {xs : List PV} (st : RSK X.K L H S) (r : RV X.K H p v) (e : seqOf (dr S p) = some xs) : ∃ a vs, v = .ref a ∧ (SqL X.K H a vs ∨ SqT X.K H a vs) ∧ RVs X.K H xs vs := by
  cases q : dr S p with
  | lst ys =>
    rw [q] at e; cases e
    obtain ⟨a, vs, rfl, h1, h2⟩ := rd_lst (X := X) st r q
    exact ⟨a, vs, rfl, .inl h1, h2⟩
  | tup ys =>
    rw [q] at e; cases e
    obtain ⟨a, vs, rfl, h1, h2⟩ := rd_tup (X := X) r q
    exact ⟨a, vs, rfl, .inr h1, h2⟩
  | _ => rw [q] at e; simp [seqOf] at e
theorem m_join : MtP X L "str.join" kJoin := by
  intro pins s σ H x xs v us p ps S R Q I rx rv st r rr hk q
  unfold kJoin at hk
  split at hk
  · rename_i a p2
    cases r
    cases rr with | cons ry rr =>
    cases rr
    split at hk
    · rename_i ys e
      split at hk
      · rename_i zs ez
        obtain ⟨b, vs, rfl, h1, h2⟩ := rd_seq st ry e
        have := strsOf_rv h2 ez
        subst vs
        exact mt_join pins s σ H _ _ v us Q I rx rv ⟨a, b, zs, rfl, rfl, h1, hk.1, q.now st (.str _) hk.2⟩
      · exact hk.elim
    · exact hk.elim
  · exact hk.elim
def kSplit : MSp := fun p ps S R => match p, ps with
  | .str a, [.str b] => (b.length == 0) = false ∧ a.length + 2 ≤ sizeLine ∧ R (.lst ((Txt.split a b).map PV.str)) S
  | _, _ => False
theorem m_split : MtP X L "str.split" kSplit := by
  intro pins s σ H x xs v us p ps S R Q I rx rv st r rr hk q
  unfold kSplit at hk
  split at hk
  · rename_i a b
    cases r
    cases rr with | cons ry rr =>
    cases rr
    cases ry
    exact ghostR (mt_split pins s σ H _ _ v us (gK Q) I rx rv ⟨a, b, rfl, rfl, hk.1, hk.2.1, fun p hp => q.newL st (RVs.of_strs _) hp hk.2.2⟩)
  · exact hk.elim
theorem de_join (ho : DE X L o wo) (ha : DA X L [e] wr) (hbase : attributeBase o "join" X.env (eval o X.env) = eval o X.env := by rfl)
    (hfew : ((backTo cpos (starEach [e] X.env)).all (fun x => !x.1) && (backToKw cpos (keywordEach [] X.env)).all (fun x => x.1.isSome)
      && decide ([e].length + ([] : List Keyword).length + (if ([] : List Keyword).isEmpty then 0 else 1) < 30)) = true := by rfl)
    (hline : (apos.endLine == cpos.line) = true := by rfl) (hs : starEach [e] X.env = (false, eval e X.env) :: starEach [] X.env := by rfl) (hplain : (backTo cpos (starEach [] X.env)).any (·.1) = false := by rfl) :
    DE X L (.Call (.Attribute o "join" apos) [e] [] cpos) (wBM "str" kJoin wo wr) := de_bm F.plainAttrs_str F.slot_str_join F.type_str_join m_join ho ha hbase hfew hline hs hplain
theorem de_split (ho : DE X L o wo) (ha : DA X L [e] wr) (hbase : attributeBase o "split" X.env (eval o X.env) = eval o X.env := by rfl)
    (hfew : ((backTo cpos (starEach [e] X.env)).all (fun x => !x.1) && (backToKw cpos (keywordEach [] X.env)).all (fun x => x.1.isSome)
      && decide ([e].length + ([] : List Keyword).length + (if ([] : List Keyword).isEmpty then 0 else 1) < 30)) = true := by rfl)
    (hline : (apos.endLine == cpos.line) = true := by rfl) (hs : starEach [e] X.env = (false, eval e X.env) :: starEach [] X.env := by rfl) (hplain : (backTo cpos (starEach [] X.env)).any (·.1) = false := by rfl) :
    DE X L (.Call (.Attribute o "split" apos) [e] [] cpos) (wBM "str" kSplit wo wr) := de_bm F.plainAttrs_str F.slot_str_split F.type_str_split m_split ho ha hbase hfew hline hs hplain
end
/-! ### own ==, != -/
namespace NeK
section
variable {prog : Program} {w : World} {A : Around} {E : Value → Shared → Prop} {s : Shared} {K : PySem.W.Frag} {x C L f : Addr} {h₀ : Heap} {m : Str → Option Value} {ox : Obj} {od : Option Obj} {b tb : Value}
theorem entry_ne {Q : PySem.Fin → Shared → Prop} (hu : A.units < cLine) (X : K.In s.heap) (I : PySem.W.InstAt s.heap x ox C od) (hs : PySem.W.findIn K (.ref C) "__eq__" = some (some (.ref f))) (hf : PySem.W.isFn K (.ref f) = true)
    (h : wpAny (model prog w) A (call (.ref f) [.ref x, b]) (fun v s' => ∃ c, v = .bool c ∧ Q (.done (.ret (.bool (!c)))) s') E s) : wpAny (model prog w) A (Builtin.«object.__ne__» ⟨[.ref x, b], []⟩) Q E s := by
  unfold Builtin.«object.__ne__»
  repeat (first
    | with_reducible refine wpAny_cRoomFor hu ?_
    | (refine wpAny_bind (m := callSpecialIfBound? (.ref x) (Str.ofString "__eq__") [b]) (PySem.W.ifBound_K X I hs hf (wpAny_mono h (fun v s' hv => ?_) fun _ _ e => e)))
    | wp_step)
  obtain ⟨c, rfl, hq⟩ := hv
  repeat (first | exact hq | exact wpAny_pure hq | exact wpAny_truthy_bool hq | (refine wpAny_bind (m := truthy (.bool _)) (wpAny_truthy_bool ?_)) | wp_step)
theorem call_ne {Q : Value → Shared → Prop} (hu : A.units + 1 < cLine) (X : K.In s.heap) (I : PySem.W.InstAt s.heap x ox C od) (hm : PySem.W.mroIn K C (.type "object") = some true) (hs : PySem.W.findIn K (.ref C) "__eq__" = some (some (.ref f))) (hf : PySem.W.isFn K (.ref f) = true)
    (h : wpAny (model prog w) A.in1 (call (.ref f) [.ref x, b]) (fun v s' => ∃ c, v = .bool c ∧ Q (.bool (!c)) s') E s) : wpAny (model prog w) A (call (.builtin "object.__ne__") [.ref x, b]) Q E s :=
  wpAny_call (codeAny_call_builtin F.cmp_object.ne.plain F.cmpEntry_ne (PySem.W.check_slot F.cmpKind_ne F.cmpSplit_ne (I.type.andThen (PySem.W.looks_mroIn X hm)) (F.cmpArgs_ne _ _)
    (entry_ne (A := A.in1) hu X I hs hf (wpAny_mono h (fun v s' ⟨c, e, q⟩ => ⟨c, e, by first | exact q | exact wpAny_pure q | exact ⟨_, rfl, q⟩⟩) fun _ _ e => e))))
theorem ifBound_ne {args : List Value} {Q : Option Value → Shared → Prop} (X : K.In s.heap) (I : PySem.W.InstAt s.heap x ox C od) (hs : PySem.W.findIn K (.ref C) "__ne__" = some (some (.builtin "object.__ne__")))
    (h : wpAny (model prog w) A (call (.builtin "object.__ne__") (.ref x :: args)) (fun v => Q (some v)) E s) : wpAny (model prog w) A (callSpecialIfBound? (.ref x) "__ne__" args) Q E s := by
  simp only [callSpecialIfBound?, bindSpecialIfBound?]
  refine wpAny_holding (wpAny_bind (wpAny_bind (wpAny_bind (I.type.here ((PySem.W.looks_findIn X hs).here ?_)))))
  refine wpAny_bind (wpAny_askSetting (wpAny_ite ?_))
  have fin : wpAny (model prog w) A (call (.builtin "object.__ne__") ([.ref x] ++ args) >>= fun v => pure (some v)) Q E s := wpAny_bind (wpAny_mono h (fun v s' h' => wpAny_pure h') fun _ _ h' => h')
  split
  · exact wpAny_bind (wpAny_of_eq (F.cmp_object.ne.bind _) (wpAny_pure (by exact fin)))
  · exact wpAny_tryCatch (wpAny_bind (wpAny_of_eq (F.cmp_object.ne.bind _) (wpAny_pure (by exact fin))))
theorem cmp_ne {Q : Value → Shared → Prop} (hu : A.units + 1 < cLine) (X : K.In s.heap) (I : PySem.W.InstAt s.heap x ox C od) (hb : PySem.W.Looks (model prog w) s.heap (typeOf b) tb) (hn : PySem.W.notFirst K C tb = true) (hm : PySem.W.mroIn K C (.type "object") = some true)
    (hne : PySem.W.findIn K (.ref C) "__ne__" = some (some (.builtin "object.__ne__"))) (hs : PySem.W.findIn K (.ref C) "__eq__" = some (some (.ref f))) (hf : PySem.W.isFn K (.ref f) = true)
    (h : wpAny (model prog w) A.in1 (call (.ref f) [.ref x, b]) (fun v s' => ∃ c, v = .bool c ∧ Q (.bool (!c)) s') E s) : wpAny (model prog w) A (richCompare .NotEq (.ref x) b) Q E s := by
  have one : wpAny (model prog w) A (tryCompare (.ref x) "__ne__" b) (fun r s' => ∃ v, r = some v ∧ Q v s') E s := by
    unfold tryCompare
    refine wpAny_bind (ifBound_ne X I hne (call_ne (Q := fun v s' => ∃ c, v = .bool c ∧ Q v s') hu X I hm hs hf (wpAny_mono h (fun v s' ⟨c, e, q⟩ => ⟨c, e, _, rfl, q⟩) fun _ _ e => e) |> fun z => wpAny_mono z (fun v s' hv => ?_) fun _ _ e => e))
    obtain ⟨c, rfl, hq⟩ := hv
    exact wpAny_pure ⟨_, rfl, hq⟩
  unfold richCompare
  simp only [oneThing_ref]
  refine wpAny_holding (wpAny_bind (wpAny_cRoomFor (Nat.lt_of_succ_lt hu) ?_))
  rw [cmpInfo_NotEq]
  dsimp only
  refine wpAny_bind (I.type.here (wpAny_bind (hb.here ?_)))
  split
  · rename_i q
    have e : PySem.W.subIn K tb (.ref C) = some false := by
      rcases Bool.or_eq_true_iff.mp hn with e | e
      · rw [beq_iff_eq.mp e] at q; simp at q
      · exact beq_iff_eq.mp e
    refine wpAny_bind ((PySem.W.looks_subIn X e).here ?_)
    simp only [Bool.false_eq_true, if_false]
    refine wpAny_bind (wpAny_mono one (fun r s' z => ?_) fun _ _ e => e)
    obtain ⟨v, rfl, hq⟩ := z
    exact wpAny_pure hq
  · refine wpAny_bind (wpAny_pure ?_)
    simp only [Bool.false_eq_true, if_false]
    refine wpAny_bind (wpAny_mono one (fun r s' z => ?_) fun _ _ e => e)
    obtain ⟨v, rfl, hq⟩ := z
    exact wpAny_pure hq
end
end NeK
/-- what == of a class of ours asks -/
structure EqC (K : PySem.W.Frag) (C f : Addr) : Prop where
  eq : PySem.W.findIn K (.ref C) "__eq__" = some (some (.ref f))
  fn : PySem.W.isFn K (.ref f) = true
  ne : PySem.W.findIn K (.ref C) "__ne__" = some (some (.builtin "object.__ne__"))
  ob : PySem.W.mroIn K C (.type "object") = some true
def kEqI (neg : Bool) (C : Addr) (sp : PSp) : K2 := fun p q S R => match dr S p, dr S q with
  | .obj D _, .obj D' _ => D = C ∧ D' = C ∧ sp [p, q] S (fun z S' => match z with
    | .bl c => R (.bl (c != neg)) S'
    | _ => False) (fun _ _ => False)
  | _, _ => False
section
variable {X : Cx} {L : Lc}
/-- a def run at a place with our frames -/
theorem run_at {A' : Around} {lv n : Nat} {f : Addr} {fd : FuncData} {pn : List Str} {sp : PSp} {pins : List (Addr × Obj)} {s : Shared} {σ : L2.St} {H : Hp} {xs : List V} {us : List Value} {ps : List PV} {S : Sto} {R : RK} {Z : ZK} {Q : VK} (tk : Takes X L.W)
    (F : FnOk X.prog X.w X.K X.mg X.base (CX X.prog X.w) lv f fd pn (spL X.K L.T n sp)) (e0 : Env0 X.prog X.w X.K X.mg X.base A' X.stack s H) (hr : Room lv A') (hb : Binds X.K fd pn []) (I : Inv X pins σ H s) (rv : Vals xs us) (st : RSK X.K L H S) (r : RVs X.K H ps xs) (hn : ps.length = n)
    (hk : sp ps S R Z) (q : VC X.K L S H R Q) (z : ZC X.K L S H σ Z) : wpAny (model X.prog X.w) A' (call (.ref f) us) (EP X pins σ Q) X.xe s := by
  have hsp : spL X.K L.T n sp xs H Q (fun cls d H' => L.W cls d σ H') := ⟨r.length.symm.trans hn, ps, S, R, Z, r, st, hk, q, z⟩
  have hl : us.length = pn.length := by rw [← rv.length]; exact F.len _ _ _ _ hsp
  have b := hb s us I.kIn (by rw [List.append_nil]; exact hl)
  rw [List.append_nil] at b
  refine wpAny_call (codeAny_mono (F.run A' X.stack s H ⟨us, []⟩ us xs Q _ hr e0 b rv hsp) fun r s' hq => ?_)
  cases r with
  | error e => exact passAt tk σ pins H s e s' I hq
  | ok fl =>
    cases fl with
    | ret w => exact I.after hq
    | next => exact False.elim hq
    | brk => exact False.elim hq
    | cont => exact False.elim hq
theorem o_eqI (neg : Bool) {lv : Nat} {C f : Addr} {fd : FuncData} {pn : List Str} {sp : PSp} (op : CmpOp) (hop : op = if neg then CmpOp.NotEq else CmpOp.Eq) (tk : Takes X L.W) (F : FnOk X.prog X.w X.K X.mg X.base (CX X.prog X.w) lv f fd pn (spL X.K L.T 2 sp)) (hr : Room (lv + 1) X.A) (hb : Binds X.K fd pn []) (c : EqC X.K C f) :
    Op2 X L (compareOp op) (kEqI neg C sp) := by
  intro pins s σ H x y v u p q S R Q I rx ry st r1 r2 hk hq
  unfold kEqI at hk
  split at hk
  · rename_i D fs D' fs' e1 e2
    obtain ⟨rfl, rfl, hk⟩ := hk
    obtain ⟨a, dx, gs, rfl, rd, pr⟩ := rd_obj (X := X) (L := L) st r1 e1
    obtain ⟨b, dy, gs', rfl, rd', pr'⟩ := rd_obj (X := X) (L := L) st r2 e2
    obtain rfl : v = Value.ref a := rx
    obtain rfl : u = Value.ref b := ry
    obtain ⟨mA, J, _⟩ := ins_getR I.hok rd
    obtain ⟨mB, J', _⟩ := ins_getR I.hok rd'
    obtain ⟨od, J, _⟩ := J.look
    obtain ⟨od', J', _⟩ := J'.look
    obtain ⟨m, hF⟩ := I.fr
    have rvs : RVs X.K H [p, q] [V.ref a, V.ref b] := .cons r1 (.cons r2 .nil)
    have r2' : Vals [V.ref a, V.ref b] [Value.ref a, Value.ref b] := .cons rfl (.cons rfl .nil)
    have vc : VC X.K L S H (fun z S' => match z with
      | .bl c => R (.bl (c != neg)) S'
      | _ => False) (fun v H' => ∃ c, v = .bl c ∧ Q (.bl (c != neg)) H') := fun z S' v H' i st' rz hz => by
      cases rz with
      | bl c => exact ⟨c, rfl, hq _ S' _ H' i st' (.bl _) hz⟩
      | _ => exact hz.elim
    cases neg with
    | false =>
      subst hop
      show wpAny _ _ (richCompare .Eq (.ref a) (.ref b)) _ _ _
      refine PySem.W.cmp_K (op := .Eq) (tb := .ref _) (hr.mono (Nat.le_succ _)).units0 hF I.ok.mod.kin J J'.type (by simp [PySem.W.notFirst]) c.eq c.fn ?_
      refine thn (run_at tk F I.env0 (hr.mono (Nat.le_succ _)) hb I r2' st rvs rfl hk vc fun _ _ _ _ _ _ _ _ z => z.elim) fun w s' ⟨v, H', I', rz, c, ec, hQ⟩ => ?_
      subst ec
      cases rz
      exact ⟨.bl _, H', I', rfl, by rw [Bool.bne_false] at hQ; exact hQ⟩
    | true =>
      subst hop
      show wpAny _ _ (richCompare .NotEq (.ref a) (.ref b)) _ _ _
      refine NeK.cmp_ne (tb := .ref _) (by have := hr.un; omega) I.kIn J J'.type (by simp [PySem.W.notFirst]) c.ob c.ne c.eq c.fn ?_
      refine thn (run_at tk F I.env0.in1 hr.in1 hb I r2' st rvs rfl hk vc fun _ _ _ _ _ _ _ _ z => z.elim) fun w s' ⟨v, H', I', rz, c, ec, hQ⟩ => ?_
      subst ec
      cases rz
      exact ⟨c, rfl, .bl _, H', I', rfl, by rw [Bool.bne_true] at hQ; exact hQ⟩
  · exact hk.elim
/-! ### repr -/
mutual
theorem toD_noDict : ∀ (p : PV) (d : PyData), toD p = some d → d.hasDict = false
  | .non, _, e => by simp [toD] at e; subst e; rfl
  | .bl b, _, e => by simp [toD] at e; subst e; rfl
  | .int b, _, e => by simp [toD] at e; subst e; rfl
  | .str b, _, e => by simp [toD] at e; subst e; rfl
  | .tup xs, _, e => by
    simp only [toD, Option.map_eq_some_iff] at e
    obtain ⟨ds, e1, rfl⟩ := e
    simp only [PyData.hasDict]
    exact toDs_noDict xs ds e1
  | .lst xs, _, e => by
    simp only [toD, Option.map_eq_some_iff] at e
    obtain ⟨ds, e1, rfl⟩ := e
    simp only [PyData.hasDict]
    exact toDs_noDict xs ds e1
  | .ref _, _, e => by simp [toD] at e
  | .ty _, _, e => by simp [toD] at e
  | .dct _, _, e => by simp [toD] at e
  | .obj _ _, _, e => by simp [toD] at e
theorem toDs_noDict : ∀ (p : List PV) (d : List PyData), toDs p = some d → PyData.hasDictAll d = false
  | [], _, e => by simp [toDs] at e; subst e; rfl
  | x :: xs, _, e => by
    simp only [toDs, Option.bind_eq_some_iff, Option.map_eq_some_iff] at e
    obtain ⟨d, e1, ds, e2, rfl⟩ := e
    simp only [PyData.hasDictAll]
    rw [toD_noDict x d e1, toDs_noDict xs ds e2]; rfl
end
def kRepr : PV → Sto → RK → Prop := fun p S R => match toD (dr S p) with
  | some d => d.showable = true ∧ d.shown.length ≤ sizeLine ∧ d.depth ≤ 64 ∧ R (.str d.shown) S
  | none => False
theorem c_repr (hg : X.A.guards = some []) (hu : X.A.units + 66 < cLine) : CallP X L (.builtin "repr") (p1 kRepr) := call1_of fun pins s σ H x us p S R Q I rv st r hk q => by
  unfold kRepr at hk
  split at hk
  · rename_i d e
    obtain ⟨h1, h2, h3, h4⟩ := hk
    have dp := dp_dr st r e
    obtain ⟨u, rfl, rx⟩ := vals1 rv
    obtain ⟨as, rd⟩ := Dp.reads I d x u dp rx
    have nd := toD_noDict _ d e
    cases rd with
    | none => exact PySem.P.repr_of_none ⟨.str _, H, I.tok _, ⟨_, rfl⟩, q.now st (.str _) h4⟩
    | bool b => exact PySem.P.repr_of_bool ⟨.str _, H, I.tok _, ⟨_, rfl⟩, q.now st (.str _) h4⟩
    | int i t => exact PySem.P.repr_of_int (by simpa [PyData.showable] using h1) ⟨.str _, H, I.tok _, ⟨_, rfl⟩, q.now st (.str _) h4⟩
    | str z t => exact PySem.P.repr_of_str (hsz := h2) ⟨.str _, H, I.tok _, ⟨_, rfl⟩, q.now st (.str _) h4⟩
    | list k1 k2 k3 k4 => exact repr_of_reads' (hsz := h2) (.list k1 k2 k3 k4) h1 (fun z => by rw [nd] at z; cases z) hg (by omega) (fun _ _ z => z) fun h' u tk hk => ⟨.str _, H, I.kept hk, ⟨_, rfl⟩, q.now st (.str _) h4⟩
    | tuple k1 k2 k3 k4 => exact repr_of_reads' (hsz := h2) (.tuple k1 k2 k3 k4) h1 (fun z => by rw [nd] at z; cases z) hg (by omega) (fun _ _ z => z) fun h' u tk hk => ⟨.str _, H, I.kept hk, ⟨_, rfl⟩, q.now st (.str _) h4⟩
    | dict => simp [PyData.hasDict] at nd
  · exact hk.elim
end
end PX
end L2

/-! PX12: sorted texts, of lists, tuples, sets. -/
namespace L2
namespace PX
open PySem PySem.Spec PyProof.Rows
section
variable {P : Program} {w : World} {A : Around} {E : Value → Shared → Prop} {s : Shared}
/-- sorted(v), v's items texts -/
theorem sorted_any {v : Value} {Q : Value → Shared → Prop} {Pss : List Str → Prop} {W : Shared → Prop}
    (hcol : ∀ Q' : List Value → Shared → Prop, (∀ s1 vs ss, W s1 → StrsAre vs ss → Pss ss → vs.length ≤ sizeLine → Q' vs s1) → wpAny (model P w) A.in1 (collect v) Q' E s)
    (hQ : ∀ s1 s' p (out : Array Value) (c : Nat) ss ss', W s1 → (∀ b o, s1.heap.get? b = some o → s'.heap.get? b = some o) → s'.gens = s1.gens → s'.os = s1.os → s1.heap.objs.size ≤ p →
      s'.heap.get? p = some (seqObj "list" out c) → Pss ss → StrsAre out.toList ss' → ss'.Perm ss → sortedS ss' = true → out.size ≤ sizeLine → Q (.ref p) s') :
    wpAny (model P w) A (call (.builtin "sorted") [v]) Q E s := by
  refine Calls.call_function_entry kind_sorted plain_sorted entry_sorted (args_sorted1 _) ?_
  unfold Builtin.«sorted»
  refine wpAny_bind (m := checkCount "sorted" 1 1 _) (wpAny_pure ?_)
  refine wpAny_bind (hcol _ fun s1 vs ss hW hS hP hL => ?_)
  refine wpAny_bind (wpAny_newList ?_ hL)
  have hoL : (s1.heap.push (seqObj "list" vs.toArray 0)).get? s1.heap.objs.size = some (seqObj "list" vs.toArray 0) := Heap.get?_push_size _ rfl
  refine wpAny_bind (wpAny_holding (wpAny_call_entry slot_list_sort ⟨_, hoL, rfl⟩ entry_list_sort (list_sort_treeKAny strKind_oneLt hoL hS.keysOf (fun v₁ v₂ rest e => keyKind_strs (by rw [← e]; exact hS)) hL fun st' a1 a2 => ⟨_, rfl, ?_⟩) (args_list_sort _)))
  obtain ⟨ss', h1, h2, h3⟩ := sorted_out_str hS a1 a2
  obtain ⟨c, hc⟩ := sortedHeap_at (vs := vs) (out := (arrOf st').map (·.2)) hoL
  refine wpAny_pure ⟨_, rfl, hQ s1 _ s1.heap.objs.size _ c ss ss' hW (fun b u q => ?_) rfl rfl (Nat.le_refl _) hc hP h1 h2 h3 ?_⟩
  · have hlt := Heap.lt_size q
    show (sortedHeap (s1.heap.push (seqObj "list" vs.toArray 0)) s1.heap.objs.size vs _).get? b = some u
    rw [sortedHeap_old (Nat.ne_of_lt hlt) (by rw [size_push']; exact Nat.lt_succ_of_lt hlt)]
    exact Heap.get?_push_of_some _ q
  · have e1 := StrsAre.len_eq h1
    have e2 := StrsAre.len_eq hS
    have e3 := h2.length_eq
    rw [← Array.length_toList]
    omega
end
/-- the set of texts at a -/
def TxO (P : Program) (w : World) (a : Addr) (S : Str → Bool) (n : Nat) : HO := .ext fun h => TxR P w h a S n
section
variable {X : Cx} {L : Lc} {pins : List (Addr × Obj)} {σ : L2.St} {H : Hp} {s : Shared}
theorem txO_new {P : Program} {w : World} {H : Hp} {h : Heap} {a : Addr} {S : Str → Bool} {n : Nat} (R : TxR P w h a S n) : ObjOk P w H h a (TxO P w a S n) := by
  have ⟨o, _, _, _, ho, _⟩ := R
  exact ⟨R, ⟨o, ho⟩, fun h1 h2 p k => p.at k⟩
theorem txO_get {a : Addr} {S : Str → Bool} {n : Nat} (I : Inv X pins σ H s) (ha : H a = some (TxO X.prog X.w a S n)) : TxR X.prog X.w s.heap a S n := (I.hok a _ ha).1
def rSetTx (K : PySem.W.Frag) (P : Program) (w : World) : List V → Hp → VK → Prop := fun xs H Q => ∃ (l : Addr) (ss : List Str), xs = [V.ref l] ∧ (SqL K H l (ss.map V.str) ∨ SqT K H l (ss.map V.str)) ∧ ss.length + 1 < scanBound ∧
  ∀ p, H p = none → Q (.ref p) (upd H p (TxO P w p (fun k => ss.any (· == k)) (metN ss ss.length)))
theorem cr_setTx (hc : X.calm = true) : CallR X (.type "set") (rSetTx X.K X.prog X.w) := by
  intro pins s σ H xs us Q I r h
  obtain ⟨l, ss, rfl, hq, hb, q⟩ := h
  rw [Vals.ref1 r]
  have key : ∀ (T : String) (ol : Obj) (its : List Value) (nl : Nat), (T = "list" ∨ T = "tuple") → s.heap.get? l = some ol → ol.cls = .type T → ol.data = .seq its.toArray nl → Vals (ss.map V.str) its →
      wpAny (model X.prog X.w) X.A (call (.type "set") [.ref l]) (EP X pins σ Q) X.xe s := fun T ol its nl hT ho hcl hd rv => by
    have hl := rv.length
    rw [List.length_map] at hl
    refine call_setT hT (I.ok.hd hc) ho hcl hd (by rw [List.toList_toArray]; exact strs_of_vals rv) (by rw [List.size_toArray, ← hl]; exact hb) fun h' tk R k => ?_
    exact ⟨.ref s.heap.objs.size, _, I.laid (t' := tk) (fun b o e => k b o (Heap.lt_size e) e) (Nat.le_refl _) (txO_new R), rfl, q _ (I.hok.fresh (Nat.le_refl _))⟩
  rcases hq with hq | hq
  · obtain ⟨its, rv, ⟨o, n, ho, hcl, _, hd⟩, _⟩ := I.list hq
    exact key "list" o its n (.inl rfl) ho hcl hd rv
  · obtain ⟨its, rv, ⟨o, ho, hcl, n, hd⟩, _⟩ := I.tuple hq
    exact key "tuple" o its n (.inr rfl) ho hcl hd rv
theorem vals_of_strsA : ∀ {us : List Value} {xs : List Str}, StrsAre us xs → Vals (xs.map V.str) us
  | _, _, .nil => .nil
  | _, _, .cons n t h => .cons ⟨t, rfl⟩ (vals_of_strsA h)
/-- what sorted gives, of texts -/
theorem sorted_fin {p : Addr} {out : Array Value} {c : Nat} {ss' : List Str} {s' : Shared} {Q : VK} (I : Inv X pins σ H s) (k : ∀ b o, s.heap.get? b = some o → s'.heap.get? b = some o) (g : s'.gens = s.gens) (ho : s'.os = s.os) (hp : s.heap.objs.size ≤ p)
    (hg : s'.heap.get? p = some (seqObj "list" out c)) (hS : StrsAre out.toList ss') (hz : out.size ≤ sizeLine) (q : H p = none → Q (.ref p) (upd H p (.lst (ss'.map V.str)))) : EP X pins σ Q (.ref p) s' := by
  have hn : H p = none := I.hok.fresh hp
  have hlen : (ss'.map V.str).length ≤ sizeLine := by rw [List.length_map, ← StrsAre.len_eq hS, Array.length_toList]; exact hz
  have J : Inv X pins σ (upd H p (.lst (ss'.map V.str))) { s with heap := s'.heap, gens := s'.gens, drawn := s'.drawn, toks := s'.toks } :=
    I.call (ch := []) (Un.laid k hp hn) (I.hok.laid k hp ⟨hlen, out.toList, c, vals_of_strsA hS, hg⟩) (by rw [g]; exact I.bare) (fun _ z => nomatch z)
  have e : s' = { s with heap := s'.heap, gens := s'.gens, drawn := s'.drawn, toks := s'.toks } := by
    cases s'
    cases s
    cases ho
    rfl
  rw [e]
  exact ⟨.ref p, _, J, rfl, q hn⟩
def rSortTx (P : Program) (w : World) : List V → Hp → VK → Prop := fun vs H Q => ∃ (a : Addr) (S : Str → Bool) (n : Nat), vs = [V.ref a] ∧ H a = some (TxO P w a S n) ∧
  ∀ (zs : List Str) (p : Addr), zs.Nodup → sortedS zs = true → (∀ k, k ∈ zs ↔ S k = true) → H p = none → Q (.ref p) (upd H p (.lst (zs.map V.str)))
theorem strs_keyT {P : Program} {w : World} : ∀ (l : List Value), (∀ v ∈ l, ∃ k tk, v = Value.str k tk) → StrsAre l (l.map fun v => keyT (0, v))
  | [], _ => .nil
  | v :: l, h => by
    obtain ⟨k, tk, rfl⟩ := h v List.mem_cons_self
    exact .cons k tk (strs_keyT (P := P) (w := w) l fun u hu => h u (List.mem_cons_of_mem _ hu))
theorem cr_sortTx (hc : X.calm = true) : CallR X (.builtin "sorted") (rSortTx X.prog X.w) := by
  intro pins s σ H vs us Q I r h
  obtain ⟨a, S, n, rfl, ha, q⟩ := h
  have R := txO_get I ha
  rw [Vals.ref1 r]
  obtain ⟨o, es, ep, t, ho, hex, hd, g, nd, hm, hb, hf, hn, hr, hl⟩ := R
  refine sorted_any (W := fun s1 => (∀ b o, s.heap.get? b = some o → s1.heap.get? b = some o) ∧ s.heap.objs.size ≤ s1.heap.objs.size ∧ s1.gens = s.gens ∧ s1.os = s.os) (Pss := fun ss => ss.Nodup ∧ ∀ k, k ∈ ss ↔ S k = true) (fun Q' hQ' => ?_) fun s1 s' p out c ss ss' ⟨k0, z0, g0, o0⟩ k g' o' hp hg hP hS hpm hs hz => ?_
  · refine collect_set (A := X.A.in1) (I.ok.hd hc) ⟨o, ho, hex.1, hd⟩ hf hb hr hl fun s1 vs k1 hz g1 o1 pm => ?_
    have pk : (vs.map fun v => keyT (0, v)).Perm (es.toList.map keyT) := by
      have q := pm.map fun v => keyT (0, v)
      rw [List.map_map] at q
      exact q
    refine hQ' s1 vs _ ⟨k1, hz, g1, o1⟩ (strs_keyT (P := X.prog) (w := X.w) vs fun v hv => ?_) ⟨pk.nodup_iff.mpr nd, fun k => by rw [pk.mem_iff, ← hm k]⟩ ?_
    · obtain ⟨e, he, q⟩ := List.mem_map.mp (pm.mem_iff.mp hv)
      obtain ⟨k, tk, h1, _⟩ := g e he
      exact ⟨k, tk, by rw [← q]; exact h1⟩
    · rw [pm.length_eq, List.length_map, Array.length_toList]
      exact fits_of_scanBound hb
  · exact sorted_fin I (fun b o e => k b o (k0 b o e)) (g'.trans g0) (o'.trans o0) (Nat.le_trans z0 hp) hg hS hz fun hn => q ss' p (hpm.nodup_iff.mpr hP.1) hs (fun k => by rw [hpm.mem_iff]; exact hP.2 k) hn
theorem cr_sortSeq : CallR X (.builtin "sorted") (fun vs H Q => ∃ (a : Addr) (ss : List Str), vs = [V.ref a] ∧ (SqL X.K H a (ss.map V.str) ∨ SqT X.K H a (ss.map V.str)) ∧
    ∀ (zs : List Str) (p : Addr), zs.Perm ss → sortedS zs = true → H p = none → Q (.ref p) (upd H p (.lst (zs.map V.str)))) := by
  intro pins s σ H vs us Q I r h
  obtain ⟨a, ss, rfl, hq, q⟩ := h
  rw [Vals.ref1 r]
  have key : ∀ (T : String) (ol : Obj) (its : List Value) (nl : Nat), (T = "list" ∨ T = "tuple") → s.heap.get? a = some ol → ol.cls = .type T → ol.data = .seq its.toArray nl → Vals (ss.map V.str) its → (ss.map V.str).length ≤ sizeLine →
      wpAny (model X.prog X.w) X.A (call (.builtin "sorted") [.ref a]) (EP X pins σ Q) X.xe s := fun T ol its nl hT ho hcl hd rv hz => by
    have hl := rv.length
    refine sorted_any (W := fun s1 => ∃ h', s1 = { s with heap := h' } ∧ ∀ b o, s.heap.get? b = some o → h'.get? b = some o) (Pss := fun ss' => ss' = ss) (fun Q' hQ' => ?_) fun s1 s' p out c ss1 ss' ⟨h', e1, k0⟩ k g' o' hp hg hP hS hpm hs hz2 => ?_
    · refine wpAny_collect_seq a hT ho hcl hd (fun h' k => ?_) (by rw [List.size_toArray, ← hl]; exact hz)
      exact hQ' { s with heap := h' } _ ss ⟨h', rfl, k⟩ (by rw [List.toList_toArray]; exact strs_of_vals rv) rfl (by rw [List.toList_toArray, ← hl]; exact hz)
    · subst hP
      subst e1
      exact sorted_fin (I.kept (t' := s.toks) k0) k g' o' hp hg hS hz2 fun hn => q ss' p hpm hs hn
  rcases hq with hq | hq
  · obtain ⟨its, rv, ⟨o, n, ho, hcl, _, hd⟩, hz⟩ := I.list hq
    exact key "list" o its n (.inl rfl) ho hcl hd rv hz
  · obtain ⟨its, rv, ⟨o, ho, hcl, n, hd⟩, hz⟩ := I.tuple hq
    exact key "tuple" o its n (.inr rfl) ho hcl hd rv hz
/-! ### by values -/
def kSorted : PV → Sto → RK → Prop := fun p S R => match seqOf (dr S p) with
  | some xs => match strsOf xs with
    | some ss => ∀ zs : List Str, zs.Perm ss → sortedS zs = true → R (.lst (zs.map PV.str)) S
    | none => False
  | none => False
theorem c_sorted : CallP X L (.builtin "sorted") (p1 kSorted) := call1_of fun pins s σ H x us p S R Q I rv st r hk q => by
  unfold kSorted at hk
  split at hk
  · rename_i xs e
    split at hk
    · rename_i ss es
      obtain ⟨a, vs, rfl, h1, h2⟩ := rd_seq st r e
      have := strsOf_rv h2 es
      subst vs
      exact ghostR (cr_sortSeq pins s σ H _ us (gK Q) I rv ⟨a, ss, rfl, h1, fun zs p hp hs hn => q.newL st (RVs.of_strs zs) hn (hk zs hp hs)⟩)
    · exact hk.elim
  · exact hk.elim
/-- sorted(set(e)) -/
def wSSet (we : WE) : WE := fun ρ S R Z => we ρ S (fun p S' => match seqOf (dr S' p) with
  | some xs => match strsOf xs with
    | some ss => ss.length + 1 < scanBound ∧ ∀ zs : List Str, zs.Nodup → sortedS zs = true → (∀ k, k ∈ zs ↔ k ∈ ss) → R (.lst (zs.map PV.str)) S'
    | none => False
  | none => False) Z
theorem de_sset {e : Expr} {we : WE} {p1 p2 pos pos2 : Pos} (hc : X.calm = true) (hm1 : X.mg "sorted" = none) (hm2 : X.mg "set" = none) (he : DE X L e we) (hg1 : Gl X "sorted" := by rfl) (hg2 : Gl X "set" := by rfl)
    (hs : starEach [e] X.env = (false, eval e X.env) :: starEach [] X.env := by rfl) (hpl : (backTo pos2 (starEach [] X.env)).any (·.1) = false := by rfl)
    (hs2 : starEach [Expr.Call (.Name "set" p2) [e] [] pos2] X.env = (false, eval (.Call (.Name "set" p2) [e] [] pos2) X.env) :: starEach [] X.env := by rfl) (hpl2 : (backTo pos (starEach [] X.env)).any (·.1) = false := by rfl) :
    DE X L (.Call (.Name "sorted" p1) [.Call (.Name "set" p2) [e] [] pos2] [] pos) (wSSet we) := by
  have h1 : PE X (.Call (.Name "set" p2) [e] [] pos2) (tCB (rSetTx X.K X.prog X.w) (tCons (LE X.K L we) tNil)) := pe_callTy (cr_setTx hc) hg2 hm2 (by decide +kernel) (pa_cons he pa_nil hs) (by decide) (by decide) hs hpl
  refine (pe_ghost (pe_callB (cr_sortTx hc) hg1 hm1 (by decide +kernel) (pa_cons h1 pa_nil hs2) (by decide) (by decide) hs2 hpl2)).imp fun σ H Q ⟨ρ, S, R, Z, A, h, q, hZ⟩ => ?_
  refine ⟨ρ, S, _, Z, A, h, fun p S1 x H1 i st r hk => ?_, hZ⟩
  dsimp only at hk
  split at hk
  · rename_i xs e
    split at hk
    · rename_i ss es
      obtain ⟨a, vs, rfl, h1, h2⟩ := rd_seq st r e
      have := strsOf_rv h2 es
      subst vs
      refine ⟨a, ss, rfl, h1, hk.1, fun p hp => ⟨p, _, _, rfl, upd_same, fun zs p2 nd hs hm hn => ?_⟩⟩
      have i2 : Fr S1 H1 S1 (upd H1 p (TxO X.prog X.w p (fun k => ss.any (· == k)) (metN ss ss.length))) := .grow (grow_upd hp)
      exact (q.fr (i.trans i2)).newL (st.grow (grow_upd hp)) (RVs.of_strs zs) hn (hk.2 zs nd hs fun k => by rw [hm k]; simp)
    · exact hk.elim
  · exact hk.elim
end
end PX
end L2

/-! PX13: the law's def, run where no guard stands (turned from the kit's own end for laws with tables). -/
namespace L2
namespace PX
open PySem PySem.Spec PyProof.Rows LamX
/-- a promise where no guard stands -/
structure FnG (P : Program) (w : World) (K : PySem.W.Frag) (mg : Str → Option Value) (base : Heap) (CX : CXT) (k : Nat) (f : Addr) (fd : FuncData) (ps : List Str) (sp : Sp) : Prop where
  run : ∀ (A : Around) (outer : List Env) (s : Shared) (H : Hp) (args : Args) (us : List Value) (vs : List V) (Q : VK) (E : XK), Room k A → Env0 P w K mg base A outer s H → BindsTo s fd args (ps.zip us) → Vals vs us → sp vs H Q E → A.guards = some [] →
    codeAny (model P w) A (.call (.ref f) args) (CR CX outer P w H s Q E) s
theorem fnG_of {CX : CXT} {P : Program} {w : World} {K : PySem.W.Frag} {mg : Str → Option Value} {base : Heap} {k : Nat} {f : Addr} {x qual : Str} {params : Arguments} {body : List Stmt} {scope : Scope} {fd : FuncData} {N ps : List Str} {sp : Sp}
    (F : FunD K x qual params body scope [] [] f fd) (S : FnScope N ps scope) (len : ∀ vs H Q E, sp vs H Q E → vs.length = ps.length)
    (hbody : ∀ (cdv : Value) (A : Around) (outer : List Env) (s : Shared) (H : Hp) (vs : List V) (Q : VK) (E : XK), Room k (A.deeper (envOfC qual scope s.heap.objs.size f cdv)) → A.guards = some [] → sp vs H Q E →
      ∃ t, PSs (cxOf CX P w K mg base N qual scope f cdv A outer s H E) body t ∧ t { nx := fun _ H' => Q .non H', rt := Q } (start N vs) H) : FnG P w K mg base CX (k + 1) f fd ps sp := by
  obtain ⟨oc, od, dV, kV, doc, pm, an, cdv, ct, osl, rfl, lk, hcd, _, _⟩ := F.ex
  refine ⟨fun A outer s H args us vs Q E hr e0 hb r hsp hg => ?_⟩
  have hl := len _ _ _ _ hsp
  have KX : K.In s.heap := e0.mod.kin.keeps fun b o e => (e0.bs b o e).1
  have lim : s.heap.NoLimit := e0.mod.nolimit.keeps fun b o e => (e0.bs b o e).1
  have hkind : ∀ y ∈ ps.zip us, scope.names.lookup y.1 = some .local ∨ (scope.names.lookup y.1 = some .cell ∧ ((cellsFrom (s.heap.objs.size + 1) scope.names []).lookup y.1).isSome = true) := fun ⟨n, v⟩ hy => by
    rcases S.par n (List.of_mem_zip hy).1 with q | q
    · exact .inl q
    · exact .inr ⟨q, PySem.W.cellsFrom_some _ _ _ (.inl q)⟩
  refine codeAny_call_function hr.depth (KX _ _ lk) rfl S.co S.gen rfl (PySem.W.codeRec_of KX hcd) (hb _ _ _ _ ?_)
  refine wpAny_newFunctionEnv_cells S.kind hkind fun env he s1 x => ?_
  subst he
  refine ⟨lim.keeps x.toInCall.keep, codeAny_func ?_⟩
  obtain ⟨t, ht, hq⟩ := hbody cdv A outer s H vs Q E (hr.deeper _) hg hsp
  have I : Inv (cxOf CX P w K mg base N qual scope f cdv A outer s H E) [] (start N vs) H s1 := inv_start S hr.hd e0 hl r x
  refine wpAny_mono (ht.run [] s1 (start N vs) H _ I hq) (fun fl s' hs => ?_) fun e s' hs => hs
  have fin : ∀ {σ' : L2.St} {H' : Hp} {v : V} {u : Value}, Inv (cxOf CX P w K mg base N qual scope f cdv A outer s H E) [] σ' H' s' → RelV v u → Q v H' → CE outer P w H s Q u s' :=
    fun {σ' H' v u} J rv q => ⟨v, H', J.os, J.bare, J.base, J.hok, rv, q⟩
  cases fl with
  | ret u =>
    obtain ⟨v, σ', H', J, rv, q⟩ := hs
    exact fin J rv q
  | next =>
    obtain ⟨σ', H', J, q⟩ := hs
    exact fin (v := V.non) (u := Value.none) J rfl q
  | brk =>
    obtain ⟨_, _, _, q⟩ := hs
    exact False.elim q
  | cont =>
    obtain ⟨_, _, _, q⟩ := hs
    exact False.elim q
theorem law_callG {P : Program} {w : World} {K : PySem.W.Frag} {mg mb : Str → Option Value} {CX : CXT} {k : Nat} {fa a : Addr} {cs : List (Addr × Addr)} {fd : FuncData} {x : Str} {sp : Sp} {s₁ : Shared} {vs : List Value} {ns : List Int}
    (KX : K.In s₁.heap) (hns : s₁.heap.Ns mainGlobals mg) (hb : s₁.heap.Ns builtinsNs mb) (hbb : ∀ x : Str, x ≠ "__name__" → mb x = bootBuiltins x) (hlim : s₁.heap.NoLimit) (hg : s₁.gens = #[])
    (hT : ∀ p ∈ cs, s₁.heap.get? p.2 = some { cls := .none, data := .fields #[] }) (nT : ∀ p ∈ cs, K.lookup p.2 = none) (C : ∀ p ∈ cs, PySem.W.CodeHd s₁.heap p.1 p.2)
    (hbm : ∃ (bm : Addr) (ob : Obj), mg "__builtins__" = some (.ref bm) ∧ bm ≠ builtinsNs ∧ s₁.heap.get? bm = some ob ∧ ob.cls = .type "module" ∧ ob.dict = some builtinsNs ∧ ob.data = .plain)
    (ha : s₁.heap.get? a = some { cls := .type "list", data := .seq vs.toArray }) (hi : IntsAre vs ns) (hl : ns.length ≤ sizeLine) (hr : Room k callerA)
    (F : ∀ base : Heap, K.In base → base.Ns mainGlobals mg → (∀ p ∈ cs, TabB base mg p.1 p.2) → FnG P w K mg base CX k fa fd [x] sp) (hbind : ∀ (s : Shared) (u : Value), BindsTo s fd ⟨[u], []⟩ [(x, u)])
    (hsp : ∀ H : Hp, (∀ p ∈ cs, H p.2 = some (.tbl #[])) → FzL K H a (ns.map V.int) → sp [.ref a] H (fun v _ => v = .bl true) fun _ _ _ => False)
    (hCX : ∀ H e s', CX [] H s₁ (fun _ _ _ => False) e s' → False) :
    codeAny (model P w) callerA (.call (.ref fa) ⟨[.ref a], []⟩) (fun r s' => r = .ok (.ret (.bool true)) ∧ OldK s₁.heap s'.heap ∧ s'.os = s₁.os ∧ AllBare s'.gens) s₁ := by
  have rv := vals_ints hi
  have lenV := hi.length
  have isT : ∀ b : Addr, b ∈ cs.map (·.2) → s₁.heap.get? b = some { cls := .none, data := .fields #[] } := fun b hb => by
    obtain ⟨p, hp, e⟩ := List.mem_map.mp hb
    rw [← e]
    exact hT p hp
  have aT : a ∉ cs.map (·.2) := fun z => by
    have q := isT a z
    rw [ha] at q
    have z' : Data.seq vs.toArray _ = Data.fields #[] := congrArg Obj.data (Option.some.inj q)
    cases z'
  have memT : ∀ p ∈ cs, p.2 ∈ cs.map (·.2) := fun p hp => List.mem_map.mpr ⟨p, hp, rfl⟩
  -- from an abstract heap in which nothing but the script and the tables may be tracked
  have core : ∀ H : Hp, (∀ p ∈ cs, H p.2 = some (.tbl #[])) → (∀ b, H b = none ∨ b ∈ cs.map (·.2) ∨ ∃ o xs, H b = some (.frz o (.lst xs))) → FzL K H a (ns.map V.int) → HOk P w H s₁.heap → (∀ b, H b ≠ none → b = a ∨ b ∈ cs.map (·.2)) → (H a ≠ none → K.lookup a = none) →
      codeAny (model P w) callerA (.call (.ref fa) ⟨[.ref a], []⟩) (fun r s' => r = .ok (.ret (.bool true)) ∧ OldK s₁.heap s'.heap ∧ s'.os = s₁.os ∧ AllBare s'.gens) s₁ := by
    intro H hH hO hS hok hA hK
    have base_of : ∀ {b : Addr} {o : Obj}, s₁.heap.get? b = some o → H b = none → (hidT s₁.heap H).get? b = some o := fun e n => hidT_get e n
    have noD : ∀ {b : Addr} {o : Obj}, s₁.heap.get? b = some o → (∀ vs n, o.data ≠ .seq vs n) → o.data ≠ .fields #[] → H b = none := fun {b o} e h1 h2 => by
      cases q : H b with
      | none => rfl
      | some u =>
        rcases hA b (by rw [q]; simp) with e' | e'
        · rw [e', ha] at e
          cases e
          exact (h1 _ _ rfl).elim
        · rw [isT b e'] at e
          cases e
          exact (h2 rfl).elim
    have noA : ∀ {b : Addr} {o : Obj} {es : Array DictEntry} {ep : Nat}, s₁.heap.get? b = some o → o.data = .dict es ep → H b = none := fun {b o es ep} e d => by
      refine noD e (fun vs n z => ?_) fun z => ?_
      · rw [d] at z
        cases z
      · rw [d] at z
        cases z
    have nsK : ∀ {b : Addr} {m : Str → Option Value}, s₁.heap.Ns b m → (hidT s₁.heap H).Ns b m := fun {b m} ⟨o, es, ep, e, d, r⟩ => ⟨o, es, ep, base_of e (noA e d), d, r⟩
    have hKb : K.In (hidT s₁.heap H) := fun b o e => base_of (KX b o e) (by
      cases q : H b with
      | none => rfl
      | some u =>
        rcases hA b (by rw [q]; simp) with e' | e'
        · rw [e'] at e q
          rw [hK (by rw [q]; simp)] at e
          cases e
        · obtain ⟨p, hp, ep⟩ := List.mem_map.mp e'
          rw [← ep, nT p hp] at e
          cases e)
    have hM : L2.Mod K mg (hidT s₁.heap H) := ⟨hKb, nsK hns, ⟨mb, nsK hb, hbb⟩, let ⟨mc, h1, h2⟩ := hlim; ⟨mc, nsK h1, h2⟩⟩
    have TB : ∀ p ∈ cs, TabB (hidT s₁.heap H) mg p.1 p.2 := fun p hp => by
      have hTp := hT p hp
      refine ⟨?_, ?_, fun z => ?_⟩
      · obtain ⟨o, us, file, tf, flags, tg, inF, text, tt, e1, r1, r2, r3, r4, r5, r6, r7, r8, hne⟩ := C p hp
        refine ⟨o, us, file, tf, flags, tg, inF, text, tt, base_of e1 (noD e1 (fun vs n z => ?_) fun z => ?_), r1, r2, r3, r4, r5, r6, r7, r8, hne⟩
        · rw [r2] at z
          cases z
        · rw [r2] at z
          cases z
          simp at r3
      · obtain ⟨bm, ob, b1, b2, b3, b4, b5, b6⟩ := hbm
        have nG : bm ≠ mainGlobals := fun q => by
          obtain ⟨o, es, ep, e, hd, _⟩ := hns
          rw [q, e] at b3
          cases b3
          rw [hd] at b6
          cases b6
        have nP : bm ≠ p.2 := fun q => by
          rw [q, hTp] at b3
          cases b3
          cases b6
        refine ⟨bm, ob, b1, b2, nG, nP, base_of b3 (noD b3 (fun vs n z => ?_) fun z => ?_), b4, b5, b6⟩
        · rw [b6] at z
          cases z
        · rw [b6] at z
          cases z
      · obtain ⟨o, es, ep, e, hd, _⟩ := hns
        rw [z, hTp] at e
        cases e
        cases hd
    have e0 : Env0 P w K mg (hidT s₁.heap H) callerA [] s₁ H := ⟨rfl, hM, fun b o e => of_hidT e, Nat.le_of_eq (hidT_size _ _), trivial, fun b hb => absurd (show b ∈ ([] : List Addr) from hb) (by simp), hok, .of_eq hg⟩
    refine codeAny_mono ((F _ hKb (nsK hns) TB).run callerA [] s₁ H ⟨[.ref a], []⟩ [.ref a] [.ref a] _ _ hr e0 (hbind s₁ (.ref a)) (.cons rfl .nil) (hsp H hH hS) rfl) fun r s' h => ?_
    cases r with
    | error e => exact (hCX H e s' h).elim
    | ok fl =>
      cases fl with
      | next => exact False.elim h
      | brk => exact False.elim h
      | cont => exact False.elim h
      | ret u =>
        obtain ⟨v, H', os, bare, un, hok', r', q⟩ := h
        have q' : v = .bl true := q
        subst q'
        obtain rfl : u = Value.bool true := r'
        have key : ∀ b o, b ∉ cs.map (·.2) → s₁.heap.get? b = some o → s'.heap.get? b = some o := fun b o nb e => by
          cases q : H b with
          | none => exact un.keep b o e q (by intro z; exact absurd (show b ∈ ([] : List Addr) from z) (by simp)) (by simp)
          | some u =>
            rcases hO b with z | z | ⟨ob, xs, z⟩
            · rw [q] at z; cases z
            · exact absurd z nb
            · have z2 := un.frzs b ob _ z
              obtain ⟨e1, _⟩ := hok b _ z
              obtain ⟨e2, _⟩ := hok' b _ z2
              rw [e] at e1; cases e1
              exact e2
        have grown : ∀ p ∈ cs, ∃ more : Array Value, s'.heap.get? p.2 = some { cls := .none, data := .fields more } := fun p hp => by
          obtain ⟨more, z⟩ := un.tbls p.2 #[] (hH p hp)
          exact ⟨_, hok' p.2 _ z⟩
        refine ⟨rfl, ⟨fun b o e => ?_, fun b o e => ?_⟩, os, bare⟩
        · by_cases hb : b ∈ cs.map (·.2)
          · obtain ⟨p, hp, ep⟩ := List.mem_map.mp hb
            obtain ⟨more, hm⟩ := grown p hp
            rw [← ep] at e ⊢
            rw [hT p hp] at e
            cases e
            exact .inr (.inl ⟨((C p hp).tab (hT p hp)).isCodeTable, rfl, #[], more, rfl, by rw [Array.empty_append]; exact hm⟩)
          · exact .inl (key b o hb e)
        · by_cases hb : b ∈ cs.map (·.2)
          · obtain ⟨p, hp, ep⟩ := List.mem_map.mp hb
            obtain ⟨more, hm⟩ := grown p hp
            rw [← ep]
            exact ⟨_, hm⟩
          · exact ⟨o, key b o hb e⟩
  cases hk : K.lookup a with
  | some o =>
    have e := KX a o hk
    rw [ha] at e
    cases e
    refine core (fun b => if b ∈ cs.map (·.2) then some (.tbl #[]) else none) (fun p hp => if_pos (memT p hp)) (fun b => ?_) (.inr ⟨_, vs.toArray, _, hk, rfl, rfl, rfl, by rw [List.size_toArray, lenV]; exact hl, by simpa using rv⟩) (fun b u z => ?_) (fun b z => ?_) fun z => absurd (show (if a ∈ cs.map (·.2) then some (HO.tbl #[]) else none) = none from if_neg aT) z
    · by_cases hb : b ∈ cs.map (·.2)
      · exact .inr (.inl hb)
      · exact .inl (if_neg hb)
    · by_cases hb : b ∈ cs.map (·.2)
      · have z' := (if_pos hb).symm.trans z
        cases z'
        exact isT b hb
      · have z' := (if_neg hb).symm.trans z
        cases z'
    · by_cases hb : b ∈ cs.map (·.2)
      · exact .inr hb
      · exact absurd (if_neg hb) z
  | none =>
    refine core (fun b => if b = a then some (.frz { cls := .type "list", data := .seq vs.toArray } (.lst (ns.map V.int))) else if b ∈ cs.map (·.2) then some (.tbl #[]) else none) (fun p hp => (if_neg (show ¬ p.2 = a from fun z => aT (by rw [← z]; exact memT p hp))).trans (if_pos (memT p hp))) (fun b => ?_)
      (.inl ⟨{ cls := .type "list", data := .seq vs.toArray }, if_pos rfl⟩) (fun b u z => ?_) (fun b z => ?_) fun _ => hk
    · by_cases hb : b = a
      · exact .inr (.inr ⟨_, _, if_pos hb⟩)
      · by_cases hb2 : b ∈ cs.map (·.2)
        · exact .inr (.inl hb2)
        · exact .inl ((if_neg hb).trans (if_neg hb2))
    · by_cases hb : b = a
      · have z' := (if_pos hb).symm.trans z
        cases z'
        rw [hb]
        exact ⟨ha, by rw [List.length_map]; exact hl, vs, _, rv, ha⟩
      · have z1 := (if_neg hb).symm.trans z
        by_cases hb2 : b ∈ cs.map (·.2)
        · have z' := (if_pos hb2).symm.trans z1
          cases z'
          exact isT b hb2
        · have z' := (if_neg hb2).symm.trans z1
          cases z'
    · by_cases hb : b = a
      · exact .inl hb
      · by_cases hb2 : b ∈ cs.map (·.2)
        · exact .inr hb2
        · exact absurd ((if_neg hb).trans (if_neg hb2)) z

theorem guards_deeper {A : Around} {env : Env} (h : A.guards = some []) : (A.deeper env).guards = some [] := h
/-- the law's def, its body from values -/
theorem fn_okG {P : Program} {w : World} {K : PySem.W.Frag} {mg : Str → Option Value} {base : Heap} {x qual : Str} {params : Arguments} {body : List Stmt} {scope : Scope} {f : Addr} {fd : FuncData} {N pn : List Str} {lv n : Nat} {T : List (Addr × Str)} {sp : PSp} {wb : WS}
    (F : FunD K x qual params body scope [] [] f fd) (S : FnScope N pn scope) (hn : pn.length = n)
    (hb : ∀ (cdv : Value) (A : Around) (outer : List Env) (s : Shared) (H : Hp) (E : XK), Room lv (A.deeper (envOfC qual scope s.heap.objs.size f cdv)) → A.guards = some [] → DSs (cxOf (CX P w) P w K mg base N qual scope f cdv A outer s H E) (lcOf T E) body wb)
    (pure : ∀ ps S R Z, ps.length = n → sp ps S R Z → wb { nx := fun _ S' => wfg R .non S', rt := gR R, ex := fun e _ S' => zfg Z e S' } (startP N ps) S) : FnG P w K mg base (CX P w) (lv + 1) f fd pn (spL K T n sp) := by
  refine fnG_of F S (fun vs H Q E h => h.1.trans hn.symm) fun cdv A outer s H vs Q E hr hg ⟨hl, ps, S0, R, Z, r, st, h, q, z⟩ => ⟨_, pss_ghost (hb cdv A outer s H E hr hg), ?_⟩
  refine ⟨startP N ps, S0, _, ⟨?_, st, trivial⟩, pure ps S0 R Z (r.length.trans hl) h, ?_⟩
  · have := RSl.start N.length r
    exact this
  · refine ⟨fun ρ S1 σ H1 i A1 ⟨S', u, h1⟩ => q .non S' .non H1 (i.sub u) (A1.st.sub u) .non h1, vc_ghost (L := lcOf T E) q, fun _ _ _ _ _ _ z => z.elim, fun _ _ _ _ _ _ z => z.elim, fun e ρ S1 cls d σ H1 i A1 rx ⟨S', u, h1⟩ => z e S' cls d H1 (i.sub u) (A1.st.sub u) rx h1⟩
/-- what is known of the law's promise at the head's heap -/
def LawG (l : PySem.W.OpenLaw) (w : World) (K : PySem.W.Frag) (CX : CXT) (k n : Nat) (x : Str) (mg : Str → Option Value) (fa : Addr) (h : Heap) : Prop :=
  ∃ (fd : FuncData) (cs : List (Addr × Addr)) (sp : Sp), (∀ p ∈ cs, h.get? p.2 = some { cls := .none, data := .fields #[] }) ∧ (∀ p ∈ cs, K.lookup p.2 = none) ∧ (∀ p ∈ cs, PySem.W.CodeHd h p.1 p.2) ∧ (∀ (s : Shared) (u : Value), BindsTo s fd ⟨[u], []⟩ [(x, u)]) ∧
    (∀ (H : Hp) (a : Addr) (ns : List Int), ns.length ≤ n → (∀ z ∈ ns, Builtin.Int.intBits z ≤ 1048576) → (∀ p ∈ cs, H p.2 = some (.tbl #[])) → FzL K H a (ns.map V.int) → sp [.ref a] H (fun v _ => v = .bl true) fun _ _ _ => False) ∧
    ∀ base : Heap, K.In base → base.Ns mainGlobals mg → (∀ p ∈ cs, TabB base mg p.1 p.2) → FnG l.prog w K mg base CX k fa fd [x] sp
theorem walkG {l : PySem.W.OpenLaw} {n k : Nat} {q : Program} {loose : List Str} {XP : (Str → Option Value) → Heap → Prop} {YP : World → Heap → Prop} {d : DefRec} {CX : World → CXT} {x : Str}
    (hn : l.most = some n) (hn2 : n ≤ sizeLine) (hdf : d.params.defaults = []) (hr : Room k callerA)
    (F : ∀ (w : World) (mg : Str → Option Value) (fa : Addr) (h : Heap), YP w h → h.Ns mainGlobals mg → mg d.name = some (.ref fa) → ∃ K : PySem.W.Frag, K.In h ∧ LawG l w K (CX w) k n x mg fa h)
    (hCX : ∀ (w : World) (H : Hp) (s : Shared) (e : Value) (s' : Shared), CX w [] H s (fun _ _ _ => False) e s' → False) :
    PySem.W.WalkO q loose XP YP l.row.toRowW d [] (fun f vs => PySem.call f vs) := by
  refine Att.attach_callB hn hdf fun w s₀ s₁ mg mb fa o pm cd doc a vs ns G Y ho hd hcd hmg hobj hints hlen hbits hg => ?_
  obtain ⟨K, KX, fd, cs, sp, hT, nT, C, hb, hsp, hF⟩ := F w mg fa _ Y G.T.g hmg
  exact law_callG KX G.T.g G.T.b G.T.builtins G.T.nolimit hg hT nT C G.T.bmain hobj hints (Nat.le_trans hlen hn2) hr hF hb (fun H hH hS => hsp H a ns hlen hbits hH hS) fun H e s' => hCX w H s₁ e s'
end PX
end L2

/-! PX14: facts by names, defs in a bundle, laws of loops. -/
namespace L2
namespace PX
open PySem PySem.Spec PyProof.Rows
/-! ### facts by names -/
structure Fx (fa : List He.Fa) (fn : List He.DefD) (K : PySem.W.Frag) (mg : Str → Option Value) : Prop where
  h : ∃ h : Heap, K.In h ∧ h.Ns mainGlobals mg
  c : He.SaysD fa fn K
section
variable {fa : List He.Fa} {fn : List He.DefD} {K : PySem.W.Frag} {mg : Str → Option Value}
theorem Fx.glo (f : Fx fa fn K mg) (i : Nat) {x : Str} (h : fa[i]? = some (.glo x) := by rfl) : mg x = some (.ref (He.ga K x)) := let ⟨_, X, G⟩ := f.h; He.glo_ok X G (f.c.fact i h)
theorem Fx.free (f : Fx fa fn K mg) (i : Nat) {x : Str} (h : fa[i]? = some (.free x) := by rfl) : mg x = none := let ⟨_, X, G⟩ := f.h; He.free_ok X G (f.c.fact i h)
theorem Fx.int (f : Fx fa fn K mg) (i : Nat) {x : Str} {n : Int} (h : fa[i]? = some (.int x n) := by rfl) : ∃ t, mg x = some (.int n t) := let ⟨_, X, G⟩ := f.h; He.int_ok X G (f.c.fact i h)
theorem Fx.str (f : Fx fa fn K mg) (i : Nat) {x z : Str} (h : fa[i]? = some (.str x z) := by rfl) : ∃ t, mg x = some (.str z t) := let ⟨_, X, G⟩ := f.h; He.str_ok X G (f.c.fact i h)
theorem Fx.cls (f : Fx fa fn K mg) (i : Nat) {x : Str} (h : fa[i]? = some (.cls x) := by rfl) : Cls K (He.ga K x) := He.cls_ok (f.c.fact i h)
theorem Fx.noat (f : Fx fa fn K mg) (i : Nat) {x a : Str} (h : fa[i]? = some (.noat x a) := by rfl) : NoAttr K (He.ga K x) a := He.noat_ok (f.c.fact i h)
theorem Fx.meth (f : Fx fa fn K mg) (i : Nat) {x m : Str} (h : fa[i]? = some (.meth x m) := by rfl) : Meth K (He.ga K x) m (He.ma K (He.ga K x) m) := He.meth_ok (f.c.fact i h)
theorem Fx.mkr (f : Fx fa fn K mg) (i : Nat) {x : Str} (h : fa[i]? = some (.mkr x) := by rfl) : Mk K (He.ga K x) (He.ma K (He.ga K x) "__init__") := He.mkr_ok (f.c.fact i h)
end
/-- a def with its promise -/
structure Fn (P : Program) (w : World) (K : PySem.W.Frag) (mg : Str → Option Value) (base : Heap) (T : List (Addr × Str)) (lv : Nat) (at_ : Str × Option Str) (pn : List Str) (sp : PSp) : Prop where
  ex : ∃ fd, FnOk P w K mg base (CX P w) lv (He.fAd K at_) fd pn (spL K T pn.length sp) ∧ Binds K fd pn [] ∧ PySem.W.keepIn K (.ref (He.fAd K at_)) = true
section
variable {X : Cx} {L : Lc} {lv : Nat} {at_ : Str × Option Str} {pn : List Str} {sp : PSp}
theorem Fn.call (f : Fn X.prog X.w X.K X.mg X.base L.T lv at_ pn sp) (tk : Takes X L.W) (hr : Room lv X.A) : CallP X L (.ref (He.fAd X.K at_)) (arN pn.length sp) := by
  obtain ⟨fd, F, b, _⟩ := f.ex
  exact call_fn (P := X.prog) tk F hr b
theorem Fn.kp (f : Fn X.prog X.w X.K X.mg X.base L.T lv at_ pn sp) : PySem.W.keepIn X.K (.ref (He.fAd X.K at_)) = true := let ⟨_, _, _, k⟩ := f.ex; k
/-- C(..) -/
theorem Fn.make {c : Str} {n : Nat} (f : Fn X.prog X.w X.K X.mg X.base L.T lv (c, some "__init__") pn sp) (hn : pn.length = n + 1) (M : Mk X.K (He.ga X.K c) (He.ma X.K (He.ga X.K c) "__init__")) (tk : Takes X L.W) (hr : Room (lv + 1) X.A) : CallP X L (.ref (He.ga X.K c)) (arN n (kMake (He.ga X.K c) sp)) := by
  obtain ⟨fd, F, b, _⟩ := f.ex
  rw [hn] at F
  exact call_make M tk F hr b
theorem Fn.eqI {c : Str} (f : Fn X.prog X.w X.K X.mg X.base L.T lv (c, some "__eq__") pn sp) (hn : pn.length = 2) (neg : Bool) (op : CmpOp) (hop : op = if neg then CmpOp.NotEq else CmpOp.Eq) (tk : Takes X L.W) (hr : Room (lv + 1) X.A) (e : EqC X.K (He.ga X.K c) (He.ma X.K (He.ga X.K c) "__eq__")) :
    Op2 X L (compareOp op) (kEqI neg (He.ga X.K c) sp) := by
  obtain ⟨fd, F, b, _⟩ := f.ex
  rw [hn] at F
  exact o_eqI neg op hop tk F hr b e
end
/-- what a class of ours answers to isinstance, told by one Bool -/
def isCB (K : PySem.W.Frag) (c : Str) : Bool := He.eqO (PySem.W.findIn K (.ref (He.ga K c)) "__class__") (some (some (.builtin "object.__class__"))) && (decide (PySem.W.specialIn K (.builtin "object.__class__") "__get__" = some (some (.builtin "getset_descriptor.__get__"))) &&
  (decide (PySem.W.takesIn K (.builtin "object.__class__") = some true) && decide (PySem.W.mroIn K (He.ga K c) (.type "object") = some true)))
theorem isCB_ok {K : PySem.W.Frag} {c : Str} (h : isCB K c = true) (cl : Cls K (He.ga K c)) : IsC K (He.ga K c) := by
  obtain ⟨h1, h⟩ := He.ba h
  obtain ⟨h2, h⟩ := He.ba h
  obtain ⟨h3, h4⟩ := He.ba h
  exact ⟨cl, He.eqO_ok h1, of_decide_eq_true h2, of_decide_eq_true h3, of_decide_eq_true h4⟩
def eqCB (K : PySem.W.Frag) (c : Str) : Bool := He.eqO (PySem.W.findIn K (.ref (He.ga K c)) "__eq__") (some (some (.ref (He.ma K (He.ga K c) "__eq__")))) && (PySem.W.isFn K (.ref (He.ma K (He.ga K c) "__eq__")) &&
  (He.eqO (PySem.W.findIn K (.ref (He.ga K c)) "__ne__") (some (some (.builtin "object.__ne__"))) && decide (PySem.W.mroIn K (He.ga K c) (.type "object") = some true)))
theorem eqCB_ok {K : PySem.W.Frag} {c : Str} (h : eqCB K c = true) : EqC K (He.ga K c) (He.ma K (He.ga K c) "__eq__") := by
  obtain ⟨h1, h⟩ := He.ba h
  obtain ⟨h2, h⟩ := He.ba h
  obtain ⟨h3, h4⟩ := He.ba h
  exact ⟨He.eqO_ok h1, h2, He.eqO_ok h3, of_decide_eq_true h4⟩
/-! ### laws of comprehensions -/
/-- each item gives one, or is left out; nothing changes -/
theorem wLcL_map {ok : Sto → Prop} {g : Tg} {t : WT} {we : WE} {ρ0 : Slots} {k : List PV → Sto → Prop} (f : PV → Option PV) {S : Sto} (hok : ok S) : ∀ (items acc : List PV),
    (∀ x ∈ items, ∀ (R : PV → Sto → Prop) (N : Sto → Prop), (match f x with
      | some y => R y S
      | none => N S) → asg g x ρ0 S fun ρ' => t ρ' S (fun b S2 => if b = true then we ρ' S2 R Z0 else N S2) Z0) →
    acc.length + items.length ≤ sizeLine → k (acc ++ items.filterMap f) S → wLcL ok g t we ρ0 k items acc S
  | [], acc, _, _, hk => by
    rw [List.filterMap_nil, List.append_nil] at hk
    exact ⟨hok, hk⟩
  | x :: r, acc, hE, hl, hk => by
    refine ⟨hok, hE x List.mem_cons_self (fun y S3 => acc.length < sizeLine ∧ wLcL ok g t we ρ0 k r (acc ++ [y]) S3) (fun S2 => wLcL ok g t we ρ0 k r acc S2) ?_⟩
    rw [List.length_cons] at hl
    have ih := fun acc' hl' hk' => wLcL_map (ok := ok) (g := g) (t := t) (we := we) (ρ0 := ρ0) (k := k) f hok r acc' (fun y hy => hE y (List.mem_cons_of_mem _ hy)) hl' hk'
    cases q : f x with
    | none =>
      rw [List.filterMap_cons_none q] at hk
      exact ih acc (by omega) hk
    | some y =>
      rw [List.filterMap_cons_some q] at hk
      refine ⟨by omega, ih (acc ++ [y]) (by rw [List.length_append, List.length_singleton]; omega) ?_⟩
      rw [List.append_assoc]
      exact hk
/-- each item gives one; nothing changes -/
theorem wLcL_all {ok : Sto → Prop} {g : Tg} {we : WE} {ρ0 : Slots} {k : List PV → Sto → Prop} (f : PV → PV) {S : Sto} (hok : ok S) (items : List PV)
    (hE : ∀ x ∈ items, ∀ (R : PV → Sto → Prop), R (f x) S → asg g x ρ0 S fun ρ' => we ρ' S R Z0) (hl : items.length ≤ sizeLine) (hk : k (items.map f) S) : wLcL ok g wYes we ρ0 k items [] S := by
  refine wLcL_map (fun x => some (f x)) hok items [] (fun x hx R N h => ?_) (by simpa using hl) (by simpa using hk)
  exact hE x hx R h
/-- what each item gives is only half known; the store changes -/
theorem wLcL_inv {ok : Sto → Prop} {g : Tg} {we : WE} {ρ0 : Slots} {k : List PV → Sto → Prop} (I : List PV → List PV → Sto → Prop)
    (hI : ∀ x r acc S, I (x :: r) acc S → ok S ∧ ∀ R : PV → Sto → Prop, (∀ y S', I r (acc ++ [y]) S' → R y S') → asg g x ρ0 S fun ρ' => we ρ' S R Z0) (hN : ∀ acc S, I [] acc S → ok S ∧ k acc S) :
    ∀ (items acc : List PV) (S : Sto), acc.length + items.length ≤ sizeLine → I items acc S → wLcL ok g wYes we ρ0 k items acc S
  | [], acc, S, _, h => hN acc S h
  | x :: r, acc, S, hl, h => by
    obtain ⟨h1, h2⟩ := hI x r acc S h
    rw [List.length_cons] at hl
    exact ⟨h1, h2 _ fun y S' h' => ⟨by omega, wLcL_inv I hI hN r (acc ++ [y]) S' (by rw [List.length_append, List.length_singleton]; omega) h'⟩⟩
/-! ### pairs by keys -/
theorem dput_fresh {ks : List (Key × PV)} {k : Key} {v : PV} (h : k ∉ ks.map (·.1)) : dput ks k v = ks ++ [(k, v)] := by
  unfold dput
  rw [if_neg]
  intro z
  obtain ⟨p, hp, e⟩ := List.any_eq_true.mp z
  exact h (List.mem_map.mpr ⟨p, hp, of_decide_eq_true e⟩)
theorem dget_mem {ks : List (Key × PV)} {k : Key} {v : PV} (nd : (ks.map (·.1)).Nodup) (h : (k, v) ∈ ks) : dget ks k = some v := by
  induction ks with
  | nil => cases h
  | cons p r ih =>
    by_cases e : p.1 = k
    · rw [dget_pos e]
      rcases List.mem_cons.mp h with q | q
      · rw [← q]
      · rw [List.map_cons, List.nodup_cons] at nd
        exact absurd (List.mem_map.mpr ⟨_, q, rfl⟩) (e ▸ nd.1)
    · rw [dget_neg e]
      rcases List.mem_cons.mp h with q | q
      · exact absurd (by rw [← q]) e
      · rw [List.map_cons, List.nodup_cons] at nd
        exact ih nd.2 q
theorem dget_isSome {ks : List (Key × PV)} {k : Key} : (dget ks k).isSome = true ↔ k ∈ ks.map Prod.fst := by
  induction ks with
  | nil => exact ⟨fun h => (by cases h), fun h => (by cases h)⟩
  | cons p r ih =>
    rw [List.map_cons, List.mem_cons]
    by_cases e : p.1 = k
    · rw [dget_pos e]; exact ⟨fun _ => .inl e.symm, fun _ => rfl⟩
    · rw [dget_neg e, ih]
      exact ⟨.inr, fun z => z.elim (fun q => absurd q.symm e) id⟩
/-- {k: v for x in xs}, keys new each time; nothing changes but by the values -/
theorem wDcL_inv {ok : Sto → Prop} {g : Tg} {wk wv : WE} {ρ0 : Slots} {k : List (Key × PV) → Sto → Prop} (I : List PV → List (Key × PV) → Sto → Prop)
    (hI : ∀ x r acc S, I (x :: r) acc S → ok S ∧ ∀ R : Key → PV → Sto → Prop, (∀ q y S', I r (dput acc q y) S' → R q y S') → asg g x ρ0 S fun ρ' => wk ρ' S (fun y S3 => wv ρ' S3 (fun z S4 => keyB y fun q => R q z S4) Z0) Z0) (hN : ∀ acc S, I [] acc S → ok S ∧ k acc S) :
    ∀ (items : List PV) (acc : List (Key × PV)) (S : Sto), acc.length + items.length ≤ sizeLine → I items acc S → wDcL ok g wYes wk wv ρ0 k items acc S
  | [], acc, S, _, h => hN acc S h
  | x :: r, acc, S, hl, h => by
    obtain ⟨h1, h2⟩ := hI x r acc S h
    rw [List.length_cons] at hl
    refine ⟨h1, h2 (fun q z S4 => acc.length < sizeLine ∧ wDcL ok g wYes wk wv ρ0 k r (dput acc q z) S4) fun q y S' h' => ⟨by omega, wDcL_inv I hI hN r _ S' ?_ h'⟩⟩
    have : (dput acc q y).length ≤ acc.length + 1 := by
      unfold dput
      split
      · rw [List.length_map]; omega
      · rw [List.length_append, List.length_singleton]; omega
    omega
end PX
end L2

/-! PX15: == of any data, isinstance made short, names of builtins. -/
namespace L2
namespace PX
open PySem PySem.Spec PyProof.Rows
def eqS : PV → PV → Option Bool
  | .non, .non => some true
  | .non, .int _ => some false
  | .int _, .non => some false
  | .non, .bl _ => some false
  | .bl _, .non => some false
  | .non, .str _ => some false
  | .str _, .non => some false
  | .int i, .int j => some (decide (i = j))
  | .bl i, .bl j => some (decide (i = j))
  | .str i, .str j => some (decide (i = j))
  | .int _, .str _ => some false
  | .str _, .int _ => some false
  | .bl _, .str _ => some false
  | .str _, .bl _ => some false
  | _, _ => none
def kEqA (neg : Bool) : K2 := fun p q S R => match eqS (dr S p) (dr S q) with
  | some b => R (.bl (b != neg)) S
  | none => kEqD neg p q S R
section
variable {X : Cx} {L : Lc}
theorem eqS_rv {H : Hp} {S : Sto} {p q : PV} {v u : V} {b : Bool} (r : RV X.K H p v) (r2 : RV X.K H q u) (e : eqS (dr S p) (dr S q) = some b) : scal v u = true ∧ decide (v = u) = b := by
  have hp : (∃ i, dr S p = .int i ∧ v = .int i) ∨ (∃ i, dr S p = .str i ∧ v = .str i) ∨ (∃ i, dr S p = .bl i ∧ v = .bl i) ∨ (dr S p = .non ∧ v = .non) := by
    cases h : dr S p with
    | int i => exact .inl ⟨i, rfl, d_int r h⟩
    | str i => exact .inr (.inl ⟨i, rfl, d_str r h⟩)
    | bl i => exact .inr (.inr (.inl ⟨i, rfl, d_bl r h⟩))
    | non => exact .inr (.inr (.inr ⟨rfl, d_non r h⟩))
    | _ => rw [h] at e; simp [eqS] at e
  have hq : (∃ i, dr S q = .int i ∧ u = .int i) ∨ (∃ i, dr S q = .str i ∧ u = .str i) ∨ (∃ i, dr S q = .bl i ∧ u = .bl i) ∨ (dr S q = .non ∧ u = .non) := by
    cases h : dr S q with
    | int i => exact .inl ⟨i, rfl, d_int r2 h⟩
    | str i => exact .inr (.inl ⟨i, rfl, d_str r2 h⟩)
    | bl i => exact .inr (.inr (.inl ⟨i, rfl, d_bl r2 h⟩))
    | non => exact .inr (.inr (.inr ⟨rfl, d_non r2 h⟩))
    | _ => rw [h] at e; cases hh : dr S p <;> rw [hh] at e <;> simp [eqS] at e
  rcases hp with ⟨i, h1, rfl⟩ | ⟨i, h1, rfl⟩ | ⟨i, h1, rfl⟩ | ⟨h1, rfl⟩ <;> rcases hq with ⟨j, h2, rfl⟩ | ⟨j, h2, rfl⟩ | ⟨j, h2, rfl⟩ | ⟨h2, rfl⟩ <;> rw [h1, h2] at e <;> simp [eqS] at e <;> subst e <;> first
    | exact ⟨rfl, by simp⟩
    | exact ⟨rfl, rfl⟩
    | (refine ⟨rfl, ?_⟩; rw [Bool.eq_iff_iff]; simp)
theorem o_eqA (hu : X.A.units + 64 < cLine) : Op2 X L (compareOp .Eq) (kEqA false) := by
  intro pins s σ H x y v u p q S R Q I rx ry st r1 r2 hk hq
  unfold kEqA at hk
  split at hk
  · rename_i b e
    obtain ⟨h1, h2⟩ := eqS_rv r1 r2 e
    refine op_eq pins s σ H _ _ v u Q I rx ry ⟨h1, ?_⟩
    rw [h2]
    rw [Bool.bne_false] at hk
    exact hq.now st (.bl _) hk
  · exact o_eqD hu pins s σ H x y v u p q S R Q I rx ry st r1 r2 hk hq
theorem o_neA (hu : X.A.units + 64 < cLine) : Op2 X L (compareOp .NotEq) (kEqA true) := by
  intro pins s σ H x y v u p q S R Q I rx ry st r1 r2 hk hq
  unfold kEqA at hk
  split at hk
  · rename_i b e
    obtain ⟨h1, h2⟩ := eqS_rv r1 r2 e
    refine op_ne pins s σ H _ _ v u Q I rx ry ⟨h1, ?_⟩
    rw [h2]
    rw [Bool.bne_true] at hk
    exact hq.now st (.bl _) hk
  · exact o_neD hu pins s σ H x y v u p q S R Q I rx ry st r1 r2 hk hq
/-- isinstance(x, T), T a builtin type, x no instance of ours -/
def kIsB : PV → PV → Sto → RK → Prop := fun p q S R => match tagB (dr S p), q with
  | some a, .ty n => n ∈ tyNames ∧ R (.bl (isTyB a n)) S
  | _, _ => False
theorem c_isB : CallP X L (.builtin "isinstance") (p2 kIsB) := c_isi (F := fun _ _ => none) [] (fun _ h => by cases h) (fun _ _ _ h => by cases h) kIsB fun p q S R h => by
  unfold kIsB at h
  split at h
  · rename_i a n e
    have e2 : tyP (dr S p) = some (.inl a) := by
      cases hh : dr S p <;> rw [hh] at e <;> simp [tagB] at e <;> subst e <;> rfl
    refine ⟨?_, fun C fs e3 => by rw [e3] at e; cases e⟩
    unfold kIsi
    rw [e2]
    show match ansI (fun _ _ => none) (.inl a) (.inl n) with
      | some b => R (.bl b) S
      | none => False
    unfold ansI
    dsimp only
    rw [if_pos h.1]
    exact h.2
  · exact h.elim
/-- isinstance(x, C), x an instance of C itself -/
def kIsO (C : Addr) : PV → PV → Sto → RK → Prop := fun p q S R => match dr S p, q with
  | .obj D _, .ref D' => D = C ∧ D' = C ∧ R (.bl true) S
  | _, _ => False
theorem c_isO {C : Addr} (h : IsC X.K C) : CallP X L (.builtin "isinstance") (p2 (kIsO C)) := c_isi (F := fun _ _ => none) [C] (fun D hD => by cases List.mem_singleton.mp hD; exact h) (fun _ _ _ h => by cases h) (kIsO C) fun p q S R hk => by
  unfold kIsO at hk
  split at hk
  · rename_i D fs D' e
    obtain ⟨rfl, rfl, hk⟩ := hk
    refine ⟨?_, fun C fs' e3 => by rw [e3] at e; cases e; exact List.mem_singleton.mpr rfl⟩
    unfold kIsi
    rw [e]
    show match ansI (fun _ _ => none) (.inr _) (.inr _) with
      | some b => R (.bl b) S
      | none => False
    unfold ansI
    dsimp only
    rw [if_pos rfl]
    exact hk
  · exact hk.elim
end
theorem bt_len : bootBuiltins "len" = some (.builtin "len") := by decide +kernel
theorem bt_abs : bootBuiltins "abs" = some (.builtin "abs") := by decide +kernel
theorem bt_all : bootBuiltins "all" = some (.builtin "all") := by decide +kernel
theorem bt_any : bootBuiltins "any" = some (.builtin "any") := by decide +kernel
theorem bt_isinstance : bootBuiltins "isinstance" = some (.builtin "isinstance") := by decide +kernel
theorem bt_repr : bootBuiltins "repr" = some (.builtin "repr") := by decide +kernel
theorem bt_sorted : bootBuiltins "sorted" = some (.builtin "sorted") := by decide +kernel
theorem bt_int : bootBuiltins "int" = some (.type "int") := by decide +kernel
theorem bt_bool : bootBuiltins "bool" = some (.type "bool") := by decide +kernel
theorem bt_str : bootBuiltins "str" = some (.type "str") := by decide +kernel
theorem bt_tuple : bootBuiltins "tuple" = some (.type "tuple") := by decide +kernel
theorem bt_list : bootBuiltins "list" = some (.type "list") := by decide +kernel
theorem bt_dict : bootBuiltins "dict" = some (.type "dict") := by decide +kernel
theorem Room_u1 {k : Nat} {A : Around} (r : Room k A) : A.units + 1 < cLine := by have := r.un; omega
theorem Room_u64 {k : Nat} {A : Around} (r : Room k A) : A.units + 64 < cLine := by have := r.un; omega
theorem Room_u66 {k : Nat} {A : Around} (r : Room k A) : A.units + 66 < cLine := by have := r.un; omega
/-- one class's field -/
theorem one_cls {K : PySem.W.Frag} {C : Addr} {f : Str} (c : Cls K C) (n : NoAttr K C f) : ∀ D ∈ [C], Cls K D ∧ NoAttr K D f := fun D h => by cases List.mem_singleton.mp h; exact ⟨c, n⟩
end PX
end L2

/-! PX16: calls of defs in a bundle. -/
namespace L2
namespace PX
open PySem PySem.Spec PyProof.Rows
/-- a method call on one line -/
theorem mcall_eval {o : Expr} {m : Str} {apos pos : Pos} {args : List Expr} {env : Env} (hbase : attributeBase o m env (eval o env) = eval o env)
    (hf : methodCallForm (args.length + ([] : List Keyword).length) (backTo pos (starEach args env)) (backToKw pos (keywordEach [] env)) = true) (hl : (apos.endLine == pos.line) = true) :
    eval (.Call (.Attribute o m apos) args [] pos) env = (do
      let ov ← eval o env
      standAt apos.atName
      let (f, first) ← holding [ov] (getMethod ov m (plainOf o env))
      callWith pos f first (backTo pos (starEach args env)) (backToKw pos (keywordEach [] env))) := by
  rw [arm_eval_Call, hbase]
  refine congrArg (Bind.bind (eval o env)) (funext fun ov => congrArg (Bind.bind (standAt apos.atName)) (funext fun _ => ?_))
  exact mcall_line hf hl
section
variable {X : Cx} {L : Lc} {lv : Nat} {x m : Str} {pn : List Str} {sp : PSp} {e o : Expr} {es : List Expr} {wr : WA} {wo : WE} {p pos apos : Pos}
theorem Fn.calln {n : Nat} (f : Fn X.prog X.w X.K X.mg X.base L.T lv (x, none) pn sp) (hn : pn.length = n) (tk : Takes X L.W) (hr : Room lv X.A) : CallP X L (.ref (He.ga X.K x)) (arN n sp) := by
  subst hn; exact Fn.call f tk hr
theorem Fn.callm {n : Nat} {c : Str} (f : Fn X.prog X.w X.K X.mg X.base L.T lv (c, some m) pn sp) (hn : pn.length = n) (tk : Takes X L.W) (hr : Room lv X.A) : CallP X L (.ref (He.ma X.K (He.ga X.K c) m)) (arN n sp) := by
  subst hn; exact Fn.call f tk hr
theorem Fn.kpn (f : Fn X.prog X.w X.K X.mg X.base L.T lv (x, none) pn sp) : PySem.W.keepIn X.K (.ref (He.ga X.K x)) = true := f.kp
theorem de_fn (n : Nat) (f : Fn X.prog X.w X.K X.mg X.base L.T lv (x, none) pn sp) (tk : Takes X L.W) (hr : Room lv X.A) (g : X.mg x = some (.ref (He.ga X.K x))) (hn : pn.length = n) (ha : DA X L (e :: es) wr) (hg : Gl X x := by rfl) (hdb : (x == ("__debug__" : Str)) = false := by decide)
    (he : starEach (e :: es) X.env = (false, eval e X.env) :: starEach es X.env := by rfl) (hpl : (backTo pos (starEach es X.env)).any (·.1) = false := by rfl) : DE X L (.Call (.Name x p) (e :: es) [] pos) (wCall (arN n sp) wr) :=
  de_call (f.calln hn tk hr) g f.kpn ha hg hdb he hpl
theorem de_fn0 (n : Nat) (f : Fn X.prog X.w X.K X.mg X.base L.T lv (x, none) pn sp) (tk : Takes X L.W) (hr : Room lv X.A) (g : X.mg x = some (.ref (He.ga X.K x))) (hn : pn.length = n) (hg : Gl X x := by rfl) (hdb : (x == ("__debug__" : Str)) = false := by decide) : DE X L (.Call (.Name x p) [] [] pos) (wCall (arN n sp) wNil) :=
  de_call0 (f.calln hn tk hr) g f.kpn hg hdb
theorem de_mk (n : Nat) (f : Fn X.prog X.w X.K X.mg X.base L.T lv (x, some "__init__") pn sp) (M : Mk X.K (He.ga X.K x) (He.ma X.K (He.ga X.K x) "__init__")) (tk : Takes X L.W) (hr : Room (lv + 1) X.A) (g : X.mg x = some (.ref (He.ga X.K x))) (hn : pn.length = n + 1) (ha : DA X L (e :: es) wr) (hg : Gl X x := by rfl) (hdb : (x == ("__debug__" : Str)) = false := by decide)
    (he : starEach (e :: es) X.env = (false, eval e X.env) :: starEach es X.env := by rfl) (hpl : (backTo pos (starEach es X.env)).any (·.1) = false := by rfl) : DE X L (.Call (.Name x p) (e :: es) [] pos) (wCall (arN n (kMake (He.ga X.K x) sp)) wr) :=
  de_call (f.make hn M tk hr) g M.kp ha hg hdb he hpl
theorem de_mk0 (n : Nat) (f : Fn X.prog X.w X.K X.mg X.base L.T lv (x, some "__init__") pn sp) (M : Mk X.K (He.ga X.K x) (He.ma X.K (He.ga X.K x) "__init__")) (tk : Takes X L.W) (hr : Room (lv + 1) X.A) (g : X.mg x = some (.ref (He.ga X.K x))) (hn : pn.length = n + 1) (hg : Gl X x := by rfl) (hdb : (x == ("__debug__" : Str)) = false := by decide) : DE X L (.Call (.Name x p) [] [] pos) (wCall (arN n (kMake (He.ga X.K x) sp)) wNil) :=
  de_call0 (f.make hn M tk hr) g M.kp hg hdb
theorem de_mth (n : Nat) {c : Str} (f : Fn X.prog X.w X.K X.mg X.base L.T lv (c, some m) pn sp) (cl : Cls X.K (He.ga X.K c)) (hm : Meth X.K (He.ga X.K c) m (He.ma X.K (He.ga X.K c) m)) (tk : Takes X L.W) (hr : Room lv X.A) (hn : pn.length = n) (ho : DE X L o wo) (ha : DA X L (e :: es) wr)
    (hst : starEach (e :: es) X.env = (false, eval e X.env) :: starEach es X.env := by rfl) (hpl : (backTo pos (starEach es X.env)).any (·.1) = false := by rfl)
    (hbase : attributeBase o m X.env (eval o X.env) = eval o X.env := by rfl)
    (hf : methodCallForm ((e :: es).length + ([] : List Keyword).length) (backTo pos (starEach (e :: es) X.env)) (backToKw pos (keywordEach [] X.env)) = true := by rfl) (hl : (apos.endLine == pos.line) = true := by rfl) : DE X L (.Call (.Attribute o m apos) (e :: es) [] pos) (wMeth (He.ga X.K c) m (arN n sp) wo wr) :=
  de_meth (pl := plainOf o X.env) cl hm (f.callm hn tk hr) ho ha hst hpl (mcall_eval hbase hf hl)
theorem de_mth0 (n : Nat) {c : Str} (f : Fn X.prog X.w X.K X.mg X.base L.T lv (c, some m) pn sp) (cl : Cls X.K (He.ga X.K c)) (hm : Meth X.K (He.ga X.K c) m (He.ma X.K (He.ga X.K c) m)) (tk : Takes X L.W) (hr : Room lv X.A) (hn : pn.length = n) (ho : DE X L o wo)
    (hbase : attributeBase o m X.env (eval o X.env) = eval o X.env := by rfl)
    (hf : methodCallForm (([] : List Expr).length + ([] : List Keyword).length) (backTo pos (starEach [] X.env)) (backToKw pos (keywordEach [] X.env)) = true := by rfl) (hl : (apos.endLine == pos.line) = true := by rfl) : DE X L (.Call (.Attribute o m apos) [] [] pos) (wMeth (He.ga X.K c) m (arN n sp) wo wNil) :=
  de_meth0 (pl := plainOf o X.env) cl hm (f.callm hn tk hr) ho (mcall_eval hbase hf hl)
end
section
variable {X : Cx} {L : Lc} {elt tg iter c kx vx : Expr} {we wk wv : WE} {wi : WI} {t : WT} {g : Tg} {pos : Pos}
/-- comprehensions, the own slots told -/
theorem de_lcN {scope : Scope} {ifs : List Expr} (own : List (Str × Nat)) (ns : List Nat) (hns : own.map (·.2) = ns) (hc : X.calm = true) (hN : X.N.Nodup) (hi : DI X L tg iter wi) (ok : BlkOk X.N X.env.scope scope own)
    (hg : ∀ (s : Shared) (H : Hp) (C : Addr) (cl : List (Str × Addr)) (fp : List Addr), TgOk (X.blk s H scope (compEnvC scope cl C X.env) fp) tg g) (ht : ∀ (s : Shared) (H : Hp) (C : Addr) (cl : List (Str × Addr)) (fp : List Addr), DTs (X.blk s H scope (compEnvC scope cl C X.env) fp) L.in_ ifs t)
    (he : ∀ (s : Shared) (H : Hp) (C : Addr) (cl : List (Str × Addr)) (fp : List Addr), DE (X.blk s H scope (compEnvC scope cl C X.env) fp) L.in_ elt we) (ho : ∀ i ∈ g.ixs, i ∈ own.map (·.2) := by decide) (hs : ∀ x, foldedSetIterable iter X.env x = pure x := by intro _; rfl) :
    DE X L (.ListComp elt [⟨tg, iter, ifs, 0⟩] scope pos) (wLc wi g t we ns) := by
  subst hns; exact de_lc own hc hN hi ok hg ht he ho hs
theorem ds_setLcN (i : Nat) {y : Str} {py spos : Pos} {scope : Scope} {ifs : List Expr} (own : List (Str × Nat)) (ns : List Nat) (hns : own.map (·.2) = ns) (hc : X.calm = true) (hN : X.N.Nodup) (hi : DI X L tg iter wi) (ok : BlkOk X.N X.env.scope scope own)
    (hg : ∀ (s : Shared) (H : Hp) (C : Addr) (cl : List (Str × Addr)) (fp : List Addr), TgOk (X.blk s H scope (compEnvC scope cl C X.env) fp) tg g) (ht : ∀ (s : Shared) (H : Hp) (C : Addr) (cl : List (Str × Addr)) (fp : List Addr), DTs (X.blk s H scope (compEnvC scope cl C X.env) fp) L.in_ ifs t)
    (he : ∀ (s : Shared) (H : Hp) (C : Addr) (cl : List (Str × Addr)) (fp : List Addr), DE (X.blk s H scope (compEnvC scope cl C X.env) fp) L.in_ elt we) (ho : ∀ i ∈ g.ixs, i ∈ own.map (·.2) := by decide) (hy : X.N[i]? = some y := by rfl) (hyl : X.env.scope.names.lookup y = some .local := by rfl)
    (hsw : swapsWith (.ListComp elt [⟨tg, iter, ifs, 0⟩] scope pos) (some (.Name y py)) spos.line X.env = pure true := by exact sw_true rfl rfl rfl (by decide +kernel)) (hs : ∀ x, foldedSetIterable iter X.env x = pure x := by intro _; rfl) :
    DS X L (.Assign [.Name y py] (.ListComp elt [⟨tg, iter, ifs, 0⟩] scope pos) spos) (wSet i (wLc wi g t we ns)) := by
  subst hns; exact ds_setLc i own hc hN hi ok hg ht he ho hy hyl hsw hs
theorem de_dcN {scope : Scope} {ifs : List Expr} (own : List (Str × Nat)) (ns : List Nat) (hns : own.map (·.2) = ns) (hc : X.calm = true) (hN : X.N.Nodup) (hi : DI X L tg iter wi) (ok : BlkOk X.N X.env.scope scope own)
    (hg : ∀ (s : Shared) (H : Hp) (C : Addr) (cl : List (Str × Addr)) (fp : List Addr), TgOk (X.blk s H scope (compEnvC scope cl C X.env) fp) tg g) (ht : ∀ (s : Shared) (H : Hp) (C : Addr) (cl : List (Str × Addr)) (fp : List Addr), DTs (X.blk s H scope (compEnvC scope cl C X.env) fp) L.in_ ifs t)
    (hk : ∀ (s : Shared) (H : Hp) (C : Addr) (cl : List (Str × Addr)) (fp : List Addr), DE (X.blk s H scope (compEnvC scope cl C X.env) fp) L.in_ kx wk)
    (he : ∀ (s : Shared) (H : Hp) (C : Addr) (cl : List (Str × Addr)) (fp : List Addr), DE (X.blk s H scope (compEnvC scope cl C X.env) fp) L.in_ vx wv) (ho : ∀ i ∈ g.ixs, i ∈ own.map (·.2) := by decide) (hs : ∀ x, foldedSetIterable iter X.env x = pure x := by intro _; rfl) :
    DE X L (.DictComp kx vx [⟨tg, iter, ifs, 0⟩] scope pos) (wDc wi g t wk wv ns) := by
  subst hns; exact de_dc own hc hN hi ok hg ht hk he ho hs
end
end PX
end L2

/-! PX17: the readings, opened one by one. -/
namespace L2
namespace PX
open PySem PySem.Spec PyProof.Rows
section
variable {ρ : Slots} {S : Sto} {R : RK} {Z : ZK} {P : PEnds} {RB : Bool → Sto → Prop} {RA : List PV → Sto → Prop} {RI : List PV → (Sto → Prop) → Sto → Prop} {RO : Option Int → Sto → Prop} {p q : PV} {we wa wb wc wo wi wv : WE} {wr : WA} {t u : WT} {v z : WS} {i j : Nat} {k k' : K2} {k1 : K1} {sp : PSp} {wI : WI} {g : Tg} {own : List Nat} {ps : List PV} {wl wh : WO}
theorem e_ret : wRet we P ρ S = we ρ S P.rt (fun e S' => P.ex e ρ S') := rfl
theorem e_retN : wRetN P ρ S = P.rt .non S := rfl
theorem e_nxt : wNext P ρ S = P.nx ρ S := rfl
theorem e_seq : wSeq v z P ρ S = v { P with nx := z P } ρ S := rfl
theorem e_nev : wNever P ρ S = False := rfl
theorem e_brk : wBrk P ρ S = P.bk ρ S := rfl
theorem e_cnt : wCnt P ρ S = P.ct ρ S := rfl
theorem e_expr : wExpr we P ρ S = we ρ S (fun _ S' => P.nx ρ S') (fun e S' => P.ex e ρ S') := rfl
theorem e_ifs : wIfS t v z P ρ S = t ρ S (fun b S' => if b = true then v P ρ S' else z P ρ S') (fun e S' => P.ex e ρ S') := rfl
theorem e_set : wSet i we P ρ S = we ρ S (fun p S' => P.nx (ρ.set i (some p)) S') (fun e S' => P.ex e ρ S') := rfl
theorem e_asg : wAsg g we P ρ S = we ρ S (fun p S' => asg g p ρ S' fun ρ' => P.nx ρ' S') (fun e S' => P.ex e ρ S') := rfl
def par2 (ps : List PV) (k : PV → PV → Prop) : Prop := match ps with
  | [p, q] => k p q
  | _ => False
theorem par2_two {k : PV → PV → Prop} : par2 [p, q] k = k p q := rfl
theorem e_par : wPar i j wr P ρ S = wr ρ S (fun ps S' => par2 ps fun p q => P.nx ((ρ.set i (some p)).set j (some q)) S') (fun e S' => P.ex e ρ S') := by
  have e : (fun (ps : List PV) (S' : Sto) => par2 ps fun p q => P.nx ((ρ.set i (some p)).set j (some q)) S') = fun ps S' => match ps with
      | [p, q] => P.nx ((ρ.set i (some p)).set j (some q)) S'
      | _ => False := by
    funext ps S'
    unfold par2
    rcases ps with _ | ⟨a, _ | ⟨b, _ | ⟨c, r⟩⟩⟩ <;> rfl
  rw [e]
  rfl
theorem e_for : wFor wI g v P ρ S = wI ρ S (fun items ok S' => wForL ok g v P items ρ S') (fun e S' => P.ex e ρ S') := rfl
theorem e_setF {Cs : List Addr} {f : Str} : wSetF Cs f wo wv P ρ S = wv ρ S (fun v S1 => wo ρ S1 (fun o S2 => setFK f o v S2 (fun S3 => P.nx ρ S3) (· ∈ Cs)) (fun e S' => P.ex e ρ S')) (fun e S' => P.ex e ρ S') := rfl
theorem e_put : wPut wo wi wv P ρ S = wv ρ S (fun v S1 => wo ρ S1 (fun o S2 => wi ρ S2 (fun i S3 => kPut o i v S3 (fun S4 => P.nx ρ S4)) (fun e S' => P.ex e ρ S')) (fun e S' => P.ex e ρ S')) (fun e S' => P.ex e ρ S') := rfl
def opt (o : Option PV) (k : PV → Prop) : Prop := match o with
  | some p => k p
  | none => False
theorem opt_some {k : PV → Prop} : opt (some p) k = k p := rfl
theorem e_var : wVar i ρ S R Z = opt (gs ρ i) fun p => R p S := by
  show (match gs ρ i with
    | some p => R p S
    | none => False) = _
  unfold opt
  cases gs ρ i <;> rfl
theorem e_c : wC p ρ S R Z = R p S := rfl
theorem e_b : wB k wa wb ρ S R Z = wa ρ S (fun p S1 => wb ρ S1 (fun q S2 => k p q S2 R) Z) Z := rfl
theorem e_1 : w1 k1 wa ρ S R Z = wa ρ S (fun p S1 => k1 p S1 R) Z := rfl
theorem e_tst {w : WE} : tst w ρ S RB Z = w ρ S (kB RB) Z := rfl
theorem e_kB {b : Bool} : kB RB (.bl b) S = RB b S := rfl
theorem e_tru : wTru wa ρ S RB Z = wa ρ S (fun p S1 => ∃ k, TruP S1 p k ∧ RB k S1) Z := rfl
theorem e_notT : wNotT t ρ S RB Z = t ρ S (fun b S1 => RB (!b) S1) Z := rfl
theorem e_andT : wAndT t u ρ S RB Z = t ρ S (fun b S1 => if b = true then u ρ S1 RB Z else RB false S1) Z := rfl
theorem e_orT : wOrT t u ρ S RB Z = t ρ S (fun b S1 => if b = true then RB true S1 else u ρ S1 RB Z) Z := rfl
def truK (S : Sto) (p : PV) (k : Bool → Prop) : Prop := ∃ b, TruP S p b ∧ k b
theorem truK_bl {b : Bool} {k : Bool → Prop} : truK S (.bl b) k = k b := propext ⟨fun ⟨c, h, h2⟩ => by
  have e : c = b := h
  rw [← e]; exact h2, fun h => ⟨b, rfl, h⟩⟩
theorem e_andV : wAndV wa wb ρ S R Z = wa ρ S (fun p S1 => truK S1 p fun k => if k = true then wb ρ S1 R Z else R p S1) Z := rfl
theorem e_orV : wOrV wa wb ρ S R Z = wa ρ S (fun p S1 => truK S1 p fun k => if k = true then R p S1 else wb ρ S1 R Z) Z := rfl
theorem e_notV : wNotV wa ρ S R Z = wa ρ S (fun p S1 => truK S1 p fun k => R (.bl (!k)) S1) Z := rfl
theorem e_if : wIf t wa wb ρ S R Z = t ρ S (fun b S1 => if b = true then wa ρ S1 R Z else wb ρ S1 R Z) Z := rfl
def chK (z : PV) (a : Prop) (b : Prop) : Prop := match z with
  | .bl true => a
  | .bl false => b
  | _ => False
theorem chK_bl {b : Bool} {x y : Prop} : chK (.bl b) x y = if b = true then x else y := by cases b <;> simp [chK]
theorem e_ch : wCh k k' wa wb wc ρ S R Z = wa ρ S (fun p S1 => wb ρ S1 (fun q S2 => k p q S2 fun z S3 => chK z (wc ρ S3 (fun r S4 => k' q r S4 R) Z) (R (.bl false) S3)) Z) Z := rfl
theorem e_nil : wNil ρ S RA Z = RA [] S := rfl
theorem e_cons : wCons wa wr ρ S RA Z = wa ρ S (fun p S1 => wr ρ S1 (fun ps S2 => RA (p :: ps) S2) Z) Z := rfl
theorem e_tup : wTup wr ρ S R Z = wr ρ S (fun ps S1 => ps.length ≤ sizeLine ∧ R (.tup ps) S1) Z := rfl
theorem e_lst : wLst wr ρ S R Z = wr ρ S (fun ps S1 => ps.length ≤ sizeLine ∧ ∀ a, S1 a = none → R (.ref a) (updS S1 a (.lst ps))) Z := rfl
theorem e_lstF : wLstF wr ρ S R Z = wr ρ S (fun ps S1 => ps.length ≤ sizeLine ∧ R (.lst ps) S1) Z := rfl
theorem e_call : wCall sp wr ρ S R Z = wr ρ S (fun ps S' => sp ps S' R Z) Z := rfl
theorem e_arN {n : Nat} : arN n sp ps S R Z = (ps.length = n ∧ sp ps S R Z) := rfl
theorem e_p1 {k : PV → Sto → RK → Prop} : p1 k [p] S R Z = k p S R := rfl
theorem e_p2 {k : PV → PV → Sto → RK → Prop} : p2 k [p, q] S R Z = k p q S R := rfl
theorem e_meth {C : Addr} {m : Str} : wMeth C m sp wo wr ρ S R Z = wo ρ S (fun p S1 => methK m p S1 (· = C) ∧ wr ρ S1 (fun ps S2 => sp (p :: ps) S2 R Z) Z) Z := rfl
theorem e_bm {T : String} {k : MSp} : wBM T k wo wr ρ S R Z = wo ρ S (fun p S1 => tyB T (dr S1 p) ∧ wr ρ S1 (fun ps S2 => k p ps S2 R) Z) Z := rfl
theorem e_fld {Cs : List Addr} {f : Str} : wFld Cs f we ρ S R Z = we ρ S (fun p S' => fldK f p S' R (· ∈ Cs)) Z := rfl
theorem e_lc : wLc wI g t we own ρ S R Z = wI ρ S (fun items ok S1 => wLcL ok g t we (wipeP ρ own) (fun ys S2 => R (.lst ys) S2) items [] S1) Z := rfl
theorem e_dc : wDc wI g t wa wb own ρ S R Z = wI ρ S (fun items ok S1 => wDcL ok g t wa wb (wipeP ρ own) (fun ys S2 => R (.dct ys) S2) items [] S1) Z := rfl
theorem e_it : wIt we ρ S RI Z = we ρ S (fun p S' => itK p S' RI) Z := rfl
theorem e_rng1 : wRng1 wa ρ S RI Z = wa ρ S (fun p S' => intB p fun j => (-(2 ^ 62) ≤ j ∧ j < 2 ^ 62) ∧ RI ((List.range j.toNat).map fun (k : Nat) => PV.int (0 + k)) (fun _ => True) S') Z := rfl
theorem e_rng2 : wRng2 wa wb ρ S RI Z = wa ρ S (fun p S1 => wb ρ S1 (fun q S' => intB p fun i => intB q fun j => (-(2 ^ 62) ≤ i ∧ i < 2 ^ 62 ∧ -(2 ^ 62) ≤ j ∧ j < 2 ^ 62) ∧ RI ((List.range (j - i).toNat).map fun (k : Nat) => PV.int (i + k)) (fun _ => True) S') Z) Z := rfl
theorem e_intB {n : Int} {f : Int → Prop} : intB (.int n) f = f n := rfl
theorem e_sl : wSl we wl wh ρ S R Z = we ρ S (fun p S1 => wl ρ S1 (fun lo S2 => wh ρ S2 (fun hi S3 => kSl p lo hi S3 R) Z) Z) Z := rfl
theorem e_no : wNo ρ S RO Z = RO none S := rfl
theorem e_so : wSo we ρ S RO Z = we ρ S (fun p S' => intB p fun i => RO (some i) S') Z := rfl
theorem e_enT {xs : List PV} : wEnum we ρ S RI Z = we ρ S (fun p S' => match p with
  | .lst xs => RI (enumP xs) (fun _ => True) S'
  | .tup xs => RI (enumP xs) (fun _ => True) S'
  | _ => False) Z := rfl
theorem e_sset : wSSet we ρ S R Z = we ρ S (fun p S' => match seqOf (dr S' p) with
  | some xs => match strsOf xs with
    | some ss => ss.length + 1 < scanBound ∧ ∀ zs : List Str, zs.Nodup → sortedS zs = true → (∀ k, k ∈ zs ↔ k ∈ ss) → R (.lst (zs.map PV.str)) S'
    | none => False
  | none => False) Z := rfl
theorem e_yes : wYes ρ S RB Z = RB true S := rfl
theorem e_anm {f : Slots → Prop} : asg (.nm i) p ρ S f = f (ρ.set i (some p)) := rfl
theorem gs_0 {x : Option PV} {r : Slots} : gs (x :: r) 0 = x := rfl
theorem gs_s {x : Option PV} {r : Slots} {n : Nat} : gs (x :: r) (n + 1) = gs r n := rfl
/-- what stands in the store, by its kind -/
theorem dr_int {n : Int} : dr S (.int n) = .int n := rfl
theorem dr_str {x : Str} : dr S (.str x) = .str x := rfl
theorem dr_bl {b : Bool} : dr S (.bl b) = .bl b := rfl
theorem dr_nn : dr S .non = .non := rfl
theorem dr_tup {xs : List PV} : dr S (.tup xs) = .tup xs := rfl
theorem dr_lst {xs : List PV} : dr S (.lst xs) = .lst xs := rfl
theorem dr_dct {xs : List (Key × PV)} : dr S (.dct xs) = .dct xs := rfl
theorem dr_obj {C : Addr} {fs : List (Str × PV)} : dr S (.obj C fs) = .obj C fs := rfl
theorem dr_refL {a : Addr} {xs : List PV} (h : S a = some (.lst xs)) : dr S (.ref a) = .lst xs := by simp only [dr, h]
theorem dr_refD {a : Addr} {xs : List (Key × PV)} (h : S a = some (.dct xs)) : dr S (.ref a) = .dct xs := by simp only [dr, h]
theorem dr_refI {a C : Addr} {fs : List (Str × PV)} (h : S a = some (.ins C fs)) : dr S (.ref a) = .obj C fs := by simp only [dr, h]
/-! ### operators at values -/
theorem k_lt_int {m n : Int} : kLt (.int m) (.int n) S R = R (.bl (decide (m < n))) S := rfl
theorem k_le_int {m n : Int} : kLe (.int m) (.int n) S R = R (.bl (decide (m ≤ n))) S := rfl
theorem k_gt_int {m n : Int} : kGt (.int m) (.int n) S R = R (.bl (decide (n < m))) S := rfl
theorem k_ge_int {m n : Int} : kGe (.int m) (.int n) S R = R (.bl (decide (n ≤ m))) S := rfl
theorem k_lt_str {m n : Str} : kLt (.str m) (.str n) S R = R (.bl (ltS m n)) S := rfl
theorem k_add_int {m n : Int} : kAdd (.int m) (.int n) S R = R (.int (m + n)) S := rfl
theorem k_add_str {m n : Str} : kAdd (.str m) (.str n) S R = (m.length + n.length ≤ sizeLine ∧ R (.str (m ++ n)) S) := rfl
theorem k_add_tup {m n : List PV} : kAdd (.tup m) (.tup n) S R = (m.length + n.length ≤ sizeLine ∧ R (.tup (m ++ n)) S) := rfl
theorem k_add_lst {m n : List PV} : kAdd (.lst m) (.lst n) S R = (m.length + n.length ≤ sizeLine ∧ R (.lst (m ++ n)) S) := rfl
theorem k_sub {m n : Int} : kSub (.int m) (.int n) S R = R (.int (m - n)) S := by show (True ∧ _) = _; simp
theorem k_mul {m n : Int} : kMul (.int m) (.int n) S R = (CMul m n ∧ R (.int (m * n)) S) := rfl
theorem k_div {m n : Int} : kDiv (.int m) (.int n) S R = (CDiv m n ∧ R (.int (m / n)) S) := rfl
theorem k_mod {m n : Int} : kMod (.int m) (.int n) S R = (0 < n ∧ R (.int (m % n)) S) := rfl
theorem k_pow {m n : Int} : kPow (.int m) (.int n) S R = (CPow m n ∧ R (.int (m ^ n.toNat)) S) := rfl
theorem k_neg {m : Int} : kNeg (.int m) S R = R (.int (-m)) S := rfl
theorem k_eq_int {m n : Int} {b : Bool} : kEqA b (.int m) (.int n) S R = R (.bl (decide (m = n) != b)) S := rfl
theorem k_eq_str {m n : Str} {b : Bool} : kEqA b (.str m) (.str n) S R = R (.bl (decide (m = n) != b)) S := rfl
theorem k_is_nn {b : Bool} : kIs b .non .non S R = R (.bl (!b)) S := rfl
theorem k_is_int {b : Bool} {n : Int} : kIs b (.int n) .non S R = R (.bl b) S := rfl
theorem k_is_tup {b : Bool} {n : List PV} : kIs b (.tup n) .non S R = R (.bl b) S := rfl
theorem k_is_obj {b : Bool} {C : Addr} {n : List (Str × PV)} : kIs b (.obj C n) .non S R = R (.bl b) S := rfl
theorem k_ix_lst {xs : List PV} {n : Int} : kIx (.lst xs) (.int n) S R = ∃ z, atI xs n = some z ∧ R z S := rfl
theorem k_ix_tup {xs : List PV} {n : Int} : kIx (.tup xs) (.int n) S R = ∃ z, atI xs n = some z ∧ R z S := rfl
theorem k_ix_str {x : Str} {n : Int} : kIx (.str x) (.int n) S R = (x.length ≤ sizeLine ∧ ∃ c, atI x.cps.toList n = some c ∧ R (.str ⟨#[c]⟩) S) := rfl
theorem k_ix_dct {ks : List (Key × PV)} {n : Str} : kIx (.dct ks) (.str n) S R = ∃ z, dget ks (.inr n) = some z ∧ R z S := rfl
theorem k_ix_ref {a : Addr} {xs : List PV} {n : Int} (h : S a = some (.lst xs)) : kIx (.ref a) (.int n) S R = ∃ z, atI xs n = some z ∧ R z S := by
  unfold kIx
  rw [dr_refL h]
theorem k_len_str {x : Str} : kLen (.str x) S R = (x.length ≤ sizeLine ∧ R (.int x.length) S) := rfl
theorem k_len_lst {x : List PV} : kLen (.lst x) S R = R (.int x.length) S := rfl
theorem k_len_tup {x : List PV} : kLen (.tup x) S R = R (.int x.length) S := rfl
theorem k_len_ref {a : Addr} {xs : List PV} (h : S a = some (.lst xs)) : kLen (.ref a) S R = R (.int xs.length) S := by
  unfold kLen
  rw [dr_refL h]
theorem k_int_int {n : Int} : kInt (.int n) S R = R (.int n) S := rfl
theorem k_int_bl {n : Bool} : kInt (.bl n) S R = R (.int (if n then 1 else 0)) S := rfl
theorem k_abs {n : Int} : kAbs (.int n) S R = R (.int (if n < 0 then -n else n)) S := rfl
theorem k_str_int {n : Int} : kStr (.int n) S R = (n.natAbs.log2 < 1920 ∧ R (.str (toString n)) S) := rfl
theorem k_str_str {n : Str} : kStr (.str n) S R = R (.str n) S := rfl
theorem k_tup_lst {n : List PV} : kTup (.lst n) S R = R (.tup n) S := rfl
theorem k_tup_ref {a : Addr} {xs : List PV} (h : S a = some (.lst xs)) : kTup (.ref a) S R = R (.tup xs) S := by
  unfold kTup
  rw [dr_refL h]
theorem blsOf_map : ∀ bs : List Bool, blsOf (bs.map PV.bl) = some bs
  | [] => rfl
  | b :: bs => by simp [blsOf, blsOf_map bs]
theorem k_all {bs : List Bool} : kAll (.lst (bs.map PV.bl)) S R = R (.bl (bs.all id)) S := by
  unfold kAll
  rw [dr_lst]
  simp only [blsOf_map]
theorem strsOf_map : ∀ bs : List Str, strsOf (bs.map PV.str) = some bs
  | [] => rfl
  | b :: bs => by simp [strsOf, strsOf_map bs]
theorem k_isB_int {x : Int} {n : String} (h : n ∈ tyNames) : kIsB (.int x) (.ty n) S R = R (.bl ("int" == n)) S := by
  show (n ∈ tyNames ∧ R (.bl (isTyB "int" n)) S) = _
  have e : isTyB "int" n = ("int" == n) := by unfold isTyB; simp
  rw [e]
  exact propext ⟨fun h => h.2, fun r => ⟨h, r⟩⟩
theorem k_isB_str {x : Str} {n : String} (h : n ∈ tyNames) : kIsB (.str x) (.ty n) S R = R (.bl ("str" == n)) S := by
  show (n ∈ tyNames ∧ R (.bl (isTyB "str" n)) S) = _
  have e : isTyB "str" n = ("str" == n) := by unfold isTyB; simp
  rw [e]
  exact propext ⟨fun h => h.2, fun r => ⟨h, r⟩⟩
theorem k_isB_tup {x : List PV} {n : String} (h : n ∈ tyNames) : kIsB (.tup x) (.ty n) S R = R (.bl ("tuple" == n)) S := by
  show (n ∈ tyNames ∧ R (.bl (isTyB "tuple" n)) S) = _
  have e : isTyB "tuple" n = ("tuple" == n) := by unfold isTyB; simp
  rw [e]
  exact propext ⟨fun h => h.2, fun r => ⟨h, r⟩⟩
end
end PX
end L2
namespace L2
namespace PX
open PySem PySem.Spec PyProof.Rows
/-- how a def's body ends -/
abbrev fin (R : RK) (Z : ZK) : PEnds := { nx := fun _ S' => wfg R .non S', rt := gR R, ex := fun e _ S' => zfg Z e S' }
theorem gR_now {R : RK} {p : PV} {S : Sto} (h : R p S) : gR R p S := ⟨fun _ => False, p, S, fun _ z => z.elim, .same p, fun _ _ e => e, fun _ z => z.elim, h⟩
theorem wfg_now {R : RK} {p : PV} {S : Sto} (h : R p S) : wfg R p S := ⟨S, fun _ _ e => e, h⟩
/-- leaving more of the store behind -/
theorem gR_sub {R : RK} {p : PV} {S S' : Sto} (u : Sub S' S) (h : R p S') : gR R p S := ⟨fun _ => False, p, S', fun _ z => z.elim, .same p, u, fun _ z => z.elim, h⟩
theorem wfg_sub {R : RK} {p : PV} {S S' : Sto} (u : Sub S' S) (h : R p S') : wfg R p S := ⟨S', u, h⟩
end PX
end L2
namespace L2
namespace PX
open PySem PySem.Spec PyProof.Rows
section
variable {S : Sto} {R : RK} {RI : List PV → (Sto → Prop) → Sto → Prop}
theorem k_it_str {z : Str} : itK (.str z) S RI = RI (z.cps.toList.map fun c => PV.str ⟨#[c]⟩) (fun _ => True) S := rfl
theorem k_it_tup {xs : List PV} : itK (.tup xs) S RI = RI xs (fun _ => True) S := rfl
theorem k_it_lst {xs : List PV} : itK (.lst xs) S RI = RI xs (fun _ => True) S := rfl
theorem k_it_ref {a : Addr} {xs : List PV} (h : S a = some (.lst xs)) : itK (.ref a) S RI = RI xs (fun (S1 : Sto) => S1 a = some (MO.lst xs)) S := by
  unfold itK
  simp only [h]
theorem blsOf_mapF {α : Type} (b : α → Bool) : ∀ xs : List α, blsOf (xs.map fun x => PV.bl (b x)) = some (xs.map b)
  | [] => rfl
  | x :: xs => by simp [blsOf, blsOf_mapF b xs]
theorem k_allM {α : Type} {b : α → Bool} {xs : List α} : kAll (.lst (xs.map fun x => PV.bl (b x))) S R = R (.bl (xs.all b)) S := by
  unfold kAll
  rw [dr_lst]
  simp only [blsOf_mapF, List.all_map]
  rfl
theorem strsOf_mapF {α : Type} (b : α → Str) : ∀ xs : List α, strsOf (xs.map fun x => PV.str (b x)) = some (xs.map b)
  | [] => rfl
  | x :: xs => by simp [strsOf, strsOf_mapF b xs]
end
/-- the same over what the items stand for -/
theorem wLcL_allM {α : Type} {ok : Sto → Prop} {g : Tg} {we : WE} {ρ0 : Slots} {k : List PV → Sto → Prop} (it f : α → PV) {S : Sto} (hok : ok S) (xs : List α)
    (hE : ∀ x ∈ xs, ∀ (R : PV → Sto → Prop), R (f x) S → asg g (it x) ρ0 S fun ρ' => we ρ' S R Z0) (hl : xs.length ≤ sizeLine) (hk : k (xs.map f) S) : wLcL ok g wYes we ρ0 k (xs.map it) [] S := by
  have key : ∀ (ys : List α) (acc : List PV), (∀ x ∈ ys, x ∈ xs) → acc.length + ys.length ≤ sizeLine → k (acc ++ ys.map f) S → wLcL ok g wYes we ρ0 k (ys.map it) acc S := by
    intro ys
    induction ys with
    | nil => intro acc _ _ hk; rw [List.map_nil, List.append_nil] at hk; exact ⟨hok, hk⟩
    | cons x r ih =>
      intro acc hm hl hk
      rw [List.length_cons] at hl
      refine ⟨hok, hE x (hm x List.mem_cons_self) (fun y S3 => acc.length < sizeLine ∧ wLcL ok g wYes we ρ0 k (r.map it) (acc ++ [y]) S3) ⟨by omega, ih (acc ++ [f x]) (fun y hy => hm y (List.mem_cons_of_mem _ hy)) (by rw [List.length_append, List.length_singleton]; omega) ?_⟩⟩
      rw [List.append_assoc]
      exact hk
  exact key xs [] (fun _ h => h) (by simpa using hl) (by simpa using hk)
theorem atI_nn {α : Type} {xs : List α} {i : Int} {j : Nat} {v : α} (hi : i = (j : Int)) (h : xs[j]? = some v) : atI xs i = some v := by subst hi; exact atI_nat h
end PX
end L2
namespace L2
namespace PX
open PySem PySem.Spec PyProof.Rows
section
variable {S : Sto} {R : RK} {p q : PV}
theorem any_eqF (x : Str) : ∀ ts : List Str, ((ts.map PV.str).any fun y => eqF y (.str x)) = decide (x ∈ ts)
  | [] => by simp
  | t :: ts => by
    rw [List.map_cons, List.any_cons, any_eqF x ts]
    show ((t == x) || _) = _
    rw [Bool.eq_iff_iff, Bool.or_eq_true, beq_iff_eq, decide_eq_true_iff, decide_eq_true_iff, List.mem_cons]
    exact ⟨fun h => h.imp Eq.symm id, fun h => h.imp Eq.symm id⟩
theorem all_flatS : ∀ ts : List Str, (ts.map PV.str).all flatP = true
  | [] => rfl
  | t :: ts => by rw [List.map_cons, List.all_cons, all_flatS ts]; rfl
theorem k_in_strs {neg : Bool} {x : Str} {ts : List Str} (h : seqOf (dr S q) = some (ts.map PV.str)) : kIn neg (.str x) q S R = R (.bl (decide (x ∈ ts) != neg)) S := by
  unfold kIn
  cases e : dr S q with
  | tup xs =>
    rw [e] at h
    have e2 : xs = ts.map PV.str := Option.some.inj h
    subst e2
    simp only [any_eqF, all_flatS]
    exact propext ⟨fun z => z.2.2, fun z => ⟨rfl, trivial, z⟩⟩
  | lst xs =>
    rw [e] at h
    have e2 : xs = ts.map PV.str := Option.some.inj h
    subst e2
    simp only [any_eqF, all_flatS]
    exact propext ⟨fun z => z.2.2, fun z => ⟨rfl, trivial, z⟩⟩
  | _ => rw [e] at h; cases h
theorem k_in_dct {neg : Bool} {x : Str} {ks : List (Key × PV)} : kIn neg (.str x) (.dct ks) S R = R (.bl ((dget ks (.inr x)).isSome != neg)) S := rfl
theorem k_len_seq {xs : List PV} (h : seqOf (dr S p) = some xs) : kLen p S R = R (.int xs.length) S := by
  unfold kLen
  cases e : dr S p with
  | tup ys => rw [e] at h; have e2 : ys = xs := Option.some.inj h; subst e2; rfl
  | lst ys => rw [e] at h; have e2 : ys = xs := Option.some.inj h; subst e2; rfl
  | _ => rw [e] at h; cases h
end
end PX
end L2
namespace L2
namespace PX
open PySem PySem.Spec PyProof.Rows
section
variable {S : Sto} {R : RK} {p q : PV}
theorem k_app {a : Addr} {xs : List PV} {y : PV} (h : S a = some (.lst xs)) : kApp (.ref a) [y] S R = (xs.length < sizeLine ∧ R .non (updS S a (.lst (xs ++ [y])))) := by
  unfold kApp
  simp only [h]
theorem k_fldI {f : Str} {a C : Addr} {Cs : List Addr} {fs : List (Str × PV)} {v : PV} (h : S a = some (.ins C fs)) (l : fs.lookup f = some v) (hc : C ∈ Cs) : fldK f (.ref a) S R (· ∈ Cs) = R v S := by
  unfold fldK
  simp only [dr_refI h, l]
  exact propext ⟨fun z => z.2, fun z => ⟨hc, z⟩⟩
theorem k_fldO {f : Str} {C : Addr} {Cs : List Addr} {fs : List (Str × PV)} {v : PV} (l : fs.lookup f = some v) (hc : C ∈ Cs) : fldK f (.obj C fs) S R (· ∈ Cs) = R v S := by
  unfold fldK
  simp only [dr_obj, l]
  exact propext ⟨fun z => z.2, fun z => ⟨hc, z⟩⟩
theorem k_setF {f : Str} {a C : Addr} {Cs : List Addr} {fs : List (Str × PV)} {v : PV} {k : Sto → Prop} (h : S a = some (.ins C fs)) (hc : C ∈ Cs) (hl : fs.length < 1000) : setFK f (.ref a) v S k (· ∈ Cs) = k (updS S a (.ins C (putP f v fs))) := by
  unfold setFK
  simp only [h]
  exact propext ⟨fun z => z.2.2, fun z => ⟨hc, hl, z⟩⟩
theorem k_methI {m : Str} {a C : Addr} {fs : List (Str × PV)} (h : S a = some (.ins C fs)) (l : fs.lookup m = none) : methK m (.ref a) S (· = C) = True := by
  unfold methK
  simp only [dr_refI h, l]
  exact propext ⟨fun _ => trivial, fun _ => ⟨trivial, trivial⟩⟩
theorem k_methO {m : Str} {C : Addr} {fs : List (Str × PV)} (l : fs.lookup m = none) : methK m (.obj C fs) S (· = C) = True := by
  unfold methK
  simp only [dr_obj, l]
  exact propext ⟨fun _ => trivial, fun _ => ⟨trivial, trivial⟩⟩
theorem k_tyB_ref {a : Addr} {xs : List PV} (h : S a = some (.lst xs)) : tyB "list" (dr S (.ref a)) = True := by
  rw [dr_refL h]; exact propext ⟨fun _ => trivial, fun _ => rfl⟩
end
/-- {t: [] for t in ts} -/
theorem dc_lists {ρ0 : Slots} {i : Nat} {k : List (Key × PV) → Sto → Prop} (hg : ∀ p, gs (ρ0.set i (some p)) i = some p) {S : Sto} {ts : List Str} (nd : ts.Nodup) (hz : ts.length ≤ sizeLine)
    (hk : ∀ (As : List (Str × Addr)) (S' : Sto), As.map Prod.fst = ts → (As.map Prod.snd).Nodup → (∀ p ∈ As, S p.2 = none) → (∀ p ∈ As, S' p.2 = some (.lst [])) → (∀ b, b ∉ As.map Prod.snd → S' b = S b) → k (As.map fun p => (.inr p.1, .ref p.2)) S') :
    wDcL (fun _ => True) (.nm i) wYes (wVar i) (wLst wNil) ρ0 k (ts.map PV.str) [] S := by
  have key : ∀ (rest done : List Str) (As : List (Str × Addr)) (S1 : Sto), ts = done ++ rest → As.map Prod.fst = done → (As.map Prod.snd).Nodup → (∀ p ∈ As, S p.2 = none) → (∀ p ∈ As, S1 p.2 = some (.lst [])) → (∀ b, b ∉ As.map Prod.snd → S1 b = S b) →
      wDcL (fun _ => True) (.nm i) wYes (wVar i) (wLst wNil) ρ0 k (rest.map PV.str) (As.map fun p => (.inr p.1, .ref p.2)) S1 := by
    intro rest
    induction rest with
    | nil =>
      intro done As S1 e h1 h2 h3 h4 h5
      rw [List.append_nil] at e
      exact ⟨trivial, hk As S1 (by rw [h1, e]) h2 h3 h4 h5⟩
    | cons t r ih =>
      intro done As S1 e h1 h2 h3 h4 h5
      refine ⟨trivial, ?_⟩
      simp only [↓e_anm, ↓e_yes, if_true, ↓e_var, hg, ↓opt_some, ↓e_lst, ↓e_nil]
      refine ⟨by rw [sizeLine_eq]; decide, fun a ha => ⟨?_, ?_⟩⟩
      · rw [List.length_map]
        have h6 := congrArg List.length h1
        have h7 := congrArg List.length e
        rw [List.length_map] at h6
        rw [List.length_append, List.length_cons] at h7
        omega
      · have hn : a ∉ As.map Prod.snd := fun z => by
          obtain ⟨q, hq, eq⟩ := List.mem_map.mp z
          rw [← eq, h4 q hq] at ha; cases ha
        have hS : S a = none := by rw [← h5 a hn]; exact ha
        have ht : t ∉ done := by
          rw [e] at nd
          exact fun z => (List.nodup_append.mp nd).2.2 t z t List.mem_cons_self rfl
        rw [dput_fresh (fun z => ht (by
          rw [← h1]
          obtain ⟨q, hq, eq⟩ := List.mem_map.mp z
          obtain ⟨q', hq', eq'⟩ := List.mem_map.mp hq
          rw [← eq'] at eq
          cases eq
          exact List.mem_map.mpr ⟨q', hq', rfl⟩))]
        have := ih (done ++ [t]) (As ++ [(t, a)]) (updS S1 a (.lst [])) (by rw [e, List.append_assoc]; rfl) (by rw [List.map_append, h1]; rfl) (by
          rw [List.map_append]
          exact List.nodup_append.mpr ⟨h2, by simp, fun x hx y hy => by
            rcases List.mem_singleton.mp (show y ∈ [a] from hy) with rfl
            exact fun z => hn (z ▸ hx)⟩) (fun p hp => by
          rcases List.mem_append.mp hp with q | q
          · exact h3 p q
          · rcases List.mem_singleton.mp q with rfl; exact hS) (fun p hp => by
          rcases List.mem_append.mp hp with q | q
          · rw [updS_ne (fun z => hn (by rw [← z]; exact List.mem_map.mpr ⟨p, q, rfl⟩))]; exact h4 p q
          · rcases List.mem_singleton.mp q with rfl; exact updS_same) (fun b hb => by
          rw [List.map_append, List.mem_append] at hb
          rw [updS_ne (fun z => hb (.inr (List.mem_singleton.mpr z)))]
          exact h5 b fun z => hb (.inl z))
        rw [List.map_append] at this
        exact this
  exact key ts [] [] S rfl rfl List.nodup_nil (fun p hp => (by cases hp)) (fun p hp => (by cases hp)) fun b _ => rfl
end PX
end L2
namespace L2
namespace PX
open PySem PySem.Spec PyProof.Rows
/-- {k(x): v(x) for x in xs}, the keys all different -/
theorem dc_pure {α : Type} {ok : Sto → Prop} {g : Tg} {wk wv : WE} {ρ0 : Slots} {k : List (Key × PV) → Sto → Prop} (it vl : α → PV) (ky : α → Str) {S : Sto} (hok : ok S) (xs : List α) (nd : (xs.map ky).Nodup)
    (hE : ∀ x ∈ xs, ∀ (R : Key → PV → Sto → Prop), R (.inr (ky x)) (vl x) S → asg g (it x) ρ0 S fun ρ' => wk ρ' S (fun y S3 => wv ρ' S3 (fun z S4 => keyB y fun q => R q z S4) Z0) Z0) (hl : xs.length ≤ sizeLine) (hk : k (xs.map fun x => (.inr (ky x), vl x)) S) :
    wDcL ok g wYes wk wv ρ0 k (xs.map it) [] S := by
  have key : ∀ (rest done : List α), xs = done ++ rest → wDcL ok g wYes wk wv ρ0 k (rest.map it) (done.map fun x => (.inr (ky x), vl x)) S := by
    intro rest
    induction rest with
    | nil => intro done e; rw [List.append_nil] at e; rw [← e]; exact ⟨hok, hk⟩
    | cons x r ih =>
      intro done e
      have hx : x ∈ xs := by rw [e]; exact List.mem_append_right _ List.mem_cons_self
      refine ⟨hok, hE x hx (fun q z S4 => (done.map fun x => ((.inr (ky x) : Key), vl x)).length < sizeLine ∧ wDcL ok g wYes wk wv ρ0 k (r.map it) (dput (done.map fun x => (.inr (ky x), vl x)) q z) S4) ⟨?_, ?_⟩⟩
      · have h7 := congrArg List.length e
        rw [List.length_append, List.length_cons] at h7
        rw [List.length_map]
        omega
      · rw [dput_fresh (fun z => by
          obtain ⟨q, hq, eq⟩ := List.mem_map.mp z
          obtain ⟨q', hq', eq'⟩ := List.mem_map.mp hq
          rw [← eq'] at eq
          have e1 : ky q' = ky x := Sum.inr.inj eq
          rw [e, List.map_append] at nd
          exact (List.nodup_append.mp nd).2.2 (ky q') (List.mem_map.mpr ⟨q', hq', rfl⟩) (ky x) (List.mem_map.mpr ⟨x, List.mem_cons_self, rfl⟩) e1)]
        have := ih (done ++ [x]) (by rw [e, List.append_assoc]; rfl)
        rw [List.map_append] at this
        exact this
  exact key xs [] rfl
end PX
end L2
namespace L2
namespace PX
open PySem PySem.Spec PyProof.Rows
def notKey (f : Str) : List (Str × PV) → Bool
  | [] => true
  | (g, _) :: r => !decide (g = f) && notKey f r
theorem putP_new {f : Str} {v : PV} : ∀ {fs : List (Str × PV)}, notKey f fs = true → putP f v fs = fs ++ [(f, v)]
  | [], _ => rfl
  | (g, w) :: r, h => by
    unfold notKey at h
    rw [Bool.and_eq_true] at h
    unfold putP
    have n : g ≠ f := by simpa using h.1
    rw [if_neg n, putP_new h.2]; rfl
end PX
end L2
namespace L2
namespace PX
open PySem PySem.Spec PyProof.Rows
section
variable {ρ : Slots} {S : Sto} {R : RK} {Z : ZK} {RI : List PV → (Sto → Prop) → Sto → Prop} {we : WE}
def enK (p : PV) (S : Sto) (RI : List PV → (Sto → Prop) → Sto → Prop) : Prop := match p with
  | .lst xs => RI (enumP xs) (fun _ => True) S
  | .tup xs => RI (enumP xs) (fun _ => True) S
  | _ => False
theorem e_enum : wEnum we ρ S RI Z = we ρ S (fun p S' => enK p S' RI) Z := by
  unfold wEnum enK
  rfl
theorem k_en_tup {xs : List PV} : enK (.tup xs) S RI = RI (enumP xs) (fun _ => True) S := rfl
theorem k_en_lst {xs : List PV} : enK (.lst xs) S RI = RI (enumP xs) (fun _ => True) S := rfl
theorem e_atp {is : List Nat} {ps : List PV} {f : Slots → Prop} : asg (.tp is) (.tup ps) ρ S f = (ps.length = is.length ∧ f (setM ρ is ps)) := rfl
theorem setM_nil {ps : List PV} : setM ρ [] ps = ρ := by cases ps <;> rfl
theorem setM_cons {i : Nat} {is : List Nat} {p : PV} {ps : List PV} : setM ρ (i :: is) (p :: ps) = setM (ρ.set i (some p)) is ps := rfl
end
/-- a loop by an invariant -/
theorem wForL_inv {α : Type} {ok : Sto → Prop} {g : Tg} {v : WS} {P : PEnds} (it : α → PV) (I : List α → Slots → Sto → Prop)
    (hI : ∀ x r ρ S, I (x :: r) ρ S → ok S ∧ ∀ N : Slots → Sto → Prop, (∀ ρ' S', I r ρ' S' → N ρ' S') → asg g (it x) ρ S fun ρ' => v { P with nx := N, ct := N, bk := P.nx } ρ' S) (hN : ∀ ρ S, I [] ρ S → ok S ∧ P.nx ρ S) :
    ∀ (xs : List α) (ρ : Slots) (S : Sto), I xs ρ S → wForL ok g v P (xs.map it) ρ S
  | [], ρ, S, h => hN ρ S h
  | x :: r, ρ, S, h => by
    obtain ⟨h1, h2⟩ := hI x r ρ S h
    exact ⟨h1, h2 (wForL ok g v P (r.map it)) fun ρ' S' h' => wForL_inv it I hI hN r ρ' S' h'⟩
end PX
end L2

/-! PX18: a comprehension whose list changes later. -/
namespace L2
namespace PX
open PySem PySem.Spec PyProof.Rows
def wLcM (wi : WI) (g : Tg) (t : WT) (we : WE) (own : List Nat) : WE := fun ρ S R Z => wi ρ S (fun items ok S1 => wLcL ok g t we (wipeP ρ own) (fun ys S2 => ∀ a, S2 a = none → R (.ref a) (updS S2 a (.lst ys))) items [] S1) Z
section
variable {X : Cx} {L : Lc} {elt tg iter c : Expr} {we : WE} {wi : WI} {t : WT} {g : Tg} {pos : Pos}
theorem rs_add {G : Gk} {H : Hp} {S : Sto} {D : Addr} {acc : List PV} {accV : List V} (st : RS G H S) (h : H D = some (.lst accV)) (r : RVs G.K H acc accV) : RS G H (updS S D (.lst acc)) :=
  ⟨fun a o e => by
    by_cases ha : a = D
    · subst ha
      rw [updS_same] at e
      cases e
      exact ⟨accV, h, r⟩
    · rw [updS_ne ha] at e
      exact st.mo a o e, st.tab⟩
theorem lcM_lift {own : List Nat} {σ : L2.St} {H : Hp} {Q : VK} (ho : ∀ i ∈ g.ixs, i ∈ own) (h : LE X.K L (wLcM wi g t we own) σ H Q) : tLc (LI X.K L wi) (gTg X.K g) (LT X.K L.in_ t) (LE X.K L.in_ we) own σ H Q := by
  obtain ⟨ρ, S, R, Z, A, h, q, hZ⟩ := h
  refine ⟨ρ, S, _, Z, A, h, fun items ok S1 J H1 i st yl h1 D hD => ?_, hZ⟩
  have sD : S1 D = none := st.free hD
  have w0 : Imm H1 (upd H1 D (.lst [])) := .of (grow_upd hD)
  refine ⟨fun j m H2 => m = items.length - j ∧ j ≤ items.length ∧ ∃ S2 acc accV, Fr S1 H1 S2 H2 ∧ RSK X.K L H2 S2 ∧ H2 D = some (.lst accV) ∧ RVs X.K H2 acc accV ∧ S2 D = none ∧ wLcL ok g t we (wipeP ρ own) (fun ys S2 => ∀ a, S2 a = none → R (.ref a) (updS S2 a (.lst ys))) (items.drop j) acc S2,
    ⟨_, rfl, Nat.zero_le _, S1, [], [], .grow (grow_upd hD), st.grow (grow_upd hD), upd_same, .nil, sD, h1⟩, ?_⟩
  rintro j m H2 ⟨rfl, hj, S2, acc, accV, f2, st2, hD2, r2, sD2, h2⟩
  have fr2 := f2
  by_cases hlt : j < items.length
  · obtain ⟨x, hx⟩ : ∃ x, items[j]? = some x := ⟨_, List.getElem?_eq_getElem hlt⟩
    have hok := wLcL_ok h2
    rw [drop_cons hx] at h2
    obtain ⟨go, yd⟩ := yl.go j H2 S2 x hx fr2.imm st2 hok
    refine .inr ⟨go, fun H' => ∃ S' acc' accV', Fr S1 H1 S' H' ∧ RSK X.K L H' S' ∧ H' D = some (.lst accV') ∧ RVs X.K H' acc' accV' ∧ S' D = none ∧ wLcL ok g t we (wipeP ρ own) (fun ys S2 => ∀ a, S2 a = none → R (.ref a) (updS S2 a (.lst ys))) (items.drop (j + 1)) acc' S',
      fun H' h' => ⟨items.length - (j + 1), by omega, rfl, hlt, h'⟩, fun y H3 hy => gTg_wipe ho ?_⟩
    obtain ⟨gr, rv⟩ := yd y H3 hy
    have st3 := st2.grow gr
    have f3 : Fr S1 H1 S2 H3 := f2.trans (.grow gr)
    have A3 : At X.K L (L2.wipe σ own) H3 (wipeP ρ own) S2 := (A.fr (i.trans (fr2.trans (.grow gr))) st3).wipe own
    refine asg_of A3 rv h2.2 fun ρ4 σ4 A4 h4 => ?_
    refine ⟨ρ4, S2, _, Z0, A4.in_, h4, fun b S5 H5 i5 st5 h5 => ?_, zc0⟩
    have hD5 : H5 D = some (.lst accV) := i5.keep D _ sD2 (gr _ _ hD2)
    have sD5 : S5 D = none := i5.new D sD2 (by rw [gr _ _ hD2]; simp)
    have f5 := f3.trans i5
    have r5 := (r2.imm (.of gr)).imm i5.imm
    cases b with
    | false => exact iteF ⟨S5, acc, accV, f5, st5, hD5, r5, sD5, h5⟩
    | true =>
      refine iteT ⟨ρ4, S5, _, Z0, (A4.in_.fr i5 st5), h5, fun y S6 v6 H6 i6 st6 ry ⟨hz, h6⟩ => ?_, zc0⟩
      have hD6 : H6 D = some (.lst accV) := i6.keep D _ sD5 hD5
      have sD6 : S6 D = none := i6.new D sD5 (by rw [hD5]; simp)
      have im7 : Imm H6 (upd H6 D (.lst (accV ++ [v6]))) := imm_upd hD6 trivial
      have r6 := r5.imm i6.imm
      have f6 := f5.trans i6
      exact ⟨accV, hD6, by rw [← r6.length]; exact hz, S6, _, _, ⟨f6.imm.trans im7, fun a o n e => by rw [upd_ne (by rintro rfl; rw [hD] at e; cases e)]; exact f6.keep a o n e, f6.new⟩, st6.out sD6 hD6 trivial, upd_same, (r6.imm im7).append (.cons (ry.imm im7) .nil), sD6, h6⟩
  · have e : j = items.length := by omega
    subst e
    rw [List.drop_length] at h2
    refine .inl ⟨yl.stop H2 S2 fr2.imm st2 h2.1, ?_⟩
    have fr' : Fr S1 H1 (updS S2 D (.lst acc)) H2 := ⟨fr2.imm, fr2.keep, fun a n e => by
      by_cases ha : a = D
      · subst ha; exact absurd hD e
      · rw [updS_ne ha]; exact fr2.new a n e⟩
    exact q _ _ _ H2 (i.trans fr') (rs_add st2 hD2 r2) (.ref D) (h2.2 D sD2)
theorem de_lcM {scope : Scope} {ifs : List Expr} (own : List (Str × Nat)) (ns : List Nat) (hns : own.map (·.2) = ns) (hc : X.calm = true) (hN : X.N.Nodup) (hi : DI X L tg iter wi) (ok : BlkOk X.N X.env.scope scope own)
    (hg : ∀ (s : Shared) (H : Hp) (C : Addr) (cl : List (Str × Addr)) (fp : List Addr), TgOk (X.blk s H scope (compEnvC scope cl C X.env) fp) tg g) (ht : ∀ (s : Shared) (H : Hp) (C : Addr) (cl : List (Str × Addr)) (fp : List Addr), DTs (X.blk s H scope (compEnvC scope cl C X.env) fp) L.in_ ifs t)
    (he : ∀ (s : Shared) (H : Hp) (C : Addr) (cl : List (Str × Addr)) (fp : List Addr), DE (X.blk s H scope (compEnvC scope cl C X.env) fp) L.in_ elt we) (ho : ∀ i ∈ g.ixs, i ∈ own.map (·.2) := by decide) (hs : ∀ x, foldedSetIterable iter X.env x = pure x := by intro _; rfl) :
    DE X L (.ListComp elt [⟨tg, iter, ifs, 0⟩] scope pos) (wLcM wi g t we ns) := by
  subst hns
  exact (pe_lc (g := gTg X.K g) (tt := LT X.K L.in_ t) (te := LE X.K L.in_ we) hc hN hi ok hg ht he hs).imp fun σ H Q h => lcM_lift ho h
theorem ds_setLcM (i : Nat) {y : Str} {py spos : Pos} {scope : Scope} {ifs : List Expr} (own : List (Str × Nat)) (ns : List Nat) (hns : own.map (·.2) = ns) (hc : X.calm = true) (hN : X.N.Nodup) (hi : DI X L tg iter wi) (ok : BlkOk X.N X.env.scope scope own)
    (hg : ∀ (s : Shared) (H : Hp) (C : Addr) (cl : List (Str × Addr)) (fp : List Addr), TgOk (X.blk s H scope (compEnvC scope cl C X.env) fp) tg g) (ht : ∀ (s : Shared) (H : Hp) (C : Addr) (cl : List (Str × Addr)) (fp : List Addr), DTs (X.blk s H scope (compEnvC scope cl C X.env) fp) L.in_ ifs t)
    (he : ∀ (s : Shared) (H : Hp) (C : Addr) (cl : List (Str × Addr)) (fp : List Addr), DE (X.blk s H scope (compEnvC scope cl C X.env) fp) L.in_ elt we) (ho : ∀ i ∈ g.ixs, i ∈ own.map (·.2) := by decide) (hy : X.N[i]? = some y := by rfl) (hyl : X.env.scope.names.lookup y = some .local := by rfl)
    (hsw : swapsWith (.ListComp elt [⟨tg, iter, ifs, 0⟩] scope pos) (some (.Name y py)) spos.line X.env = pure true := by exact sw_true rfl rfl rfl (by decide +kernel)) (hs : ∀ x, foldedSetIterable iter X.env x = pure x := by intro _; rfl) :
    DS X L (.Assign [.Name y py] (.ListComp elt [⟨tg, iter, ifs, 0⟩] scope pos) spos) (wSet i (wLcM wi g t we ns)) := by
  subst hns
  exact (ps_setLc (g := gTg X.K g) (tt := LT X.K L.in_ t) (te := LE X.K L.in_ we) hc hN hy hyl hsw hi ok hg ht he hs).imp fun D σ H h => by
    have h1 := ls_set h
    exact lcM_lift (Q := fun x H1 => gName i x σ H1 D.nx) ho h1
theorem e_lcM {wI : WI} {own : List Nat} {ρ : Slots} {S : Sto} {R : RK} {Z : ZK} : wLcM wI g t we own ρ S R Z = wI ρ S (fun items ok S1 => wLcL ok g t we (wipeP ρ own) (fun ys S2 => ∀ a, S2 a = none → R (.ref a) (updS S2 a (.lst ys))) items [] S1) Z := rfl
end
end PX
end L2

/-! PX19: exceptions of the program: raise, try .. as. -/
namespace L2
namespace PX
open PySem PySem.Spec PyProof.Rows ClX
/-! ### an exception's dict stands still from its making on -/
section
variable {X : Cx} {pins : List (Addr × Obj)} {σ : L2.St} {H : Hp} {s : Shared}
theorem Inv.ghostX {d : Addr} {gs : List (Str × V)} {o : Obj} (I : Inv X pins σ H s) (hd : H d = some (.xd gs)) (ho : s.heap.get? d = some o) : Inv X pins σ (upd H d (.frz o (.xd gs))) s := by
  have non : ∀ a, H a = none → upd H d (.frz o (.xd gs)) a = none := fun a e => by
    rw [upd_ne fun z => by rw [z, hd] at e; cases e]; exact e
  have np : ∀ a w, H a = some w → (∀ fs, w ≠ .xd fs) → upd H d (.frz o (.xd gs)) a = some w := fun a w e n => by
    rw [upd_ne fun z => by rw [z, hd] at e; cases e; exact n _ rfl]; exact e
  have ok : ∀ a u, ObjOk X.prog X.w H s.heap a u → ObjOk X.prog X.w (upd H d (.frz o (.xd gs))) s.heap a u := fun a u x => x.stay (fun b v _ q => q) (fun b q => np b _ q fun _ z => (nomatch z)) fun b xs q => np b _ q fun _ z => (nomatch z)
  refine ⟨I.ok, I.os, I.bare, ⟨I.base.keep, I.base.slot, fun b o e n hx => non b (I.base.free b o e n hx), I.base.there, fun b xs e => np b _ (I.base.tups b xs e) fun _ z => (nomatch z), fun b o u e => np b _ (I.base.frzs b o u e) fun _ z => (nomatch z), fun b ps e => ?_⟩,
    I.loc, I.cell, non _ I.free, fun x c e => non _ (I.freeC x c e), fun p hp => ?_, fun a u e => ?_, I.len⟩
  · obtain ⟨more, q⟩ := I.base.tbls b ps e
    exact ⟨more, np b _ q fun _ z => (nomatch z)⟩
  · obtain ⟨h1, h2, h3⟩ := I.pin p hp
    exact ⟨h1, non _ h2, h3⟩
  · by_cases ha : a = d
    · subst ha
      rw [upd_same] at e; cases e
      exact ⟨ho, ok a _ (I.hok a _ hd)⟩
    · rw [upd_ne ha] at e
      exact ok a u (I.hok a u e)
def frK (Q : XK) : XK := fun cls d H => match d with
  | none => Q cls none H
  | some dd => ∃ gs, H dd = some (.xd gs) ∧ ∀ o, Q cls (some dd) (upd H dd (.frz o (.xd gs)))
theorem pmk_frz {e : Expr} {t : L2.St → Hp → XK → Prop} (h : PMk X e t) : PMk X e (fun σ H Q => t σ H (frK Q)) := fun pins s σ H Q I q => thn (h pins s σ H _ I q) fun u s' ⟨a, oe, vs, sI, H', cls, d, eu, J, k, hne, ha, hz, hd, h1, na, os, ag, r, q⟩ => by
  cases d with
  | none => exact ⟨a, oe, vs, sI, H', cls, none, eu, J, k, hne, ha, hz, hd, h1, na, os, ag, r, q⟩
  | some dd =>
    obtain ⟨gs, hg, q⟩ := q
    have hx : ObjOk X.prog X.w H' sI.heap dd (.xd gs) := J.hok dd _ hg
    obtain ⟨mA, hns, hr⟩ := hx
    obtain ⟨od, ho, hl⟩ := lookIn_ns hns
    exact ⟨a, oe, vs, sI, _, cls, some dd, eu, Inv.ghostX J hg ho, k, hne, ha, hz, hd, h1, (by rw [upd_ne fun z => by rw [z, hg] at na; cases na]; exact na), os, ag, r, q od⟩
end
/-! ### what a class of exceptions must have -/
def oexB (K : PySem.W.Frag) (C : Addr) : Bool := (match K.lookup C with
  | some ⟨.type "type", _, .cls cd, sl⟩ => (match cd.mro, sl.toList with
    | .ref C' :: bm, [_, _, _, _, some (.builtin n), _] => C' == C && n == "ValueError.__new__" && !cd.hasDel && cd.hasDict && PySem.HandSPX.refsVE bm
    | _, _ => false)
  | _ => false) && (decide (PySem.W.findIn K (.ref C) "__setattr__" = some (some (.builtin "object.__setattr__"))) && (decide (PySem.W.subIn K (.ref C) (.type "BaseException") = some true) && (decide (PySem.W.typeIn K (.ref C) = some (.type "type")) && PySem.W.keepIn K (.ref C))))
theorem oexB_ok {K : PySem.W.Frag} {C : Addr} (h : oexB K C = true) : OexC K C := by
  obtain ⟨q, h⟩ := Bool.and_eq_true_iff.mp h
  obtain ⟨h2, h⟩ := Bool.and_eq_true_iff.mp h
  obtain ⟨h3, h⟩ := Bool.and_eq_true_iff.mp h
  obtain ⟨h4, h5⟩ := Bool.and_eq_true_iff.mp h
  refine ⟨?_, of_decide_eq_true h2, of_decide_eq_true h3, of_decide_eq_true h4, h5⟩
  split at q
  · rename_i dd cd sl ho
    split at q
    · rename_i C' bm k0 k1 k2 k3 n k5 hm hs
      simp only [Bool.and_eq_true, beq_iff_eq, Bool.not_eq_true'] at q
      obtain ⟨⟨⟨⟨rfl, rfl⟩, hdel⟩, hdd⟩, ht⟩ := q
      obtain ⟨nm, bs, mro, ns, qn, hd, sn, sub, ab, col, del⟩ := cd
      dsimp only at hm hdel hdd
      subst hm hdel hdd
      have hsl : sl = #[k0, k1, k2, k3, some (.builtin "ValueError.__new__"), k5] := by
        obtain ⟨l⟩ := sl
        simp only at hs
        rw [hs]
      subst hsl
      exact ⟨nm, qn, ns, bs, bm, sn, sub, ab, col, dd, k0, k1, k2, k3, k5, ho, ht⟩
    · cases q
  · cases q
/-- __init__ of the class -/
def iniB (K : PySem.W.Frag) (C fI : Addr) : Bool := decide (PySem.W.findIn K (.ref C) "__init__" = some (some (.ref fI))) && decide (PySem.W.typeIn K (.ref fI) = some (.type "function"))
/-- D.__init__ read off the class -/
def clfB (K : PySem.W.Frag) (D : Addr) (m : Str) (f : Addr) : Bool := PySem.W.readsIn K D (.type "type") && (decide (PySem.W.specialIn K (.ref D) "__getattribute__" = some (some (.builtin "type.__getattribute__"))) && (match PySem.W.findCls K (.ref D) (.type "type") m with
  | some (.val u) => decide (u = .ref f)
  | _ => false))
theorem clfB_ok {K : PySem.W.Frag} {D f : Addr} {m : Str} (h : clfB K D m f = true) : CRead K D (.type "type") ∧ CVal K D (.type "type") m (.ref f) (.ref f) := by
  obtain ⟨h1, h⟩ := Bool.and_eq_true_iff.mp h
  obtain ⟨h2, h3⟩ := Bool.and_eq_true_iff.mp h
  refine ⟨⟨h1, of_decide_eq_true h2⟩, ?_, rfl⟩
  split at h3
  · rename_i u e
    rw [e, of_decide_eq_true h3]
  · cases h3
section
variable {P : Program} {w : World} {K : PySem.W.Frag} {mg : Str → Option Value} {base : Heap}
theorem passesF {X : Cx} : Passes (CX X.prog X.w) X (fun _ _ _ => False) := fun _ _ _ _ _ _ _ ⟨_, _, _, _, _, _, _, _, _, _, _, _, z⟩ => z.elim
/-- a promise of a def at the level of the heap -/
structure FnH (P : Program) (w : World) (K : PySem.W.Frag) (mg : Str → Option Value) (base : Heap) (lv : Nat) (at_ : Str × Option Str) (pn : List Str) (sp : Sp) : Prop where
  ex : ∃ fd, FnOk P w K mg base (CX P w) lv (He.fAd K at_) fd pn sp ∧ Binds K fd pn [] ∧ PySem.W.keepIn K (.ref (He.fAd K at_)) = true
/-- D.m(e, ..), a def of the class read off it -/
theorem pe_clf {X : Cx} {k : Nat} {D f : Addr} {fd : FuncData} {ps : List Str} {sp : Sp} {x m : Str} {e : Expr} {es : List Expr} {t : TA} {np apos pos : Pos} {pl : Sem Bool} (hg : Gl X x) (hm : X.mg x = some (.ref D)) (r : CRead X.K D (.type "type")) (c : CVal X.K D (.type "type") m (.ref f) (.ref f))
    (F : FnOk X.prog X.w X.K X.mg X.base (CX X.prog X.w) k f fd ps sp) (hr : Room k X.A) (hb : Binds X.K fd ps []) (hk : PySem.W.keepIn X.K (.ref f) = true) (ha : PA X (e :: es) t) (hdb : (x == ("__debug__" : Str)) = false := by decide)
    (hst : starEach (e :: es) X.env = (false, eval e X.env) :: starEach es X.env := by rfl) (hpl : (backTo pos (starEach es X.env)).any (·.1) = false := by rfl)
    (ht : eval (.Call (.Attribute (.Name x np) m apos) (e :: es) [] pos) X.env = (do
      let ov ← eval (.Name x np) X.env
      standAt apos.atName
      let (f, first) ← holding [ov] (getMethod ov m pl)
      callWith pos f first (backTo pos (starEach (e :: es) X.env)) (backToKw pos (keywordEach [] X.env))) := by rfl) :
    PE X (.Call (.Attribute (.Name x np) m apos) (e :: es) [] pos) (fun σ H Q => t σ H fun vs H1 => sp vs H1 Q fun _ _ _ => False) := by
  refine ⟨fun pins s σ H Q I h => ?_⟩
  refine PySem.W.methodCall_KW (pl := pl) (ld_glob I hg hm ?_ hdb) ht
  refine PySem.W.method_cls I.kIn r.ga (getcval_ok I r c fun s2 I2 => ?_)
  refine PySem.W.callWith_K (h₀ := X.base) I2.ok.mod.kin hk (thn (ha.run pos pins s2 σ H _ I2 h) fun us s3 ⟨vs, H2, I3, rv, q2⟩ => ⟨I3.kIn, ?_⟩) hst hpl
  exact run_fn F hr hb .nil passesF I3 rv (by rw [List.append_nil]; exact q2)
/-- __init__(self) of the first class over ValueError -/
def spX0 (K : PySem.W.Frag) : Sp := fun vs H Q _ => ∃ a C, vs = [.ref a] ∧ OexC K C ∧ H a = some (exo a C none) ∧ Q .non H
/-- __init__(self, v) of a class over it, v kept by the name f -/
def spX1 (K : PySem.W.Frag) (f : Str) : Sp := fun vs H Q _ => ∃ a C v, vs = [.ref a, v] ∧ OexC K C ∧ PySem.W.findIn K (.ref C) f = some none ∧ H a = some (exo a C none) ∧ ∀ dx, H dx = none → dx ≠ a → Q .non (upd (upd H dx (exd dx [(f, v)])) a (exo a C (some dx)))
theorem fnX0 {x qual : Str} {params : Arguments} {body : List Stmt} {scope : Scope} {f : Addr} {fd : FuncData} {N : List Str} (F : FunD K x qual params body scope [] [] f fd) (S : FnScope N ["self"] scope)
    (hb : ∀ (cdv : Value) (A : Around) (outer : List Env) (s : Shared) (H : Hp) (E : XK), PSs (cxOf (CX P w) P w K mg base N qual scope f cdv A outer s H E) body (tSeq (tDrop (tVeI K (tCons (tVar 0) tNil))) tNext)) : FnOk P w K mg base (CX P w) 1 f fd ["self"] (spX0 K) := by
  refine F.ok S (fun vs H Q E ⟨a, C, e, _⟩ => by rw [e]; rfl) fun cdv A outer s H vs Q E hr ⟨a, C, e, T, h1, q⟩ => ⟨_, hb cdv A outer s H E, ?_⟩
  subst e
  exact ⟨.ref a, rfl, a, C, [], rfl, Nat.zero_le _, T, h1, q⟩
theorem fnX1 {x qual fld : Str} {params : Arguments} {body : List Stmt} {scope : Scope} {f : Addr} {fd : FuncData} {N pn : List Str} (F : FunD K x qual params body scope [] [] f fd) (S : FnScope N pn scope) (hn : pn.length = 2)
    (hb : ∀ (cdv : Value) (A : Around) (outer : List Env) (s : Shared) (H : Hp) (E : XK), Room 1 (A.deeper (envOfC qual scope s.heap.objs.size f cdv)) →
      PSs (cxOf (CX P w) P w K mg base N qual scope f cdv A outer s H E) body (tSeq (tDrop (fun σ H Q => tCons (tVar 0) tNil σ H fun vs H1 => spX0 K vs H1 Q fun _ _ _ => False)) (tSeq (tOst K fld (tVar 0) (tVar 1)) tNext))) : FnOk P w K mg base (CX P w) 2 f fd pn (spX1 K fld) := by
  refine F.ok S (fun vs H Q E ⟨a, C, v, e, _⟩ => by rw [e]; exact hn.symm) fun cdv A outer s H vs Q E hr ⟨a, C, v, e, T, hno, h1, q⟩ => ⟨_, hb cdv A outer s H E hr, ?_⟩
  subst e
  exact ⟨.ref a, rfl, a, C, rfl, T, h1, v, rfl, .ref a, rfl, a, C, rfl, T, hno, .inl ⟨h1, fun dx n ne => q dx n ne⟩⟩
end
/-! ### raise C(e) -/
def wRaise1 (C : Addr) (f : Str) (we : WE) : WS := fun P ρ S => we ρ S (fun p S' => P.ex ⟨C, [(f, p)]⟩ ρ S') (fun e S' => P.ex e ρ S')
section
variable {X : Cx} {L : Lc}
theorem ds_raise1 {lv : Nat} {C : Addr} {f x : Str} {at_ : Str × Option Str} {pn : List Str} {e : Expr} {we : WE} {p cpos pos : Pos} (hc : X.calm = true) (tk : Takes X L.W) (T : OexC X.K C) (ini : iniB X.K C (He.fAd X.K at_) = true) (hno : PySem.W.findIn X.K (.ref C) f = some none)
    (F : FnH X.prog X.w X.K X.mg X.base lv at_ pn (spX1 X.K f)) (hr : Room (lv + 1) X.A) (hm : X.mg x = some (.ref C)) (he : DE X L e we) (hg : Gl X x := by rfl) (hdb : (x == ("__debug__" : Str)) = false := by decide)
    (hs1 : starEach [e] X.env = (false, eval e X.env) :: starEach [] X.env := by rfl) : DS X L (.Raise (some (.Call (.Name x p) [e] [] cpos)) none pos) (wRaise1 C f we) := by
  obtain ⟨fd, F, hb, _⟩ := F.ex
  obtain ⟨i1, i2⟩ := Bool.and_eq_true_iff.mp ini
  refine (ps_raise hc tk (pmk_frz (pmk_oex (dvs := []) T (of_decide_eq_true i1) (of_decide_eq_true i2) F hr hb .nil passesF hg hm (da_cons he da_nil hs1) hdb hs1))).imp fun D σ H ⟨ρ, S, P, A, h, E⟩ => ?_
  refine ⟨ρ, S, fun ps S' => match ps with
    | [q] => P.ex ⟨C, [(f, q)]⟩ ρ S'
    | _ => False, fun e S' => P.ex e ρ S', A, h, fun ps S1 vs H1 i st rv hq => ?_, E.zc A⟩
  obtain ⟨q, rfl⟩ : ∃ q, ps = [q] := by
    rcases ps with _ | ⟨q, _ | ⟨r, t⟩⟩
    · exact hq.elim
    · exact ⟨q, rfl⟩
    · exact hq.elim
  cases rv with | cons r rr =>
  cases rr
  rename_i v
  refine ⟨Nat.succ_le_succ (Nat.zero_le _), fun a ha => ⟨a, C, v, rfl, T, hno, upd_same, fun dx hdx ne => ⟨rfl, dx, [(f, v)], upd_same, ?_, ?_, [(f, v)], upd_same, fun o => ?_⟩⟩⟩
  · rw [upd_ne ne]; exact upd_same
  · rw [upd_ne ne] at hdx; exact hdx
  have hdx' : H1 dx = none := by rw [upd_ne ne] at hdx; exact hdx
  have gr : Grow H1 (upd (upd (del (upd (upd (upd H1 a (exo a C none)) dx (exd dx [(f, v)])) a (exo a C (some dx))) a) dx (.xd [(f, v)])) dx (.frz o (.xd [(f, v)]))) := fun b u e => by
    have n1 : b ≠ dx := fun z => by rw [z, hdx'] at e; cases e
    have n2 : b ≠ a := fun z => by rw [z, ha] at e; cases e
    rw [upd_ne n1, upd_ne n1, del_ne n2, upd_ne n2, upd_ne n1, upd_ne n2]; exact e
  have i2 : Fr S H S1 _ := i.trans (.grow gr)
  exact E.ex _ ρ S1 _ _ σ _ i2 (A.fr i2 (st.grow gr)) ⟨rfl, o, [(f, v)], upd_same, .cons (r.imm (.of gr)) .nil⟩ hq
/-! ### try: .. except C as n: .. -/
def wTryA (K : PySem.W.Frag) (body : WS) (i : Nat) (C : Addr) (su : Addr → Exc → WS) : WS := fun P ρ S => body { P with ex := fun e ρ' S' => ∃ b, PySem.W.exmOne K (.ref e.cls) (.ref C) = some b ∧
  (b = true → ∀ a, su a e { nx := fun ρ2 S2 => P.nx (ρ2.set i none) S2, rt := P.rt, bk := fun ρ2 S2 => P.bk (ρ2.set i none) S2, ct := fun ρ2 S2 => P.ct (ρ2.set i none) S2 } (ρ'.set i (some (.ref a))) S') ∧ (b = false → P.ex e ρ' S') } ρ S
def Lsu (K : PySem.W.Frag) (L : Lc) (e : Exc) (cls : Value) (d : Option Addr) : Lc := ⟨L.T, fun _ _ _ _ => False, ⟨fun H => L.J.p H ∧ RX K H e cls d, fun H H' i h => ⟨L.J.st _ _ i h.1, h.2.imm i⟩⟩⟩
def Lbd (L : Lc) (W : WX) : Lc := ⟨L.T, W, L.J⟩
theorem ds_tryA (i : Nat) {n x : Str} {C : Addr} {body suite : List Stmt} {b₀ : Stmt} {np pos pos' : Pos} {wb : WS} {su : Addr → Exc → WS} (hs : X.stack = X.env :: X.outer) (hf : X.env.frame = some X.env.locals) (hN : X.N.Nodup) (hi : X.N[i]? = some n) (hln : X.env.kindOf n = some .local)
    (hm : X.mg x = some (.ref C)) (tk : Takes X L.W) (hb : ∀ (W : WX) (pn : List (Addr × Obj)) (xe : Value → Shared → Prop), Takes (X.tr pn xe) W → DSs (X.tr pn xe) (Lbd L W) body wb)
    (hsu : ∀ (a : Addr) (oe : Obj) (cls : Value) (d : Option Addr) (pn : List (Addr × Obj)) (e : Exc), Zc cls d oe → (∃ vs, oe.data = .fields vs) → DSs (X.suite a ((a, oe) :: pn)) (Lsu X.K L e cls d) (b₀ :: suite) (su a e))
    (hg : Gl X x := by rfl) (hdb : (x == ("__debug__" : Str)) = false := by decide) :
    DS X L (.Try body [.ExceptHandler (some (.Name x np)) (some n) (b₀ :: suite) pos'] [] [] pos) (wTryA X.K wb i C su) := by
  have hsu' : ∀ (a : Addr) (oe : Obj) (cls : Value) (d : Option Addr) (pn : List (Addr × Obj)), Zc cls d oe → (∃ vs, oe.data = .fields vs) → PSs (X.suite a ((a, oe) :: pn)) (b₀ :: suite) (fun D σ H => ∃ e, LS X.K (Lsu X.K L e cls d) (su a e) D σ H) :=
    fun a oe cls d pn hz hf => ⟨fun pins s σ H D I ⟨e, h⟩ => (hsu a oe cls d pn e hz hf).run pins s σ H D I h⟩
  refine (ps_try_as hs hf hN hi hln ⟨hg, hdb, .inl hm⟩ tk (tb := fun W => LS X.K (Lbd L W) wb) (fun W pn xe tk' _ => hb W pn xe tk') hsu').imp fun D σ H ⟨ρ, S, P, A, h, E⟩ => ?_
  refine ⟨ρ, S, _, ⟨A.sl, A.st, A.j⟩, h, ⟨fun ρ1 S1 σ1 H1 i1 A1 h1 => E.nx ρ1 S1 σ1 H1 i1 ⟨A1.sl, A1.st, A1.j⟩ h1, E.rt, fun ρ1 S1 σ1 H1 i1 A1 h1 => E.bk ρ1 S1 σ1 H1 i1 ⟨A1.sl, A1.st, A1.j⟩ h1, fun ρ1 S1 σ1 H1 i1 A1 h1 => E.ct ρ1 S1 σ1 H1 i1 ⟨A1.sl, A1.st, A1.j⟩ h1, ?_⟩⟩
  intro e ρ1 S1 cls d σ1 H1 i1 A1 rx ⟨b, hb1, hyes, hno⟩
  refine ⟨b, by rw [rx.1]; exact hb1, fun z a na => ⟨e, ρ1.set i (some (.ref a)), S1, _, ⟨A1.sl.set (.ref a), A1.st, A1.j, rx⟩, hyes z a, ?_⟩, fun z => E.ex e ρ1 S1 cls d σ1 H1 i1 ⟨A1.sl, A1.st, A1.j⟩ rx (hno z)⟩
  refine ⟨fun ρ2 S2 σ2 H2 i2 A2 h2 => E.nx _ S2 _ H2 (i1.trans i2) ⟨A2.sl.wipe [i], A2.st, A2.j.1⟩ h2, fun p S2 v H2 i2 => E.rt p S2 v H2 (i1.trans i2), fun ρ2 S2 σ2 H2 i2 A2 h2 => E.bk _ S2 _ H2 (i1.trans i2) ⟨A2.sl.wipe [i], A2.st, A2.j.1⟩ h2, fun ρ2 S2 σ2 H2 i2 A2 h2 => E.ct _ S2 _ H2 (i1.trans i2) ⟨A2.sl.wipe [i], A2.st, A2.j.1⟩ h2, fun _ _ _ _ _ _ _ _ _ _ z => z⟩
/-! ### the caught exception looked at -/
def wExF (K : PySem.W.Frag) (i : Nat) (a : Addr) (e : Exc) (f : Str) : WE := fun ρ S R _ => gs ρ i = some (.ref a) ∧ XfC K e.cls ∧ PySem.W.findIn K (.ref e.cls) f = some none ∧ ∃ p, e.fs.lookup f = some p ∧ R p S
theorem de_exf (i : Nat) {a : Addr} {oe : Obj} {cls : Value} {d : Option Addr} {pn : List (Addr × Obj)} {ex : Exc} {n f : Str} {np pos : Pos} (hz : Zc cls d oe) (hf : ∃ vs, oe.data = .fields vs)
    (hN : X.N[i]? = some n := by rfl) (hv : Vis X.env.scope n := by first | exact Or.inl rfl | exact Or.inr (Or.inl rfl) | exact Or.inr (Or.inr rfl)) (hd : (n == ("__debug__" : Str)) = false := by decide) (hcd : (n == ("__classdict__" : Str)) = false := by decide)
    (hb : attributeBase (.Name n np) f X.env (eval (.Name n np) X.env) = eval (.Name n np) X.env := by rfl) : DE (X.suite a ((a, oe) :: pn)) (Lsu X.K L ex cls d) (.Attribute (.Name n np) f pos) (wExF X.K i a ex f) := by
  refine ⟨fun pins s σ H Q I ⟨ρ, S, R, Z, A, ⟨h1, T, hno, p, hl, hR⟩, q, hZ⟩ => ?_⟩
  obtain ⟨v, e1, r1⟩ := A.sl.at_ i _ (gs_eq h1)
  cases r1
  have hn := (pe_var (X := X.suite a ((a, oe) :: pn)) (i := i) (pos := np) hN hv hd hcd).run pins s σ H (fun x H1 => x = .ref a ∧ H1 = H) I ⟨.ref a, e1, rfl, rfl⟩
  refine attr_of hb (thn hn fun u s1 ⟨x, H1, I1, rx, ex1, eh⟩ => ?_)
  subst ex1 eh
  obtain rfl : u = Value.ref a := rx
  obtain ⟨_, ec, rx2⟩ := A.j
  subst ec
  obtain ⟨ha, _⟩ := I1.pin (a, oe) (List.mem_append_left _ List.mem_cons_self)
  cases d with
  | none => rw [show ex.fs = [] from rx2] at hl; cases hl
  | some dd =>
    obtain ⟨o, gs', hfr, pr⟩ := rx2
    obtain ⟨v, hlv, rv⟩ := pr.look.1 p hl
    obtain ⟨ho0, hx⟩ : s1.heap.get? dd = some o ∧ ObjOk X.prog X.w H1 s1.heap dd (.xd gs') := I1.hok dd _ hfr
    obtain ⟨mA, hns, hr⟩ := hx
    obtain ⟨od, ho, hlo⟩ := lookIn_ns hns
    obtain ⟨u, hu, ru⟩ := RelO.some_of (v := v) (o := mA f) (by rw [← hlv]; exact hr f)
    obtain ⟨vs, hdt⟩ := hf
    have J : PySem.W.InstAt s1.heap a oe ex.cls (some od) := ⟨ha, hz.1, by unfold PySem.W.notCls; rw [hdt] <;> rfl, by rw [hz.2]; exact ho⟩
    exact HandSPX.exc_get I1.kIn J T.ga T.gg T.exC (PySem.W.findObj_own T.hdC hno rfl (by rw [hlo, hu])) (handed_of ru) ⟨v, H1, I1.tok _, ru, q p S v H1 (.refl S H1) A.st rv hR⟩
def wExI (K : PySem.W.Frag) (i : Nat) (a : Addr) (e : Exc) (D : Addr) : WE := fun ρ S R _ => gs ρ i = some (.ref a) ∧ ExcC K e.cls ∧ ∃ b, PySem.W.kitOne K (.ref e.cls) (.ref D) = some b ∧ R (.bl b) S
theorem call_isEd {a : Addr} {oe : Obj} {cls : Value} {d : Option Addr} {pn : List (Addr × Obj)} {ex : Exc} (hz : Zc cls d oe) (hf : ∃ vs, oe.data = .fields vs) : CallR (X.suite a ((a, oe) :: pn)) (.builtin "isinstance")
    (fun xs H Q => RX X.K H ex cls d ∧ ExcC X.K ex.cls ∧ ∃ (D : Addr) (b : Bool), xs = [.ref a, .ref D] ∧ PySem.W.kitOne X.K (.ref ex.cls) (.ref D) = some b ∧ Q (.bl b) H) := by
  intro pins s σ H xs us Q I r ⟨rx, C, D, b, exs, e, q⟩
  subst exs
  obtain ⟨u, v, rfl, ru, rv⟩ := vals2 r
  obtain rfl : u = Value.ref a := ru
  obtain rfl : v = Value.ref D := rv
  obtain ⟨ec, rx2⟩ := rx
  subst ec
  obtain ⟨hget, _⟩ := I.pin (a, oe) (List.mem_append.mpr (.inl List.mem_cons_self))
  obtain ⟨vs, hv⟩ := hf
  obtain ⟨od, J⟩ : ∃ od, PySem.W.InstAt s.heap a oe ex.cls od := by
    cases d with
    | none => exact ⟨none, hget, hz.1, by unfold PySem.W.notCls; rw [hv] <;> rfl, by rw [hz.2]; trivial⟩
    | some dd =>
      obtain ⟨o, gs', hfr, _⟩ := rx2
      obtain ⟨ho0, _⟩ : s.heap.get? dd = some o ∧ ObjOk X.prog X.w H s.heap dd (.xd gs') := I.hok dd _ hfr
      exact ⟨some o, hget, hz.1, by unfold PySem.W.notCls; rw [hv] <;> rfl, by rw [hz.2]; exact ho0⟩
  have hcl : (PySem.W.clsIn X.K ex.cls).isSome = true := by
    obtain ⟨cd, hc, _⟩ := PySem.W.any_some C.hd
    rw [hc]; rfl
  exact PySem.W.kia_one (PySem.W.kitx_exc hcl C.hg C.hk C.hs C.ha C.hn C.ht C.hm) I.kIn J e (fun z => nomatch z) fun tk => ⟨.bl b, H, I.kept (t' := tk) fun _ _ z => z, rfl, q⟩
theorem de_exi (i : Nat) {a : Addr} {oe : Obj} {cls : Value} {d : Option Addr} {pn : List (Addr × Obj)} {ex : Exc} {n y : Str} {D : Addr} {np yp p pos : Pos} (hz : Zc cls d oe) (hf : ∃ vs, oe.data = .fields vs) (hm : X.mg "isinstance" = none) (hD : X.mg y = some (.ref D))
    (hN : X.N[i]? = some n := by rfl) (hv : Vis X.env.scope n := by first | exact Or.inl rfl | exact Or.inr (Or.inl rfl) | exact Or.inr (Or.inr rfl)) (hgi : Gl X "isinstance" := by rfl) (hgy : Gl X y := by rfl) (hd : (n == ("__debug__" : Str)) = false := by decide) (hcd : (n == ("__classdict__" : Str)) = false := by decide) (hdy : (y == ("__debug__" : Str)) = false := by decide)
    (he : starEach [.Name n np, .Name y yp] X.env = (false, eval (.Name n np) X.env) :: starEach [.Name y yp] X.env := by rfl) (he2 : starEach [.Name y yp] X.env = (false, eval (.Name y yp) X.env) :: starEach [] X.env := by rfl) (hpl : (backTo pos (starEach [.Name y yp] X.env)).any (·.1) = false := by rfl) :
    DE (X.suite a ((a, oe) :: pn)) (Lsu X.K L ex cls d) (.Call (.Name "isinstance" p) [.Name n np, .Name y yp] [] pos) (wExI X.K i a ex D) := by
  have h := pe_callB (X := X.suite a ((a, oe) :: pn)) (p := p) (pos := pos) (call_isEd (X := X) (ex := ex) (pn := pn) hz hf) hgi hm boot_isinstance (pa_cons (pe_var (X := X.suite a ((a, oe) :: pn)) (i := i) (pos := np) hN hv hd hcd) (pa_cons (pe_glob (X := X.suite a ((a, oe) :: pn)) (v := .ref D) (pos := yp) hgy hD rfl hdy) pa_nil he2) he) (by decide) (by decide) he hpl
  refine h.imp fun σ H Q ⟨ρ, S, R, Z, A, ⟨h1, C, b, hk, hR⟩, q, hZ⟩ => ?_
  obtain ⟨v, e1, r1⟩ := A.sl.at_ i _ (gs_eq h1)
  cases r1
  exact ⟨.ref a, e1, A.j.2, C, D, b, rfl, hk, q (.bl b) S (.bl b) H (.refl S H) A.st (.bl b) hR⟩
end
end PX
end L2

/-! PX20: pop at a place, max and min of two, a list turned about, {}, three names at once, ways that are never gone. -/
namespace L2
namespace PX
open PySem PySem.Spec PyProof.Rows
section
variable {X : Cx} {L : Lc} {e o : Expr} {we wo : WE} {wr : WA} {pos cpos apos : Pos}
/-! ### never gone -/
def wNevE : WE := fun _ _ _ _ => False
theorem de_never : DE X L e wNevE := ⟨fun _ _ _ _ _ _ ⟨_, _, _, _, _, h, _⟩ => h.elim⟩
/-! ### a row of constants -/
def wLits (ps : List PV) : WA := fun _ S RA _ => RA ps S
/-! ### xs.pop(i) -/
theorem RVs.erase {K : PySem.W.Frag} {H : Hp} : ∀ {xs : List PV} {vs : List V} (j : Nat), RVs K H xs vs → RVs K H (xs.eraseIdx j) (vs.eraseIdx j)
  | _, _, _, .nil => .nil
  | _, _, 0, .cons _ r => r
  | _, _, j + 1, .cons h r => .cons h (RVs.erase j r)
def kPop : MSp := fun p ps S R => match p, ps with
  | .ref a, [.int i] => (match S a with
    | some (.lst xs) => ∃ (j : Nat) (y : PV), i = (j : Int) ∧ xs[j]? = some y ∧ xs.length ≤ sizeLine ∧ R y (updS S a (.lst (xs.eraseIdx j)))
    | _ => False)
  | _, _ => False
theorem seqIx_nat {j n : Nat} (h : j < n) : seqIndex? (j : Int) n = some j := by
  have e : (if (j : Int) < 0 then (j : Int) + n else j) = j := if_neg (by omega)
  unfold seqIndex?
  rw [e]
  show (if (decide (0 ≤ (j : Int)) && decide ((j : Int) < n)) = true then some (j : Int).toNat else none) = some j
  rw [decide_eq_true (show 0 ≤ (j : Int) by omega), decide_eq_true (show (j : Int) < n by omega)]
  rfl
theorem m_pop : MtP X L "list.pop" kPop := by
  intro pins s σ H x xs v us p ps S R Q I rx rv st r rr hk q
  unfold kPop at hk
  split at hk
  · rename_i a i
    cases r with | ref =>
    split at hk
    · rename_i ys e
      obtain ⟨j, y, rfl, hy, hz, hR⟩ := hk
      cases rr with | cons ry rr =>
      cases rr
      cases ry
      obtain ⟨vs, h1, h2⟩ := st.mo a _ e
      obtain ⟨yv, hv, ryv⟩ := h2.get hy
      have hj : j < vs.length := (List.getElem?_eq_some_iff.mp hv).1
      have hl := h2.length
      rw [sizeLine_eq] at hz
      have f : Fr S H (updS S a (.lst (ys.eraseIdx j))) (upd H a (.lst (vs.eraseIdx j))) := .put h1 trivial (by rw [e]; simp)
      refine mt_popAt pins s σ H _ _ v us Q I rx rv ⟨a, vs, j, j, yv, rfl, rfl, h1, by omega, by omega, seqIx_nat hj, hv, ?_⟩
      exact q _ _ _ _ f (st.put h1 trivial ⟨_, upd_same, (h2.imm f.imm).erase j⟩) (ryv.imm f.imm) hR
    · exact hk.elim
  · exact hk.elim
theorem de_pop (ho : DE X L o wo) (ha : DA X L [e] wr) (hbase : attributeBase o "pop" X.env (eval o X.env) = eval o X.env := by rfl)
    (hfew : ((backTo cpos (starEach [e] X.env)).all (fun x => !x.1) && (backToKw cpos (keywordEach [] X.env)).all (fun x => x.1.isSome)
      && decide ([e].length + ([] : List Keyword).length + (if ([] : List Keyword).isEmpty then 0 else 1) < 30)) = true := by rfl)
    (hline : (apos.endLine == cpos.line) = true := by rfl) (hs : starEach [e] X.env = (false, eval e X.env) :: starEach [] X.env := by rfl) (hplain : (backTo cpos (starEach [] X.env)).any (·.1) = false := by rfl) :
    DE X L (.Call (.Attribute o "pop" apos) [e] [] cpos) (wBM "list" kPop wo wr) := de_bm F.plainAttrs_list F.slot_list_pop F.type_list_pop m_pop ho ha hbase hfew hline hs hplain
/-! ### max(a, b), min(a, b) -/
def kMax2 : PV → PV → Sto → RK → Prop := fun p q S R => match p, q with
  | .int i, .int j => R (.int (if j > i then j else i)) S
  | _, _ => False
def kMin2 : PV → PV → Sto → RK → Prop := fun p q S R => match p, q with
  | .int i, .int j => R (.int (if j < i then j else i)) S
  | _, _ => False
theorem c_max2 (hc : X.calm = true) : CallP X L (.builtin "max") (p2 kMax2) := call2_of fun pins s σ H x y us p p' S R Q I rv st r r' hk q => by
  unfold kMax2 at hk
  split at hk
  · cases r; cases r'
    exact call_max2 hc pins s σ H _ us Q I rv ⟨_, _, rfl, q.now st (.int _) hk⟩
  · exact hk.elim
theorem c_min2 (hc : X.calm = true) : CallP X L (.builtin "min") (p2 kMin2) := call2_of fun pins s σ H x y us p p' S R Q I rv st r r' hk q => by
  unfold kMin2 at hk
  split at hk
  · cases r; cases r'
    exact call_min2 hc pins s σ H _ us Q I rv ⟨_, _, rfl, q.now st (.int _) hk⟩
  · exact hk.elim
/-! ### xs[::-1] -/
theorem RVs.rev {K : PySem.W.Frag} {H : Hp} : ∀ {xs : List PV} {vs : List V}, RVs K H xs vs → RVs K H xs.reverse vs.reverse
  | _, _, .nil => .nil
  | _, _, .cons h r => by
    rw [List.reverse_cons, List.reverse_cons]
    exact (RVs.rev r).append (.cons h .nil)
def kRev (p : PV) (S : Sto) (R : RK) : Prop := match dr S p with
  | .lst xs => R (.lst xs.reverse) S
  | _ => False
def wRev (we : WE) : WE := fun ρ S R Z => we ρ S (fun p S1 => kRev p S1 R) Z
theorem de_rev {k : Nat} {p1 p2 p3 : Pos} (he : DE X L e we) : DE X L (.Subscript e (.Slice none none (some (.UnaryOp .USub (.Constant (.int 1) k p1) p2)) p3) pos) (wRev we) :=
  (pe_ghost (pe_revL he)).imp fun σ H Q ⟨ρ, S, R, Z, A, h, q, hZ⟩ => by
  refine ⟨ρ, S, _, Z, A, h, fun p S1 x H1 i1 st1 r1 h1 => ?_, hZ⟩
  have h1 : kRev p S1 R := h1
  unfold kRev at h1
  split at h1
  · rename_i xs e
    obtain ⟨a, vs, rfl, h4, h5⟩ := rd_lst (X := X) st1 r1 e
    exact ⟨a, vs, rfl, h4, fun p hp => (q.fr i1).newL st1 h5.rev hp h1⟩
  · exact h1.elim
/-! ### {} -/
theorem VC.newD0 {K : PySem.W.Frag} {L : Lc} {S : Sto} {H : Hp} {R : RK} {Q : VK} {a : Addr} (q : VC K L S H R Q) (st : RSK K L H S) (ha : H a = none) (h : R (.dct []) S) : gK Q (.ref a) (upd H a (.dK [])) := by
  have hs : S a = none := st.free ha
  have g0 : Grow H (upd H a (.dK [])) := grow_upd ha
  refine ⟨fun b => b = a, fun b e => ⟨.dK [], by cases e; exact upd_same, trivial⟩, fun H' gh => ?_⟩
  obtain ⟨u, o, e1, _, e2⟩ := gh.ye a rfl
  rw [upd_same] at e1; cases e1
  have g : Grow H H' := fun b o' e => by
    have n : b ≠ a := ne_of_none e ha
    rw [gh.no b n]; exact g0 b o' e
  exact q _ S _ H' (.grow g) (st.grow g) (.dct (gs := []) e2 rfl .nil) h
def wDct0 : WE := fun _ S R _ => R (.dct []) S
theorem de_dct0 : DE X L (.Dict [] [] pos) wDct0 := (pe_ghost pe_dnewK).imp fun σ H Q ⟨ρ, S, R, Z, A, h, q, hZ⟩ => fun p hp => q.newD0 A.st hp h
/-! ### a, b, c = x, y, z -/
def par3 (ps : List PV) (k : PV → PV → PV → Prop) : Prop := match ps with
  | [p, q, r] => k p q r
  | _ => False
theorem par3_three {p q r : PV} {k : PV → PV → PV → Prop} : par3 [p, q, r] k = k p q r := rfl
def wPar3 (i j l : Nat) (wr : WA) : WS := fun P ρ S => wr ρ S (fun ps S' => par3 ps fun p q r => P.nx (((ρ.set i (some p)).set j (some q)).set l (some r)) S') (fun e S' => P.ex e ρ S')
theorem ds_par3 (i j l : Nat) {a b c : Expr} {x y z : Str} {px py pz pt : Pos} {kt k2 pt2} (hc : X.calm = true) (hN : X.N.Nodup) (ha : DA X L [a, b, c] wr) (hi : X.N[i]? = some x := by rfl) (hj : X.N[j]? = some y := by rfl) (hl : X.N[l]? = some z := by rfl)
    (hij : i ≠ j := by decide) (hil : i ≠ l := by decide) (hjl : j ≠ l := by decide)
    (hx : X.env.scope.names.lookup x = some .local := by rfl) (hy : X.env.scope.names.lookup y = some .local := by rfl) (hz : X.env.scope.names.lookup z = some .local := by rfl)
    (hw : swappedStores [.Tuple [.Name x px, .Name y py, .Name z pz] kt pt] (.Tuple [a, b, c] k2 pt2) X.env = pure (some [x, y, z]) := by rfl)
    (hs : swapsWithSole [.Tuple [.Name x px, .Name y py, .Name z pz] kt pt] (.Tuple [a, b, c] k2 pt2) pos.line X.env = pure false := by rfl) :
    DS X L (.Assign [.Tuple [.Name x px, .Name y py, .Name z pz] kt pt] (.Tuple [a, b, c] k2 pt2) pos) (wPar3 i j l wr) := (ps_par3 hc hN hi hj hl hij hil hjl hx hy hz ha hw hs).imp fun D σ H ⟨ρ, S, P, A, h, E⟩ =>
  ⟨ρ, S, _, _, A, h, fun ps S' vs H' f st r n => by
    obtain ⟨p, q, t, rfl⟩ : ∃ p q t, ps = [p, q, t] := by
      rcases ps with _ | ⟨p, _ | ⟨q, _ | ⟨t, _ | ⟨u, r⟩⟩⟩⟩
      · exact n.elim
      · exact n.elim
      · exact n.elim
      · exact ⟨p, q, t, rfl⟩
      · exact n.elim
    cases r with | cons r1 r => cases r with | cons r2 r => cases r with | cons r3 r =>
    cases r
    exact ⟨_, _, _, rfl, E.nx _ S' _ H' f ((((A.fr f st).set r1).set r2).set r3) n⟩, E.zc A⟩
end
section
variable {X : Cx} {L : Lc}
/-! ### xs + ys, a list that changes later -/
def kAddM : K2 := fun p q S R => match dr S p, dr S q with
  | .lst xs, .lst ys => xs.length + ys.length ≤ sizeLine ∧ ∀ a, S a = none → R (.ref a) (updS S a (.lst (xs ++ ys)))
  | _, _ => False
theorem o_addM : Op2 X L (binaryOp .Add) kAddM := by
  intro pins s σ H x y v u p q S R Q I rx ry st r1 r2 hk hq
  unfold kAddM at hk
  split at hk
  · rename_i xs ys e1 e2
    obtain ⟨a, vs, rfl, h1, h2⟩ := rd_lst (X := X) st r1 e1
    obtain ⟨b, ws, rfl, h3, h4⟩ := rd_lst (X := X) st r2 e2
    exact op_catL pins s σ H _ _ v u Q I rx ry ⟨a, b, vs, ws, rfl, rfl, h1, h3, by rw [← h2.length, ← h4.length]; exact hk.1, fun p hp => hq.newM st (h2.append h4) hp hk.2⟩
  · exact hk.elim
end
def excCB (K : PySem.W.Frag) (D : Addr) : Bool := decide (PySem.W.findIn K (.ref D) "__getattribute__" = some (some (.builtin "BaseException.__getattribute__"))) && (decide (PySem.W.findIn K (.ref D) "__getattr__" = some none) && (decide (PySem.W.subIn K (.ref D) (.type "BaseException") = some true) &&
  (PySem.W.hasDictIn K D && (decide (PySem.W.findIn K (.ref D) "__class__" = some (some (.builtin "object.__class__"))) && (decide (PySem.W.specialIn K (.builtin "object.__class__") "__get__" = some (some (.builtin "getset_descriptor.__get__"))) &&
  (decide (PySem.W.takesIn K (.builtin "object.__class__") = some true) && decide (PySem.W.mroIn K D (.type "object") = some true)))))))
theorem excCB_ok {K : PySem.W.Frag} {D : Addr} (h : excCB K D = true) : ExcC K D := by
  obtain ⟨h1, h⟩ := He.ba h
  obtain ⟨h2, h⟩ := He.ba h
  obtain ⟨h3, h⟩ := He.ba h
  obtain ⟨h4, h⟩ := He.ba h
  obtain ⟨h5, h⟩ := He.ba h
  obtain ⟨h6, h⟩ := He.ba h
  obtain ⟨h7, h8⟩ := He.ba h
  exact ⟨of_decide_eq_true h1, of_decide_eq_true h2, of_decide_eq_true h3, h4, of_decide_eq_true h5, of_decide_eq_true h6, of_decide_eq_true h7, of_decide_eq_true h8⟩
theorem bt_max : bootBuiltins "max" = some (.builtin "max") := by decide +kernel
theorem bt_min : bootBuiltins "min" = some (.builtin "min") := by decide +kernel
section
variable {ρ : Slots} {S : Sto} {R : RK} {Z : ZK} {P : PEnds} {we wo : WE} {wr : WA} {i j l : Nat} {C : Addr} {f : Str}
theorem e_lits {ps : List PV} {RA : List PV → Sto → Prop} : wLits ps ρ S RA Z = RA ps S := rfl
theorem e_par3 : wPar3 i j l wr P ρ S = wr ρ S (fun ps S' => par3 ps fun p q r => P.nx (((ρ.set i (some p)).set j (some q)).set l (some r)) S') (fun e S' => P.ex e ρ S') := rfl
theorem e_rev : wRev we ρ S R Z = we ρ S (fun p S1 => kRev p S1 R) Z := rfl
theorem e_dct0 : wDct0 ρ S R Z = R (.dct []) S := rfl
theorem e_nevE : wNevE ρ S R Z = False := rfl
theorem e_raise1 : wRaise1 C f we P ρ S = we ρ S (fun p S' => P.ex ⟨C, [(f, p)]⟩ ρ S') (fun e S' => P.ex e ρ S') := rfl
theorem e_exF {K : PySem.W.Frag} {a : Addr} {e : Exc} : wExF K i a e f ρ S R Z = (gs ρ i = some (.ref a) ∧ XfC K e.cls ∧ PySem.W.findIn K (.ref e.cls) f = some none ∧ ∃ p, e.fs.lookup f = some p ∧ R p S) := rfl
theorem e_exI {K : PySem.W.Frag} {a : Addr} {e : Exc} {D : Addr} : wExI K i a e D ρ S R Z = (gs ρ i = some (.ref a) ∧ ExcC K e.cls ∧ ∃ b, PySem.W.kitOne K (.ref e.cls) (.ref D) = some b ∧ R (.bl b) S) := rfl
theorem e_tryA {K : PySem.W.Frag} {body : WS} {su : Addr → Exc → WS} : wTryA K body i C su P ρ S = body { P with ex := fun e ρ' S' => ∃ b, PySem.W.exmOne K (.ref e.cls) (.ref C) = some b ∧
  (b = true → ∀ a, su a e { nx := fun ρ2 S2 => P.nx (ρ2.set i none) S2, rt := P.rt, bk := fun ρ2 S2 => P.bk (ρ2.set i none) S2, ct := fun ρ2 S2 => P.ct (ρ2.set i none) S2 } (ρ'.set i (some (.ref a))) S') ∧ (b = false → P.ex e ρ' S') } ρ S := rfl
theorem k_rev_lst {xs : List PV} : kRev (.lst xs) S R = R (.lst xs.reverse) S := rfl
theorem k_rev_ref {a : Addr} {xs : List PV} (h : S a = some (.lst xs)) : kRev (.ref a) S R = R (.lst xs.reverse) S := by
  unfold kRev
  rw [dr_refL h]
theorem k_addM_lst {xs ys : List PV} : kAddM (.lst xs) (.lst ys) S R = (xs.length + ys.length ≤ sizeLine ∧ ∀ a, S a = none → R (.ref a) (updS S a (.lst (xs ++ ys)))) := rfl
theorem k_max2 {m n : Int} : kMax2 (.int m) (.int n) S R = R (.int (if n > m then n else m)) S := rfl
theorem k_min2 {m n : Int} : kMin2 (.int m) (.int n) S R = R (.int (if n < m then n else m)) S := rfl
theorem k_pop {a : Addr} {xs : List PV} {n : Nat} {y : PV} (h : S a = some (.lst xs)) (hy : xs[n]? = some y) (hz : xs.length ≤ sizeLine) : kPop (.ref a) [.int n] S R = R y (updS S a (.lst (xs.eraseIdx n))) := by
  unfold kPop
  simp only [h]
  exact propext ⟨fun ⟨j, y', e, h1, _, h2⟩ => by
    have e : n = j := Int.ofNat.inj e
    subst e
    rw [hy] at h1; cases h1; exact h2, fun h2 => ⟨n, y, rfl, hy, hz, h2⟩⟩
end
end PX
end L2

/-! PX21: a head's facts with the statics beside them (classes are read off). -/
namespace L2
namespace PX
open PySem PySem.Spec PyProof.Rows
def kY (n : Nat) (g : Addr → Option Obj) : PySem.W.Frag := He.frT g (cStatics :: He.asD g n)
structure SaysY (fa : List He.Fa) (fn : List He.DefD) (ex : PySem.W.Frag → Bool) (w : World) (K : PySem.W.Frag) : Prop where
  t : He.SaysT fa fn [] w K
  more : ex K = true
def obsY (n : Nat) (fa : List He.Fa) (fn : List He.DefD) (ex : PySem.W.Frag → Bool) (g : Addr → Option Obj) : He.AlT × Bool := (He.obsT fa fn [] (kY n g), ex (kY n g))
def hookY (n : Nat) (fa : List He.Fa) (fn : List He.DefD) (ex : PySem.W.Frag → Bool) : PySem.W.Hook where
  α := He.AlT × Bool
  obs s := obsY n fa fn ex s.heap.get?
  val w := (He.valT fn [] w, true)
  says w h := ∃ K : PySem.W.Frag, K.In h ∧ SaysY fa fn ex w K
  of w s e := ⟨kY n s.heap.get?, He.frT_in, ⟨congrArg Prod.fst e, congrArg Prod.snd e⟩⟩
  keeps w h h' := fun ⟨K, hK, c⟩ k => ⟨K, PySem.W.Frag.In.keeps hK k, c⟩
theorem obsY_eq {n : Nat} {fa : List He.Fa} {fn : List He.DefD} {ex : PySem.W.Frag → Bool} {g : Addr → Option Obj} {s : Shared} (h : ∀ a, g a = s.heap.get? a) : obsY n fa fn ex g = (hookY n fa fn ex).obs s := by
  rw [show g = s.heap.get? from funext h]; rfl
end PX
end L2

namespace Law_k03
open PySem PySem.Spec PyProof.Rows L2 L2.PX
def tbl (_ : PySem.W.Frag) : List (Addr × Str) := []
/-! ### what the things are -/
def small : List Nat := ("abcdefghijklmnopqrstuvwxyz" : Str).cps.toList
/-- a name of a town or road -/
def nameB (x : Str) : Bool := decide (1 ≤ x.length) && (decide (x.length ≤ 8) && x.cps.toList.all (small.contains ·))
structure Road where
  name : Str
  bgn : Str
  fin : Str
  len : Int
  room : Int
  deriving DecidableEq
def roadP (r : Road) : PV := .tup [.str r.name, .str r.bgn, .str r.fin, .int r.len, .int r.room]
def roadB (ts : List Str) (r : Road) : Bool := nameB r.name && nameB r.bgn && nameB r.fin && decide (r.bgn ≠ r.fin) && decide (r.bgn ∈ ts) && decide (r.fin ∈ ts) && decide (-1000 ≤ r.len) && decide (r.len ≤ 1000) && decide (0 ≤ r.room) && decide (r.room ≤ 1000)
def townsP (ts : List Str) : PV := .tup (ts.map PV.str)
def roadsP (rs : List Road) : PV := .tup (rs.map roadP)
/-- a net that stands -/
structure NetOk (ts : List Str) (rs : List Road) : Prop where
  tn : ∀ t ∈ ts, nameB t = true
  ta : ts.Pairwise (fun a b => ltS a b = true)
  tl : ts.length ≤ 40
  rn : ∀ r ∈ rs, roadB ts r = true
  ra : rs.Pairwise (fun a b => ltS a.name b.name = true)
  rl : rs.length ≤ 120
def namedP (rs : List Road) : List (Key × PV) := rs.map fun r => (.inr r.name, roadP r)
def outsP (ts : List Str) (rs : List Road) (f : Road → Str → Bool) : List (Key × PV) := ts.map fun t => (.inr t, .lst ((rs.filter fun r => f r t).map roadP))
def netP (C : Addr) (ts : List Str) (rs : List Road) : PV := .obj C [("towns", townsP ts), ("roads", roadsP rs), ("named", .dct (namedP rs)), ("outs", .dct (outsP ts rs fun r t => r.bgn == t)), ("ins", .dct (outsP ts rs fun r t => r.fin == t)),
  ("ties", .dct (outsP ts rs fun r t => r.bgn == t || r.fin == t))]
/-! ### checks -/
def sp_is_integer (_ : PySem.W.Frag) : PSp := fun ps S R _ => match ps with
  | [p] => match tagB (dr S p) with
    | some a => R (.bl (a == "int")) S
    | none => False
  | _ => False
def sp_is_within (_ : PySem.W.Frag) : PSp := fun ps S R _ => match ps with
  | [p, .int a, .int b] => match dr S p with
    | .int i => R (.bl (decide (a ≤ i) && decide (i ≤ b))) S
    | _ => False
  | _ => False
def sp_is_name (_ : PySem.W.Frag) : PSp := fun ps S R _ => match ps with
  | [.str x] => x.length ≤ sizeLine ∧ R (.bl (nameB x)) S
  | _ => False
def sp_is_tuple (_ : PySem.W.Frag) : PSp := fun ps S R _ => match ps with
  | [.tup xs, .int n] => R (.bl (decide ((xs.length : Int) = n))) S
  | _ => False
def sp_does_ascend (_ : PySem.W.Frag) : PSp := fun ps S R _ => match ps with
  | [p] => ∃ ss : List Str, p = townsP ss ∧ ss.length ≤ 1000 ∧ R (.bl (decide (ss.Pairwise (fun a b => ltS a b = true)))) S
  | _ => False
/-- what a road's text may be -/
def RoadSz (r : Road) : Prop := r.name.length ≤ sizeLine ∧ r.bgn.length ≤ sizeLine ∧ r.fin.length ≤ sizeLine
def sp_is_road (_ : PySem.W.Frag) : PSp := fun ps S R _ => match ps with
  | [p, q] => ∃ ts r, seqOf (dr S p) = some (ts.map PV.str) ∧ q = roadP r ∧ RoadSz r ∧ R (.bl (roadB ts r)) S
  | _ => False
/-! ### a net kept -/
inductive Kd where
  | o | i | t
  deriving DecidableEq
def Kd.cond (k : Kd) (t : Str) (r : Road) : Bool := match k with
  | .o => r.bgn == t
  | .i => r.fin == t
  | .t => r.bgn == t || r.fin == t
abbrev Cell := (Kd × Str) × Addr
def dictOf (cells : List Cell) (k : Kd) : List (Key × PV) := (cells.filter fun c => c.1.1 == k).map fun c => (.inr c.1.2, .ref c.2)
def cont (rs : List Road) (k : Kd) (t : Str) : List PV := (rs.filter fun r => k.cond t r).map roadP
def keptF (ts : List Str) (rs : List Road) (cells : List Cell) : List (Str × PV) := [("towns", townsP ts), ("roads", roadsP rs), ("named", .dct (namedP rs)), ("outs", .dct (dictOf cells .o)), ("ins", .dct (dictOf cells .i)), ("ties", .dct (dictOf cells .t))]
structure Kept (C a : Addr) (ts : List Str) (rs : List Road) (S S' : Sto) (cells : List Cell) : Prop where
  nd : (cells.map Prod.snd).Nodup
  na : a ∉ cells.map Prod.snd
  new : ∀ c ∈ cells, S c.2 = none
  keys : ∀ k : Kd, (cells.filter fun c => c.1.1 == k).map (fun c => c.1.2) = ts
  ins : S' a = some (.ins C (keptF ts rs cells))
  hold : ∀ c ∈ cells, S' c.2 = some (.lst (cont rs c.1.1 c.1.2))
  oth : ∀ b, b ≠ a → b ∉ cells.map Prod.snd → S' b = S b
def sp_Net_keep (K : PySem.W.Frag) : PSp := fun ps S R _ => ∃ a ts rs, ps = [.ref a, townsP ts, roadsP rs] ∧ S a = some (.ins (He.ga K "Net") []) ∧ NetOk ts rs ∧ ∀ S' cells, Kept (He.ga K "Net") a ts rs S S' cells → R .non S'
def sp_Net___init__ (K : PySem.W.Frag) : PSp := fun ps S R _ => ∃ a ts rs, ps = [.ref a, townsP ts, roadsP rs] ∧ S a = some (.ins (He.ga K "Net") []) ∧ NetOk ts rs ∧ ∀ S' cells, Kept (He.ga K "Net") a ts rs S S' cells → R .non S'
/-! ### the net as a value -/
abbrev netK (K : PySem.W.Frag) (ts : List Str) (rs : List Road) : PV := netP (He.ga K "Net") ts rs
/-! ### texts -/
def roadWords (r : Road) : List Str := ["road", r.name, r.bgn, r.fin, toString r.len, toString r.room]
def roadLine (r : Road) : Str := Txt.join " " (roadWords r)
def townLine (t : Str) : Str := "town " ++ t
def linesOf (ts : List Str) (rs : List Road) : List Str := ts.map townLine ++ rs.map roadLine
def netText (ts : List Str) (rs : List Road) : Str := Txt.join "" ((linesOf ts rs).map fun x => x ++ "\n")
/-- a road that its line can tell -/
structure RdOk (r : Road) : Prop where
  n : nameB r.name = true
  b : nameB r.bgn = true
  f : nameB r.fin = true
  l : -1000 ≤ r.len ∧ r.len ≤ 1000
  r : 0 ≤ r.room ∧ r.room ≤ 1000
/-! ### what words tell -/
def digB (c : Nat) : Bool := decide (48 ≤ c) && decide (c ≤ 57)
/-- figures without needless noughts -/
def canonB (w : Str) : Bool := decide (1 ≤ w.length) && (decide (w.length ≤ 4) && (w.cps.toList.all digB && (decide (w = "0") || decide (w.cps.toList.head? ≠ some 48))))
def numB (w : Str) : Option Int := if canonB w = true then PySem.intText? w else none
def tailS (w : Str) : Str := ⟨(w.cps.toList.drop 1).toArray⟩
def intB' (w : Str) : Option Int := if w.cps.toList.head? = some 45 then (match numB (tailS w) with
  | some n => if n = 0 then none else some (-n)
  | none => none) else numB w
def optP (o : Option Int) : PV := match o with
  | some n => .int n
  | none => .non
def roadW : List Str → Option Road
  | [a, b, c, d, e, f] => if a = "road" ∧ nameB b = true ∧ nameB c = true ∧ nameB d = true then (match intB' e, numB f with
    | some l, some m => some ⟨b, c, d, l, m⟩
    | _, _ => none) else none
  | _ => none
def optR (o : Option Road) : PV := match o with
  | some r => roadP r
  | none => .non
def lastOk (xs : List Str) (x : Str) : Bool := match xs.getLast? with
  | some y => ltS y x
  | none => true
def townW (ts : List Str) (rs : List Road) : List Str → Option Str
  | [_, t] => if nameB t = true ∧ rs = [] ∧ ts.length < 40 ∧ lastOk ts t = true then some t else none
  | _ => none
def roadOkB (ts : List Str) (rs : List Road) (r : Road) : Bool := roadB ts r && (decide (rs.length < 120) && lastOk (rs.map Road.name) r.name)
abbrev Net2 := List Str × List Road
def stepW (s : Net2) (ws : List Str) : Option Net2 := if ws.head? = some ("town" : Str) then (townW s.1 s.2 ws).map fun t => (s.1 ++ [t], s.2) else match roadW ws with
  | some r => if roadOkB s.1 s.2 r = true then some (s.1, s.2 ++ [r]) else none
  | none => none
def stepL (s : Net2) (l : Str) : Option Net2 := stepW s (Txt.split l " ")
inductive Out where
  | bad (n : Nat)
  | ok (s : Net2)
def readL : List Str → Nat → Net2 → Out
  | [], _, s => .ok s
  | l :: ls, k, s => match stepL s l with
    | some s' => readL ls (k + 1) s'
    | none => .bad (k + 1)
def readN (x : Str) : Out := match readL (Txt.split x "\n").dropLast 0 ([], []) with
  | .bad n => .bad n
  | .ok s => if (Txt.split x "\n").getLast? = some ("" : Str) then .ok s else .bad (Txt.split x "\n").length
def outP : Out → PV
  | .bad n => .int n
  | .ok s => .tup [townsP s.1, roadsP s.2]
def TxL : Nat := 100000
def sp_number_in (_ : PySem.W.Frag) : PSp := fun ps S R _ => ∃ w : Str, ps = [.str w] ∧ w.length ≤ TxL ∧ R (optP (numB w)) S
def sp_integer_in (_ : PySem.W.Frag) : PSp := fun ps S R _ => ∃ w : Str, ps = [.str w] ∧ w.length ≤ TxL ∧ R (optP (intB' w)) S
def sp_road_in (_ : PySem.W.Frag) : PSp := fun ps S R _ => ∃ ws : List Str, ps = [.lst (ws.map PV.str)] ∧ ws ≠ [] ∧ (∀ w ∈ ws, w.length ≤ TxL) ∧ R (optR (roadW ws)) S
/-! ### the reader -/
structure Rdr (C a b c : Addr) (ts : List Str) (rs : List Road) (S : Sto) : Prop where
  ab : a ≠ b
  ac : a ≠ c
  bc : b ≠ c
  ha : S a = some (.ins C [("towns", .ref b), ("roads", .ref c)])
  hb : S b = some (.lst (ts.map PV.str))
  hc : S c = some (.lst (rs.map roadP))
def sp_NetReader___init__ (K : PySem.W.Frag) : PSp := fun ps S R _ => ∃ a, ps = [.ref a] ∧ S a = some (.ins (He.ga K "NetReader") []) ∧ ∀ b c S', S b = none → S c = none → Rdr (He.ga K "NetReader") a b c [] [] S' → (∀ x, x ≠ a → x ≠ b → x ≠ c → S' x = S x) → R .non S'
def sp_NetReader_is_town_read (K : PySem.W.Frag) : PSp := fun ps S R _ => ∃ (a b c : Addr) (s : Net2) (ws : List Str), ps = [.ref a, .lst (ws.map PV.str)] ∧ Rdr (He.ga K "NetReader") a b c s.1 s.2 S ∧ NetOk s.1 s.2 ∧ (∀ w ∈ ws, w.length ≤ TxL) ∧ ws.length ≤ TxL ∧ match townW s.1 s.2 ws with
  | some t => ∀ S', Rdr (He.ga K "NetReader") a b c (s.1 ++ [t]) s.2 S' → (∀ x, x ≠ a → x ≠ b → x ≠ c → S' x = S x) → R (.bl true) S'
  | none => R (.bl false) S
def sp_NetReader_is_read (K : PySem.W.Frag) : PSp := fun ps S R _ => ∃ (a b c : Addr) (s : Net2) (ln : Str), ps = [.ref a, .str ln] ∧ Rdr (He.ga K "NetReader") a b c s.1 s.2 S ∧ NetOk s.1 s.2 ∧ ln.length + 2 ≤ TxL ∧ match stepL s ln with
  | some s' => ∀ S', Rdr (He.ga K "NetReader") a b c s'.1 s'.2 S' → (∀ x, x ≠ a → x ≠ b → x ≠ c → S' x = S x) → R (.bl true) S'
  | none => R (.bl false) S
abbrev badLine (K : PySem.W.Frag) (n : Int) : Exc := ⟨He.ga K "BadLine", [("number", .int n)]⟩
/-- what is no text -/
def oddP : PV → Prop
  | .non => True
  | .int _ => True
  | .bl _ => True
  | .lst _ => True
  | .tup _ => True
  | .dct _ => True
  | _ => False
def sp_read_net (K : PySem.W.Frag) : PSp := fun ps S R Z => (∃ x : Str, ps = [.str x] ∧ x.length + 2 ≤ TxL ∧ match readN x with
  | .bad n => Z (badLine K n) S
  | .ok s => R (netK K s.1 s.2) S) ∨ ∃ p, ps = [p] ∧ oddP p ∧ Z (badLine K 0) S
/-! ### the law's own -/
def HandAt (a : Addr) (S : Sto) : Prop := ∃ (cells : List Int) (i : Nat) (d f g : Int), S a = some (.lst [.lst (cells.map PV.int), .int i, .int d, .int f, .int g])
def Off (a : Addr) (S S' : Sto) : Prop := ∀ x, x ≠ a → S' x = S x
def sp__law_hand (_ : PySem.W.Frag) : PSp := fun ps S R _ => ∃ ns : List Int, ps = [.lst (ns.map PV.int)] ∧ ∀ a S', S a = none → HandAt a S' → Off a S S' → R (.ref a) S'
def sp__law_draw (_ : PySem.W.Frag) : PSp := fun ps S R _ => ∃ a m, ps = [.ref a, .int m] ∧ HandAt a S ∧ 0 < m ∧ m < 100000 ∧ ∀ n S', 0 ≤ n → n < m → HandAt a S' → Off a S S' → R (.int n) S'
def sp__law_any (_ : PySem.W.Frag) : PSp := fun ps S R _ => ∃ a xs q, ps = [.ref a, q] ∧ (q = .lst xs ∨ ∃ r, q = .ref r ∧ r ≠ a ∧ S r = some (.lst xs)) ∧ HandAt a S ∧ 0 < xs.length ∧ xs.length < 100000 ∧ ∀ x ∈ xs, ∀ S', HandAt a S' → Off a S S' → R x S'
def sp__law_parts (_ : PySem.W.Frag) : PSp := fun ps S R _ => ∃ a m f, ps = [.ref a, .int m, .int f] ∧ HandAt a S ∧ (0 ≤ m ∧ m ≤ 7) ∧ (0 ≤ f ∧ f ≤ 8) ∧ ∀ ts rs S', NetOk ts rs → ts.length ≤ 8 → rs.length ≤ 8 → HandAt a S' → Off a S S' → R (.tup [townsP ts, roadsP rs]) S'
def sp__law_text (_ : PySem.W.Frag) : PSp := fun ps S R _ => ∃ ts rs, ps = [townsP ts, roadsP rs] ∧ NetOk ts rs ∧ R (.str (netText ts rs)) S
def sp__law_is_name (_ : PySem.W.Frag) : PSp := fun ps S R _ => ∃ w : Str, ps = [.str w] ∧ w.length ≤ TxL ∧ R (.bl (nameB w)) S
def inB (lo hi : Int) (o : Option Int) : Option Int := match o with
  | some n => if lo ≤ n ∧ n ≤ hi then some n else none
  | none => none
def sp__law_number (_ : PySem.W.Frag) : PSp := fun ps S R _ => ∃ (w : Str) (lo hi : Int), ps = [.str w, .int lo, .int hi] ∧ w.length ≤ TxL ∧ R (optP (inB lo hi (intB' w))) S
def okR (ts : List Str) (rs : List Road) (o : Option Road) : Option Road := match o with
  | some r => if roadOkB ts rs r = true then some r else none
  | none => none
def sp__law_road (_ : PySem.W.Frag) : PSp := fun ps S R _ => ∃ (ws ts : List Str) (rs : List Road) (b c : Addr), ps = [.lst (ws.map PV.str), .ref b, .ref c] ∧ ws ≠ [] ∧ (∀ w ∈ ws, w.length ≤ TxL) ∧ S b = some (.lst (ts.map PV.str)) ∧ S c = some (.lst (rs.map roadP)) ∧ (∀ r ∈ rs, RdOk r) ∧ rs.length ≤ 120 ∧ R (optR (okR ts rs (roadW ws))) S
def sp__law_read (_ : PySem.W.Frag) : PSp := fun ps S R _ => ∃ x : Str, ps = [.str x] ∧ x.length + 2 ≤ TxL ∧ R (outP (readN x)) S
def sp__law_bent (_ : PySem.W.Frag) : PSp := fun ps S R _ => ∃ a x, ps = [.ref a, .str x] ∧ HandAt a S ∧ x.length ≤ 20000 ∧ ∀ y S', y.length ≤ 2 * x.length + 40 → HandAt a S' → Off a S S' → R (.str y) S'
def sp__law_told (K : PySem.W.Frag) : PSp := fun ps S R _ => (∃ x : Str, ps = [.str x] ∧ x.length + 2 ≤ TxL ∧ R (outP (readN x)) S) ∨ ∃ p, ps = [p] ∧ oddP p ∧ R (.int 0) S
def sp_law (_ : PySem.W.Frag) : PSp := fun ps S R _ => ∃ ns : List Int, ps = [.lst (ns.map PV.int)] ∧ R (.bl true) S


def exB (K : PySem.W.Frag) : Bool := isCB K "Net" && oexB K (He.ga K "RoadError") && iniB K (He.ga K "RoadError") (He.fAd K ("RoadError", some "__init__")) && clfB K (He.ga K "RoadError") "__init__" (He.fAd K ("RoadError", some "__init__")) && oexB K (He.ga K "BadLine") && iniB K (He.ga K "BadLine") (He.fAd K ("BadLine", some "__init__")) && clfB K (He.ga K "BadLine") "__init__" (He.fAd K ("BadLine", some "__init__")) && xfB K (He.ga K "BadLine") && excCB K (He.ga K "BadLine") && decide (PySem.W.findIn K (.ref (He.ga K "BadLine")) "number" = some none) && decide (PySem.W.exmOne K (.ref (He.ga K "BadLine")) (.ref (He.ga K "BadLine")) = some true) && decide (PySem.W.kitOne K (.ref (He.ga K "BadLine")) (.ref (He.ga K "RoadError")) = some true)
theorem isC_Net (K : PySem.W.Frag) (h : exB K = true) (cl : Cls K (He.ga K "Net")) : IsC K (He.ga K "Net") := isCB_ok (He.ba (He.ba (He.ba (He.ba (He.ba (He.ba (He.ba (He.ba (He.ba (He.ba (He.ba h).1).1).1).1).1).1).1).1).1).1).1 cl
theorem oex_RoadError (K : PySem.W.Frag) (h : exB K = true) : OexC K (He.ga K "RoadError") := oexB_ok (He.ba (He.ba (He.ba (He.ba (He.ba (He.ba (He.ba (He.ba (He.ba (He.ba (He.ba h).1).1).1).1).1).1).1).1).1).1).2
theorem ini_RoadError (K : PySem.W.Frag) (h : exB K = true) : iniB K (He.ga K "RoadError") (He.fAd K ("RoadError", some "__init__")) = true := (He.ba (He.ba (He.ba (He.ba (He.ba (He.ba (He.ba (He.ba (He.ba (He.ba h).1).1).1).1).1).1).1).1).1).2
theorem clf_RoadError (K : PySem.W.Frag) (h : exB K = true) : clfB K (He.ga K "RoadError") "__init__" (He.fAd K ("RoadError", some "__init__")) = true := (He.ba (He.ba (He.ba (He.ba (He.ba (He.ba (He.ba (He.ba (He.ba h).1).1).1).1).1).1).1).1).2
theorem oex_BadLine (K : PySem.W.Frag) (h : exB K = true) : OexC K (He.ga K "BadLine") := oexB_ok (He.ba (He.ba (He.ba (He.ba (He.ba (He.ba (He.ba (He.ba h).1).1).1).1).1).1).1).2
theorem ini_BadLine (K : PySem.W.Frag) (h : exB K = true) : iniB K (He.ga K "BadLine") (He.fAd K ("BadLine", some "__init__")) = true := (He.ba (He.ba (He.ba (He.ba (He.ba (He.ba (He.ba h).1).1).1).1).1).1).2
theorem clf_BadLine (K : PySem.W.Frag) (h : exB K = true) : clfB K (He.ga K "BadLine") "__init__" (He.fAd K ("BadLine", some "__init__")) = true := (He.ba (He.ba (He.ba (He.ba (He.ba (He.ba h).1).1).1).1).1).2
theorem xf_BadLine (K : PySem.W.Frag) (h : exB K = true) : XfC K (He.ga K "BadLine") := xfB_ok (He.ba (He.ba (He.ba (He.ba (He.ba h).1).1).1).1).2
theorem excC_BadLine (K : PySem.W.Frag) (h : exB K = true) : ExcC K (He.ga K "BadLine") := excCB_ok (He.ba (He.ba (He.ba (He.ba h).1).1).1).2
theorem nof_BadLine (K : PySem.W.Frag) (h : exB K = true) : PySem.W.findIn K (.ref (He.ga K "BadLine")) "number" = some none := of_decide_eq_true (He.ba (He.ba (He.ba h).1).1).2
theorem exm_BadLine_BadLine (K : PySem.W.Frag) (h : exB K = true) : PySem.W.exmOne K (.ref (He.ga K "BadLine")) (.ref (He.ga K "BadLine")) = some true := of_decide_eq_true (He.ba (He.ba h).1).2
theorem kit_BadLine_RoadError (K : PySem.W.Frag) (h : exB K = true) : PySem.W.kitOne K (.ref (He.ga K "BadLine")) (.ref (He.ga K "RoadError")) = some true := of_decide_eq_true (He.ba h).2
def w_is_integer (K : PySem.W.Frag) : WS := wRet (wAndV (wCall (p2 kIsB) (wCons (wVar 0) (wCons (wC (.ty "int")) (wNil)))) (wNotV (wCall (p2 kIsB) (wCons (wVar 0) (wCons (wC (.ty "bool")) (wNil))))))
def n_is_integer : List Str := ["thing"]
def w_is_within (K : PySem.W.Frag) : WS := wRet (wAndV (wCall (arN 1 (sp_is_integer K)) (wCons (wVar 0) (wNil))) (wCh (kLe) (kLe) (wVar 1) (wVar 0) (wVar 2)))
def n_is_within : List Str := ["thing", "least", "most"]
def w_is_name_1 (K : PySem.W.Frag) : WE := wB (kIn false) (wVar 1) (wC (.str "abcdefghijklmnopqrstuvwxyz"))
def w_is_name (K : PySem.W.Frag) : WS := wRet (wAndV (wCall (p2 kIsB) (wCons (wVar 0) (wCons (wC (.ty "str")) (wNil)))) (wAndV (wCh (kLe) (kLe) (wC (.int 1)) (wCall (p1 kLen) (wCons (wVar 0) (wNil))) (wC (.int 8))) (wCall (p1 kAll) (wCons (wLc (wIt (wVar 0)) (.nm 1) (wYes) (w_is_name_1 K) [1]) (wNil)))))
def n_is_name : List Str := ["thing", "sign"]
def w_is_tuple (K : PySem.W.Frag) : WS := wRet (wAndV (wCall (p2 kIsB) (wCons (wVar 0) (wCons (wC (.ty "tuple")) (wNil)))) (wB (kEqA false) (wCall (p1 kLen) (wCons (wVar 0) (wNil))) (wVar 1)))
def n_is_tuple : List Str := ["thing", "size"]
def w_does_ascend_1 (K : PySem.W.Frag) : WE := wB (kLt) (wB kIx (wVar 0) (wB kSub (wVar 1) (wC (.int 1)))) (wB kIx (wVar 0) (wVar 1))
def w_does_ascend (K : PySem.W.Frag) : WS := wRet (wCall (p1 kAll) (wCons (wLc (wRng2 (wC (.int 1)) (wCall (p1 kLen) (wCons (wVar 0) (wNil)))) (.nm 1) (wYes) (w_does_ascend_1 K) [1]) (wNil)))
def n_does_ascend : List Str := ["thing", "at"]
def w_is_road_1 (K : PySem.W.Frag) : WE := wCall (arN 1 (sp_is_name K)) (wCons (wVar 2) (wNil))
def w_is_road (K : PySem.W.Frag) : WS := wSeq (wIfS (wOrT (wNotT (tst (wCall (arN 2 (sp_is_tuple K)) (wCons (wVar 1) (wCons (wC (.int 5)) (wNil)))))) (wNotT (tst (wCall (p1 kAll) (wCons (wLc (wIt (wSl (wVar 1) (wNo) (wSo (wC (.int 3))))) (.nm 2) (wYes) (w_is_road_1 K) [2]) (wNil)))))) (wRet (wC (.bl false))) (wNext)) (wSeq (wIfS (wOrT (tst (wB (kEqA false) (wB kIx (wVar 1) (wC (.int 1))) (wB kIx (wVar 1) (wC (.int 2))))) (wOrT (tst (wB (kIn true) (wB kIx (wVar 1) (wC (.int 1))) (wVar 0))) (tst (wB (kIn true) (wB kIx (wVar 1) (wC (.int 2))) (wVar 0))))) (wRet (wC (.bl false))) (wNext)) (wRet (wAndV (wCall (arN 3 (sp_is_within K)) (wCons (wB kIx (wVar 1) (wC (.int 3))) (wCons (w1 kNeg (wC (.int 1000))) (wCons (wC (.int 1000)) (wNil))))) (wCall (arN 3 (sp_is_within K)) (wCons (wB kIx (wVar 1) (wC (.int 4))) (wCons (wC (.int 0)) (wCons (wC (.int 1000)) (wNil))))))))
def n_is_road : List Str := ["towns", "thing", "name"]
def w_Net_keep_1 (K : PySem.W.Frag) : WS := wSeq (wExpr (wBM "list" kApp (wB kIx (wFld [He.ga K "Net"] "outs" (wVar 0)) (wB kIx (wVar 3) (wC (.int 1)))) (wCons (wVar 3) (wNil)))) (wSeq (wExpr (wBM "list" kApp (wB kIx (wFld [He.ga K "Net"] "ins" (wVar 0)) (wB kIx (wVar 3) (wC (.int 2)))) (wCons (wVar 3) (wNil)))) (wSeq (wExpr (wBM "list" kApp (wB kIx (wFld [He.ga K "Net"] "ties" (wVar 0)) (wB kIx (wVar 3) (wC (.int 1)))) (wCons (wVar 3) (wNil)))) (wExpr (wBM "list" kApp (wB kIx (wFld [He.ga K "Net"] "ties" (wVar 0)) (wB kIx (wVar 3) (wC (.int 2)))) (wCons (wVar 3) (wNil))))))
def w_Net_keep (K : PySem.W.Frag) : WS := wSeq (wSetF [He.ga K "Net"] "towns" (wVar 0) (wVar 1)) (wSeq (wSetF [He.ga K "Net"] "roads" (wVar 0) (wVar 2)) (wSeq (wSetF [He.ga K "Net"] "named" (wVar 0) (wDc (wIt (wVar 2)) (.nm 3) (wYes) (wB kIx (wVar 3) (wC (.int 0))) (wVar 3) [3])) (wSeq (wSetF [He.ga K "Net"] "outs" (wVar 0) (wDc (wIt (wVar 1)) (.nm 4) (wYes) (wVar 4) (wLst (wNil)) [4])) (wSeq (wSetF [He.ga K "Net"] "ins" (wVar 0) (wDc (wIt (wVar 1)) (.nm 4) (wYes) (wVar 4) (wLst (wNil)) [4])) (wSeq (wSetF [He.ga K "Net"] "ties" (wVar 0) (wDc (wIt (wVar 1)) (.nm 4) (wYes) (wVar 4) (wLst (wNil)) [4])) (wFor (wIt (wVar 2)) (.nm 3) (w_Net_keep_1 K)))))))
def n_Net_keep : List Str := ["self", "towns", "roads", "road", "town"]
def w_Net___init___1 (K : PySem.W.Frag) : WE := wCall (arN 1 (sp_is_name K)) (wCons (wVar 5) (wNil))
def w_Net___init___2 (K : PySem.W.Frag) : WS := wIfS (wOrT (wNotT (tst (wCall (arN 2 (sp_is_road K)) (wCons (wVar 1) (wCons (wVar 4) (wNil)))))) (wAndT (tst (wB (kGt) (wVar 3) (wC (.int 0)))) (wNotT (tst (wB (kLt) (wB kIx (wB kIx (wVar 2) (wB kSub (wVar 3) (wC (.int 1)))) (wC (.int 0))) (wB kIx (wVar 4) (wC (.int 0)))))))) (wNever) (wNext)
def w_Net___init__ (K : PySem.W.Frag) : WS := wSeq (wIfS (wOrT (wNotT (tst (wCall (p2 kIsB) (wCons (wVar 1) (wCons (wC (.ty "tuple")) (wNil)))))) (wOrT (tst (wB (kGt) (wCall (p1 kLen) (wCons (wVar 1) (wNil))) (wC (.int 40)))) (wNotT (tst (wCall (p1 kAll) (wCons (wLc (wIt (wVar 1)) (.nm 5) (wYes) (w_Net___init___1 K) [5]) (wNil))))))) (wNever) (wNext)) (wSeq (wIfS (wNotT (tst (wCall (arN 1 (sp_does_ascend K)) (wCons (wVar 1) (wNil))))) (wNever) (wNext)) (wSeq (wIfS (wOrT (wNotT (tst (wCall (p2 kIsB) (wCons (wVar 2) (wCons (wC (.ty "tuple")) (wNil)))))) (tst (wB (kGt) (wCall (p1 kLen) (wCons (wVar 2) (wNil))) (wC (.int 120))))) (wNever) (wNext)) (wSeq (wFor (wEnum (wVar 2)) (.tp [3, 4]) (w_Net___init___2 K)) (wExpr (wMeth (He.ga K "Net") "keep" (arN 3 (sp_Net_keep K)) (wVar 0) (wCons (wVar 1) (wCons (wVar 2) (wNil))))))))
def n_Net___init__ : List Str := ["self", "towns", "roads", "at", "road", "town"]
def w_number_in_1 (K : PySem.W.Frag) : WE := wB (kIn false) (wVar 1) (wC (.str "0123456789"))
def w_number_in (K : PySem.W.Frag) : WS := wSeq (wIfS (wOrT (wNotT (tst (wCh (kLe) (kLe) (wC (.int 1)) (wCall (p1 kLen) (wCons (wVar 0) (wNil))) (wC (.int 4))))) (wNotT (tst (wCall (p1 kAll) (wCons (wLc (wIt (wVar 0)) (.nm 1) (wYes) (w_number_in_1 K) [1]) (wNil)))))) (wRet (wC .non)) (wNext)) (wRet (wIf (wOrT (tst (wB (kEqA false) (wVar 0) (wC (.str "0")))) (tst (wB (kEqA true) (wB kIx (wVar 0) (wC (.int 0))) (wC (.str "0"))))) (wCall (p1 kInt) (wCons (wVar 0) (wNil))) (wC .non)))
def n_number_in : List Str := ["word", "sign"]
def w_integer_in (K : PySem.W.Frag) : WS := wSeq (wIfS (tst (wB (kEqA true) (wSl (wVar 0) (wNo) (wSo (wC (.int 1)))) (wC (.str "-")))) (wRet (wCall (arN 1 (sp_number_in K)) (wCons (wVar 0) (wNil)))) (wNext)) (wSeq (wSet 1 (wCall (arN 1 (sp_number_in K)) (wCons (wSl (wVar 0) (wSo (wC (.int 1))) (wNo)) (wNil)))) (wRet (wIf (wOrT (tst (wB (kIs false) (wVar 1) (wC .non))) (tst (wB (kEqA false) (wVar 1) (wC (.int 0))))) (wC .non) (w1 kNeg (wVar 1)))))
def n_integer_in : List Str := ["word", "number"]
def w_road_in_1 (K : PySem.W.Frag) : WE := wCall (arN 1 (sp_is_name K)) (wCons (wVar 3) (wNil))
def w_road_in (K : PySem.W.Frag) : WS := wSeq (wIfS (wOrT (tst (wB (kEqA true) (wCall (p1 kLen) (wCons (wVar 0) (wNil))) (wC (.int 6)))) (wOrT (tst (wB (kEqA true) (wB kIx (wVar 0) (wC (.int 0))) (wC (.str "road")))) (wNotT (tst (wCall (p1 kAll) (wCons (wLc (wIt (wSl (wVar 0) (wSo (wC (.int 1))) (wSo (wC (.int 4))))) (.nm 3) (wYes) (w_road_in_1 K) [3]) (wNil))))))) (wRet (wC .non)) (wNext)) (wSeq (wPar 1 2 (wCons (wCall (arN 1 (sp_integer_in K)) (wCons (wB kIx (wVar 0) (wC (.int 4))) (wNil))) (wCons (wCall (arN 1 (sp_number_in K)) (wCons (wB kIx (wVar 0) (wC (.int 5))) (wNil))) (wNil)))) (wRet (wIf (wOrT (tst (wB (kIs false) (wVar 1) (wC .non))) (tst (wB (kIs false) (wVar 2) (wC .non)))) (wC .non) (wTup (wCons (wB kIx (wVar 0) (wC (.int 1))) (wCons (wB kIx (wVar 0) (wC (.int 2))) (wCons (wB kIx (wVar 0) (wC (.int 3))) (wCons (wVar 1) (wCons (wVar 2) (wNil))))))))))
def n_road_in : List Str := ["words", "length", "room", "word"]
def w_NetReader___init__ (K : PySem.W.Frag) : WS := wSeq (wSetF [He.ga K "NetReader"] "towns" (wVar 0) (wLst (wNil))) (wSetF [He.ga K "NetReader"] "roads" (wVar 0) (wLst (wNil)))
def n_NetReader___init__ : List Str := ["self"]
def w_NetReader_is_town_read (K : PySem.W.Frag) : WS := wSeq (wIfS (wOrT (tst (wB (kEqA true) (wCall (p1 kLen) (wCons (wVar 1) (wNil))) (wC (.int 2)))) (wOrT (wNotT (tst (wCall (arN 1 (sp_is_name K)) (wCons (wB kIx (wVar 1) (wC (.int 1))) (wNil))))) (wOrT (tst (wB (kGt) (wCall (p1 kLen) (wCons (wFld [He.ga K "NetReader"] "roads" (wVar 0)) (wNil))) (wC (.int 0)))) (tst (wB (kEqA false) (wCall (p1 kLen) (wCons (wFld [He.ga K "NetReader"] "towns" (wVar 0)) (wNil))) (wC (.int 40))))))) (wRet (wC (.bl false))) (wNext)) (wSeq (wIfS (wAndT (tst (wB (kGt) (wCall (p1 kLen) (wCons (wFld [He.ga K "NetReader"] "towns" (wVar 0)) (wNil))) (wC (.int 0)))) (wNotT (tst (wB (kLt) (wB kIx (wFld [He.ga K "NetReader"] "towns" (wVar 0)) (w1 kNeg (wC (.int 1)))) (wB kIx (wVar 1) (wC (.int 1))))))) (wRet (wC (.bl false))) (wNext)) (wSeq (wExpr (wBM "list" kApp (wFld [He.ga K "NetReader"] "towns" (wVar 0)) (wCons (wB kIx (wVar 1) (wC (.int 1))) (wNil)))) (wRet (wC (.bl true)))))
def n_NetReader_is_town_read : List Str := ["self", "words"]
def w_NetReader_is_read (K : PySem.W.Frag) : WS := wSeq (wSet 2 (wBM "str" kSplit (wVar 1) (wCons (wC (.str " ")) (wNil)))) (wSeq (wIfS (tst (wB (kEqA false) (wB kIx (wVar 2) (wC (.int 0))) (wC (.str "town")))) (wRet (wMeth (He.ga K "NetReader") "is_town_read" (arN 2 (sp_NetReader_is_town_read K)) (wVar 0) (wCons (wVar 2) (wNil)))) (wNext)) (wSeq (wSet 3 (wCall (arN 1 (sp_road_in K)) (wCons (wVar 2) (wNil)))) (wSeq (wIfS (wOrT (tst (wB (kIs false) (wVar 3) (wC .non))) (wOrT (wNotT (tst (wCall (arN 2 (sp_is_road K)) (wCons (wFld [He.ga K "NetReader"] "towns" (wVar 0)) (wCons (wVar 3) (wNil)))))) (tst (wB (kEqA false) (wCall (p1 kLen) (wCons (wFld [He.ga K "NetReader"] "roads" (wVar 0)) (wNil))) (wC (.int 120)))))) (wRet (wC (.bl false))) (wNext)) (wSeq (wIfS (wAndT (tst (wB (kGt) (wCall (p1 kLen) (wCons (wFld [He.ga K "NetReader"] "roads" (wVar 0)) (wNil))) (wC (.int 0)))) (wNotT (tst (wB (kLt) (wB kIx (wB kIx (wFld [He.ga K "NetReader"] "roads" (wVar 0)) (w1 kNeg (wC (.int 1)))) (wC (.int 0))) (wB kIx (wVar 3) (wC (.int 0))))))) (wRet (wC (.bl false))) (wNext)) (wSeq (wExpr (wBM "list" kApp (wFld [He.ga K "NetReader"] "roads" (wVar 0)) (wCons (wVar 3) (wNil)))) (wRet (wC (.bl true))))))))
def n_NetReader_is_read : List Str := ["self", "line", "words", "road"]
def w_read_net_1 (K : PySem.W.Frag) : WS := wIfS (wNotT (tst (wMeth (He.ga K "NetReader") "is_read" (arN 2 (sp_NetReader_is_read K)) (wVar 2) (wCons (wB kIx (wVar 1) (wVar 3)) (wNil))))) (wRaise1 (He.ga K "BadLine") "number" (wB kAdd (wVar 3) (wC (.int 1)))) (wNext)
def w_read_net (K : PySem.W.Frag) : WS := wSeq (wIfS (wNotT (tst (wCall (p2 kIsB) (wCons (wVar 0) (wCons (wC (.ty "str")) (wNil)))))) (wRaise1 (He.ga K "BadLine") "number" (wC (.int 0))) (wNext)) (wSeq (wPar 1 2 (wCons (wBM "str" kSplit (wVar 0) (wCons (wC (.str "\n")) (wNil))) (wCons (wCall (arN 0 (kMake (He.ga K "NetReader") (sp_NetReader___init__ K))) wNil) (wNil)))) (wSeq (wFor (wRng1 (wB kSub (wCall (p1 kLen) (wCons (wVar 1) (wNil))) (wC (.int 1)))) (.nm 3) (w_read_net_1 K)) (wSeq (wIfS (tst (wB (kEqA true) (wB kIx (wVar 1) (w1 kNeg (wC (.int 1)))) (wC (.str "")))) (wRaise1 (He.ga K "BadLine") "number" (wCall (p1 kLen) (wCons (wVar 1) (wNil)))) (wNext)) (wRet (wCall (arN 2 (kMake (He.ga K "Net") (sp_Net___init__ K))) (wCons (wCall (p1 kTup) (wCons (wFld [He.ga K "NetReader"] "towns" (wVar 2)) (wNil))) (wCons (wCall (p1 kTup) (wCons (wFld [He.ga K "NetReader"] "roads" (wVar 2)) (wNil))) (wNil))))))))
def n_read_net : List Str := ["text", "lines", "reader", "at"]
def w__law_hand_1 (K : PySem.W.Frag) : WE := wCall (p1 kAbs) (wCons (wCall (p1 kInt) (wCons (wVar 2) (wNil))) (wNil))
def w__law_hand (K : PySem.W.Frag) : WS := wSeq (wSet 1 (wLc (wIt (wSl (wVar 0) (wNo) (wSo (wC (.int 63))))) (.nm 2) (wYes) (w__law_hand_1 K) [2])) (wRet (wLst (wCons (wVar 1) (wCons (wC (.int 0)) (wCons (wC (.int 0)) (wCons (wB kAdd (wC (.int 257)) (wB kMul (wC (.int 149)) (wCall (p1 kLen) (wCons (wVar 1) (wNil))))) (wCons (wC (.int 0)) (wNil))))))))
def n__law_hand : List Str := ["script", "cells", "cell"]
def w__law_draw (K : PySem.W.Frag) : WS := wSeq (wIfS (wAndT (tst (wB (kEqA false) (wB kIx (wVar 0) (wC (.int 2))) (wC (.int 0)))) (tst (wB (kLt) (wB kIx (wVar 0) (wC (.int 1))) (wCall (p1 kLen) (wCons (wB kIx (wVar 0) (wC (.int 0))) (wNil)))))) (wSeq (wSet 2 (wB kIx (wB kIx (wVar 0) (wC (.int 0))) (wB kIx (wVar 0) (wC (.int 1))))) (wSeq (wPut (wVar 0) (wC (.int 1)) (wB kAdd (wB kIx (wVar 0) (wC (.int 1))) (wC (.int 1)))) (wSeq (wPut (wVar 0) (wC (.int 3)) (wB kMod (wCall (p1 kInt) (wCons (wB kAdd (wB kAdd (wB kMul (wB kIx (wVar 0) (wC (.int 3))) (wC (.int 69621))) (wB kMul (wVar 2) (wC (.int 48271)))) (wC (.int 17))) (wNil))) (wC (.int 2147483629)))) (wIfS (tst (wB (kGe) (wVar 2) (wB kPow (wC (.int 10)) (wC (.int 18))))) (wPut (wVar 0) (wC (.int 2)) (wVar 2)) (wNext))))) (wNext)) (wSeq (wIfS (tst (wB (kGt) (wB kIx (wVar 0) (wC (.int 2))) (wC (.int 0)))) (wSeq (wSet 3 (wB kMod (wCall (p1 kInt) (wCons (wB kIx (wVar 0) (wC (.int 2))) (wNil))) (wVar 1))) (wSeq (wPut (wVar 0) (wC (.int 2)) (wB kDiv (wB kIx (wVar 0) (wC (.int 2))) (wVar 1))) (wRet (wVar 3)))) (wNext)) (wSeq (wPut (wVar 0) (wC (.int 4)) (wB kAdd (wB kIx (wVar 0) (wC (.int 4))) (wC (.int 1)))) (wSeq (wSet 4 (wB kMod (wCall (p1 kInt) (wCons (wB kMul (wCall (p1 kInt) (wCons (wB kAdd (wB kIx (wVar 0) (wC (.int 3))) (wB kMul (wC (.int 7919)) (wB kIx (wVar 0) (wC (.int 4))))) (wNil))) (wC (.int 40692))) (wNil))) (wC (.int 2147483647)))) (wSeq (wSet 4 (wB kMod (wCall (p1 kInt) (wCons (wB kMul (wVar 4) (wB kAdd (wB kDiv (wVar 4) (wC (.int 1009))) (wC (.int 69621)))) (wNil))) (wC (.int 2147483647)))) (wSeq (wSet 4 (wB kMod (wCall (p1 kInt) (wCons (wB kMul (wVar 4) (wB kAdd (wB kDiv (wVar 4) (wC (.int 2003))) (wC (.int 40014)))) (wNil))) (wC (.int 2147483563)))) (wRet (wB kMod (wCall (p1 kInt) (wCons (wB kDiv (wVar 4) (wC (.int 16))) (wNil))) (wVar 1))))))))
def n__law_draw : List Str := ["hand", "many", "cell", "digit", "number"]
def w__law_any (K : PySem.W.Frag) : WS := wRet (wB kIx (wVar 1) (wCall (arN 2 (sp__law_draw K)) (wCons (wVar 0) (wCons (wCall (p1 kLen) (wCons (wVar 1) (wNil))) (wNil)))))
def n__law_any : List Str := ["hand", "some"]
def w__law_parts_1 (K : PySem.W.Frag) : WS := wExpr (wBM "list" kApp (wVar 4) (wCons (wBM "list" kPop (wVar 3) (wCons (wCall (arN 2 (sp__law_draw K)) (wCons (wVar 0) (wCons (wCall (p1 kLen) (wCons (wVar 3) (wNil))) (wNil)))) (wNil))) (wNil)))
def w__law_parts_2 (K : PySem.W.Frag) : WS := wSeq (wPar 10 11 (wCons (wCall (arN 2 (sp__law_draw K)) (wCons (wVar 0) (wCons (wCall (p1 kLen) (wCons (wVar 4) (wNil))) (wNil)))) (wCons (wCall (arN 2 (sp__law_draw K)) (wCons (wVar 0) (wCons (wB kSub (wCall (p1 kLen) (wCons (wVar 4) (wNil))) (wC (.int 1))) (wNil)))) (wNil)))) (wSeq (wSet 11 (wB kAdd (wVar 11) (wCall (p1 kInt) (wCons (wB (kGe) (wVar 11) (wVar 10)) (wNil))))) (wSeq (wIfS (wTru (wVar 7)) (wPar 10 11 (wCons (wCall (p2 kMin2) (wCons (wVar 10) (wCons (wVar 11) (wNil)))) (wCons (wCall (p2 kMax2) (wCons (wVar 10) (wCons (wVar 11) (wNil)))) (wNil)))) (wNext)) (wExpr (wBM "list" kApp (wVar 6) (wCons (wTup (wCons (wVar 9) (wCons (wB kIx (wVar 4) (wVar 10)) (wCons (wB kIx (wVar 4) (wVar 11)) (wCons (wB kAdd (wVar 8) (wCall (arN 2 (sp__law_draw K)) (wCons (wVar 0) (wCons (wC (.int 6)) (wNil))))) (wCons (wCall (arN 2 (sp__law_draw K)) (wCons (wVar 0) (wCons (wC (.int 4)) (wNil)))) (wNil))))))) (wNil))))))
def w__law_parts (K : PySem.W.Frag) : WS := wSeq (wPar 3 4 (wCons (wLst (wLits [.str "a", .str "b", .str "c", .str "dd", .str "e", .str "fog", .str "g"])) (wCons (wLst (wNil)) (wNil)))) (wSeq (wFor (wRng1 (wCall (arN 2 (sp__law_draw K)) (wCons (wVar 0) (wCons (wB kAdd (wVar 1) (wC (.int 1))) (wNil))))) (.nm 5) (w__law_parts_1 K)) (wSeq (wPar3 4 6 7 (wCons (wCall (p1 kSorted) (wCons (wVar 4) (wNil))) (wCons (wLst (wNil)) (wCons (wB (kEqA false) (wCall (arN 2 (sp__law_draw K)) (wCons (wVar 0) (wCons (wC (.int 3)) (wNil)))) (wC (.int 0))) (wNil))))) (wSeq (wSet 8 (wCall (arN 2 (sp__law_any K)) (wCons (wVar 0) (wCons (wLstF (wCons (wC (.int 0)) (wCons (wC (.int 0)) (wCons (w1 kNeg (wC (.int 2))) (wNil))))) (wNil))))) (wSeq (wFor (wIt (wSl (wLstF (wLits [.str "p", .str "q", .str "r", .str "s", .str "t", .str "u", .str "vv", .str "w"])) (wNo) (wSo (wIf (tst (wB (kGt) (wCall (p1 kLen) (wCons (wVar 4) (wNil))) (wC (.int 1)))) (wCall (arN 2 (sp__law_draw K)) (wCons (wVar 0) (wCons (wB kAdd (wVar 2) (wC (.int 1))) (wNil)))) (wC (.int 0)))))) (.nm 9) (w__law_parts_2 K)) (wRet (wTup (wCons (wCall (p1 kTup) (wCons (wVar 4) (wNil))) (wCons (wCall (p1 kTup) (wCons (wVar 6) (wNil))) (wNil)))))))))
def n__law_parts : List Str := ["hand", "most", "few", "pool", "towns", "turn", "roads", "is_ahead", "low", "name", "at", "to"]
def w__law_text_1 (K : PySem.W.Frag) : WE := wB kAdd (wB kAdd (wC (.str "town ")) (wVar 8)) (wC (.str "\n"))
def w__law_text_2 (K : PySem.W.Frag) : WS := wExpr (wBM "list" kApp (wVar 2) (wCons (wB kAdd (wBM "str" kJoin (wC (.str " ")) (wCons (wLstF (wCons (wC (.str "road")) (wCons (wVar 3) (wCons (wVar 4) (wCons (wVar 5) (wCons (wCall (p1 kStr) (wCons (wVar 6) (wNil))) (wCons (wCall (p1 kStr) (wCons (wVar 7) (wNil))) (wNil)))))))) (wNil))) (wC (.str "\n"))) (wNil)))
def w__law_text (K : PySem.W.Frag) : WS := wSeq (wSet 2 (wLcM (wIt (wVar 0)) (.nm 8) (wYes) (w__law_text_1 K) [8])) (wSeq (wFor (wIt (wVar 1)) (.tp [3, 4, 5, 6, 7]) (w__law_text_2 K)) (wRet (wBM "str" kJoin (wC (.str "")) (wCons (wVar 2) (wNil)))))
def n__law_text : List Str := ["towns", "roads", "found", "name", "begin", "end", "length", "room", "town"]
def w__law_is_name_1 (K : PySem.W.Frag) : WE := wB (kIn false) (wVar 1) (wC (.str "abcdefghijklmnopqrstuvwxyz"))
def w__law_is_name (K : PySem.W.Frag) : WS := wRet (wAndV (wCh (kLe) (kLe) (wC (.int 1)) (wCall (p1 kLen) (wCons (wVar 0) (wNil))) (wC (.int 8))) (wCall (p1 kAll) (wCons (wLc (wIt (wVar 0)) (.nm 1) (wYes) (w__law_is_name_1 K) [1]) (wNil))))
def n__law_is_name : List Str := ["word", "sign"]
def w__law_number_1 (K : PySem.W.Frag) : WE := wB (kIn false) (wVar 5) (wC (.str "0123456789"))
def w__law_number (K : PySem.W.Frag) : WS := wSeq (wSet 3 (wIf (tst (wB (kEqA false) (wSl (wVar 0) (wNo) (wSo (wC (.int 1)))) (wC (.str "-")))) (wSl (wVar 0) (wSo (wC (.int 1))) (wNo)) (wVar 0))) (wSeq (wIfS (wOrT (tst (wB (kEqA false) (wVar 3) (wC (.str "")))) (wOrT (tst (wB (kGt) (wCall (p1 kLen) (wCons (wVar 3) (wNil))) (wC (.int 4)))) (wNotT (tst (wCall (p1 kAll) (wCons (wLc (wIt (wVar 3)) (.nm 5) (wYes) (w__law_number_1 K) [5]) (wNil))))))) (wRet (wC .non)) (wNext)) (wSeq (wIfS (wAndT (tst (wB (kEqA false) (wB kIx (wVar 3) (wC (.int 0))) (wC (.str "0")))) (wOrT (tst (wB (kGt) (wCall (p1 kLen) (wCons (wVar 3) (wNil))) (wC (.int 1)))) (tst (wB (kEqA true) (wVar 0) (wVar 3))))) (wRet (wC .non)) (wNext)) (wSeq (wSet 4 (wIf (tst (wB (kEqA false) (wVar 0) (wVar 3))) (wCall (p1 kInt) (wCons (wVar 3) (wNil))) (wB kSub (wC (.int 0)) (wCall (p1 kInt) (wCons (wVar 3) (wNil)))))) (wRet (wIf (tst (wCh (kLe) (kLe) (wVar 1) (wVar 4) (wVar 2))) (wVar 4) (wC .non))))))
def n__law_number : List Str := ["word", "low", "high", "figures", "number", "sign"]
def w__law_road_1 (K : PySem.W.Frag) : WE := wCall (arN 1 (sp__law_is_name K)) (wCons (wVar 5) (wNil))
def w__law_road (K : PySem.W.Frag) : WS := wSeq (wIfS (wOrT (tst (wB (kEqA true) (wCall (p1 kLen) (wCons (wVar 0) (wNil))) (wC (.int 6)))) (wOrT (tst (wB (kEqA true) (wB kIx (wVar 0) (wC (.int 0))) (wC (.str "road")))) (wNotT (tst (wCall (p1 kAll) (wCons (wLc (wIt (wSl (wVar 0) (wSo (wC (.int 1))) (wSo (wC (.int 4))))) (.nm 5) (wYes) (w__law_road_1 K) [5]) (wNil))))))) (wRet (wC .non)) (wNext)) (wSeq (wPar 3 4 (wCons (wCall (arN 3 (sp__law_number K)) (wCons (wB kIx (wVar 0) (wC (.int 4))) (wCons (w1 kNeg (wC (.int 1000))) (wCons (wC (.int 1000)) (wNil))))) (wCons (wCall (arN 3 (sp__law_number K)) (wCons (wB kIx (wVar 0) (wC (.int 5))) (wCons (wC (.int 0)) (wCons (wC (.int 1000)) (wNil))))) (wNil)))) (wSeq (wIfS (wOrT (tst (wB (kIs false) (wVar 3) (wC .non))) (wOrT (tst (wB (kIs false) (wVar 4) (wC .non))) (wOrT (tst (wB (kIn true) (wB kIx (wVar 0) (wC (.int 2))) (wVar 1))) (wOrT (tst (wB (kIn true) (wB kIx (wVar 0) (wC (.int 3))) (wVar 1))) (tst (wB (kEqA false) (wB kIx (wVar 0) (wC (.int 2))) (wB kIx (wVar 0) (wC (.int 3))))))))) (wRet (wC .non)) (wNext)) (wSeq (wIfS (wOrT (wAndT (tst (wB (kEqA true) (wVar 2) (wLstF (wNil)))) (wNotT (tst (wB (kLt) (wB kIx (wB kIx (wVar 2) (w1 kNeg (wC (.int 1)))) (wC (.int 0))) (wB kIx (wVar 0) (wC (.int 1))))))) (tst (wB (kEqA false) (wCall (p1 kLen) (wCons (wVar 2) (wNil))) (wC (.int 120))))) (wRet (wC .non)) (wNext)) (wRet (wTup (wCons (wB kIx (wVar 0) (wC (.int 1))) (wCons (wB kIx (wVar 0) (wC (.int 2))) (wCons (wB kIx (wVar 0) (wC (.int 3))) (wCons (wVar 3) (wCons (wVar 4) (wNil)))))))))))
def n__law_road : List Str := ["words", "towns", "roads", "length", "room", "word"]
def w__law_read_1 (K : PySem.W.Frag) : WS := wSeq (wSet 6 (wBM "str" kSplit (wVar 5) (wCons (wC (.str " ")) (wNil)))) (wIfS (tst (wB (kEqA false) (wB kIx (wVar 6) (wC (.int 0))) (wC (.str "town")))) (wSeq (wSet 7 (wAndV (wB (kEqA false) (wCall (p1 kLen) (wCons (wVar 6) (wNil))) (wC (.int 2))) (wAndV (wCall (arN 1 (sp__law_is_name K)) (wCons (wB kIx (wVar 6) (wC (.int 1))) (wNil))) (wAndV (wB (kEqA false) (wVar 3) (wLstF (wNil))) (wB (kLt) (wCall (p1 kLen) (wCons (wVar 2) (wNil))) (wC (.int 40))))))) (wSeq (wIfS (wOrT (wNotT (wTru (wVar 7))) (wAndT (tst (wB (kEqA true) (wVar 2) (wLstF (wNil)))) (wNotT (tst (wB (kLt) (wB kIx (wVar 2) (w1 kNeg (wC (.int 1)))) (wB kIx (wVar 6) (wC (.int 1)))))))) (wRet (wB kAdd (wVar 4) (wC (.int 1)))) (wNext)) (wExpr (wBM "list" kApp (wVar 2) (wCons (wB kIx (wVar 6) (wC (.int 1))) (wNil)))))) (wSeq (wSet 8 (wCall (arN 3 (sp__law_road K)) (wCons (wVar 6) (wCons (wVar 2) (wCons (wVar 3) (wNil)))))) (wSeq (wIfS (tst (wB (kIs false) (wVar 8) (wC .non))) (wRet (wB kAdd (wVar 4) (wC (.int 1)))) (wNext)) (wExpr (wBM "list" kApp (wVar 3) (wCons (wVar 8) (wNil)))))))
def w__law_read (K : PySem.W.Frag) : WS := wSeq (wPar3 1 2 3 (wCons (wBM "str" kSplit (wVar 0) (wCons (wC (.str "\n")) (wNil))) (wCons (wLst (wNil)) (wCons (wLst (wNil)) (wNil))))) (wSeq (wFor (wEnum (wSl (wVar 1) (wNo) (wSo (w1 kNeg (wC (.int 1)))))) (.tp [4, 5]) (w__law_read_1 K)) (wRet (wIf (tst (wB (kEqA true) (wB kIx (wVar 1) (w1 kNeg (wC (.int 1)))) (wC (.str "")))) (wCall (p1 kLen) (wCons (wVar 1) (wNil))) (wTup (wCons (wCall (p1 kTup) (wCons (wVar 2) (wNil))) (wCons (wCall (p1 kTup) (wCons (wVar 3) (wNil))) (wNil)))))))
def n__law_read : List Str := ["text", "lines", "towns", "roads", "at", "line", "words", "is_right", "road"]
def w__law_bent_1 (K : PySem.W.Frag) : WE := wB kAdd (wVar 12) (wC (.str "\n"))
def w__law_bent_2 (K : PySem.W.Frag) : WS := wExpr (wBM "list" kApp (wVar 8) (wCons (wBM "str" kJoin (wC (.str "")) (wCons (wLc (wIt (wVar 11)) (.nm 12) (wYes) (w__law_bent_1 K) [12]) (wNil))) (wNil)))
def w__law_bent (K : PySem.W.Frag) : WS := wSeq (wPar 2 3 (wCons (wCall (arN 2 (sp__law_draw K)) (wCons (wVar 0) (wCons (wB kAdd (wCall (p1 kLen) (wCons (wVar 1) (wNil))) (wC (.int 1))) (wNil)))) (wCons (wSl (wBM "str" kSplit (wVar 1) (wCons (wC (.str "\n")) (wNil))) (wNo) (wSo (w1 kNeg (wC (.int 1))))) (wNil)))) (wSeq (wPar 4 5 (wCons (wCall (arN 2 (sp__law_draw K)) (wCons (wVar 0) (wCons (wB kAdd (wCall (p1 kLen) (wCons (wVar 3) (wNil))) (wC (.int 1))) (wNil)))) (wCons (wCall (arN 2 (sp__law_draw K)) (wCons (wVar 0) (wCons (wB kAdd (wCall (p1 kLen) (wCons (wVar 3) (wNil))) (wC (.int 1))) (wNil)))) (wNil)))) (wSeq (wSet 6 (wCall (arN 2 (sp__law_any K)) (wCons (wVar 0) (wCons (wLstF (wLits [.str " ", .str "\n", .str "a", .str "-", .str "0", .str "9", .str "A", .str "town a\n", .str "road z a b 1 1\n", .str "  ", .str "~", .str "-0", .str "00"])) (wNil))))) (wSeq (wSet 7 (wLstF (wLits [.str "town a", .str "town zz", .str "town", .str "road p a b 1 1", .str "road zz a a 1 1", .str "road zz a b 1001 1", .str "", .str "net"]))) (wSeq (wSet 7 (wCall (arN 2 (sp__law_any K)) (wCons (wVar 0) (wCons (wVar 7) (wNil))))) (wSeq (wSet 8 (wLstF (wCons (wB kAdd (wB kAdd (wSl (wVar 1) (wNo) (wSo (wVar 2))) (wVar 6)) (wSl (wVar 1) (wSo (wVar 2)) (wNo))) (wCons (wB kAdd (wSl (wVar 1) (wNo) (wSo (wVar 2))) (wSl (wVar 1) (wSo (wB kAdd (wVar 2) (wC (.int 1)))) (wNo))) (wCons (wSl (wVar 1) (wNo) (wSo (w1 kNeg (wC (.int 1))))) (wCons (wB kAdd (wVar 1) (wVar 6)) (wNil))))))) (wSeq (wSet 8 (wB kAddM (wVar 8) (wLstF (wCons (wB kAdd (wB kAdd (wSl (wVar 1) (wNo) (wSo (wVar 2))) (wVar 6)) (wSl (wVar 1) (wSo (wB kAdd (wVar 2) (wC (.int 1)))) (wNo))) (wNil))))) (wSeq (wSet 9 (wB kAdd (wB kAdd (wSl (wVar 3) (wNo) (wSo (wVar 4))) (wLstF (wCons (wVar 7) (wNil)))) (wSl (wVar 3) (wSo (wVar 4)) (wNo)))) (wSeq (wSet 10 (wB kAdd (wSl (wVar 3) (wNo) (wSo (wVar 4))) (wRev (wSl (wVar 3) (wSo (wVar 4)) (wNo))))) (wSeq (wFor (wIt (wTup (wCons (wVar 9) (wCons (wVar 10) (wCons (wB kAdd (wSl (wVar 3) (wNo) (wSo (wVar 4))) (wSl (wVar 3) (wSo (wB kAdd (wVar 4) (wC (.int 1)))) (wNo))) (wCons (wB kAdd (wVar 3) (wSl (wVar 3) (wSo (wVar 5)) (wNo))) (wNil))))))) (.nm 11) (w__law_bent_2 K)) (wRet (wCall (arN 2 (sp__law_any K)) (wCons (wVar 0) (wCons (wVar 8) (wNil))))))))))))))
def n__law_bent : List Str := ["hand", "text", "at", "lines", "place", "to", "sign", "line", "some", "rows", "swapped", "other", "row"]
def w__law_told_1 (K : PySem.W.Frag) : WS := wSet 1 (wCall (arN 1 (sp_read_net K)) (wCons (wVar 0) (wNil)))
def w__law_told_2 (K : PySem.W.Frag) : Addr → Exc → WS := fun a e => wRet (wIf (tst (wExI K 2 a e (He.ga K "RoadError"))) (wExF K 2 a e "number") (wC (.str "odd")))
def w__law_told (K : PySem.W.Frag) : WS := wSeq (wTryA K (w__law_told_1 K) 2 (He.ga K "BadLine") (w__law_told_2 K)) (wRet (wIf (tst (wCall (p2 (kIsO (He.ga K "Net"))) (wCons (wVar 1) (wCons (wC (.ref (He.ga K "Net"))) (wNil))))) (wTup (wCons (wFld [He.ga K "Net"] "towns" (wVar 1)) (wCons (wFld [He.ga K "Net"] "roads" (wVar 1)) (wNil)))) (wC (.str "odd"))))
def n__law_told : List Str := ["text", "found", "error"]
def w_law_1 (K : PySem.W.Frag) : WS := wSeq (wSet 7 (wCall (arN 2 (sp__law_bent K)) (wCons (wVar 1) (wCons (wVar 5) (wNil))))) (wSeq (wIfS (tst (wB (kEqA false) (wCall (arN 2 (sp__law_draw K)) (wCons (wVar 1) (wCons (wC (.int 4)) (wNil)))) (wC (.int 0)))) (wSet 7 (wCall (arN 2 (sp__law_bent K)) (wCons (wVar 1) (wCons (wVar 7) (wNil))))) (wNext)) (wIfS (tst (wB (kEqA true) (wCall (p1 kRepr) (wCons (wCall (arN 1 (sp__law_told K)) (wCons (wVar 7) (wNil))) (wNil))) (wCall (p1 kRepr) (wCons (wCall (arN 1 (sp__law_read K)) (wCons (wVar 7) (wNil))) (wNil))))) (wRet (wC (.bl false))) (wNext)))
def w_law_2 (K : PySem.W.Frag) : WS := wSeq (wAsg (.tp [3, 4]) (wCall (arN 3 (sp__law_parts K)) (wCons (wVar 1) (wCons (wC (.int 5)) (wCons (wC (.int 5)) (wNil)))))) (wSeq (wSet 5 (wCall (arN 2 (sp__law_text K)) (wCons (wVar 3) (wCons (wVar 4) (wNil))))) (wFor (wRng1 (wC (.int 7))) (.nm 6) (w_law_1 K)))
def w_law_3 (K : PySem.W.Frag) : WE := wB kAdd (wC (.str "a")) (wVar 11)
def w_law_4 (K : PySem.W.Frag) : WE := wB kAdd (wC (.str "b")) (wVar 11)
def w_law_5 (K : PySem.W.Frag) : WE := wB kAdd (wB kAdd (wC (.str "town ")) (wVar 12)) (wC (.str "\n"))
def w_law (K : PySem.W.Frag) : WS := wSeq (wSet 1 (wCall (arN 1 (sp__law_hand K)) (wCons (wVar 0) (wNil)))) (wSeq (wFor (wRng1 (wC (.int 4))) (.nm 2) (w_law_2 K)) (wSeq (wSet 8 (wB kAdd (wLc (wIt (wC (.str "abcdefghijklmnopqrst"))) (.nm 11) (wYes) (w_law_3 K) [11]) (wLc (wIt (wC (.str "abcdefghijklmnopqrst"))) (.nm 11) (wYes) (w_law_4 K) [11]))) (wSeq (wSet 9 (wBM "str" kJoin (wC (.str "")) (wCons (wLc (wIt (wVar 8)) (.nm 12) (wYes) (w_law_5 K) [12]) (wNil)))) (wSeq (wIfS (wOrT (tst (wB (kEqA true) (wCall (arN 1 (sp__law_told K)) (wCons (wVar 9) (wNil))) (wTup (wCons (wCall (p1 kTup) (wCons (wVar 8) (wNil))) (wCons (wTup (wNil)) (wNil)))))) (tst (wB (kEqA true) (wCall (arN 1 (sp__law_told K)) (wCons (wB kAdd (wVar 9) (wC (.str "town zz\n"))) (wNil))) (wC (.int 41))))) (wRet (wC (.bl false))) (wNext)) (wSeq (wSet 10 (wCall (arN 2 (sp__law_any K)) (wCons (wVar 1) (wCons (wLstF (wCons (wC .non) (wCons (wC (.int 0)) (wCons (wLstF (wCons (wC (.str "town a\n")) (wNil))) (wCons (wTup (wCons (wC (.str "town a\n")) (wNil))) (wCons (wC (.bl true)) (wCons (wDct0) (wNil)))))))) (wNil))))) (wRet (wB (kEqA false) (wCall (arN 1 (sp__law_told K)) (wCons (wVar 10) (wNil))) (wC (.int 0)))))))))
def n_law : List Str := ["script", "hand", "turn", "towns", "roads", "text", "again", "bent", "many", "great", "odd", "letter", "town"]
/-! ### the text -/
def top (i : Nat) : Stmt := PySem.Challenge.pw_roadwarrant_k03_whole_first_wrong_lines.main.body.getD i (.Pass ⟨0, 0, 0, 0⟩)
abbrev s_is_integer : Stmt := top 3
abbrev s_is_within : Stmt := top 4
abbrev s_is_name : Stmt := top 5
abbrev s_is_tuple : Stmt := top 6
abbrev s_does_ascend : Stmt := top 7
abbrev s_is_road : Stmt := top 22
abbrev s_number_in : Stmt := top 27
abbrev s_integer_in : Stmt := top 28
abbrev s_road_in : Stmt := top 29
abbrev s_read_net : Stmt := top 31
abbrev s__law_hand : Stmt := top 33
abbrev s__law_draw : Stmt := top 34
abbrev s__law_any : Stmt := top 35
abbrev s__law_parts : Stmt := top 36
abbrev s__law_text : Stmt := top 37
abbrev s__law_is_name : Stmt := top 38
abbrev s__law_number : Stmt := top 39
abbrev s__law_road : Stmt := top 40
abbrev s__law_read : Stmt := top 41
abbrev s__law_bent : Stmt := top 42
abbrev s__law_told : Stmt := top 43
abbrev s_law : Stmt := top 44
abbrev s_RoadError___init__ : Stmt := inClass (top 9) 0
abbrev s_BadNet___init__ : Stmt := inClass (top 10) 0
abbrev s_BadLine___init__ : Stmt := inClass (top 11) 0
abbrev s_Net___init__ : Stmt := inClass (top 23) 0
abbrev s_Net_keep : Stmt := inClass (top 23) 1
abbrev s_Net___eq__ : Stmt := inClass (top 23) 2
abbrev s_NetReader___init__ : Stmt := inClass (top 30) 0
abbrev s_NetReader_is_read : Stmt := inClass (top 30) 1
abbrev s_NetReader_is_town_read : Stmt := inClass (top 30) 2
/-! ### facts by names -/
def mkD (at_ : Str × Option Str) (x q : Str) (s : Stmt) : He.DefD := ⟨at_, x, q, defArgs s, defBody s, defScope s, [], []⟩
def d_is_integer : He.DefD := mkD ("is_integer", none) "is_integer" "is_integer" s_is_integer
def d_is_within : He.DefD := mkD ("is_within", none) "is_within" "is_within" s_is_within
def d_is_name : He.DefD := mkD ("is_name", none) "is_name" "is_name" s_is_name
def d_is_tuple : He.DefD := mkD ("is_tuple", none) "is_tuple" "is_tuple" s_is_tuple
def d_does_ascend : He.DefD := mkD ("does_ascend", none) "does_ascend" "does_ascend" s_does_ascend
def d_is_road : He.DefD := mkD ("is_road", none) "is_road" "is_road" s_is_road
def d_number_in : He.DefD := mkD ("number_in", none) "number_in" "number_in" s_number_in
def d_integer_in : He.DefD := mkD ("integer_in", none) "integer_in" "integer_in" s_integer_in
def d_road_in : He.DefD := mkD ("road_in", none) "road_in" "road_in" s_road_in
def d_read_net : He.DefD := mkD ("read_net", none) "read_net" "read_net" s_read_net
def d__law_hand : He.DefD := mkD ("_law_hand", none) "_law_hand" "_law_hand" s__law_hand
def d__law_draw : He.DefD := mkD ("_law_draw", none) "_law_draw" "_law_draw" s__law_draw
def d__law_any : He.DefD := mkD ("_law_any", none) "_law_any" "_law_any" s__law_any
def d__law_parts : He.DefD := mkD ("_law_parts", none) "_law_parts" "_law_parts" s__law_parts
def d__law_text : He.DefD := mkD ("_law_text", none) "_law_text" "_law_text" s__law_text
def d__law_is_name : He.DefD := mkD ("_law_is_name", none) "_law_is_name" "_law_is_name" s__law_is_name
def d__law_number : He.DefD := mkD ("_law_number", none) "_law_number" "_law_number" s__law_number
def d__law_road : He.DefD := mkD ("_law_road", none) "_law_road" "_law_road" s__law_road
def d__law_read : He.DefD := mkD ("_law_read", none) "_law_read" "_law_read" s__law_read
def d__law_bent : He.DefD := mkD ("_law_bent", none) "_law_bent" "_law_bent" s__law_bent
def d__law_told : He.DefD := mkD ("_law_told", none) "_law_told" "_law_told" s__law_told
def d_law : He.DefD := mkD ("law", none) "law" "law" s_law
def d_RoadError___init__ : He.DefD := mkD ("RoadError", some "__init__") "__init__" "RoadError.__init__" s_RoadError___init__
def d_BadLine___init__ : He.DefD := mkD ("BadLine", some "__init__") "__init__" "BadLine.__init__" s_BadLine___init__
def d_Net___init__ : He.DefD := mkD ("Net", some "__init__") "__init__" "Net.__init__" s_Net___init__
def d_Net_keep : He.DefD := mkD ("Net", some "keep") "keep" "Net.keep" s_Net_keep
def d_NetReader___init__ : He.DefD := mkD ("NetReader", some "__init__") "__init__" "NetReader.__init__" s_NetReader___init__
def d_NetReader_is_read : He.DefD := mkD ("NetReader", some "is_read") "is_read" "NetReader.is_read" s_NetReader_is_read
def d_NetReader_is_town_read : He.DefD := mkD ("NetReader", some "is_town_read") "is_town_read" "NetReader.is_town_read" s_NetReader_is_town_read
def fn : List He.DefD := [d_is_integer, d_is_within, d_is_name, d_is_tuple, d_does_ascend, d_is_road, d_number_in, d_integer_in, d_road_in, d_read_net, d__law_hand, d__law_draw, d__law_any, d__law_parts, d__law_text, d__law_is_name, d__law_number, d__law_road, d__law_read, d__law_bent, d__law_told, d_law, d_RoadError___init__, d_BadLine___init__, d_Net___init__, d_Net_keep, d_NetReader___init__, d_NetReader_is_read, d_NetReader_is_town_read]
def fa : List He.Fa := [.glo "is_integer", .glo "is_within", .glo "is_name", .glo "is_tuple", .glo "does_ascend", .glo "RoadError", .glo "BadNet", .glo "BadLine", .glo "is_road", .glo "Net", .glo "number_in", .glo "integer_in", .glo "road_in", .glo "NetReader", .glo "read_net", .glo "_law_hand", .glo "_law_draw", .glo "_law_any", .glo "_law_parts", .glo "_law_text", .glo "_law_is_name", .glo "_law_number", .glo "_law_road", .glo "_law_read", .glo "_law_bent", .glo "_law_told", .glo "law", .free "abs", .free "all", .free "bool", .free "enumerate", .free "int", .free "isinstance", .free "len", .free "max", .free "min", .free "range", .free "repr", .free "sorted", .free "str", .free "tuple", .free "ValueError", .int "LONGEST" 8, .int "MOST_TOWNS" 40, .int "MOST_ROADS" 120, .int "LONGEST_ROAD" 1000, .int "MOST_ROOM" 1000, .int "NAME" 0, .int "BEGIN" 1, .int "END" 2, .int "LENGTH" 3, .int "ROOM" 4, .int "MOST_FIGURES" 4, .str "SMALL" "abcdefghijklmnopqrstuvwxyz", .str "FIGURES" "0123456789", .cls "Net", .mkr "Net", .meth "Net" "keep", .noat "Net" "towns", .noat "Net" "roads", .noat "Net" "named", .noat "Net" "outs", .noat "Net" "ins", .noat "Net" "ties", .cls "NetReader", .mkr "NetReader", .meth "NetReader" "is_read", .meth "NetReader" "is_town_read", .noat "NetReader" "towns", .noat "NetReader" "roads", .noat "BadLine" "number"]
def n_RoadError___init__ : List Str := ["self"]
def n_BadLine___init__ : List Str := ["self", "number"]
section
variable {P : Program} {w : World} {K : PySem.W.Frag} {mg : Str → Option Value} {base : Heap}
theorem sc_RoadError___init__ : FnScope n_RoadError___init__ ["self"] (defScope s_RoadError___init__) := ⟨rfl, rfl, rfl, by decide +kernel, rfl, by decide +kernel, by decide +kernel⟩
theorem okx_RoadError___init__ (fx : Fx fa fn K mg) : FnH P w K mg base 1 ("RoadError", some "__init__") ["self"] (spX0 K) := by
  obtain ⟨fd, F⟩ := fx.c.def_ 22 (d := d_RoadError___init__) rfl
  exact ⟨fd, fnX0 F sc_RoadError___init__ (fun cdv A outer s H E => pss_cons (ps_expr (pe_veinit rfl (fx.free 41) (by kernel_rfl) (pa_cons (pe_var (i := 0) rfl (Or.inl rfl)) pa_nil))) pss_nil), F.bindsN (fun _ _ _ _ _ _ us hl => match us, hl with | [_], _ => rfl), F.kp⟩
theorem sc_BadLine___init__ : FnScope n_BadLine___init__ ["self", "number"] (defScope s_BadLine___init__) := ⟨rfl, rfl, rfl, by decide +kernel, rfl, by decide +kernel, by decide +kernel⟩
theorem okx_BadLine___init__ (fx : Fx fa fn K mg) (hex : exB K = true) (c_RoadError___init__ : FnH P w K mg base 1 ("RoadError", some "__init__") ["self"] (spX0 K)) : FnH P w K mg base 2 ("BadLine", some "__init__") ["self", "number"] (spX1 K "number") := by
  obtain ⟨fd, F⟩ := fx.c.def_ 23 (d := d_BadLine___init__) rfl
  obtain ⟨r, cv⟩ := clfB_ok (clf_RoadError K hex)
  obtain ⟨fd0, F0, hb0, hk0⟩ := c_RoadError___init__.ex
  exact ⟨fd, fnX1 F sc_BadLine___init__ rfl (fun cdv A outer s H E hr => pss_cons (ps_expr (pe_clf rfl (fx.glo 5) r cv F0 hr hb0 hk0 (pa_cons (pe_var (i := 0) rfl (Or.inl rfl)) pa_nil))) (pss_cons (ps_ost (pe_var (i := 0) rfl (Or.inl rfl)) (pe_var (i := 1) rfl (Or.inl rfl))) pss_nil)), F.bindsN (fun _ _ _ _ _ _ us hl => match us, hl with | [_, _], _ => rfl), F.kp⟩
theorem sc_is_integer : FnScope n_is_integer ["thing"] (defScope s_is_integer) := ⟨rfl, rfl, rfl, by decide +kernel, rfl, by decide +kernel, by decide +kernel⟩
theorem dv_is_integer (fx : Fx fa fn K mg) (hex : exB K = true) {f : Addr} (cdv : Value) (A : Around) (outer : List Env) (s : Shared) (H : Hp) (E : XK) (hr : Room 0 (A.deeper (envOfC "is_integer" (defScope s_is_integer) s.heap.objs.size f cdv))) :
    DSs (cxOf (CX P w) P w K mg base n_is_integer "is_integer" (defScope s_is_integer) f cdv A outer s H E) (lcOf (tbl K) E) (defBody s_is_integer) (w_is_integer K) := by
  have tk : Takes (cxOf (CX P w) P w K mg base n_is_integer "is_integer" (defScope s_is_integer) f cdv A outer s H E) (lcOf (tbl K) E).W := takes_of rfl rfl rfl rfl
  exact dss_one (ds_ret (de_and (de_callB c_isB (fx.free 32) (da_cons (de_var 0) (da_cons (de_ty (fx.free 31) bt_int) (da_nil))) bt_isinstance) (de_one (de_not (de_callB c_isB (fx.free 32) (da_cons (de_var 0) (da_cons (de_ty (fx.free 29) bt_bool) (da_nil))) bt_isinstance)))))
theorem sc_is_within : FnScope n_is_within ["thing", "least", "most"] (defScope s_is_within) := ⟨rfl, rfl, rfl, by decide +kernel, rfl, by decide +kernel, by decide +kernel⟩
theorem dv_is_within (fx : Fx fa fn K mg) (hex : exB K = true) (c_is_integer : Fn P w K mg base (tbl K) 1 ("is_integer", none) ["thing"] (sp_is_integer K)) {f : Addr} (cdv : Value) (A : Around) (outer : List Env) (s : Shared) (H : Hp) (E : XK) (hr : Room 1 (A.deeper (envOfC "is_within" (defScope s_is_within) s.heap.objs.size f cdv))) :
    DSs (cxOf (CX P w) P w K mg base n_is_within "is_within" (defScope s_is_within) f cdv A outer s H E) (lcOf (tbl K) E) (defBody s_is_within) (w_is_within K) := by
  have tk : Takes (cxOf (CX P w) P w K mg base n_is_within "is_within" (defScope s_is_within) f cdv A outer s H E) (lcOf (tbl K) E).W := takes_of rfl rfl rfl rfl
  exact dss_one (ds_ret (de_and (de_fn 1 c_is_integer tk hr (fx.glo 0) rfl (da_cons (de_var 0) (da_nil))) (de_one (de_chain o_le o_le (de_var 1) (de_var 0) (de_var 2)))))
theorem sc_is_name : FnScope n_is_name ["thing"] (defScope s_is_name) := ⟨rfl, rfl, rfl, by decide +kernel, rfl, by decide +kernel, by decide +kernel⟩
theorem dv_is_name (fx : Fx fa fn K mg) (hex : exB K = true) {f : Addr} (cdv : Value) (A : Around) (outer : List Env) (s : Shared) (H : Hp) (E : XK) (hr : Room 0 (A.deeper (envOfC "is_name" (defScope s_is_name) s.heap.objs.size f cdv))) :
    DSs (cxOf (CX P w) P w K mg base n_is_name "is_name" (defScope s_is_name) f cdv A outer s H E) (lcOf (tbl K) E) (defBody s_is_name) (w_is_name K) := by
  have tk : Takes (cxOf (CX P w) P w K mg base n_is_name "is_name" (defScope s_is_name) f cdv A outer s H E) (lcOf (tbl K) E).W := takes_of rfl rfl rfl rfl
  exact dss_one (ds_ret (de_and (de_callB c_isB (fx.free 32) (da_cons (de_var 0) (da_cons (de_ty (fx.free 39) bt_str) (da_nil))) bt_isinstance) (de_and (de_chain o_le o_le (de_int) (de_callB c_len (fx.free 33) (da_cons (de_var 0) (da_nil)) bt_len) (de_gint (fx.int 42))) (de_one (de_callB (c_all rfl) (fx.free 28) (da_cons (de_lcN [("sign", 1)] [1] rfl rfl sc_is_name.nd (di_seq (de_var 0)) (blkOk_by (N := n_is_name) (sc := defScope s_is_name) (by decide +kernel)) (fun _ _ _ _ _ => tg_nm 1 sc_is_name.nd) (fun _ _ _ _ _ => dts_nil) (fun _ _ _ _ _ => de_cmp (o_in (Room_u1 hr)) (de_var 1) (de_gstr (fx.str 53)))) (da_nil)) bt_all)))))
theorem sc_is_tuple : FnScope n_is_tuple ["thing", "size"] (defScope s_is_tuple) := ⟨rfl, rfl, rfl, by decide +kernel, rfl, by decide +kernel, by decide +kernel⟩
theorem dv_is_tuple (fx : Fx fa fn K mg) (hex : exB K = true) {f : Addr} (cdv : Value) (A : Around) (outer : List Env) (s : Shared) (H : Hp) (E : XK) (hr : Room 0 (A.deeper (envOfC "is_tuple" (defScope s_is_tuple) s.heap.objs.size f cdv))) :
    DSs (cxOf (CX P w) P w K mg base n_is_tuple "is_tuple" (defScope s_is_tuple) f cdv A outer s H E) (lcOf (tbl K) E) (defBody s_is_tuple) (w_is_tuple K) := by
  have tk : Takes (cxOf (CX P w) P w K mg base n_is_tuple "is_tuple" (defScope s_is_tuple) f cdv A outer s H E) (lcOf (tbl K) E).W := takes_of rfl rfl rfl rfl
  exact dss_one (ds_ret (de_and (de_callB c_isB (fx.free 32) (da_cons (de_var 0) (da_cons (de_ty (fx.free 40) bt_tuple) (da_nil))) bt_isinstance) (de_one (de_cmp (o_eqA (Room_u64 hr)) (de_callB c_len (fx.free 33) (da_cons (de_var 0) (da_nil)) bt_len) (de_var 1)))))
theorem sc_does_ascend : FnScope n_does_ascend ["thing"] (defScope s_does_ascend) := ⟨rfl, rfl, rfl, by decide +kernel, rfl, by decide +kernel, by decide +kernel⟩
theorem dv_does_ascend (fx : Fx fa fn K mg) (hex : exB K = true) {f : Addr} (cdv : Value) (A : Around) (outer : List Env) (s : Shared) (H : Hp) (E : XK) (hr : Room 0 (A.deeper (envOfC "does_ascend" (defScope s_does_ascend) s.heap.objs.size f cdv))) :
    DSs (cxOf (CX P w) P w K mg base n_does_ascend "does_ascend" (defScope s_does_ascend) f cdv A outer s H E) (lcOf (tbl K) E) (defBody s_does_ascend) (w_does_ascend K) := by
  have tk : Takes (cxOf (CX P w) P w K mg base n_does_ascend "does_ascend" (defScope s_does_ascend) f cdv A outer s H E) (lcOf (tbl K) E).W := takes_of rfl rfl rfl rfl
  exact dss_one (ds_ret (de_callB (c_all rfl) (fx.free 28) (da_cons (de_lcN [("at", 1)] [1] rfl rfl sc_does_ascend.nd (di_range2 (fx.free 36) (de_int) (de_callB c_len (fx.free 33) (da_cons (de_var 0) (da_nil)) bt_len)) (blkOk_by (N := n_does_ascend) (sc := defScope s_does_ascend) (by decide +kernel)) (fun _ _ _ _ _ => tg_nm 1 sc_does_ascend.nd) (fun _ _ _ _ _ => dts_nil) (fun _ _ _ _ _ => de_cmp o_lt (de_ix (Room_u1 hr) (de_var 0) (de_bin o_sub (de_var 1) (de_int))) (de_ix (Room_u1 hr) (de_var 0) (de_var 1)))) (da_nil)) bt_all))
theorem sc_is_road : FnScope n_is_road ["towns", "thing"] (defScope s_is_road) := ⟨rfl, rfl, rfl, by decide +kernel, rfl, by decide +kernel, by decide +kernel⟩
theorem dv_is_road (fx : Fx fa fn K mg) (hex : exB K = true) (c_is_tuple : Fn P w K mg base (tbl K) 1 ("is_tuple", none) ["thing", "size"] (sp_is_tuple K)) (c_is_name : Fn P w K mg base (tbl K) 1 ("is_name", none) ["thing"] (sp_is_name K)) (c_is_within : Fn P w K mg base (tbl K) 2 ("is_within", none) ["thing", "least", "most"] (sp_is_within K)) {f : Addr} (cdv : Value) (A : Around) (outer : List Env) (s : Shared) (H : Hp) (E : XK) (hr : Room 2 (A.deeper (envOfC "is_road" (defScope s_is_road) s.heap.objs.size f cdv))) :
    DSs (cxOf (CX P w) P w K mg base n_is_road "is_road" (defScope s_is_road) f cdv A outer s H E) (lcOf (tbl K) E) (defBody s_is_road) (w_is_road K) := by
  have tk : Takes (cxOf (CX P w) P w K mg base n_is_road "is_road" (defScope s_is_road) f cdv A outer s H E) (lcOf (tbl K) E).W := takes_of rfl rfl rfl rfl
  exact dss_cons (ds_if ((dw_or (dt_not (dt_val (de_fn 2 c_is_tuple tk (hr.mono (by decide)) (fx.glo 3) rfl (da_cons (de_var 1) (da_cons (de_int) (da_nil)))))) (dw_or1 (dt_not (dt_val (de_callB (c_all rfl) (fx.free 28) (da_cons (de_lcN [("name", 2)] [2] rfl rfl sc_is_road.nd (di_seq (de_slice (de_var 1) (do_none) (do_some (de_int)))) (blkOk_by (N := n_is_road) (sc := defScope s_is_road) (by decide +kernel)) (fun _ _ _ _ _ => tg_nm 2 sc_is_road.nd) (fun _ _ _ _ _ => dts_nil) (fun _ _ _ _ _ => de_fn 1 c_is_name takes0 (hr.mono (by decide)) (fx.glo 2) rfl (da_cons (de_var 2) (da_nil)))) (da_nil)) bt_all))))).pt) (dss_one (ds_ret (de_bl))) (dss_nil)) (dss_cons (ds_if ((dw_or (dt_cmp (o_eqA (Room_u64 hr)) (de_ix (Room_u1 hr) (de_var 1) (de_gint (fx.int 48))) (de_ix (Room_u1 hr) (de_var 1) (de_gint (fx.int 49)))) (dw_or (dt_cmp (o_notin (Room_u1 hr)) (de_ix (Room_u1 hr) (de_var 1) (de_gint (fx.int 48))) (de_var 0)) (dw_or1 (dt_cmp (o_notin (Room_u1 hr)) (de_ix (Room_u1 hr) (de_var 1) (de_gint (fx.int 49))) (de_var 0))))).pt) (dss_one (ds_ret (de_bl))) (dss_nil)) (dss_one (ds_ret (de_and (de_fn 3 c_is_within tk hr (fx.glo 1) rfl (da_cons (de_ix (Room_u1 hr) (de_var 1) (de_gint (fx.int 50))) (da_cons (de_un o_neg (de_gint (fx.int 45))) (da_cons (de_gint (fx.int 45)) (da_nil))))) (de_one (de_fn 3 c_is_within tk hr (fx.glo 1) rfl (da_cons (de_ix (Room_u1 hr) (de_var 1) (de_gint (fx.int 51))) (da_cons (de_int) (da_cons (de_gint (fx.int 46)) (da_nil))))))))))
theorem sc_Net_keep : FnScope n_Net_keep ["self", "towns", "roads"] (defScope s_Net_keep) := ⟨rfl, rfl, rfl, by decide +kernel, rfl, by decide +kernel, by decide +kernel⟩
theorem dv_Net_keep (fx : Fx fa fn K mg) (hex : exB K = true) {f : Addr} (cdv : Value) (A : Around) (outer : List Env) (s : Shared) (H : Hp) (E : XK) (hr : Room 0 (A.deeper (envOfC "Net.keep" (defScope s_Net_keep) s.heap.objs.size f cdv))) :
    DSs (cxOf (CX P w) P w K mg base n_Net_keep "Net.keep" (defScope s_Net_keep) f cdv A outer s H E) (lcOf (tbl K) E) (defBody s_Net_keep) (w_Net_keep K) := by
  have tk : Takes (cxOf (CX P w) P w K mg base n_Net_keep "Net.keep" (defScope s_Net_keep) f cdv A outer s H E) (lcOf (tbl K) E).W := takes_of rfl rfl rfl rfl
  exact dss_cons (ds_setF _ (one_cls (fx.cls 55) (fx.noat 58)) (de_var 0) (de_var 1)) (dss_cons (ds_setF _ (one_cls (fx.cls 55) (fx.noat 59)) (de_var 0) (de_var 2)) (dss_cons (ds_setF _ (one_cls (fx.cls 55) (fx.noat 60)) (de_var 0) (de_dcN [("road", 3)] [3] rfl rfl sc_Net_keep.nd (di_seq (de_var 2)) (blkOk_by (N := n_Net_keep) (sc := defScope s_Net_keep) (by decide +kernel)) (fun _ _ _ _ _ => tg_nm 3 sc_Net_keep.nd) (fun _ _ _ _ _ => dts_nil) (fun _ _ _ _ _ => de_ix (Room_u1 hr) (de_var 3) (de_gint (fx.int 47))) (fun _ _ _ _ _ => de_var 3))) (dss_cons (ds_setF _ (one_cls (fx.cls 55) (fx.noat 61)) (de_var 0) (de_dcN [("town", 4)] [4] rfl rfl sc_Net_keep.nd (di_seq (de_var 1)) (blkOk_by (N := n_Net_keep) (sc := defScope s_Net_keep) (by decide +kernel)) (fun _ _ _ _ _ => tg_nm 4 sc_Net_keep.nd) (fun _ _ _ _ _ => dts_nil) (fun _ _ _ _ _ => de_var 4) (fun _ _ _ _ _ => de_lstM (da_nil)))) (dss_cons (ds_setF _ (one_cls (fx.cls 55) (fx.noat 62)) (de_var 0) (de_dcN [("town", 4)] [4] rfl rfl sc_Net_keep.nd (di_seq (de_var 1)) (blkOk_by (N := n_Net_keep) (sc := defScope s_Net_keep) (by decide +kernel)) (fun _ _ _ _ _ => tg_nm 4 sc_Net_keep.nd) (fun _ _ _ _ _ => dts_nil) (fun _ _ _ _ _ => de_var 4) (fun _ _ _ _ _ => de_lstM (da_nil)))) (dss_cons (ds_setF _ (one_cls (fx.cls 55) (fx.noat 63)) (de_var 0) (de_dcN [("town", 4)] [4] rfl rfl sc_Net_keep.nd (di_seq (de_var 1)) (blkOk_by (N := n_Net_keep) (sc := defScope s_Net_keep) (by decide +kernel)) (fun _ _ _ _ _ => tg_nm 4 sc_Net_keep.nd) (fun _ _ _ _ _ => dts_nil) (fun _ _ _ _ _ => de_var 4) (fun _ _ _ _ _ => de_lstM (da_nil)))) (dss_one (ds_for (passes_of rfl) rfl (di_seq (de_var 2)) (tg_nm 3 sc_Net_keep.nd) (dss_cons (ds_expr (de_append (de_ix (Room_u1 hr) (de_fld _ (one_cls (fx.cls 55) (fx.noat 61)) (de_var 0)) (de_ix (Room_u1 hr) (de_var 3) (de_gint (fx.int 48)))) (da_cons (de_var 3) (da_nil)))) (dss_cons (ds_expr (de_append (de_ix (Room_u1 hr) (de_fld _ (one_cls (fx.cls 55) (fx.noat 62)) (de_var 0)) (de_ix (Room_u1 hr) (de_var 3) (de_gint (fx.int 49)))) (da_cons (de_var 3) (da_nil)))) (dss_cons (ds_expr (de_append (de_ix (Room_u1 hr) (de_fld _ (one_cls (fx.cls 55) (fx.noat 63)) (de_var 0)) (de_ix (Room_u1 hr) (de_var 3) (de_gint (fx.int 48)))) (da_cons (de_var 3) (da_nil)))) (dss_one (ds_expr (de_append (de_ix (Room_u1 hr) (de_fld _ (one_cls (fx.cls 55) (fx.noat 63)) (de_var 0)) (de_ix (Room_u1 hr) (de_var 3) (de_gint (fx.int 49)))) (da_cons (de_var 3) (da_nil)))))))))))))))
theorem sc_Net___init__ : FnScope n_Net___init__ ["self", "towns", "roads"] (defScope s_Net___init__) := ⟨rfl, rfl, rfl, by decide +kernel, rfl, by decide +kernel, by decide +kernel⟩
theorem dv_Net___init__ (fx : Fx fa fn K mg) (hex : exB K = true) (c_is_name : Fn P w K mg base (tbl K) 1 ("is_name", none) ["thing"] (sp_is_name K)) (c_does_ascend : Fn P w K mg base (tbl K) 1 ("does_ascend", none) ["thing"] (sp_does_ascend K)) (c_is_road : Fn P w K mg base (tbl K) 3 ("is_road", none) ["towns", "thing"] (sp_is_road K)) (c_Net_keep : Fn P w K mg base (tbl K) 1 ("Net", some "keep") ["self", "towns", "roads"] (sp_Net_keep K)) {f : Addr} (cdv : Value) (A : Around) (outer : List Env) (s : Shared) (H : Hp) (E : XK) (hr : Room 3 (A.deeper (envOfC "Net.__init__" (defScope s_Net___init__) s.heap.objs.size f cdv))) :
    DSs (cxOf (CX P w) P w K mg base n_Net___init__ "Net.__init__" (defScope s_Net___init__) f cdv A outer s H E) (lcOf (tbl K) E) (defBody s_Net___init__) (w_Net___init__ K) := by
  have tk : Takes (cxOf (CX P w) P w K mg base n_Net___init__ "Net.__init__" (defScope s_Net___init__) f cdv A outer s H E) (lcOf (tbl K) E).W := takes_of rfl rfl rfl rfl
  exact dss_cons (ds_if ((dw_or (dt_not (dt_val (de_callB c_isB (fx.free 32) (da_cons (de_var 1) (da_cons (de_ty (fx.free 40) bt_tuple) (da_nil))) bt_isinstance))) (dw_or (dt_cmp o_gt (de_callB c_len (fx.free 33) (da_cons (de_var 1) (da_nil)) bt_len) (de_gint (fx.int 43))) (dw_or1 (dt_not (dt_val (de_callB (c_all rfl) (fx.free 28) (da_cons (de_lcN [("town", 5)] [5] rfl rfl sc_Net___init__.nd (di_seq (de_var 1)) (blkOk_by (N := n_Net___init__) (sc := defScope s_Net___init__) (by decide +kernel)) (fun _ _ _ _ _ => tg_nm 5 sc_Net___init__.nd) (fun _ _ _ _ _ => dts_nil) (fun _ _ _ _ _ => de_fn 1 c_is_name takes0 (hr.mono (by decide)) (fx.glo 2) rfl (da_cons (de_var 5) (da_nil)))) (da_nil)) bt_all)))))).pt) (dss_one (ds_never)) (dss_nil)) (dss_cons (ds_if (dt_not (dt_val (de_fn 1 c_does_ascend tk (hr.mono (by decide)) (fx.glo 4) rfl (da_cons (de_var 1) (da_nil))))) (dss_one (ds_never)) (dss_nil)) (dss_cons (ds_if ((dw_or (dt_not (dt_val (de_callB c_isB (fx.free 32) (da_cons (de_var 2) (da_cons (de_ty (fx.free 40) bt_tuple) (da_nil))) bt_isinstance))) (dw_or1 (dt_cmp o_gt (de_callB c_len (fx.free 33) (da_cons (de_var 2) (da_nil)) bt_len) (de_gint (fx.int 44))))).pt) (dss_one (ds_never)) (dss_nil)) (dss_cons (ds_for (passes_of rfl) rfl (di_enum (fx.free 30) (de_var 2)) (tg_tp rfl (tgs_cons (tg_nm 3 sc_Net___init__.nd) (tgs_cons (tg_nm 4 sc_Net___init__.nd) (tgs_nil)))) (dss_one (ds_if ((dw_or (dt_not (dt_val (de_fn 2 c_is_road tk hr (fx.glo 8) rfl (da_cons (de_var 1) (da_cons (de_var 4) (da_nil)))))) (dw_or1 ((dw_and (dt_cmp o_gt (de_var 3) (de_int)) (dw_and1 (dt_not (dt_cmp o_lt (de_ix (Room_u1 hr) (de_ix (Room_u1 hr) (de_var 2) (de_bin o_sub (de_var 3) (de_int))) (de_gint (fx.int 47))) (de_ix (Room_u1 hr) (de_var 4) (de_gint (fx.int 47))))))).pt))).pt) (dss_one (ds_never)) (dss_nil)))) (dss_one (ds_expr (de_mth 3 c_Net_keep (fx.cls 55) (fx.meth 57) tk (hr.mono (by decide)) rfl (de_var 0) (da_cons (de_var 1) (da_cons (de_var 2) (da_nil)))))))))
theorem sc_number_in : FnScope n_number_in ["word"] (defScope s_number_in) := ⟨rfl, rfl, rfl, by decide +kernel, rfl, by decide +kernel, by decide +kernel⟩
theorem dv_number_in (fx : Fx fa fn K mg) (hex : exB K = true) {f : Addr} (cdv : Value) (A : Around) (outer : List Env) (s : Shared) (H : Hp) (E : XK) (hr : Room 0 (A.deeper (envOfC "number_in" (defScope s_number_in) s.heap.objs.size f cdv))) :
    DSs (cxOf (CX P w) P w K mg base n_number_in "number_in" (defScope s_number_in) f cdv A outer s H E) (lcOf (tbl K) E) (defBody s_number_in) (w_number_in K) := by
  have tk : Takes (cxOf (CX P w) P w K mg base n_number_in "number_in" (defScope s_number_in) f cdv A outer s H E) (lcOf (tbl K) E).W := takes_of rfl rfl rfl rfl
  exact dss_cons (ds_if ((dw_or (dt_not (dt_chain o_le o_le (de_int) (de_callB c_len (fx.free 33) (da_cons (de_var 0) (da_nil)) bt_len) (de_gint (fx.int 52)))) (dw_or1 (dt_not (dt_val (de_callB (c_all rfl) (fx.free 28) (da_cons (de_lcN [("sign", 1)] [1] rfl rfl sc_number_in.nd (di_seq (de_var 0)) (blkOk_by (N := n_number_in) (sc := defScope s_number_in) (by decide +kernel)) (fun _ _ _ _ _ => tg_nm 1 sc_number_in.nd) (fun _ _ _ _ _ => dts_nil) (fun _ _ _ _ _ => de_cmp (o_in (Room_u1 hr)) (de_var 1) (de_gstr (fx.str 54)))) (da_nil)) bt_all))))).pt) (dss_one (ds_ret (de_non))) (dss_nil)) (dss_one (ds_ret (de_ifx ((dw_or (dt_cmp (o_eqA (Room_u64 hr)) (de_var 0) (de_str)) (dw_or1 (dt_cmp (o_neA (Room_u64 hr)) (de_ix (Room_u1 hr) (de_var 0) (de_int)) (de_str)))).pt) (de_callT c_int (fx.free 31) (da_cons (de_var 0) (da_nil)) bt_int) (de_non))))
theorem sc_integer_in : FnScope n_integer_in ["word"] (defScope s_integer_in) := ⟨rfl, rfl, rfl, by decide +kernel, rfl, by decide +kernel, by decide +kernel⟩
theorem dv_integer_in (fx : Fx fa fn K mg) (hex : exB K = true) (c_number_in : Fn P w K mg base (tbl K) 1 ("number_in", none) ["word"] (sp_number_in K)) {f : Addr} (cdv : Value) (A : Around) (outer : List Env) (s : Shared) (H : Hp) (E : XK) (hr : Room 1 (A.deeper (envOfC "integer_in" (defScope s_integer_in) s.heap.objs.size f cdv))) :
    DSs (cxOf (CX P w) P w K mg base n_integer_in "integer_in" (defScope s_integer_in) f cdv A outer s H E) (lcOf (tbl K) E) (defBody s_integer_in) (w_integer_in K) := by
  have tk : Takes (cxOf (CX P w) P w K mg base n_integer_in "integer_in" (defScope s_integer_in) f cdv A outer s H E) (lcOf (tbl K) E).W := takes_of rfl rfl rfl rfl
  exact dss_cons (ds_if (dt_cmp (o_neA (Room_u64 hr)) (de_slice (de_var 0) (do_none) (do_some (de_int))) (de_str)) (dss_one (ds_ret (de_fn 1 c_number_in tk hr (fx.glo 10) rfl (da_cons (de_var 0) (da_nil))))) (dss_nil)) (dss_cons (ds_set 1 sc_integer_in.nd (de_fn 1 c_number_in tk hr (fx.glo 10) rfl (da_cons (de_slice (de_var 0) (do_some (de_int)) (do_none)) (da_nil)))) (dss_one (ds_ret (de_ifx ((dw_or (dt_cmp o_is (de_var 1) (de_non)) (dw_or1 (dt_cmp (o_eqA (Room_u64 hr)) (de_var 1) (de_int)))).pt) (de_non) (de_un o_neg (de_var 1))))))
theorem sc_road_in : FnScope n_road_in ["words"] (defScope s_road_in) := ⟨rfl, rfl, rfl, by decide +kernel, rfl, by decide +kernel, by decide +kernel⟩
theorem dv_road_in (fx : Fx fa fn K mg) (hex : exB K = true) (c_is_name : Fn P w K mg base (tbl K) 1 ("is_name", none) ["thing"] (sp_is_name K)) (c_number_in : Fn P w K mg base (tbl K) 1 ("number_in", none) ["word"] (sp_number_in K)) (c_integer_in : Fn P w K mg base (tbl K) 2 ("integer_in", none) ["word"] (sp_integer_in K)) {f : Addr} (cdv : Value) (A : Around) (outer : List Env) (s : Shared) (H : Hp) (E : XK) (hr : Room 2 (A.deeper (envOfC "road_in" (defScope s_road_in) s.heap.objs.size f cdv))) :
    DSs (cxOf (CX P w) P w K mg base n_road_in "road_in" (defScope s_road_in) f cdv A outer s H E) (lcOf (tbl K) E) (defBody s_road_in) (w_road_in K) := by
  have tk : Takes (cxOf (CX P w) P w K mg base n_road_in "road_in" (defScope s_road_in) f cdv A outer s H E) (lcOf (tbl K) E).W := takes_of rfl rfl rfl rfl
  exact dss_cons (ds_if ((dw_or (dt_cmp (o_neA (Room_u64 hr)) (de_callB c_len (fx.free 33) (da_cons (de_var 0) (da_nil)) bt_len) (de_int)) (dw_or (dt_cmp (o_neA (Room_u64 hr)) (de_ix (Room_u1 hr) (de_var 0) (de_int)) (de_str)) (dw_or1 (dt_not (dt_val (de_callB (c_all rfl) (fx.free 28) (da_cons (de_lcN [("word", 3)] [3] rfl rfl sc_road_in.nd (di_seq (de_slice (de_var 0) (do_some (de_int)) (do_some (de_int)))) (blkOk_by (N := n_road_in) (sc := defScope s_road_in) (by decide +kernel)) (fun _ _ _ _ _ => tg_nm 3 sc_road_in.nd) (fun _ _ _ _ _ => dts_nil) (fun _ _ _ _ _ => de_fn 1 c_is_name takes0 (hr.mono (by decide)) (fx.glo 2) rfl (da_cons (de_var 3) (da_nil)))) (da_nil)) bt_all)))))).pt) (dss_one (ds_ret (de_non))) (dss_nil)) (dss_cons (ds_par 1 2 rfl sc_road_in.nd (da_cons (de_fn 1 c_integer_in tk hr (fx.glo 11) rfl (da_cons (de_ix (Room_u1 hr) (de_var 0) (de_int)) (da_nil))) (da_cons (de_fn 1 c_number_in tk (hr.mono (by decide)) (fx.glo 10) rfl (da_cons (de_ix (Room_u1 hr) (de_var 0) (de_int)) (da_nil))) (da_nil)))) (dss_one (ds_ret (de_ifx ((dw_or (dt_cmp o_is (de_var 1) (de_non)) (dw_or1 (dt_cmp o_is (de_var 2) (de_non)))).pt) (de_non) (de_tup (da_cons (de_ix (Room_u1 hr) (de_var 0) (de_int)) (da_cons (de_ix (Room_u1 hr) (de_var 0) (de_int)) (da_cons (de_ix (Room_u1 hr) (de_var 0) (de_int)) (da_cons (de_var 1) (da_cons (de_var 2) (da_nil)))))))))))
theorem sc_NetReader___init__ : FnScope n_NetReader___init__ ["self"] (defScope s_NetReader___init__) := ⟨rfl, rfl, rfl, by decide +kernel, rfl, by decide +kernel, by decide +kernel⟩
theorem dv_NetReader___init__ (fx : Fx fa fn K mg) (hex : exB K = true) {f : Addr} (cdv : Value) (A : Around) (outer : List Env) (s : Shared) (H : Hp) (E : XK) (hr : Room 0 (A.deeper (envOfC "NetReader.__init__" (defScope s_NetReader___init__) s.heap.objs.size f cdv))) :
    DSs (cxOf (CX P w) P w K mg base n_NetReader___init__ "NetReader.__init__" (defScope s_NetReader___init__) f cdv A outer s H E) (lcOf (tbl K) E) (defBody s_NetReader___init__) (w_NetReader___init__ K) := by
  have tk : Takes (cxOf (CX P w) P w K mg base n_NetReader___init__ "NetReader.__init__" (defScope s_NetReader___init__) f cdv A outer s H E) (lcOf (tbl K) E).W := takes_of rfl rfl rfl rfl
  exact dss_cons (ds_setF _ (one_cls (fx.cls 64) (fx.noat 68)) (de_var 0) (de_lstM (da_nil))) (dss_one (ds_setF _ (one_cls (fx.cls 64) (fx.noat 69)) (de_var 0) (de_lstM (da_nil))))
theorem sc_NetReader_is_town_read : FnScope n_NetReader_is_town_read ["self", "words"] (defScope s_NetReader_is_town_read) := ⟨rfl, rfl, rfl, by decide +kernel, rfl, by decide +kernel, by decide +kernel⟩
theorem dv_NetReader_is_town_read (fx : Fx fa fn K mg) (hex : exB K = true) (c_is_name : Fn P w K mg base (tbl K) 1 ("is_name", none) ["thing"] (sp_is_name K)) {f : Addr} (cdv : Value) (A : Around) (outer : List Env) (s : Shared) (H : Hp) (E : XK) (hr : Room 1 (A.deeper (envOfC "NetReader.is_town_read" (defScope s_NetReader_is_town_read) s.heap.objs.size f cdv))) :
    DSs (cxOf (CX P w) P w K mg base n_NetReader_is_town_read "NetReader.is_town_read" (defScope s_NetReader_is_town_read) f cdv A outer s H E) (lcOf (tbl K) E) (defBody s_NetReader_is_town_read) (w_NetReader_is_town_read K) := by
  have tk : Takes (cxOf (CX P w) P w K mg base n_NetReader_is_town_read "NetReader.is_town_read" (defScope s_NetReader_is_town_read) f cdv A outer s H E) (lcOf (tbl K) E).W := takes_of rfl rfl rfl rfl
  exact dss_cons (ds_if ((dw_or (dt_cmp (o_neA (Room_u64 hr)) (de_callB c_len (fx.free 33) (da_cons (de_var 1) (da_nil)) bt_len) (de_int)) (dw_or (dt_not (dt_val (de_fn 1 c_is_name tk hr (fx.glo 2) rfl (da_cons (de_ix (Room_u1 hr) (de_var 1) (de_int)) (da_nil))))) (dw_or (dt_cmp o_gt (de_callB c_len (fx.free 33) (da_cons (de_fld _ (one_cls (fx.cls 64) (fx.noat 69)) (de_var 0)) (da_nil)) bt_len) (de_int)) (dw_or1 (dt_cmp (o_eqA (Room_u64 hr)) (de_callB c_len (fx.free 33) (da_cons (de_fld _ (one_cls (fx.cls 64) (fx.noat 68)) (de_var 0)) (da_nil)) bt_len) (de_gint (fx.int 43))))))).pt) (dss_one (ds_ret (de_bl))) (dss_nil)) (dss_cons (ds_if ((dw_and (dt_cmp o_gt (de_callB c_len (fx.free 33) (da_cons (de_fld _ (one_cls (fx.cls 64) (fx.noat 68)) (de_var 0)) (da_nil)) bt_len) (de_int)) (dw_and1 (dt_not (dt_cmp o_lt (de_ix (Room_u1 hr) (de_fld _ (one_cls (fx.cls 64) (fx.noat 68)) (de_var 0)) (de_un o_neg (de_int))) (de_ix (Room_u1 hr) (de_var 1) (de_int)))))).pt) (dss_one (ds_ret (de_bl))) (dss_nil)) (dss_cons (ds_expr (de_append (de_fld _ (one_cls (fx.cls 64) (fx.noat 68)) (de_var 0)) (da_cons (de_ix (Room_u1 hr) (de_var 1) (de_int)) (da_nil)))) (dss_one (ds_ret (de_bl)))))
theorem sc_NetReader_is_read : FnScope n_NetReader_is_read ["self", "line"] (defScope s_NetReader_is_read) := ⟨rfl, rfl, rfl, by decide +kernel, rfl, by decide +kernel, by decide +kernel⟩
theorem dv_NetReader_is_read (fx : Fx fa fn K mg) (hex : exB K = true) (c_NetReader_is_town_read : Fn P w K mg base (tbl K) 2 ("NetReader", some "is_town_read") ["self", "words"] (sp_NetReader_is_town_read K)) (c_road_in : Fn P w K mg base (tbl K) 3 ("road_in", none) ["words"] (sp_road_in K)) (c_is_road : Fn P w K mg base (tbl K) 3 ("is_road", none) ["towns", "thing"] (sp_is_road K)) {f : Addr} (cdv : Value) (A : Around) (outer : List Env) (s : Shared) (H : Hp) (E : XK) (hr : Room 3 (A.deeper (envOfC "NetReader.is_read" (defScope s_NetReader_is_read) s.heap.objs.size f cdv))) :
    DSs (cxOf (CX P w) P w K mg base n_NetReader_is_read "NetReader.is_read" (defScope s_NetReader_is_read) f cdv A outer s H E) (lcOf (tbl K) E) (defBody s_NetReader_is_read) (w_NetReader_is_read K) := by
  have tk : Takes (cxOf (CX P w) P w K mg base n_NetReader_is_read "NetReader.is_read" (defScope s_NetReader_is_read) f cdv A outer s H E) (lcOf (tbl K) E).W := takes_of rfl rfl rfl rfl
  exact dss_cons (ds_set 2 sc_NetReader_is_read.nd (de_split (de_var 1) (da_cons (de_str) (da_nil)))) (dss_cons (ds_if (dt_cmp (o_eqA (Room_u64 hr)) (de_ix (Room_u1 hr) (de_var 2) (de_int)) (de_str)) (dss_one (ds_ret (de_mth 2 c_NetReader_is_town_read (fx.cls 64) (fx.meth 67) tk (hr.mono (by decide)) rfl (de_var 0) (da_cons (de_var 2) (da_nil))))) (dss_nil)) (dss_cons (ds_set 3 sc_NetReader_is_read.nd (de_fn 1 c_road_in tk hr (fx.glo 12) rfl (da_cons (de_var 2) (da_nil)))) (dss_cons (ds_if ((dw_or (dt_cmp o_is (de_var 3) (de_non)) (dw_or (dt_not (dt_val (de_fn 2 c_is_road tk hr (fx.glo 8) rfl (da_cons (de_fld _ (one_cls (fx.cls 64) (fx.noat 68)) (de_var 0)) (da_cons (de_var 3) (da_nil)))))) (dw_or1 (dt_cmp (o_eqA (Room_u64 hr)) (de_callB c_len (fx.free 33) (da_cons (de_fld _ (one_cls (fx.cls 64) (fx.noat 69)) (de_var 0)) (da_nil)) bt_len) (de_gint (fx.int 44)))))).pt) (dss_one (ds_ret (de_bl))) (dss_nil)) (dss_cons (ds_if ((dw_and (dt_cmp o_gt (de_callB c_len (fx.free 33) (da_cons (de_fld _ (one_cls (fx.cls 64) (fx.noat 69)) (de_var 0)) (da_nil)) bt_len) (de_int)) (dw_and1 (dt_not (dt_cmp o_lt (de_ix (Room_u1 hr) (de_ix (Room_u1 hr) (de_fld _ (one_cls (fx.cls 64) (fx.noat 69)) (de_var 0)) (de_un o_neg (de_int))) (de_int)) (de_ix (Room_u1 hr) (de_var 3) (de_int)))))).pt) (dss_one (ds_ret (de_bl))) (dss_nil)) (dss_cons (ds_expr (de_append (de_fld _ (one_cls (fx.cls 64) (fx.noat 69)) (de_var 0)) (da_cons (de_var 3) (da_nil)))) (dss_one (ds_ret (de_bl))))))))
theorem sc_read_net : FnScope n_read_net ["text"] (defScope s_read_net) := ⟨rfl, rfl, rfl, by decide +kernel, rfl, by decide +kernel, by decide +kernel⟩
theorem dv_read_net (fx : Fx fa fn K mg) (hex : exB K = true) (c_BadLine___init__ : FnH P w K mg base 2 ("BadLine", some "__init__") ["self", "number"] (spX1 K "number")) (c_NetReader___init__ : Fn P w K mg base (tbl K) 1 ("NetReader", some "__init__") ["self"] (sp_NetReader___init__ K)) (c_NetReader_is_read : Fn P w K mg base (tbl K) 4 ("NetReader", some "is_read") ["self", "line"] (sp_NetReader_is_read K)) (c_Net___init__ : Fn P w K mg base (tbl K) 4 ("Net", some "__init__") ["self", "towns", "roads"] (sp_Net___init__ K)) {f : Addr} (cdv : Value) (A : Around) (outer : List Env) (s : Shared) (H : Hp) (E : XK) (hr : Room 5 (A.deeper (envOfC "read_net" (defScope s_read_net) s.heap.objs.size f cdv))) :
    DSs (cxOf (CX P w) P w K mg base n_read_net "read_net" (defScope s_read_net) f cdv A outer s H E) (lcOf (tbl K) E) (defBody s_read_net) (w_read_net K) := by
  have tk : Takes (cxOf (CX P w) P w K mg base n_read_net "read_net" (defScope s_read_net) f cdv A outer s H E) (lcOf (tbl K) E).W := takes_of rfl rfl rfl rfl
  exact dss_cons (ds_if (dt_not (dt_val (de_callB c_isB (fx.free 32) (da_cons (de_var 0) (da_cons (de_ty (fx.free 39) bt_str) (da_nil))) bt_isinstance))) (dss_one (ds_raise1 rfl tk (oex_BadLine K hex) (ini_BadLine K hex) (fx.noat 70) c_BadLine___init__ (hr.mono (by decide)) (fx.glo 7) (de_int))) (dss_nil)) (dss_cons (ds_par 1 2 rfl sc_read_net.nd (da_cons (de_split (de_var 0) (da_cons (de_str) (da_nil))) (da_cons (de_mk0 0 c_NetReader___init__ (fx.mkr 65) tk (hr.mono (by decide)) (fx.glo 13) rfl) (da_nil)))) (dss_cons (ds_for (passes_of rfl) rfl (di_range1 (fx.free 36) (de_bin o_sub (de_callB c_len (fx.free 33) (da_cons (de_var 1) (da_nil)) bt_len) (de_int))) (tg_nm 3 sc_read_net.nd) (dss_one (ds_if (dt_not (dt_val (de_mth 2 c_NetReader_is_read (fx.cls 64) (fx.meth 66) tk (hr.mono (by decide)) rfl (de_var 2) (da_cons (de_ix (Room_u1 hr) (de_var 1) (de_var 3)) (da_nil))))) (dss_one (ds_raise1 rfl tk (oex_BadLine K hex) (ini_BadLine K hex) (fx.noat 70) c_BadLine___init__ (hr.mono (by decide)) (fx.glo 7) (de_bin o_add (de_var 3) (de_int)))) (dss_nil)))) (dss_cons (ds_if (dt_cmp (o_neA (Room_u64 hr)) (de_ix (Room_u1 hr) (de_var 1) (de_un o_neg (de_int))) (de_str)) (dss_one (ds_raise1 rfl tk (oex_BadLine K hex) (ini_BadLine K hex) (fx.noat 70) c_BadLine___init__ (hr.mono (by decide)) (fx.glo 7) (de_callB c_len (fx.free 33) (da_cons (de_var 1) (da_nil)) bt_len))) (dss_nil)) (dss_one (ds_ret (de_mk 2 c_Net___init__ (fx.mkr 56) tk hr (fx.glo 9) rfl (da_cons (de_callT c_tup (fx.free 40) (da_cons (de_fld _ (one_cls (fx.cls 64) (fx.noat 68)) (de_var 2)) (da_nil)) bt_tuple) (da_cons (de_callT c_tup (fx.free 40) (da_cons (de_fld _ (one_cls (fx.cls 64) (fx.noat 69)) (de_var 2)) (da_nil)) bt_tuple) (da_nil)))))))))
theorem sc__law_hand : FnScope n__law_hand ["script"] (defScope s__law_hand) := ⟨rfl, rfl, rfl, by decide +kernel, rfl, by decide +kernel, by decide +kernel⟩
theorem dv__law_hand (fx : Fx fa fn K mg) (hex : exB K = true) {f : Addr} (cdv : Value) (A : Around) (outer : List Env) (s : Shared) (H : Hp) (E : XK) (hr : Room 0 (A.deeper (envOfC "_law_hand" (defScope s__law_hand) s.heap.objs.size f cdv))) :
    DSs (cxOf (CX P w) P w K mg base n__law_hand "_law_hand" (defScope s__law_hand) f cdv A outer s H E) (lcOf (tbl K) E) (defBody s__law_hand) (w__law_hand K) := by
  have tk : Takes (cxOf (CX P w) P w K mg base n__law_hand "_law_hand" (defScope s__law_hand) f cdv A outer s H E) (lcOf (tbl K) E).W := takes_of rfl rfl rfl rfl
  exact dss_cons (ds_setLcN 1 [("cell", 2)] [2] rfl rfl sc__law_hand.nd (di_seq (de_slice (de_var 0) (do_none) (do_some (de_int)))) (blkOk_by (N := n__law_hand) (sc := defScope s__law_hand) (by decide +kernel)) (fun _ _ _ _ _ => tg_nm 2 sc__law_hand.nd) (fun _ _ _ _ _ => dts_nil) (fun _ _ _ _ _ => de_callB c_abs (fx.free 27) (da_cons (de_callT c_int (fx.free 31) (da_cons (de_var 2) (da_nil)) bt_int) (da_nil)) bt_abs)) (dss_one (ds_ret (de_lstM (da_cons (de_var 1) (da_cons (de_int) (da_cons (de_int) (da_cons (de_bin o_add (de_int) (de_bin o_mul (de_int) (de_callB c_len (fx.free 33) (da_cons (de_var 1) (da_nil)) bt_len))) (da_cons (de_int) (da_nil)))))))))
theorem sc__law_draw : FnScope n__law_draw ["hand", "many"] (defScope s__law_draw) := ⟨rfl, rfl, rfl, by decide +kernel, rfl, by decide +kernel, by decide +kernel⟩
theorem dv__law_draw (fx : Fx fa fn K mg) (hex : exB K = true) {f : Addr} (cdv : Value) (A : Around) (outer : List Env) (s : Shared) (H : Hp) (E : XK) (hr : Room 0 (A.deeper (envOfC "_law_draw" (defScope s__law_draw) s.heap.objs.size f cdv))) :
    DSs (cxOf (CX P w) P w K mg base n__law_draw "_law_draw" (defScope s__law_draw) f cdv A outer s H E) (lcOf (tbl K) E) (defBody s__law_draw) (w__law_draw K) := by
  have tk : Takes (cxOf (CX P w) P w K mg base n__law_draw "_law_draw" (defScope s__law_draw) f cdv A outer s H E) (lcOf (tbl K) E).W := takes_of rfl rfl rfl rfl
  exact dss_cons (ds_if ((dw_and (dt_cmp (o_eqA (Room_u64 hr)) (de_ix (Room_u1 hr) (de_var 0) (de_int)) (de_int)) (dw_and1 (dt_cmp o_lt (de_ix (Room_u1 hr) (de_var 0) (de_int)) (de_callB c_len (fx.free 33) (da_cons (de_ix (Room_u1 hr) (de_var 0) (de_int)) (da_nil)) bt_len)))).pt) (dss_cons (ds_set 2 sc__law_draw.nd (de_ix (Room_u1 hr) (de_ix (Room_u1 hr) (de_var 0) (de_int)) (de_ix (Room_u1 hr) (de_var 0) (de_int)))) (dss_cons (ds_put (Room_u1 hr) (de_var 0) (de_int) (de_bin o_add (de_ix (Room_u1 hr) (de_var 0) (de_int)) (de_int))) (dss_cons (ds_put (Room_u1 hr) (de_var 0) (de_int) (de_bin o_mod (de_callT c_int (fx.free 31) (da_cons (de_bin o_add (de_bin o_add (de_bin o_mul (de_ix (Room_u1 hr) (de_var 0) (de_int)) (de_int)) (de_bin o_mul (de_var 2) (de_int))) (de_int)) (da_nil)) bt_int) (de_int))) (dss_one (ds_if (dt_cmp o_ge (de_var 2) (de_bin o_pow (de_int) (de_int))) (dss_one (ds_put (Room_u1 hr) (de_var 0) (de_int) (de_var 2))) (dss_nil)))))) (dss_nil)) (dss_cons (ds_if (dt_cmp o_gt (de_ix (Room_u1 hr) (de_var 0) (de_int)) (de_int)) (dss_cons (ds_set 3 sc__law_draw.nd (de_bin o_mod (de_callT c_int (fx.free 31) (da_cons (de_ix (Room_u1 hr) (de_var 0) (de_int)) (da_nil)) bt_int) (de_var 1))) (dss_cons (ds_put (Room_u1 hr) (de_var 0) (de_int) (de_bin o_div (de_ix (Room_u1 hr) (de_var 0) (de_int)) (de_var 1))) (dss_one (ds_ret (de_var 3))))) (dss_nil)) (dss_cons (ds_put (Room_u1 hr) (de_var 0) (de_int) (de_bin o_add (de_ix (Room_u1 hr) (de_var 0) (de_int)) (de_int))) (dss_cons (ds_set 4 sc__law_draw.nd (de_bin o_mod (de_callT c_int (fx.free 31) (da_cons (de_bin o_mul (de_callT c_int (fx.free 31) (da_cons (de_bin o_add (de_ix (Room_u1 hr) (de_var 0) (de_int)) (de_bin o_mul (de_int) (de_ix (Room_u1 hr) (de_var 0) (de_int)))) (da_nil)) bt_int) (de_int)) (da_nil)) bt_int) (de_int))) (dss_cons (ds_set 4 sc__law_draw.nd (de_bin o_mod (de_callT c_int (fx.free 31) (da_cons (de_bin o_mul (de_var 4) (de_bin o_add (de_bin o_div (de_var 4) (de_int)) (de_int))) (da_nil)) bt_int) (de_int))) (dss_cons (ds_set 4 sc__law_draw.nd (de_bin o_mod (de_callT c_int (fx.free 31) (da_cons (de_bin o_mul (de_var 4) (de_bin o_add (de_bin o_div (de_var 4) (de_int)) (de_int))) (da_nil)) bt_int) (de_int))) (dss_one (ds_ret (de_bin o_mod (de_callT c_int (fx.free 31) (da_cons (de_bin o_div (de_var 4) (de_int)) (da_nil)) bt_int) (de_var 1)))))))))
theorem sc__law_any : FnScope n__law_any ["hand", "some"] (defScope s__law_any) := ⟨rfl, rfl, rfl, by decide +kernel, rfl, by decide +kernel, by decide +kernel⟩
theorem dv__law_any (fx : Fx fa fn K mg) (hex : exB K = true) (c__law_draw : Fn P w K mg base (tbl K) 1 ("_law_draw", none) ["hand", "many"] (sp__law_draw K)) {f : Addr} (cdv : Value) (A : Around) (outer : List Env) (s : Shared) (H : Hp) (E : XK) (hr : Room 1 (A.deeper (envOfC "_law_any" (defScope s__law_any) s.heap.objs.size f cdv))) :
    DSs (cxOf (CX P w) P w K mg base n__law_any "_law_any" (defScope s__law_any) f cdv A outer s H E) (lcOf (tbl K) E) (defBody s__law_any) (w__law_any K) := by
  have tk : Takes (cxOf (CX P w) P w K mg base n__law_any "_law_any" (defScope s__law_any) f cdv A outer s H E) (lcOf (tbl K) E).W := takes_of rfl rfl rfl rfl
  exact dss_one (ds_ret (de_ix (Room_u1 hr) (de_var 1) (de_fn 2 c__law_draw tk hr (fx.glo 16) rfl (da_cons (de_var 0) (da_cons (de_callB c_len (fx.free 33) (da_cons (de_var 1) (da_nil)) bt_len) (da_nil))))))
theorem sc__law_parts : FnScope n__law_parts ["hand", "most", "few"] (defScope s__law_parts) := ⟨rfl, rfl, rfl, by decide +kernel, rfl, by decide +kernel, by decide +kernel⟩
theorem dv__law_parts (fx : Fx fa fn K mg) (hex : exB K = true) (c__law_draw : Fn P w K mg base (tbl K) 1 ("_law_draw", none) ["hand", "many"] (sp__law_draw K)) (c__law_any : Fn P w K mg base (tbl K) 2 ("_law_any", none) ["hand", "some"] (sp__law_any K)) {f : Addr} (cdv : Value) (A : Around) (outer : List Env) (s : Shared) (H : Hp) (E : XK) (hr : Room 2 (A.deeper (envOfC "_law_parts" (defScope s__law_parts) s.heap.objs.size f cdv))) :
    DSs (cxOf (CX P w) P w K mg base n__law_parts "_law_parts" (defScope s__law_parts) f cdv A outer s H E) (lcOf (tbl K) E) (defBody s__law_parts) (w__law_parts K) := by
  have tk : Takes (cxOf (CX P w) P w K mg base n__law_parts "_law_parts" (defScope s__law_parts) f cdv A outer s H E) (lcOf (tbl K) E).W := takes_of rfl rfl rfl rfl
  exact dss_cons (ds_par 3 4 rfl sc__law_parts.nd (da_cons (de_lstM (da_cons (de_str) (da_cons (de_str) (da_cons (de_str) (da_cons (de_str) (da_cons (de_str) (da_cons (de_str) (da_cons (de_str) (da_nil))))))))) (da_cons (de_lstM (da_nil)) (da_nil)))) (dss_cons (ds_for (passes_of rfl) rfl (di_range1 (fx.free 36) (de_fn 2 c__law_draw tk (hr.mono (by decide)) (fx.glo 16) rfl (da_cons (de_var 0) (da_cons (de_bin o_add (de_var 1) (de_int)) (da_nil))))) (tg_nm 5 sc__law_parts.nd) (dss_one (ds_expr (de_append (de_var 4) (da_cons (de_pop (de_var 3) (da_cons (de_fn 2 c__law_draw tk (hr.mono (by decide)) (fx.glo 16) rfl (da_cons (de_var 0) (da_cons (de_callB c_len (fx.free 33) (da_cons (de_var 3) (da_nil)) bt_len) (da_nil)))) (da_nil))) (da_nil)))))) (dss_cons (ds_par3 4 6 7 rfl sc__law_parts.nd (da_cons (de_callB c_sorted (fx.free 38) (da_cons (de_var 4) (da_nil)) bt_sorted) (da_cons (de_lstM (da_nil)) (da_cons (de_cmp (o_eqA (Room_u64 hr)) (de_fn 2 c__law_draw tk (hr.mono (by decide)) (fx.glo 16) rfl (da_cons (de_var 0) (da_cons (de_int) (da_nil)))) (de_int)) (da_nil))))) (dss_cons (ds_set 8 sc__law_parts.nd (de_fn 2 c__law_any tk hr (fx.glo 17) rfl (da_cons (de_var 0) (da_cons (de_lstF (da_cons (de_int) (da_cons (de_int) (da_cons (de_un o_neg (de_int)) (da_nil))))) (da_nil))))) (dss_cons (ds_for (passes_of rfl) rfl (di_seq (de_slice (de_lstF (da_cons (de_str) (da_cons (de_str) (da_cons (de_str) (da_cons (de_str) (da_cons (de_str) (da_cons (de_str) (da_cons (de_str) (da_cons (de_str) (da_nil)))))))))) (do_none) (do_some (de_ifx (dt_cmp o_gt (de_callB c_len (fx.free 33) (da_cons (de_var 4) (da_nil)) bt_len) (de_int)) (de_fn 2 c__law_draw tk (hr.mono (by decide)) (fx.glo 16) rfl (da_cons (de_var 0) (da_cons (de_bin o_add (de_var 2) (de_int)) (da_nil)))) (de_int))))) (tg_nm 9 sc__law_parts.nd) (dss_cons (ds_par 10 11 rfl sc__law_parts.nd (da_cons (de_fn 2 c__law_draw tk (hr.mono (by decide)) (fx.glo 16) rfl (da_cons (de_var 0) (da_cons (de_callB c_len (fx.free 33) (da_cons (de_var 4) (da_nil)) bt_len) (da_nil)))) (da_cons (de_fn 2 c__law_draw tk (hr.mono (by decide)) (fx.glo 16) rfl (da_cons (de_var 0) (da_cons (de_bin o_sub (de_callB c_len (fx.free 33) (da_cons (de_var 4) (da_nil)) bt_len) (de_int)) (da_nil)))) (da_nil)))) (dss_cons (ds_set 11 sc__law_parts.nd (de_bin o_add (de_var 11) (de_callT c_int (fx.free 31) (da_cons (de_cmp o_ge (de_var 11) (de_var 10)) (da_nil)) bt_int))) (dss_cons (ds_if (dt_tru (de_var 7)) (dss_one (ds_par 10 11 rfl sc__law_parts.nd (da_cons (de_callB (c_min2 rfl) (fx.free 35) (da_cons (de_var 10) (da_cons (de_var 11) (da_nil))) bt_min) (da_cons (de_callB (c_max2 rfl) (fx.free 34) (da_cons (de_var 10) (da_cons (de_var 11) (da_nil))) bt_max) (da_nil))))) (dss_nil)) (dss_one (ds_expr (de_append (de_var 6) (da_cons (de_tup (da_cons (de_var 9) (da_cons (de_ix (Room_u1 hr) (de_var 4) (de_var 10)) (da_cons (de_ix (Room_u1 hr) (de_var 4) (de_var 11)) (da_cons (de_bin o_add (de_var 8) (de_fn 2 c__law_draw tk (hr.mono (by decide)) (fx.glo 16) rfl (da_cons (de_var 0) (da_cons (de_int) (da_nil))))) (da_cons (de_fn 2 c__law_draw tk (hr.mono (by decide)) (fx.glo 16) rfl (da_cons (de_var 0) (da_cons (de_int) (da_nil)))) (da_nil))))))) (da_nil))))))))) (dss_one (ds_ret (de_tup (da_cons (de_callT c_tup (fx.free 40) (da_cons (de_var 4) (da_nil)) bt_tuple) (da_cons (de_callT c_tup (fx.free 40) (da_cons (de_var 6) (da_nil)) bt_tuple) (da_nil))))))))))
theorem sc__law_text : FnScope n__law_text ["towns", "roads"] (defScope s__law_text) := ⟨rfl, rfl, rfl, by decide +kernel, rfl, by decide +kernel, by decide +kernel⟩
theorem dv__law_text (fx : Fx fa fn K mg) (hex : exB K = true) {f : Addr} (cdv : Value) (A : Around) (outer : List Env) (s : Shared) (H : Hp) (E : XK) (hr : Room 0 (A.deeper (envOfC "_law_text" (defScope s__law_text) s.heap.objs.size f cdv))) :
    DSs (cxOf (CX P w) P w K mg base n__law_text "_law_text" (defScope s__law_text) f cdv A outer s H E) (lcOf (tbl K) E) (defBody s__law_text) (w__law_text K) := by
  have tk : Takes (cxOf (CX P w) P w K mg base n__law_text "_law_text" (defScope s__law_text) f cdv A outer s H E) (lcOf (tbl K) E).W := takes_of rfl rfl rfl rfl
  exact dss_cons (ds_setLcM 2 [("town", 8)] [8] rfl rfl sc__law_text.nd (di_seq (de_var 0)) (blkOk_by (N := n__law_text) (sc := defScope s__law_text) (by decide +kernel)) (fun _ _ _ _ _ => tg_nm 8 sc__law_text.nd) (fun _ _ _ _ _ => dts_nil) (fun _ _ _ _ _ => de_bin o_add (de_bin o_add (de_str) (de_var 8)) (de_str))) (dss_cons (ds_for (passes_of rfl) rfl (di_seq (de_var 1)) (tg_tp rfl (tgs_cons (tg_nm 3 sc__law_text.nd) (tgs_cons (tg_nm 4 sc__law_text.nd) (tgs_cons (tg_nm 5 sc__law_text.nd) (tgs_cons (tg_nm 6 sc__law_text.nd) (tgs_cons (tg_nm 7 sc__law_text.nd) (tgs_nil))))))) (dss_one (ds_expr (de_append (de_var 2) (da_cons (de_bin o_add (de_join (de_str) (da_cons (de_lstF (da_cons (de_str) (da_cons (de_var 3) (da_cons (de_var 4) (da_cons (de_var 5) (da_cons (de_callT c_str (fx.free 39) (da_cons (de_var 6) (da_nil)) bt_str) (da_cons (de_callT c_str (fx.free 39) (da_cons (de_var 7) (da_nil)) bt_str) (da_nil)))))))) (da_nil))) (de_str)) (da_nil)))))) (dss_one (ds_ret (de_join (de_str) (da_cons (de_var 2) (da_nil))))))
theorem sc__law_is_name : FnScope n__law_is_name ["word"] (defScope s__law_is_name) := ⟨rfl, rfl, rfl, by decide +kernel, rfl, by decide +kernel, by decide +kernel⟩
theorem dv__law_is_name (fx : Fx fa fn K mg) (hex : exB K = true) {f : Addr} (cdv : Value) (A : Around) (outer : List Env) (s : Shared) (H : Hp) (E : XK) (hr : Room 0 (A.deeper (envOfC "_law_is_name" (defScope s__law_is_name) s.heap.objs.size f cdv))) :
    DSs (cxOf (CX P w) P w K mg base n__law_is_name "_law_is_name" (defScope s__law_is_name) f cdv A outer s H E) (lcOf (tbl K) E) (defBody s__law_is_name) (w__law_is_name K) := by
  have tk : Takes (cxOf (CX P w) P w K mg base n__law_is_name "_law_is_name" (defScope s__law_is_name) f cdv A outer s H E) (lcOf (tbl K) E).W := takes_of rfl rfl rfl rfl
  exact dss_one (ds_ret (de_and (de_chain o_le o_le (de_int) (de_callB c_len (fx.free 33) (da_cons (de_var 0) (da_nil)) bt_len) (de_int)) (de_one (de_callB (c_all rfl) (fx.free 28) (da_cons (de_lcN [("sign", 1)] [1] rfl rfl sc__law_is_name.nd (di_seq (de_var 0)) (blkOk_by (N := n__law_is_name) (sc := defScope s__law_is_name) (by decide +kernel)) (fun _ _ _ _ _ => tg_nm 1 sc__law_is_name.nd) (fun _ _ _ _ _ => dts_nil) (fun _ _ _ _ _ => de_cmp (o_in (Room_u1 hr)) (de_var 1) (de_str))) (da_nil)) bt_all))))
theorem sc__law_number : FnScope n__law_number ["word", "low", "high"] (defScope s__law_number) := ⟨rfl, rfl, rfl, by decide +kernel, rfl, by decide +kernel, by decide +kernel⟩
theorem dv__law_number (fx : Fx fa fn K mg) (hex : exB K = true) {f : Addr} (cdv : Value) (A : Around) (outer : List Env) (s : Shared) (H : Hp) (E : XK) (hr : Room 0 (A.deeper (envOfC "_law_number" (defScope s__law_number) s.heap.objs.size f cdv))) :
    DSs (cxOf (CX P w) P w K mg base n__law_number "_law_number" (defScope s__law_number) f cdv A outer s H E) (lcOf (tbl K) E) (defBody s__law_number) (w__law_number K) := by
  have tk : Takes (cxOf (CX P w) P w K mg base n__law_number "_law_number" (defScope s__law_number) f cdv A outer s H E) (lcOf (tbl K) E).W := takes_of rfl rfl rfl rfl
  exact dss_cons (ds_set 3 sc__law_number.nd (de_ifx (dt_cmp (o_eqA (Room_u64 hr)) (de_slice (de_var 0) (do_none) (do_some (de_int))) (de_str)) (de_slice (de_var 0) (do_some (de_int)) (do_none)) (de_var 0))) (dss_cons (ds_if ((dw_or (dt_cmp (o_eqA (Room_u64 hr)) (de_var 3) (de_str)) (dw_or (dt_cmp o_gt (de_callB c_len (fx.free 33) (da_cons (de_var 3) (da_nil)) bt_len) (de_int)) (dw_or1 (dt_not (dt_val (de_callB (c_all rfl) (fx.free 28) (da_cons (de_lcN [("sign", 5)] [5] rfl rfl sc__law_number.nd (di_seq (de_var 3)) (blkOk_by (N := n__law_number) (sc := defScope s__law_number) (by decide +kernel)) (fun _ _ _ _ _ => tg_nm 5 sc__law_number.nd) (fun _ _ _ _ _ => dts_nil) (fun _ _ _ _ _ => de_cmp (o_in (Room_u1 hr)) (de_var 5) (de_str))) (da_nil)) bt_all)))))).pt) (dss_one (ds_ret (de_non))) (dss_nil)) (dss_cons (ds_if ((dw_and (dt_cmp (o_eqA (Room_u64 hr)) (de_ix (Room_u1 hr) (de_var 3) (de_int)) (de_str)) (dw_and1 ((dw_or (dt_cmp o_gt (de_callB c_len (fx.free 33) (da_cons (de_var 3) (da_nil)) bt_len) (de_int)) (dw_or1 (dt_cmp (o_neA (Room_u64 hr)) (de_var 0) (de_var 3)))).pt))).pt) (dss_one (ds_ret (de_non))) (dss_nil)) (dss_cons (ds_set 4 sc__law_number.nd (de_ifx (dt_cmp (o_eqA (Room_u64 hr)) (de_var 0) (de_var 3)) (de_callT c_int (fx.free 31) (da_cons (de_var 3) (da_nil)) bt_int) (de_bin o_sub (de_int) (de_callT c_int (fx.free 31) (da_cons (de_var 3) (da_nil)) bt_int)))) (dss_one (ds_ret (de_ifx (dt_chain o_le o_le (de_var 1) (de_var 4) (de_var 2)) (de_var 4) (de_non)))))))
theorem sc__law_road : FnScope n__law_road ["words", "towns", "roads"] (defScope s__law_road) := ⟨rfl, rfl, rfl, by decide +kernel, rfl, by decide +kernel, by decide +kernel⟩
theorem dv__law_road (fx : Fx fa fn K mg) (hex : exB K = true) (c__law_is_name : Fn P w K mg base (tbl K) 1 ("_law_is_name", none) ["word"] (sp__law_is_name K)) (c__law_number : Fn P w K mg base (tbl K) 1 ("_law_number", none) ["word", "low", "high"] (sp__law_number K)) {f : Addr} (cdv : Value) (A : Around) (outer : List Env) (s : Shared) (H : Hp) (E : XK) (hr : Room 1 (A.deeper (envOfC "_law_road" (defScope s__law_road) s.heap.objs.size f cdv))) :
    DSs (cxOf (CX P w) P w K mg base n__law_road "_law_road" (defScope s__law_road) f cdv A outer s H E) (lcOf (tbl K) E) (defBody s__law_road) (w__law_road K) := by
  have tk : Takes (cxOf (CX P w) P w K mg base n__law_road "_law_road" (defScope s__law_road) f cdv A outer s H E) (lcOf (tbl K) E).W := takes_of rfl rfl rfl rfl
  exact dss_cons (ds_if ((dw_or (dt_cmp (o_neA (Room_u64 hr)) (de_callB c_len (fx.free 33) (da_cons (de_var 0) (da_nil)) bt_len) (de_int)) (dw_or (dt_cmp (o_neA (Room_u64 hr)) (de_ix (Room_u1 hr) (de_var 0) (de_int)) (de_str)) (dw_or1 (dt_not (dt_val (de_callB (c_all rfl) (fx.free 28) (da_cons (de_lcN [("word", 5)] [5] rfl rfl sc__law_road.nd (di_seq (de_slice (de_var 0) (do_some (de_int)) (do_some (de_int)))) (blkOk_by (N := n__law_road) (sc := defScope s__law_road) (by decide +kernel)) (fun _ _ _ _ _ => tg_nm 5 sc__law_road.nd) (fun _ _ _ _ _ => dts_nil) (fun _ _ _ _ _ => de_fn 1 c__law_is_name takes0 hr (fx.glo 20) rfl (da_cons (de_var 5) (da_nil)))) (da_nil)) bt_all)))))).pt) (dss_one (ds_ret (de_non))) (dss_nil)) (dss_cons (ds_par 3 4 rfl sc__law_road.nd (da_cons (de_fn 3 c__law_number tk hr (fx.glo 21) rfl (da_cons (de_ix (Room_u1 hr) (de_var 0) (de_int)) (da_cons (de_un o_neg (de_int)) (da_cons (de_int) (da_nil))))) (da_cons (de_fn 3 c__law_number tk hr (fx.glo 21) rfl (da_cons (de_ix (Room_u1 hr) (de_var 0) (de_int)) (da_cons (de_int) (da_cons (de_int) (da_nil))))) (da_nil)))) (dss_cons (ds_if ((dw_or (dt_cmp o_is (de_var 3) (de_non)) (dw_or (dt_cmp o_is (de_var 4) (de_non)) (dw_or (dt_cmp (o_notin (Room_u1 hr)) (de_ix (Room_u1 hr) (de_var 0) (de_int)) (de_var 1)) (dw_or (dt_cmp (o_notin (Room_u1 hr)) (de_ix (Room_u1 hr) (de_var 0) (de_int)) (de_var 1)) (dw_or1 (dt_cmp (o_eqA (Room_u64 hr)) (de_ix (Room_u1 hr) (de_var 0) (de_int)) (de_ix (Room_u1 hr) (de_var 0) (de_int)))))))).pt) (dss_one (ds_ret (de_non))) (dss_nil)) (dss_cons (ds_if ((dw_or ((dw_and (dt_cmp (o_neA (Room_u64 hr)) (de_var 2) (de_lstF (da_nil))) (dw_and1 (dt_not (dt_cmp o_lt (de_ix (Room_u1 hr) (de_ix (Room_u1 hr) (de_var 2) (de_un o_neg (de_int))) (de_int)) (de_ix (Room_u1 hr) (de_var 0) (de_int)))))).pt) (dw_or1 (dt_cmp (o_eqA (Room_u64 hr)) (de_callB c_len (fx.free 33) (da_cons (de_var 2) (da_nil)) bt_len) (de_int)))).pt) (dss_one (ds_ret (de_non))) (dss_nil)) (dss_one (ds_ret (de_tup (da_cons (de_ix (Room_u1 hr) (de_var 0) (de_int)) (da_cons (de_ix (Room_u1 hr) (de_var 0) (de_int)) (da_cons (de_ix (Room_u1 hr) (de_var 0) (de_int)) (da_cons (de_var 3) (da_cons (de_var 4) (da_nil))))))))))))
theorem sc__law_read : FnScope n__law_read ["text"] (defScope s__law_read) := ⟨rfl, rfl, rfl, by decide +kernel, rfl, by decide +kernel, by decide +kernel⟩
theorem dv__law_read (fx : Fx fa fn K mg) (hex : exB K = true) (c__law_is_name : Fn P w K mg base (tbl K) 1 ("_law_is_name", none) ["word"] (sp__law_is_name K)) (c__law_road : Fn P w K mg base (tbl K) 2 ("_law_road", none) ["words", "towns", "roads"] (sp__law_road K)) {f : Addr} (cdv : Value) (A : Around) (outer : List Env) (s : Shared) (H : Hp) (E : XK) (hr : Room 2 (A.deeper (envOfC "_law_read" (defScope s__law_read) s.heap.objs.size f cdv))) :
    DSs (cxOf (CX P w) P w K mg base n__law_read "_law_read" (defScope s__law_read) f cdv A outer s H E) (lcOf (tbl K) E) (defBody s__law_read) (w__law_read K) := by
  have tk : Takes (cxOf (CX P w) P w K mg base n__law_read "_law_read" (defScope s__law_read) f cdv A outer s H E) (lcOf (tbl K) E).W := takes_of rfl rfl rfl rfl
  exact dss_cons (ds_par3 1 2 3 rfl sc__law_read.nd (da_cons (de_split (de_var 0) (da_cons (de_str) (da_nil))) (da_cons (de_lstM (da_nil)) (da_cons (de_lstM (da_nil)) (da_nil))))) (dss_cons (ds_for (passes_of rfl) rfl (di_enum (fx.free 30) (de_slice (de_var 1) (do_none) (do_some (de_un o_neg (de_int))))) (tg_tp rfl (tgs_cons (tg_nm 4 sc__law_read.nd) (tgs_cons (tg_nm 5 sc__law_read.nd) (tgs_nil)))) (dss_cons (ds_set 6 sc__law_read.nd (de_split (de_var 5) (da_cons (de_str) (da_nil)))) (dss_one (ds_if (dt_cmp (o_eqA (Room_u64 hr)) (de_ix (Room_u1 hr) (de_var 6) (de_int)) (de_str)) (dss_cons (ds_set 7 sc__law_read.nd (de_and (de_cmp (o_eqA (Room_u64 hr)) (de_callB c_len (fx.free 33) (da_cons (de_var 6) (da_nil)) bt_len) (de_int)) (de_and (de_fn 1 c__law_is_name tk (hr.mono (by decide)) (fx.glo 20) rfl (da_cons (de_ix (Room_u1 hr) (de_var 6) (de_int)) (da_nil))) (de_and (de_cmp (o_eqA (Room_u64 hr)) (de_var 3) (de_lstF (da_nil))) (de_one (de_cmp o_lt (de_callB c_len (fx.free 33) (da_cons (de_var 2) (da_nil)) bt_len) (de_int))))))) (dss_cons (ds_if ((dw_or (dt_not (dt_tru (de_var 7))) (dw_or1 ((dw_and (dt_cmp (o_neA (Room_u64 hr)) (de_var 2) (de_lstF (da_nil))) (dw_and1 (dt_not (dt_cmp o_lt (de_ix (Room_u1 hr) (de_var 2) (de_un o_neg (de_int))) (de_ix (Room_u1 hr) (de_var 6) (de_int)))))).pt))).pt) (dss_one (ds_ret (de_bin o_add (de_var 4) (de_int)))) (dss_nil)) (dss_one (ds_expr (de_append (de_var 2) (da_cons (de_ix (Room_u1 hr) (de_var 6) (de_int)) (da_nil))))))) (dss_cons (ds_set 8 sc__law_read.nd (de_fn 3 c__law_road tk hr (fx.glo 22) rfl (da_cons (de_var 6) (da_cons (de_var 2) (da_cons (de_var 3) (da_nil)))))) (dss_cons (ds_if (dt_cmp o_is (de_var 8) (de_non)) (dss_one (ds_ret (de_bin o_add (de_var 4) (de_int)))) (dss_nil)) (dss_one (ds_expr (de_append (de_var 3) (da_cons (de_var 8) (da_nil))))))))))) (dss_one (ds_ret (de_ifx (dt_cmp (o_neA (Room_u64 hr)) (de_ix (Room_u1 hr) (de_var 1) (de_un o_neg (de_int))) (de_str)) (de_callB c_len (fx.free 33) (da_cons (de_var 1) (da_nil)) bt_len) (de_tup (da_cons (de_callT c_tup (fx.free 40) (da_cons (de_var 2) (da_nil)) bt_tuple) (da_cons (de_callT c_tup (fx.free 40) (da_cons (de_var 3) (da_nil)) bt_tuple) (da_nil))))))))
theorem sc__law_bent : FnScope n__law_bent ["hand", "text"] (defScope s__law_bent) := ⟨rfl, rfl, rfl, by decide +kernel, rfl, by decide +kernel, by decide +kernel⟩
theorem dv__law_bent (fx : Fx fa fn K mg) (hex : exB K = true) (c__law_draw : Fn P w K mg base (tbl K) 1 ("_law_draw", none) ["hand", "many"] (sp__law_draw K)) (c__law_any : Fn P w K mg base (tbl K) 2 ("_law_any", none) ["hand", "some"] (sp__law_any K)) {f : Addr} (cdv : Value) (A : Around) (outer : List Env) (s : Shared) (H : Hp) (E : XK) (hr : Room 2 (A.deeper (envOfC "_law_bent" (defScope s__law_bent) s.heap.objs.size f cdv))) :
    DSs (cxOf (CX P w) P w K mg base n__law_bent "_law_bent" (defScope s__law_bent) f cdv A outer s H E) (lcOf (tbl K) E) (defBody s__law_bent) (w__law_bent K) := by
  have tk : Takes (cxOf (CX P w) P w K mg base n__law_bent "_law_bent" (defScope s__law_bent) f cdv A outer s H E) (lcOf (tbl K) E).W := takes_of rfl rfl rfl rfl
  exact dss_cons (ds_par 2 3 rfl sc__law_bent.nd (da_cons (de_fn 2 c__law_draw tk (hr.mono (by decide)) (fx.glo 16) rfl (da_cons (de_var 0) (da_cons (de_bin o_add (de_callB c_len (fx.free 33) (da_cons (de_var 1) (da_nil)) bt_len) (de_int)) (da_nil)))) (da_cons (de_slice (de_split (de_var 1) (da_cons (de_str) (da_nil))) (do_none) (do_some (de_un o_neg (de_int)))) (da_nil)))) (dss_cons (ds_par 4 5 rfl sc__law_bent.nd (da_cons (de_fn 2 c__law_draw tk (hr.mono (by decide)) (fx.glo 16) rfl (da_cons (de_var 0) (da_cons (de_bin o_add (de_callB c_len (fx.free 33) (da_cons (de_var 3) (da_nil)) bt_len) (de_int)) (da_nil)))) (da_cons (de_fn 2 c__law_draw tk (hr.mono (by decide)) (fx.glo 16) rfl (da_cons (de_var 0) (da_cons (de_bin o_add (de_callB c_len (fx.free 33) (da_cons (de_var 3) (da_nil)) bt_len) (de_int)) (da_nil)))) (da_nil)))) (dss_cons (ds_set 6 sc__law_bent.nd (de_fn 2 c__law_any tk hr (fx.glo 17) rfl (da_cons (de_var 0) (da_cons (de_lstF (da_cons (de_str) (da_cons (de_str) (da_cons (de_str) (da_cons (de_str) (da_cons (de_str) (da_cons (de_str) (da_cons (de_str) (da_cons (de_str) (da_cons (de_str) (da_cons (de_str) (da_cons (de_str) (da_cons (de_str) (da_cons (de_str) (da_nil))))))))))))))) (da_nil))))) (dss_cons (ds_set 7 sc__law_bent.nd (de_lstF (da_cons (de_str) (da_cons (de_str) (da_cons (de_str) (da_cons (de_str) (da_cons (de_str) (da_cons (de_str) (da_cons (de_str) (da_cons (de_str) (da_nil))))))))))) (dss_cons (ds_set 7 sc__law_bent.nd (de_fn 2 c__law_any tk hr (fx.glo 17) rfl (da_cons (de_var 0) (da_cons (de_var 7) (da_nil))))) (dss_cons (ds_set 8 sc__law_bent.nd (de_lstF (da_cons (de_bin o_add (de_bin o_add (de_slice (de_var 1) (do_none) (do_some (de_var 2))) (de_var 6)) (de_slice (de_var 1) (do_some (de_var 2)) (do_none))) (da_cons (de_bin o_add (de_slice (de_var 1) (do_none) (do_some (de_var 2))) (de_slice (de_var 1) (do_some (de_bin o_add (de_var 2) (de_int))) (do_none))) (da_cons (de_slice (de_var 1) (do_none) (do_some (de_un o_neg (de_int)))) (da_cons (de_bin o_add (de_var 1) (de_var 6)) (da_nil))))))) (dss_cons (ds_set 8 sc__law_bent.nd (de_bin o_addM (de_var 8) (de_lstF (da_cons (de_bin o_add (de_bin o_add (de_slice (de_var 1) (do_none) (do_some (de_var 2))) (de_var 6)) (de_slice (de_var 1) (do_some (de_bin o_add (de_var 2) (de_int))) (do_none))) (da_nil))))) (dss_cons (ds_set 9 sc__law_bent.nd (de_bin o_add (de_bin o_add (de_slice (de_var 3) (do_none) (do_some (de_var 4))) (de_lstF (da_cons (de_var 7) (da_nil)))) (de_slice (de_var 3) (do_some (de_var 4)) (do_none)))) (dss_cons (ds_set 10 sc__law_bent.nd (de_bin o_add (de_slice (de_var 3) (do_none) (do_some (de_var 4))) (de_rev (de_slice (de_var 3) (do_some (de_var 4)) (do_none))))) (dss_cons (ds_for (passes_of rfl) rfl (di_seq (de_tup (da_cons (de_var 9) (da_cons (de_var 10) (da_cons (de_bin o_add (de_slice (de_var 3) (do_none) (do_some (de_var 4))) (de_slice (de_var 3) (do_some (de_bin o_add (de_var 4) (de_int))) (do_none))) (da_cons (de_bin o_add (de_var 3) (de_slice (de_var 3) (do_some (de_var 5)) (do_none))) (da_nil))))))) (tg_nm 11 sc__law_bent.nd) (dss_one (ds_expr (de_append (de_var 8) (da_cons (de_join (de_str) (da_cons (de_lcN [("row", 12)] [12] rfl rfl sc__law_bent.nd (di_seq (de_var 11)) (blkOk_by (N := n__law_bent) (sc := defScope s__law_bent) (by decide +kernel)) (fun _ _ _ _ _ => tg_nm 12 sc__law_bent.nd) (fun _ _ _ _ _ => dts_nil) (fun _ _ _ _ _ => de_bin o_add (de_var 12) (de_str))) (da_nil))) (da_nil)))))) (dss_one (ds_ret (de_fn 2 c__law_any tk hr (fx.glo 17) rfl (da_cons (de_var 0) (da_cons (de_var 8) (da_nil)))))))))))))))
theorem sc__law_told : FnScope n__law_told ["text"] (defScope s__law_told) := ⟨rfl, rfl, rfl, by decide +kernel, rfl, by decide +kernel, by decide +kernel⟩
theorem dv__law_told (fx : Fx fa fn K mg) (hex : exB K = true) (c_read_net : Fn P w K mg base (tbl K) 6 ("read_net", none) ["text"] (sp_read_net K)) {f : Addr} (cdv : Value) (A : Around) (outer : List Env) (s : Shared) (H : Hp) (E : XK) (hr : Room 6 (A.deeper (envOfC "_law_told" (defScope s__law_told) s.heap.objs.size f cdv))) :
    DSs (cxOf (CX P w) P w K mg base n__law_told "_law_told" (defScope s__law_told) f cdv A outer s H E) (lcOf (tbl K) E) (defBody s__law_told) (w__law_told K) := by
  have tk : Takes (cxOf (CX P w) P w K mg base n__law_told "_law_told" (defScope s__law_told) f cdv A outer s H E) (lcOf (tbl K) E).W := takes_of rfl rfl rfl rfl
  exact dss_cons (ds_tryA 2 rfl rfl sc__law_told.nd rfl rfl (fx.glo 7) tk (fun W pn xe tk => dss_one (ds_set 1 sc__law_told.nd (de_fn 1 c_read_net tk hr (fx.glo 14) rfl (da_cons (de_var 0) (da_nil))))) (fun a oe cls d pn e hz hf => dss_one (ds_ret (de_ifx (dt_val (de_exi 2 hz hf (fx.free 32) (fx.glo 5))) (de_exf 2 hz hf) (de_str))))) (dss_one (ds_ret (de_ifx (dt_val (de_callB (c_isO (isC_Net K hex (fx.cls 55))) (fx.free 32) (da_cons (de_var 1) (da_cons (de_gref (fx.glo 9)) (da_nil))) bt_isinstance)) (de_tup (da_cons (de_fld _ (one_cls (fx.cls 55) (fx.noat 58)) (de_var 1)) (da_cons (de_fld _ (one_cls (fx.cls 55) (fx.noat 59)) (de_var 1)) (da_nil)))) (de_str))))
theorem sc_law : FnScope n_law ["script"] (defScope s_law) := ⟨rfl, rfl, rfl, by decide +kernel, rfl, by decide +kernel, by decide +kernel⟩
theorem dv_law (fx : Fx fa fn K mg) (hex : exB K = true) (c__law_hand : Fn P w K mg base (tbl K) 1 ("_law_hand", none) ["script"] (sp__law_hand K)) (c__law_parts : Fn P w K mg base (tbl K) 3 ("_law_parts", none) ["hand", "most", "few"] (sp__law_parts K)) (c__law_text : Fn P w K mg base (tbl K) 1 ("_law_text", none) ["towns", "roads"] (sp__law_text K)) (c__law_bent : Fn P w K mg base (tbl K) 3 ("_law_bent", none) ["hand", "text"] (sp__law_bent K)) (c__law_draw : Fn P w K mg base (tbl K) 1 ("_law_draw", none) ["hand", "many"] (sp__law_draw K)) (c__law_told : Fn P w K mg base (tbl K) 7 ("_law_told", none) ["text"] (sp__law_told K)) (c__law_read : Fn P w K mg base (tbl K) 3 ("_law_read", none) ["text"] (sp__law_read K)) (c__law_any : Fn P w K mg base (tbl K) 2 ("_law_any", none) ["hand", "some"] (sp__law_any K)) {f : Addr} (cdv : Value) (A : Around) (outer : List Env) (s : Shared) (H : Hp) (E : XK) (hr : Room 7 (A.deeper (envOfC "law" (defScope s_law) s.heap.objs.size f cdv))) (hgd0 : A.guards = some []) :
    DSs (cxOf (CX P w) P w K mg base n_law "law" (defScope s_law) f cdv A outer s H E) (lcOf (tbl K) E) (defBody s_law) (w_law K) := by
  have tk : Takes (cxOf (CX P w) P w K mg base n_law "law" (defScope s_law) f cdv A outer s H E) (lcOf (tbl K) E).W := takes_of rfl rfl rfl rfl
  have hgd : (A.deeper (envOfC "law" (defScope s_law) s.heap.objs.size f cdv)).guards = some [] := hgd0
  exact dss_cons (ds_set 1 sc_law.nd (de_fn 1 c__law_hand tk (hr.mono (by decide)) (fx.glo 15) rfl (da_cons (de_var 0) (da_nil)))) (dss_cons (ds_for (passes_of rfl) rfl (di_range1 (fx.free 36) (de_int)) (tg_nm 2 sc_law.nd) (dss_cons (ds_asg (tg_tp rfl (tgs_cons (tg_nm 3 sc_law.nd) (tgs_cons (tg_nm 4 sc_law.nd) (tgs_nil)))) (de_fn 3 c__law_parts tk (hr.mono (by decide)) (fx.glo 18) rfl (da_cons (de_var 1) (da_cons (de_int) (da_cons (de_int) (da_nil)))))) (dss_cons (ds_set 5 sc_law.nd (de_fn 2 c__law_text tk (hr.mono (by decide)) (fx.glo 19) rfl (da_cons (de_var 3) (da_cons (de_var 4) (da_nil))))) (dss_one (ds_for (passes_of rfl) rfl (di_range1 (fx.free 36) (de_int)) (tg_nm 6 sc_law.nd) (dss_cons (ds_set 7 sc_law.nd (de_fn 2 c__law_bent tk (hr.mono (by decide)) (fx.glo 24) rfl (da_cons (de_var 1) (da_cons (de_var 5) (da_nil))))) (dss_cons (ds_if (dt_cmp (o_eqA (Room_u64 hr)) (de_fn 2 c__law_draw tk (hr.mono (by decide)) (fx.glo 16) rfl (da_cons (de_var 1) (da_cons (de_int) (da_nil)))) (de_int)) (dss_one (ds_set 7 sc_law.nd (de_fn 2 c__law_bent tk (hr.mono (by decide)) (fx.glo 24) rfl (da_cons (de_var 1) (da_cons (de_var 7) (da_nil)))))) (dss_nil)) (dss_one (ds_if (dt_cmp (o_neA (Room_u64 hr)) (de_callB (c_repr hgd (Room_u66 hr)) (fx.free 37) (da_cons (de_fn 1 c__law_told tk hr (fx.glo 25) rfl (da_cons (de_var 7) (da_nil))) (da_nil)) bt_repr) (de_callB (c_repr hgd (Room_u66 hr)) (fx.free 37) (da_cons (de_fn 1 c__law_read tk (hr.mono (by decide)) (fx.glo 23) rfl (da_cons (de_var 7) (da_nil))) (da_nil)) bt_repr)) (dss_one (ds_ret (de_bl))) (dss_nil)))))))))) (dss_cons (ds_set 8 sc_law.nd (de_bin o_add (de_lcN [("letter", 11)] [11] rfl rfl sc_law.nd (di_seq (de_str)) (blkOk_by (N := n_law) (sc := defScope s_law) (by decide +kernel)) (fun _ _ _ _ _ => tg_nm 11 sc_law.nd) (fun _ _ _ _ _ => dts_nil) (fun _ _ _ _ _ => de_bin o_add (de_str) (de_var 11))) (de_lcN [("letter", 11)] [11] rfl rfl sc_law.nd (di_seq (de_str)) (blkOk_by (N := n_law) (sc := defScope s_law) (by decide +kernel)) (fun _ _ _ _ _ => tg_nm 11 sc_law.nd) (fun _ _ _ _ _ => dts_nil) (fun _ _ _ _ _ => de_bin o_add (de_str) (de_var 11))))) (dss_cons (ds_set 9 sc_law.nd (de_join (de_str) (da_cons (de_lcN [("town", 12)] [12] rfl rfl sc_law.nd (di_seq (de_var 8)) (blkOk_by (N := n_law) (sc := defScope s_law) (by decide +kernel)) (fun _ _ _ _ _ => tg_nm 12 sc_law.nd) (fun _ _ _ _ _ => dts_nil) (fun _ _ _ _ _ => de_bin o_add (de_bin o_add (de_str) (de_var 12)) (de_str))) (da_nil)))) (dss_cons (ds_if ((dw_or (dt_cmp (o_neA (Room_u64 hr)) (de_fn 1 c__law_told tk hr (fx.glo 25) rfl (da_cons (de_var 9) (da_nil))) (de_tup (da_cons (de_callT c_tup (fx.free 40) (da_cons (de_var 8) (da_nil)) bt_tuple) (da_cons (de_tup (da_nil)) (da_nil))))) (dw_or1 (dt_cmp (o_neA (Room_u64 hr)) (de_fn 1 c__law_told tk hr (fx.glo 25) rfl (da_cons (de_bin o_add (de_var 9) (de_str)) (da_nil))) (de_int)))).pt) (dss_one (ds_ret (de_bl))) (dss_nil)) (dss_cons (ds_set 10 sc_law.nd (de_fn 2 c__law_any tk (hr.mono (by decide)) (fx.glo 17) rfl (da_cons (de_var 1) (da_cons (de_lstF (da_cons (de_non) (da_cons (de_int) (da_cons (de_lstF (da_cons (de_str) (da_nil))) (da_cons (de_tup (da_cons (de_str) (da_nil))) (da_cons (de_bl) (da_cons (de_dct0) (da_nil)))))))) (da_nil))))) (dss_one (ds_ret (de_cmp (o_eqA (Room_u64 hr)) (de_fn 1 c__law_told tk hr (fx.glo 25) rfl (da_cons (de_var 10) (da_nil))) (de_int)))))))))
end
theorem pure_is_integer (K : PySem.W.Frag) : ∀ ps S R Z, ps.length = 1 → sp_is_integer K ps S R Z → w_is_integer K (fin R Z) (startP n_is_integer ps) S := by
  intro ps S R Z hl h
  obtain ⟨p, rfl⟩ := List.length_eq_one_iff.mp hl
  have e : startP n_is_integer [p] = [some p] := rfl
  rw [e]
  unfold sp_is_integer at h
  cases ht : tagB (dr S p) with
  | none => simp only [ht] at h
  | some a =>
    simp only [ht] at h
    simp -implicitDefEqProofs only [w_is_integer, ↓e_ret, ↓e_retN, ↓e_nxt, ↓e_seq, ↓e_nev, ↓e_brk, ↓e_cnt, ↓e_expr, ↓e_ifs, ↓e_set, ↓e_asg, ↓par2_two, ↓e_par, ↓e_for, ↓e_setF, ↓e_put, ↓opt_some, ↓e_var, ↓e_c, ↓e_b, ↓e_1, ↓e_tst, ↓e_kB, ↓e_tru, ↓e_notT, ↓e_andT, ↓e_orT, ↓truK_bl, ↓e_andV, ↓e_orV, ↓e_notV, ↓e_if, ↓chK_bl, ↓e_ch, ↓e_nil, ↓e_cons, ↓e_tup, ↓e_lst, ↓e_lstF, ↓e_call, ↓e_arN, ↓e_p1, ↓e_p2, ↓e_meth, ↓e_bm, ↓e_fld, ↓e_lc, ↓e_dc, ↓e_it, ↓e_rng1, ↓e_rng2, ↓e_intB, ↓e_sl, ↓e_no, ↓e_so, ↓e_yes, ↓e_anm, ↓gs_0, ↓gs_s, ↓dr_int, ↓dr_str, ↓dr_bl, ↓dr_nn, ↓dr_tup, ↓dr_lst, ↓dr_dct, ↓dr_obj, ↓k_lt_int, ↓k_le_int, ↓k_gt_int, ↓k_ge_int, ↓k_lt_str, ↓k_add_int, ↓k_add_str, ↓k_add_tup, ↓k_add_lst, ↓k_sub, ↓k_mul, ↓k_div, ↓k_mod, ↓k_pow, ↓k_neg, ↓k_eq_int, ↓k_eq_str, ↓k_is_nn, ↓k_is_int, ↓k_is_tup, ↓k_is_obj, ↓k_ix_lst, ↓k_ix_tup, ↓k_ix_str, ↓k_ix_dct, ↓k_len_str, ↓k_len_lst, ↓k_len_tup, ↓k_int_int, ↓k_int_bl, ↓k_abs, ↓k_str_int, ↓k_str_str, ↓k_tup_lst, ↓k_it_str, ↓k_it_tup, ↓k_it_lst, ↓k_in_dct, ↓e_enum, ↓k_en_tup, ↓k_en_lst, ↓e_atp, ↓e_lcM, ↓par3_three, ↓e_lits, ↓e_par3, ↓e_rev, ↓e_dct0, ↓e_nevE, ↓e_raise1, ↓e_exF, ↓e_exI, ↓e_tryA, ↓k_rev_lst, ↓k_addM_lst, ↓k_max2, ↓k_min2, List.set_cons_zero, List.set_cons_succ, wipeP, kIsB, ht]
    have m1 : ("int" : String) ∈ tyNames := by decide
    have m2 : ("bool" : String) ∈ tyNames := by decide
    refine ⟨m1, ?_⟩
    have ha : a ∈ ["NoneType", "bool", "int", "str", "tuple", "list", "dict"] := by
      cases hd : dr S p <;> rw [hd] at ht <;> simp only [tagB, Option.some.injEq, reduceCtorEq] at ht <;> subst ht <;> decide
    have key : ∀ a ∈ ["NoneType", "bool", "int", "str", "tuple", "list", "dict"], (isTyB a "int" = true ∧ (!isTyB a "bool") = (a == "int")) ∨ (isTyB a "int" = false ∧ (a == "int") = false) := by decide
    rcases key a ha with ⟨k1, k2⟩ | ⟨k1, k2⟩
    · rw [k1, if_pos rfl]
      refine ⟨m2, ?_⟩
      rw [k2]
      exact gR_now h
    · rw [k1, if_neg (by decide)]
      rw [k2] at h
      exact gR_now h
theorem pure_is_within (K : PySem.W.Frag) : ∀ ps S R Z, ps.length = 3 → sp_is_within K ps S R Z → w_is_within K (fin R Z) (startP n_is_within ps) S := by
  intro ps S R Z hl h
  unfold sp_is_within at h
  split at h
  · rename_i p a b
    have e : startP n_is_within [p, .int a, .int b] = [some p, some (.int a), some (.int b)] := rfl
    rw [e]
    split at h
    · rename_i i hd
      simp -implicitDefEqProofs only [w_is_within, ↓e_ret, ↓e_retN, ↓e_nxt, ↓e_seq, ↓e_nev, ↓e_brk, ↓e_cnt, ↓e_expr, ↓e_ifs, ↓e_set, ↓e_asg, ↓par2_two, ↓e_par, ↓e_for, ↓e_setF, ↓e_put, ↓opt_some, ↓e_var, ↓e_c, ↓e_b, ↓e_1, ↓e_tst, ↓e_kB, ↓e_tru, ↓e_notT, ↓e_andT, ↓e_orT, ↓truK_bl, ↓e_andV, ↓e_orV, ↓e_notV, ↓e_if, ↓chK_bl, ↓e_ch, ↓e_nil, ↓e_cons, ↓e_tup, ↓e_lst, ↓e_lstF, ↓e_call, ↓e_arN, ↓e_p1, ↓e_p2, ↓e_meth, ↓e_bm, ↓e_fld, ↓e_lc, ↓e_dc, ↓e_it, ↓e_rng1, ↓e_rng2, ↓e_intB, ↓e_sl, ↓e_no, ↓e_so, ↓e_yes, ↓e_anm, ↓gs_0, ↓gs_s, ↓dr_int, ↓dr_str, ↓dr_bl, ↓dr_nn, ↓dr_tup, ↓dr_lst, ↓dr_dct, ↓dr_obj, ↓k_lt_int, ↓k_le_int, ↓k_gt_int, ↓k_ge_int, ↓k_lt_str, ↓k_add_int, ↓k_add_str, ↓k_add_tup, ↓k_add_lst, ↓k_sub, ↓k_mul, ↓k_div, ↓k_mod, ↓k_pow, ↓k_neg, ↓k_eq_int, ↓k_eq_str, ↓k_is_nn, ↓k_is_int, ↓k_is_tup, ↓k_is_obj, ↓k_ix_lst, ↓k_ix_tup, ↓k_ix_str, ↓k_ix_dct, ↓k_len_str, ↓k_len_lst, ↓k_len_tup, ↓k_int_int, ↓k_int_bl, ↓k_abs, ↓k_str_int, ↓k_str_str, ↓k_tup_lst, ↓k_it_str, ↓k_it_tup, ↓k_it_lst, ↓k_in_dct, ↓e_enum, ↓k_en_tup, ↓k_en_lst, ↓e_atp, ↓e_lcM, ↓par3_three, ↓e_lits, ↓e_par3, ↓e_rev, ↓e_dct0, ↓e_nevE, ↓e_raise1, ↓e_exF, ↓e_exI, ↓e_tryA, ↓k_rev_lst, ↓k_addM_lst, ↓k_max2, ↓k_min2, List.set_cons_zero, List.set_cons_succ, wipeP]
      refine ⟨rfl, ?_⟩
      unfold sp_is_integer
      simp only [hd, tagB]
      have e1 : (("int" : String) == "int") = true := by decide
      rw [e1, truK_bl, if_pos rfl]
      have l1 : ∀ R', kLe (.int a) p S R' = R' (.bl (decide (a ≤ i))) S := fun R' => by unfold kLe kOrd; rw [dr_int, hd]
      have l2 : ∀ R', kLe p (.int b) S R' = R' (.bl (decide (i ≤ b))) S := fun R' => by unfold kLe kOrd; rw [dr_int, hd]
      rw [l1, chK_bl]
      by_cases q : a ≤ i
      · rw [decide_eq_true q, if_pos rfl, l2]
        rw [decide_eq_true q, Bool.true_and] at h
        exact gR_now h
      · rw [decide_eq_false q, if_neg (by decide)]
        rw [decide_eq_false q, Bool.false_and] at h
        exact gR_now h
    · exact h.elim
  · exact h.elim
theorem pure_is_tuple (K : PySem.W.Frag) : ∀ ps S R Z, ps.length = 2 → sp_is_tuple K ps S R Z → w_is_tuple K (fin R Z) (startP n_is_tuple ps) S := by
  intro ps S R Z hl h
  unfold sp_is_tuple at h
  split at h
  · rename_i xs n
    have e : startP n_is_tuple [.tup xs, .int n] = [some (.tup xs), some (.int n)] := rfl
    rw [e]
    simp -implicitDefEqProofs only [w_is_tuple, ↓e_ret, ↓e_retN, ↓e_nxt, ↓e_seq, ↓e_nev, ↓e_brk, ↓e_cnt, ↓e_expr, ↓e_ifs, ↓e_set, ↓e_asg, ↓par2_two, ↓e_par, ↓e_for, ↓e_setF, ↓e_put, ↓opt_some, ↓e_var, ↓e_c, ↓e_b, ↓e_1, ↓e_tst, ↓e_kB, ↓e_tru, ↓e_notT, ↓e_andT, ↓e_orT, ↓truK_bl, ↓e_andV, ↓e_orV, ↓e_notV, ↓e_if, ↓chK_bl, ↓e_ch, ↓e_nil, ↓e_cons, ↓e_tup, ↓e_lst, ↓e_lstF, ↓e_call, ↓e_arN, ↓e_p1, ↓e_p2, ↓e_meth, ↓e_bm, ↓e_fld, ↓e_lc, ↓e_dc, ↓e_it, ↓e_rng1, ↓e_rng2, ↓e_intB, ↓e_sl, ↓e_no, ↓e_so, ↓e_yes, ↓e_anm, ↓gs_0, ↓gs_s, ↓dr_int, ↓dr_str, ↓dr_bl, ↓dr_nn, ↓dr_tup, ↓dr_lst, ↓dr_dct, ↓dr_obj, ↓k_lt_int, ↓k_le_int, ↓k_gt_int, ↓k_ge_int, ↓k_lt_str, ↓k_add_int, ↓k_add_str, ↓k_add_tup, ↓k_add_lst, ↓k_sub, ↓k_mul, ↓k_div, ↓k_mod, ↓k_pow, ↓k_neg, ↓k_eq_int, ↓k_eq_str, ↓k_is_nn, ↓k_is_int, ↓k_is_tup, ↓k_is_obj, ↓k_ix_lst, ↓k_ix_tup, ↓k_ix_str, ↓k_ix_dct, ↓k_len_str, ↓k_len_lst, ↓k_len_tup, ↓k_int_int, ↓k_int_bl, ↓k_abs, ↓k_str_int, ↓k_str_str, ↓k_tup_lst, ↓k_it_str, ↓k_it_tup, ↓k_it_lst, ↓k_in_dct, ↓e_enum, ↓k_en_tup, ↓k_en_lst, ↓e_atp, ↓e_lcM, ↓par3_three, ↓e_lits, ↓e_par3, ↓e_rev, ↓e_dct0, ↓e_nevE, ↓e_raise1, ↓e_exF, ↓e_exI, ↓e_tryA, ↓k_rev_lst, ↓k_addM_lst, ↓k_max2, ↓k_min2, List.set_cons_zero, List.set_cons_succ, wipeP]
    rw [k_isB_tup (by decide)]
    have e1 : (("tuple" : String) == "tuple") = true := by decide
    simp -implicitDefEqProofs only [e1, ↓e_ret, ↓e_retN, ↓e_nxt, ↓e_seq, ↓e_nev, ↓e_brk, ↓e_cnt, ↓e_expr, ↓e_ifs, ↓e_set, ↓e_asg, ↓par2_two, ↓e_par, ↓e_for, ↓e_setF, ↓e_put, ↓opt_some, ↓e_var, ↓e_c, ↓e_b, ↓e_1, ↓e_tst, ↓e_kB, ↓e_tru, ↓e_notT, ↓e_andT, ↓e_orT, ↓truK_bl, ↓e_andV, ↓e_orV, ↓e_notV, ↓e_if, ↓chK_bl, ↓e_ch, ↓e_nil, ↓e_cons, ↓e_tup, ↓e_lst, ↓e_lstF, ↓e_call, ↓e_arN, ↓e_p1, ↓e_p2, ↓e_meth, ↓e_bm, ↓e_fld, ↓e_lc, ↓e_dc, ↓e_it, ↓e_rng1, ↓e_rng2, ↓e_intB, ↓e_sl, ↓e_no, ↓e_so, ↓e_yes, ↓e_anm, ↓gs_0, ↓gs_s, ↓dr_int, ↓dr_str, ↓dr_bl, ↓dr_nn, ↓dr_tup, ↓dr_lst, ↓dr_dct, ↓dr_obj, ↓k_lt_int, ↓k_le_int, ↓k_gt_int, ↓k_ge_int, ↓k_lt_str, ↓k_add_int, ↓k_add_str, ↓k_add_tup, ↓k_add_lst, ↓k_sub, ↓k_mul, ↓k_div, ↓k_mod, ↓k_pow, ↓k_neg, ↓k_eq_int, ↓k_eq_str, ↓k_is_nn, ↓k_is_int, ↓k_is_tup, ↓k_is_obj, ↓k_ix_lst, ↓k_ix_tup, ↓k_ix_str, ↓k_ix_dct, ↓k_len_str, ↓k_len_lst, ↓k_len_tup, ↓k_int_int, ↓k_int_bl, ↓k_abs, ↓k_str_int, ↓k_str_str, ↓k_tup_lst, ↓k_it_str, ↓k_it_tup, ↓k_it_lst, ↓k_in_dct, ↓e_enum, ↓k_en_tup, ↓k_en_lst, ↓e_atp, ↓e_lcM, ↓par3_three, ↓e_lits, ↓e_par3, ↓e_rev, ↓e_dct0, ↓e_nevE, ↓e_raise1, ↓e_exF, ↓e_exI, ↓e_tryA, ↓k_rev_lst, ↓k_addM_lst, ↓k_max2, ↓k_min2, List.set_cons_zero, List.set_cons_succ, wipeP, if_true, Bool.bne_false]
    exact gR_now h
  · exact h.elim
theorem pure_is_name (K : PySem.W.Frag) : ∀ ps S R Z, ps.length = 1 → sp_is_name K ps S R Z → w_is_name K (fin R Z) (startP n_is_name ps) S := by
  intro ps S R Z hl h
  unfold sp_is_name at h
  split at h
  · rename_i x
    obtain ⟨hz, h⟩ := h
    have e : startP n_is_name [.str x] = [some (.str x), none] := rfl
    rw [e]
    simp -implicitDefEqProofs only [w_is_name, ↓e_ret, ↓e_retN, ↓e_nxt, ↓e_seq, ↓e_nev, ↓e_brk, ↓e_cnt, ↓e_expr, ↓e_ifs, ↓e_set, ↓e_asg, ↓par2_two, ↓e_par, ↓e_for, ↓e_setF, ↓e_put, ↓opt_some, ↓e_var, ↓e_c, ↓e_b, ↓e_1, ↓e_tst, ↓e_kB, ↓e_tru, ↓e_notT, ↓e_andT, ↓e_orT, ↓truK_bl, ↓e_andV, ↓e_orV, ↓e_notV, ↓e_if, ↓chK_bl, ↓e_ch, ↓e_nil, ↓e_cons, ↓e_tup, ↓e_lst, ↓e_lstF, ↓e_call, ↓e_arN, ↓e_p1, ↓e_p2, ↓e_meth, ↓e_bm, ↓e_fld, ↓e_lc, ↓e_dc, ↓e_it, ↓e_rng1, ↓e_rng2, ↓e_intB, ↓e_sl, ↓e_no, ↓e_so, ↓e_yes, ↓e_anm, ↓gs_0, ↓gs_s, ↓dr_int, ↓dr_str, ↓dr_bl, ↓dr_nn, ↓dr_tup, ↓dr_lst, ↓dr_dct, ↓dr_obj, ↓k_lt_int, ↓k_le_int, ↓k_gt_int, ↓k_ge_int, ↓k_lt_str, ↓k_add_int, ↓k_add_str, ↓k_add_tup, ↓k_add_lst, ↓k_sub, ↓k_mul, ↓k_div, ↓k_mod, ↓k_pow, ↓k_neg, ↓k_eq_int, ↓k_eq_str, ↓k_is_nn, ↓k_is_int, ↓k_is_tup, ↓k_is_obj, ↓k_ix_lst, ↓k_ix_tup, ↓k_ix_str, ↓k_ix_dct, ↓k_len_str, ↓k_len_lst, ↓k_len_tup, ↓k_int_int, ↓k_int_bl, ↓k_abs, ↓k_str_int, ↓k_str_str, ↓k_tup_lst, ↓k_it_str, ↓k_it_tup, ↓k_it_lst, ↓k_in_dct, ↓e_enum, ↓k_en_tup, ↓k_en_lst, ↓e_atp, ↓e_lcM, ↓par3_three, ↓e_lits, ↓e_par3, ↓e_rev, ↓e_dct0, ↓e_nevE, ↓e_raise1, ↓e_exF, ↓e_exI, ↓e_tryA, ↓k_rev_lst, ↓k_addM_lst, ↓k_max2, ↓k_min2, List.set_cons_zero, List.set_cons_succ, wipeP]
    rw [k_isB_str (by decide)]
    have e1 : (("str" : String) == "str") = true := by decide
    simp -implicitDefEqProofs only [e1, ↓e_ret, ↓e_retN, ↓e_nxt, ↓e_seq, ↓e_nev, ↓e_brk, ↓e_cnt, ↓e_expr, ↓e_ifs, ↓e_set, ↓e_asg, ↓par2_two, ↓e_par, ↓e_for, ↓e_setF, ↓e_put, ↓opt_some, ↓e_var, ↓e_c, ↓e_b, ↓e_1, ↓e_tst, ↓e_kB, ↓e_tru, ↓e_notT, ↓e_andT, ↓e_orT, ↓truK_bl, ↓e_andV, ↓e_orV, ↓e_notV, ↓e_if, ↓chK_bl, ↓e_ch, ↓e_nil, ↓e_cons, ↓e_tup, ↓e_lst, ↓e_lstF, ↓e_call, ↓e_arN, ↓e_p1, ↓e_p2, ↓e_meth, ↓e_bm, ↓e_fld, ↓e_lc, ↓e_dc, ↓e_it, ↓e_rng1, ↓e_rng2, ↓e_intB, ↓e_sl, ↓e_no, ↓e_so, ↓e_yes, ↓e_anm, ↓gs_0, ↓gs_s, ↓dr_int, ↓dr_str, ↓dr_bl, ↓dr_nn, ↓dr_tup, ↓dr_lst, ↓dr_dct, ↓dr_obj, ↓k_lt_int, ↓k_le_int, ↓k_gt_int, ↓k_ge_int, ↓k_lt_str, ↓k_add_int, ↓k_add_str, ↓k_add_tup, ↓k_add_lst, ↓k_sub, ↓k_mul, ↓k_div, ↓k_mod, ↓k_pow, ↓k_neg, ↓k_eq_int, ↓k_eq_str, ↓k_is_nn, ↓k_is_int, ↓k_is_tup, ↓k_is_obj, ↓k_ix_lst, ↓k_ix_tup, ↓k_ix_str, ↓k_ix_dct, ↓k_len_str, ↓k_len_lst, ↓k_len_tup, ↓k_int_int, ↓k_int_bl, ↓k_abs, ↓k_str_int, ↓k_str_str, ↓k_tup_lst, ↓k_it_str, ↓k_it_tup, ↓k_it_lst, ↓k_in_dct, ↓e_enum, ↓k_en_tup, ↓k_en_lst, ↓e_atp, ↓e_lcM, ↓par3_three, ↓e_lits, ↓e_par3, ↓e_rev, ↓e_dct0, ↓e_nevE, ↓e_raise1, ↓e_exF, ↓e_exI, ↓e_tryA, ↓k_rev_lst, ↓k_addM_lst, ↓k_max2, ↓k_min2, List.set_cons_zero, List.set_cons_succ, wipeP, if_true]
    refine ⟨hz, ?_⟩
    have c1 : decide ((1 : Int) ≤ (x.length : Int)) = decide (1 ≤ x.length) := by rw [Bool.eq_iff_iff, decide_eq_true_iff, decide_eq_true_iff]; omega
    have c2 : decide ((x.length : Int) ≤ 8) = decide (x.length ≤ 8) := by rw [Bool.eq_iff_iff, decide_eq_true_iff, decide_eq_true_iff]; omega
    rw [c1, c2]
    unfold nameB at h
    by_cases q1 : 1 ≤ x.length
    · rw [decide_eq_true q1] at h ⊢
      rw [Bool.true_and] at h
      simp -implicitDefEqProofs only [↓e_ret, ↓e_retN, ↓e_nxt, ↓e_seq, ↓e_nev, ↓e_brk, ↓e_cnt, ↓e_expr, ↓e_ifs, ↓e_set, ↓e_asg, ↓par2_two, ↓e_par, ↓e_for, ↓e_setF, ↓e_put, ↓opt_some, ↓e_var, ↓e_c, ↓e_b, ↓e_1, ↓e_tst, ↓e_kB, ↓e_tru, ↓e_notT, ↓e_andT, ↓e_orT, ↓truK_bl, ↓e_andV, ↓e_orV, ↓e_notV, ↓e_if, ↓chK_bl, ↓e_ch, ↓e_nil, ↓e_cons, ↓e_tup, ↓e_lst, ↓e_lstF, ↓e_call, ↓e_arN, ↓e_p1, ↓e_p2, ↓e_meth, ↓e_bm, ↓e_fld, ↓e_lc, ↓e_dc, ↓e_it, ↓e_rng1, ↓e_rng2, ↓e_intB, ↓e_sl, ↓e_no, ↓e_so, ↓e_yes, ↓e_anm, ↓gs_0, ↓gs_s, ↓dr_int, ↓dr_str, ↓dr_bl, ↓dr_nn, ↓dr_tup, ↓dr_lst, ↓dr_dct, ↓dr_obj, ↓k_lt_int, ↓k_le_int, ↓k_gt_int, ↓k_ge_int, ↓k_lt_str, ↓k_add_int, ↓k_add_str, ↓k_add_tup, ↓k_add_lst, ↓k_sub, ↓k_mul, ↓k_div, ↓k_mod, ↓k_pow, ↓k_neg, ↓k_eq_int, ↓k_eq_str, ↓k_is_nn, ↓k_is_int, ↓k_is_tup, ↓k_is_obj, ↓k_ix_lst, ↓k_ix_tup, ↓k_ix_str, ↓k_ix_dct, ↓k_len_str, ↓k_len_lst, ↓k_len_tup, ↓k_int_int, ↓k_int_bl, ↓k_abs, ↓k_str_int, ↓k_str_str, ↓k_tup_lst, ↓k_it_str, ↓k_it_tup, ↓k_it_lst, ↓k_in_dct, ↓e_enum, ↓k_en_tup, ↓k_en_lst, ↓e_atp, ↓e_lcM, ↓par3_three, ↓e_lits, ↓e_par3, ↓e_rev, ↓e_dct0, ↓e_nevE, ↓e_raise1, ↓e_exF, ↓e_exI, ↓e_tryA, ↓k_rev_lst, ↓k_addM_lst, ↓k_max2, ↓k_min2, List.set_cons_zero, List.set_cons_succ, wipeP, if_true]
      by_cases q2 : x.length ≤ 8
      · rw [decide_eq_true q2] at h ⊢
        rw [Bool.true_and] at h
        simp -implicitDefEqProofs only [↓e_ret, ↓e_retN, ↓e_nxt, ↓e_seq, ↓e_nev, ↓e_brk, ↓e_cnt, ↓e_expr, ↓e_ifs, ↓e_set, ↓e_asg, ↓par2_two, ↓e_par, ↓e_for, ↓e_setF, ↓e_put, ↓opt_some, ↓e_var, ↓e_c, ↓e_b, ↓e_1, ↓e_tst, ↓e_kB, ↓e_tru, ↓e_notT, ↓e_andT, ↓e_orT, ↓truK_bl, ↓e_andV, ↓e_orV, ↓e_notV, ↓e_if, ↓chK_bl, ↓e_ch, ↓e_nil, ↓e_cons, ↓e_tup, ↓e_lst, ↓e_lstF, ↓e_call, ↓e_arN, ↓e_p1, ↓e_p2, ↓e_meth, ↓e_bm, ↓e_fld, ↓e_lc, ↓e_dc, ↓e_it, ↓e_rng1, ↓e_rng2, ↓e_intB, ↓e_sl, ↓e_no, ↓e_so, ↓e_yes, ↓e_anm, ↓gs_0, ↓gs_s, ↓dr_int, ↓dr_str, ↓dr_bl, ↓dr_nn, ↓dr_tup, ↓dr_lst, ↓dr_dct, ↓dr_obj, ↓k_lt_int, ↓k_le_int, ↓k_gt_int, ↓k_ge_int, ↓k_lt_str, ↓k_add_int, ↓k_add_str, ↓k_add_tup, ↓k_add_lst, ↓k_sub, ↓k_mul, ↓k_div, ↓k_mod, ↓k_pow, ↓k_neg, ↓k_eq_int, ↓k_eq_str, ↓k_is_nn, ↓k_is_int, ↓k_is_tup, ↓k_is_obj, ↓k_ix_lst, ↓k_ix_tup, ↓k_ix_str, ↓k_ix_dct, ↓k_len_str, ↓k_len_lst, ↓k_len_tup, ↓k_int_int, ↓k_int_bl, ↓k_abs, ↓k_str_int, ↓k_str_str, ↓k_tup_lst, ↓k_it_str, ↓k_it_tup, ↓k_it_lst, ↓k_in_dct, ↓e_enum, ↓k_en_tup, ↓k_en_lst, ↓e_atp, ↓e_lcM, ↓par3_three, ↓e_lits, ↓e_par3, ↓e_rev, ↓e_dct0, ↓e_nevE, ↓e_raise1, ↓e_exF, ↓e_exI, ↓e_tryA, ↓k_rev_lst, ↓k_addM_lst, ↓k_max2, ↓k_min2, List.set_cons_zero, List.set_cons_succ, wipeP, if_true, k_it_str]
        refine wLcL_allM (fun c => PV.str ⟨#[c]⟩) (fun c => PV.bl (small.contains c)) trivial _ (fun c hc R' hR => ?_) ?_ ?_
        · simp -implicitDefEqProofs only [w_is_name_1, ↓e_ret, ↓e_retN, ↓e_nxt, ↓e_seq, ↓e_nev, ↓e_brk, ↓e_cnt, ↓e_expr, ↓e_ifs, ↓e_set, ↓e_asg, ↓par2_two, ↓e_par, ↓e_for, ↓e_setF, ↓e_put, ↓opt_some, ↓e_var, ↓e_c, ↓e_b, ↓e_1, ↓e_tst, ↓e_kB, ↓e_tru, ↓e_notT, ↓e_andT, ↓e_orT, ↓truK_bl, ↓e_andV, ↓e_orV, ↓e_notV, ↓e_if, ↓chK_bl, ↓e_ch, ↓e_nil, ↓e_cons, ↓e_tup, ↓e_lst, ↓e_lstF, ↓e_call, ↓e_arN, ↓e_p1, ↓e_p2, ↓e_meth, ↓e_bm, ↓e_fld, ↓e_lc, ↓e_dc, ↓e_it, ↓e_rng1, ↓e_rng2, ↓e_intB, ↓e_sl, ↓e_no, ↓e_so, ↓e_yes, ↓e_anm, ↓gs_0, ↓gs_s, ↓dr_int, ↓dr_str, ↓dr_bl, ↓dr_nn, ↓dr_tup, ↓dr_lst, ↓dr_dct, ↓dr_obj, ↓k_lt_int, ↓k_le_int, ↓k_gt_int, ↓k_ge_int, ↓k_lt_str, ↓k_add_int, ↓k_add_str, ↓k_add_tup, ↓k_add_lst, ↓k_sub, ↓k_mul, ↓k_div, ↓k_mod, ↓k_pow, ↓k_neg, ↓k_eq_int, ↓k_eq_str, ↓k_is_nn, ↓k_is_int, ↓k_is_tup, ↓k_is_obj, ↓k_ix_lst, ↓k_ix_tup, ↓k_ix_str, ↓k_ix_dct, ↓k_len_str, ↓k_len_lst, ↓k_len_tup, ↓k_int_int, ↓k_int_bl, ↓k_abs, ↓k_str_int, ↓k_str_str, ↓k_tup_lst, ↓k_it_str, ↓k_it_tup, ↓k_it_lst, ↓k_in_dct, ↓e_enum, ↓k_en_tup, ↓k_en_lst, ↓e_atp, ↓e_lcM, ↓par3_three, ↓e_lits, ↓e_par3, ↓e_rev, ↓e_dct0, ↓e_nevE, ↓e_raise1, ↓e_exF, ↓e_exI, ↓e_tryA, ↓k_rev_lst, ↓k_addM_lst, ↓k_max2, ↓k_min2, List.set_cons_zero, List.set_cons_succ, wipeP]
          unfold kIn
          simp -implicitDefEqProofs only [↓e_ret, ↓e_retN, ↓e_nxt, ↓e_seq, ↓e_nev, ↓e_brk, ↓e_cnt, ↓e_expr, ↓e_ifs, ↓e_set, ↓e_asg, ↓par2_two, ↓e_par, ↓e_for, ↓e_setF, ↓e_put, ↓opt_some, ↓e_var, ↓e_c, ↓e_b, ↓e_1, ↓e_tst, ↓e_kB, ↓e_tru, ↓e_notT, ↓e_andT, ↓e_orT, ↓truK_bl, ↓e_andV, ↓e_orV, ↓e_notV, ↓e_if, ↓chK_bl, ↓e_ch, ↓e_nil, ↓e_cons, ↓e_tup, ↓e_lst, ↓e_lstF, ↓e_call, ↓e_arN, ↓e_p1, ↓e_p2, ↓e_meth, ↓e_bm, ↓e_fld, ↓e_lc, ↓e_dc, ↓e_it, ↓e_rng1, ↓e_rng2, ↓e_intB, ↓e_sl, ↓e_no, ↓e_so, ↓e_yes, ↓e_anm, ↓gs_0, ↓gs_s, ↓dr_int, ↓dr_str, ↓dr_bl, ↓dr_nn, ↓dr_tup, ↓dr_lst, ↓dr_dct, ↓dr_obj, ↓k_lt_int, ↓k_le_int, ↓k_gt_int, ↓k_ge_int, ↓k_lt_str, ↓k_add_int, ↓k_add_str, ↓k_add_tup, ↓k_add_lst, ↓k_sub, ↓k_mul, ↓k_div, ↓k_mod, ↓k_pow, ↓k_neg, ↓k_eq_int, ↓k_eq_str, ↓k_is_nn, ↓k_is_int, ↓k_is_tup, ↓k_is_obj, ↓k_ix_lst, ↓k_ix_tup, ↓k_ix_str, ↓k_ix_dct, ↓k_len_str, ↓k_len_lst, ↓k_len_tup, ↓k_int_int, ↓k_int_bl, ↓k_abs, ↓k_str_int, ↓k_str_str, ↓k_tup_lst, ↓k_it_str, ↓k_it_tup, ↓k_it_lst, ↓k_in_dct, ↓e_enum, ↓k_en_tup, ↓k_en_lst, ↓e_atp, ↓e_lcM, ↓par3_three, ↓e_lits, ↓e_par3, ↓e_rev, ↓e_dct0, ↓e_nevE, ↓e_raise1, ↓e_exF, ↓e_exI, ↓e_tryA, ↓k_rev_lst, ↓k_addM_lst, ↓k_max2, ↓k_min2, List.set_cons_zero, List.set_cons_succ, wipeP]
          refine ⟨rfl, ?_⟩
          rw [Bool.bne_false]
          exact hR
        · have : x.cps.toList.length = x.length := by simp [Str.length]
          omega
        · rw [k_allM]
          exact gR_now h
      · rw [decide_eq_false q2] at h ⊢
        simp -implicitDefEqProofs only [↓e_ret, ↓e_retN, ↓e_nxt, ↓e_seq, ↓e_nev, ↓e_brk, ↓e_cnt, ↓e_expr, ↓e_ifs, ↓e_set, ↓e_asg, ↓par2_two, ↓e_par, ↓e_for, ↓e_setF, ↓e_put, ↓opt_some, ↓e_var, ↓e_c, ↓e_b, ↓e_1, ↓e_tst, ↓e_kB, ↓e_tru, ↓e_notT, ↓e_andT, ↓e_orT, ↓truK_bl, ↓e_andV, ↓e_orV, ↓e_notV, ↓e_if, ↓chK_bl, ↓e_ch, ↓e_nil, ↓e_cons, ↓e_tup, ↓e_lst, ↓e_lstF, ↓e_call, ↓e_arN, ↓e_p1, ↓e_p2, ↓e_meth, ↓e_bm, ↓e_fld, ↓e_lc, ↓e_dc, ↓e_it, ↓e_rng1, ↓e_rng2, ↓e_intB, ↓e_sl, ↓e_no, ↓e_so, ↓e_yes, ↓e_anm, ↓gs_0, ↓gs_s, ↓dr_int, ↓dr_str, ↓dr_bl, ↓dr_nn, ↓dr_tup, ↓dr_lst, ↓dr_dct, ↓dr_obj, ↓k_lt_int, ↓k_le_int, ↓k_gt_int, ↓k_ge_int, ↓k_lt_str, ↓k_add_int, ↓k_add_str, ↓k_add_tup, ↓k_add_lst, ↓k_sub, ↓k_mul, ↓k_div, ↓k_mod, ↓k_pow, ↓k_neg, ↓k_eq_int, ↓k_eq_str, ↓k_is_nn, ↓k_is_int, ↓k_is_tup, ↓k_is_obj, ↓k_ix_lst, ↓k_ix_tup, ↓k_ix_str, ↓k_ix_dct, ↓k_len_str, ↓k_len_lst, ↓k_len_tup, ↓k_int_int, ↓k_int_bl, ↓k_abs, ↓k_str_int, ↓k_str_str, ↓k_tup_lst, ↓k_it_str, ↓k_it_tup, ↓k_it_lst, ↓k_in_dct, ↓e_enum, ↓k_en_tup, ↓k_en_lst, ↓e_atp, ↓e_lcM, ↓par3_three, ↓e_lits, ↓e_par3, ↓e_rev, ↓e_dct0, ↓e_nevE, ↓e_raise1, ↓e_exF, ↓e_exI, ↓e_tryA, ↓k_rev_lst, ↓k_addM_lst, ↓k_max2, ↓k_min2, List.set_cons_zero, List.set_cons_succ, wipeP, Bool.false_and] at h ⊢
        rw [if_neg (by decide)]
        exact gR_now h
    · rw [decide_eq_false q1] at h ⊢
      simp -implicitDefEqProofs only [↓e_ret, ↓e_retN, ↓e_nxt, ↓e_seq, ↓e_nev, ↓e_brk, ↓e_cnt, ↓e_expr, ↓e_ifs, ↓e_set, ↓e_asg, ↓par2_two, ↓e_par, ↓e_for, ↓e_setF, ↓e_put, ↓opt_some, ↓e_var, ↓e_c, ↓e_b, ↓e_1, ↓e_tst, ↓e_kB, ↓e_tru, ↓e_notT, ↓e_andT, ↓e_orT, ↓truK_bl, ↓e_andV, ↓e_orV, ↓e_notV, ↓e_if, ↓chK_bl, ↓e_ch, ↓e_nil, ↓e_cons, ↓e_tup, ↓e_lst, ↓e_lstF, ↓e_call, ↓e_arN, ↓e_p1, ↓e_p2, ↓e_meth, ↓e_bm, ↓e_fld, ↓e_lc, ↓e_dc, ↓e_it, ↓e_rng1, ↓e_rng2, ↓e_intB, ↓e_sl, ↓e_no, ↓e_so, ↓e_yes, ↓e_anm, ↓gs_0, ↓gs_s, ↓dr_int, ↓dr_str, ↓dr_bl, ↓dr_nn, ↓dr_tup, ↓dr_lst, ↓dr_dct, ↓dr_obj, ↓k_lt_int, ↓k_le_int, ↓k_gt_int, ↓k_ge_int, ↓k_lt_str, ↓k_add_int, ↓k_add_str, ↓k_add_tup, ↓k_add_lst, ↓k_sub, ↓k_mul, ↓k_div, ↓k_mod, ↓k_pow, ↓k_neg, ↓k_eq_int, ↓k_eq_str, ↓k_is_nn, ↓k_is_int, ↓k_is_tup, ↓k_is_obj, ↓k_ix_lst, ↓k_ix_tup, ↓k_ix_str, ↓k_ix_dct, ↓k_len_str, ↓k_len_lst, ↓k_len_tup, ↓k_int_int, ↓k_int_bl, ↓k_abs, ↓k_str_int, ↓k_str_str, ↓k_tup_lst, ↓k_it_str, ↓k_it_tup, ↓k_it_lst, ↓k_in_dct, ↓e_enum, ↓k_en_tup, ↓k_en_lst, ↓e_atp, ↓e_lcM, ↓par3_three, ↓e_lits, ↓e_par3, ↓e_rev, ↓e_dct0, ↓e_nevE, ↓e_raise1, ↓e_exF, ↓e_exI, ↓e_tryA, ↓k_rev_lst, ↓k_addM_lst, ↓k_max2, ↓k_min2, List.set_cons_zero, List.set_cons_succ, wipeP, Bool.false_and] at h ⊢
      rw [if_neg (by decide)]
      exact gR_now h
  · exact h.elim
/-- rising, by neighbours -/
theorem ltS_trans {a b c : Str} (h : ltS a b = true) (h' : ltS b c = true) : ltS a c = true := decide_eq_true (List.lt_trans (of_decide_eq_true h) (of_decide_eq_true h'))
theorem rises_iff : ∀ ss : List Str, ss.Pairwise (fun a b => ltS a b = true) ↔ ∀ i, i + 1 < ss.length → ltS (ss.getD i Str.empty) (ss.getD (i + 1) Str.empty) = true
  | [] => ⟨fun _ i h => by simp at h, fun _ => List.Pairwise.nil⟩
  | [a] => ⟨fun _ i h => by simp at h, fun _ => List.pairwise_singleton _ _⟩
  | a :: b :: r => by
    have ih := rises_iff (b :: r)
    constructor
    · intro h i hi
      rw [List.pairwise_cons] at h
      cases i with
      | zero => exact h.1 b List.mem_cons_self
      | succ i =>
        have := ih.mp h.2 i (by simp at hi ⊢; omega)
        simpa using this
    · intro h
      have h2 : (b :: r).Pairwise (fun a b => ltS a b = true) := ih.mpr fun i hi => by
        have := h (i + 1) (by simp at hi ⊢; omega)
        simpa using this
      have h0 : ltS a b = true := by simpa using h 0 (by simp)
      refine List.pairwise_cons.mpr ⟨fun x hx => ?_, h2⟩
      rcases List.mem_cons.mp hx with e | e
      · rw [e]; exact h0
      · exact ltS_trans h0 ((List.pairwise_cons.mp h2).1 x e)
theorem pure_does_ascend (K : PySem.W.Frag) : ∀ ps S R Z, ps.length = 1 → sp_does_ascend K ps S R Z → w_does_ascend K (fin R Z) (startP n_does_ascend ps) S := by
  intro ps S R Z hl h
  unfold sp_does_ascend at h
  split at h
  · rename_i p
    obtain ⟨ss, rfl, hz, h⟩ := h
    have e : startP n_does_ascend [townsP ss] = [some (townsP ss), none] := rfl
    rw [e]
    simp -implicitDefEqProofs only [w_does_ascend, townsP, ↓e_ret, ↓e_retN, ↓e_nxt, ↓e_seq, ↓e_nev, ↓e_brk, ↓e_cnt, ↓e_expr, ↓e_ifs, ↓e_set, ↓e_asg, ↓par2_two, ↓e_par, ↓e_for, ↓e_setF, ↓e_put, ↓opt_some, ↓e_var, ↓e_c, ↓e_b, ↓e_1, ↓e_tst, ↓e_kB, ↓e_tru, ↓e_notT, ↓e_andT, ↓e_orT, ↓truK_bl, ↓e_andV, ↓e_orV, ↓e_notV, ↓e_if, ↓chK_bl, ↓e_ch, ↓e_nil, ↓e_cons, ↓e_tup, ↓e_lst, ↓e_lstF, ↓e_call, ↓e_arN, ↓e_p1, ↓e_p2, ↓e_meth, ↓e_bm, ↓e_fld, ↓e_lc, ↓e_dc, ↓e_it, ↓e_rng1, ↓e_rng2, ↓e_intB, ↓e_sl, ↓e_no, ↓e_so, ↓e_yes, ↓e_anm, ↓gs_0, ↓gs_s, ↓dr_int, ↓dr_str, ↓dr_bl, ↓dr_nn, ↓dr_tup, ↓dr_lst, ↓dr_dct, ↓dr_obj, ↓k_lt_int, ↓k_le_int, ↓k_gt_int, ↓k_ge_int, ↓k_lt_str, ↓k_add_int, ↓k_add_str, ↓k_add_tup, ↓k_add_lst, ↓k_sub, ↓k_mul, ↓k_div, ↓k_mod, ↓k_pow, ↓k_neg, ↓k_eq_int, ↓k_eq_str, ↓k_is_nn, ↓k_is_int, ↓k_is_tup, ↓k_is_obj, ↓k_ix_lst, ↓k_ix_tup, ↓k_ix_str, ↓k_ix_dct, ↓k_len_str, ↓k_len_lst, ↓k_len_tup, ↓k_int_int, ↓k_int_bl, ↓k_abs, ↓k_str_int, ↓k_str_str, ↓k_tup_lst, ↓k_it_str, ↓k_it_tup, ↓k_it_lst, ↓k_in_dct, ↓e_enum, ↓k_en_tup, ↓k_en_lst, ↓e_atp, ↓e_lcM, ↓par3_three, ↓e_lits, ↓e_par3, ↓e_rev, ↓e_dct0, ↓e_nevE, ↓e_raise1, ↓e_exF, ↓e_exI, ↓e_tryA, ↓k_rev_lst, ↓k_addM_lst, ↓k_max2, ↓k_min2, List.set_cons_zero, List.set_cons_succ, wipeP]
    rw [List.length_map]
    refine ⟨⟨by decide, by decide, by omega, by omega⟩, ?_⟩
    refine wLcL_allM (fun (k : Nat) => PV.int (1 + k)) (fun (k : Nat) => PV.bl (ltS (ss.getD k Str.empty) (ss.getD (k + 1) Str.empty))) trivial _ (fun k hk R' hR => ?_) ?_ ?_
    · have hk' : k + 1 < ss.length := by
        have := List.mem_range.mp hk
        omega
      simp -implicitDefEqProofs only [w_does_ascend_1, ↓e_ret, ↓e_retN, ↓e_nxt, ↓e_seq, ↓e_nev, ↓e_brk, ↓e_cnt, ↓e_expr, ↓e_ifs, ↓e_set, ↓e_asg, ↓par2_two, ↓e_par, ↓e_for, ↓e_setF, ↓e_put, ↓opt_some, ↓e_var, ↓e_c, ↓e_b, ↓e_1, ↓e_tst, ↓e_kB, ↓e_tru, ↓e_notT, ↓e_andT, ↓e_orT, ↓truK_bl, ↓e_andV, ↓e_orV, ↓e_notV, ↓e_if, ↓chK_bl, ↓e_ch, ↓e_nil, ↓e_cons, ↓e_tup, ↓e_lst, ↓e_lstF, ↓e_call, ↓e_arN, ↓e_p1, ↓e_p2, ↓e_meth, ↓e_bm, ↓e_fld, ↓e_lc, ↓e_dc, ↓e_it, ↓e_rng1, ↓e_rng2, ↓e_intB, ↓e_sl, ↓e_no, ↓e_so, ↓e_yes, ↓e_anm, ↓gs_0, ↓gs_s, ↓dr_int, ↓dr_str, ↓dr_bl, ↓dr_nn, ↓dr_tup, ↓dr_lst, ↓dr_dct, ↓dr_obj, ↓k_lt_int, ↓k_le_int, ↓k_gt_int, ↓k_ge_int, ↓k_lt_str, ↓k_add_int, ↓k_add_str, ↓k_add_tup, ↓k_add_lst, ↓k_sub, ↓k_mul, ↓k_div, ↓k_mod, ↓k_pow, ↓k_neg, ↓k_eq_int, ↓k_eq_str, ↓k_is_nn, ↓k_is_int, ↓k_is_tup, ↓k_is_obj, ↓k_ix_lst, ↓k_ix_tup, ↓k_ix_str, ↓k_ix_dct, ↓k_len_str, ↓k_len_lst, ↓k_len_tup, ↓k_int_int, ↓k_int_bl, ↓k_abs, ↓k_str_int, ↓k_str_str, ↓k_tup_lst, ↓k_it_str, ↓k_it_tup, ↓k_it_lst, ↓k_in_dct, ↓e_enum, ↓k_en_tup, ↓k_en_lst, ↓e_atp, ↓e_lcM, ↓par3_three, ↓e_lits, ↓e_par3, ↓e_rev, ↓e_dct0, ↓e_nevE, ↓e_raise1, ↓e_exF, ↓e_exI, ↓e_tryA, ↓k_rev_lst, ↓k_addM_lst, ↓k_max2, ↓k_min2, List.set_cons_zero, List.set_cons_succ, wipeP]
      refine ⟨.str (ss.getD k Str.empty), atI_nn (j := k) (by omega) (by rw [List.getElem?_map, List.getElem?_eq_getElem (by omega)]; simp [List.getD, List.getElem?_eq_getElem (show k < ss.length by omega)]), ?_⟩
      refine ⟨.str (ss.getD (k + 1) Str.empty), atI_nn (j := k + 1) (by omega) (by rw [List.getElem?_map, List.getElem?_eq_getElem hk']; simp [List.getD, List.getElem?_eq_getElem hk']), ?_⟩
      rw [k_lt_str]
      exact hR
    · rw [List.length_range, sizeLine_eq]; omega
    · rw [k_allM]
      have e2 : ((List.range ((ss.length : Int) - 1).toNat).all fun k => ltS (ss.getD k Str.empty) (ss.getD (k + 1) Str.empty)) = decide (ss.Pairwise (fun a b => ltS a b = true)) := by
        rw [Bool.eq_iff_iff, decide_eq_true_iff, rises_iff, List.all_eq_true]
        constructor
        · intro h i hi
          exact h i (List.mem_range.mpr (by omega))
        · intro h i hi
          have := List.mem_range.mp hi
          exact h i (by omega)
      rw [e2]
      exact gR_now h
  · exact h.elim

section
variable {K : PySem.W.Frag} {S : Sto} {R : RK} {Z : ZK}
theorem t_is_tuple {xs : List PV} {n : Int} : sp_is_tuple K [.tup xs, .int n] S R Z = R (.bl (decide ((xs.length : Int) = n))) S := rfl
theorem t_is_name {x : Str} : sp_is_name K [.str x] S R Z = (x.length ≤ sizeLine ∧ R (.bl (nameB x)) S) := rfl
theorem t_is_within {i a b : Int} : sp_is_within K [.int i, .int a, .int b] S R Z = R (.bl (decide (a ≤ i) && decide (i ≤ b))) S := rfl
end
theorem pure_is_road (K : PySem.W.Frag) : ∀ ps S R Z, ps.length = 2 → sp_is_road K ps S R Z → w_is_road K (fin R Z) (startP n_is_road ps) S := by
  intro ps S R Z hl h
  unfold sp_is_road at h
  split at h
  · rename_i p q
    obtain ⟨ts, r, hts, rfl, ⟨z1, z2, z3⟩, h⟩ := h
    have e : startP n_is_road [p, roadP r] = [some p, some (roadP r), none] := rfl
    rw [e]
    simp -implicitDefEqProofs only [w_is_road, roadP, ↓e_ret, ↓e_retN, ↓e_nxt, ↓e_seq, ↓e_nev, ↓e_brk, ↓e_cnt, ↓e_expr, ↓e_ifs, ↓e_set, ↓e_asg, ↓par2_two, ↓e_par, ↓e_for, ↓e_setF, ↓e_put, ↓opt_some, ↓e_var, ↓e_c, ↓e_b, ↓e_1, ↓e_tst, ↓e_kB, ↓e_tru, ↓e_notT, ↓e_andT, ↓e_orT, ↓truK_bl, ↓e_andV, ↓e_orV, ↓e_notV, ↓e_if, ↓chK_bl, ↓e_ch, ↓e_nil, ↓e_cons, ↓e_tup, ↓e_lst, ↓e_lstF, ↓e_call, ↓e_arN, ↓e_p1, ↓e_p2, ↓e_meth, ↓e_bm, ↓e_fld, ↓e_lc, ↓e_dc, ↓e_it, ↓e_rng1, ↓e_rng2, ↓e_intB, ↓e_sl, ↓e_no, ↓e_so, ↓e_yes, ↓e_anm, ↓gs_0, ↓gs_s, ↓dr_int, ↓dr_str, ↓dr_bl, ↓dr_nn, ↓dr_tup, ↓dr_lst, ↓dr_dct, ↓dr_obj, ↓k_lt_int, ↓k_le_int, ↓k_gt_int, ↓k_ge_int, ↓k_lt_str, ↓k_add_int, ↓k_add_str, ↓k_add_tup, ↓k_add_lst, ↓k_sub, ↓k_mul, ↓k_div, ↓k_mod, ↓k_pow, ↓k_neg, ↓k_eq_int, ↓k_eq_str, ↓k_is_nn, ↓k_is_int, ↓k_is_tup, ↓k_is_obj, ↓k_ix_lst, ↓k_ix_tup, ↓k_ix_str, ↓k_ix_dct, ↓k_len_str, ↓k_len_lst, ↓k_len_tup, ↓k_int_int, ↓k_int_bl, ↓k_abs, ↓k_str_int, ↓k_str_str, ↓k_tup_lst, ↓k_it_str, ↓k_it_tup, ↓k_it_lst, ↓k_in_dct, ↓e_enum, ↓k_en_tup, ↓k_en_lst, ↓e_atp, ↓e_lcM, ↓par3_three, ↓e_lits, ↓e_par3, ↓e_rev, ↓e_dct0, ↓e_nevE, ↓e_raise1, ↓e_exF, ↓e_exI, ↓e_tryA, ↓k_rev_lst, ↓k_addM_lst, ↓k_max2, ↓k_min2, List.set_cons_zero, List.set_cons_succ, wipeP, ↓t_is_tuple]
    refine ⟨rfl, ?_⟩
    have e5 : decide ((([PV.str r.name, .str r.bgn, .str r.fin, .int r.len, .int r.room] : List PV).length : Int) = 5) = true := by simp
    simp -implicitDefEqProofs only [e5, ↓e_ret, ↓e_retN, ↓e_nxt, ↓e_seq, ↓e_nev, ↓e_brk, ↓e_cnt, ↓e_expr, ↓e_ifs, ↓e_set, ↓e_asg, ↓par2_two, ↓e_par, ↓e_for, ↓e_setF, ↓e_put, ↓opt_some, ↓e_var, ↓e_c, ↓e_b, ↓e_1, ↓e_tst, ↓e_kB, ↓e_tru, ↓e_notT, ↓e_andT, ↓e_orT, ↓truK_bl, ↓e_andV, ↓e_orV, ↓e_notV, ↓e_if, ↓chK_bl, ↓e_ch, ↓e_nil, ↓e_cons, ↓e_tup, ↓e_lst, ↓e_lstF, ↓e_call, ↓e_arN, ↓e_p1, ↓e_p2, ↓e_meth, ↓e_bm, ↓e_fld, ↓e_lc, ↓e_dc, ↓e_it, ↓e_rng1, ↓e_rng2, ↓e_intB, ↓e_sl, ↓e_no, ↓e_so, ↓e_yes, ↓e_anm, ↓gs_0, ↓gs_s, ↓dr_int, ↓dr_str, ↓dr_bl, ↓dr_nn, ↓dr_tup, ↓dr_lst, ↓dr_dct, ↓dr_obj, ↓k_lt_int, ↓k_le_int, ↓k_gt_int, ↓k_ge_int, ↓k_lt_str, ↓k_add_int, ↓k_add_str, ↓k_add_tup, ↓k_add_lst, ↓k_sub, ↓k_mul, ↓k_div, ↓k_mod, ↓k_pow, ↓k_neg, ↓k_eq_int, ↓k_eq_str, ↓k_is_nn, ↓k_is_int, ↓k_is_tup, ↓k_is_obj, ↓k_ix_lst, ↓k_ix_tup, ↓k_ix_str, ↓k_ix_dct, ↓k_len_str, ↓k_len_lst, ↓k_len_tup, ↓k_int_int, ↓k_int_bl, ↓k_abs, ↓k_str_int, ↓k_str_str, ↓k_tup_lst, ↓k_it_str, ↓k_it_tup, ↓k_it_lst, ↓k_in_dct, ↓e_enum, ↓k_en_tup, ↓k_en_lst, ↓e_atp, ↓e_lcM, ↓par3_three, ↓e_lits, ↓e_par3, ↓e_rev, ↓e_dct0, ↓e_nevE, ↓e_raise1, ↓e_exF, ↓e_exI, ↓e_tryA, ↓k_rev_lst, ↓k_addM_lst, ↓k_max2, ↓k_min2, List.set_cons_zero, List.set_cons_succ, wipeP, Bool.not_true, Bool.false_eq_true, if_false]
    have ec : kSl (.tup [PV.str r.name, .str r.bgn, .str r.fin, .int r.len, .int r.room]) none (some 3) S = fun R' => R' (.tup [PV.str r.name, .str r.bgn, .str r.fin]) S := rfl
    simp -implicitDefEqProofs only [ec, ↓e_ret, ↓e_retN, ↓e_nxt, ↓e_seq, ↓e_nev, ↓e_brk, ↓e_cnt, ↓e_expr, ↓e_ifs, ↓e_set, ↓e_asg, ↓par2_two, ↓e_par, ↓e_for, ↓e_setF, ↓e_put, ↓opt_some, ↓e_var, ↓e_c, ↓e_b, ↓e_1, ↓e_tst, ↓e_kB, ↓e_tru, ↓e_notT, ↓e_andT, ↓e_orT, ↓truK_bl, ↓e_andV, ↓e_orV, ↓e_notV, ↓e_if, ↓chK_bl, ↓e_ch, ↓e_nil, ↓e_cons, ↓e_tup, ↓e_lst, ↓e_lstF, ↓e_call, ↓e_arN, ↓e_p1, ↓e_p2, ↓e_meth, ↓e_bm, ↓e_fld, ↓e_lc, ↓e_dc, ↓e_it, ↓e_rng1, ↓e_rng2, ↓e_intB, ↓e_sl, ↓e_no, ↓e_so, ↓e_yes, ↓e_anm, ↓gs_0, ↓gs_s, ↓dr_int, ↓dr_str, ↓dr_bl, ↓dr_nn, ↓dr_tup, ↓dr_lst, ↓dr_dct, ↓dr_obj, ↓k_lt_int, ↓k_le_int, ↓k_gt_int, ↓k_ge_int, ↓k_lt_str, ↓k_add_int, ↓k_add_str, ↓k_add_tup, ↓k_add_lst, ↓k_sub, ↓k_mul, ↓k_div, ↓k_mod, ↓k_pow, ↓k_neg, ↓k_eq_int, ↓k_eq_str, ↓k_is_nn, ↓k_is_int, ↓k_is_tup, ↓k_is_obj, ↓k_ix_lst, ↓k_ix_tup, ↓k_ix_str, ↓k_ix_dct, ↓k_len_str, ↓k_len_lst, ↓k_len_tup, ↓k_int_int, ↓k_int_bl, ↓k_abs, ↓k_str_int, ↓k_str_str, ↓k_tup_lst, ↓k_it_str, ↓k_it_tup, ↓k_it_lst, ↓k_in_dct, ↓e_enum, ↓k_en_tup, ↓k_en_lst, ↓e_atp, ↓e_lcM, ↓par3_three, ↓e_lits, ↓e_par3, ↓e_rev, ↓e_dct0, ↓e_nevE, ↓e_raise1, ↓e_exF, ↓e_exI, ↓e_tryA, ↓k_rev_lst, ↓k_addM_lst, ↓k_max2, ↓k_min2, List.set_cons_zero, List.set_cons_succ, wipeP]
    have em : ([PV.str r.name, .str r.bgn, .str r.fin] : List PV) = [r.name, r.bgn, r.fin].map PV.str := rfl
    rw [em]
    refine wLcL_allM PV.str (fun x => PV.bl (nameB x)) trivial _ (fun x hx R' hR => ?_) (by rw [sizeLine_eq]; simp) ?_
    · simp -implicitDefEqProofs only [w_is_road_1, ↓e_ret, ↓e_retN, ↓e_nxt, ↓e_seq, ↓e_nev, ↓e_brk, ↓e_cnt, ↓e_expr, ↓e_ifs, ↓e_set, ↓e_asg, ↓par2_two, ↓e_par, ↓e_for, ↓e_setF, ↓e_put, ↓opt_some, ↓e_var, ↓e_c, ↓e_b, ↓e_1, ↓e_tst, ↓e_kB, ↓e_tru, ↓e_notT, ↓e_andT, ↓e_orT, ↓truK_bl, ↓e_andV, ↓e_orV, ↓e_notV, ↓e_if, ↓chK_bl, ↓e_ch, ↓e_nil, ↓e_cons, ↓e_tup, ↓e_lst, ↓e_lstF, ↓e_call, ↓e_arN, ↓e_p1, ↓e_p2, ↓e_meth, ↓e_bm, ↓e_fld, ↓e_lc, ↓e_dc, ↓e_it, ↓e_rng1, ↓e_rng2, ↓e_intB, ↓e_sl, ↓e_no, ↓e_so, ↓e_yes, ↓e_anm, ↓gs_0, ↓gs_s, ↓dr_int, ↓dr_str, ↓dr_bl, ↓dr_nn, ↓dr_tup, ↓dr_lst, ↓dr_dct, ↓dr_obj, ↓k_lt_int, ↓k_le_int, ↓k_gt_int, ↓k_ge_int, ↓k_lt_str, ↓k_add_int, ↓k_add_str, ↓k_add_tup, ↓k_add_lst, ↓k_sub, ↓k_mul, ↓k_div, ↓k_mod, ↓k_pow, ↓k_neg, ↓k_eq_int, ↓k_eq_str, ↓k_is_nn, ↓k_is_int, ↓k_is_tup, ↓k_is_obj, ↓k_ix_lst, ↓k_ix_tup, ↓k_ix_str, ↓k_ix_dct, ↓k_len_str, ↓k_len_lst, ↓k_len_tup, ↓k_int_int, ↓k_int_bl, ↓k_abs, ↓k_str_int, ↓k_str_str, ↓k_tup_lst, ↓k_it_str, ↓k_it_tup, ↓k_it_lst, ↓k_in_dct, ↓e_enum, ↓k_en_tup, ↓k_en_lst, ↓e_atp, ↓e_lcM, ↓par3_three, ↓e_lits, ↓e_par3, ↓e_rev, ↓e_dct0, ↓e_nevE, ↓e_raise1, ↓e_exF, ↓e_exI, ↓e_tryA, ↓k_rev_lst, ↓k_addM_lst, ↓k_max2, ↓k_min2, List.set_cons_zero, List.set_cons_succ, wipeP, ↓t_is_name]
      refine ⟨rfl, ?_, hR⟩
      rcases List.mem_cons.mp hx with e | hx
      · rw [e]; exact z1
      rcases List.mem_cons.mp hx with e | hx
      · rw [e]; exact z2
      rcases List.mem_cons.mp hx with e | hx
      · rw [e]; exact z3
      · cases hx
    rw [k_allM]
    unfold roadB at h
    have ea : ([r.name, r.bgn, r.fin] : List Str).all nameB = (nameB r.name && nameB r.bgn && nameB r.fin) := by simp [Bool.and_assoc]
    rw [ea]
    cases hb : (nameB r.name && nameB r.bgn && nameB r.fin) with
    | false =>
      rw [hb] at h
      simp -implicitDefEqProofs only [↓e_ret, ↓e_retN, ↓e_nxt, ↓e_seq, ↓e_nev, ↓e_brk, ↓e_cnt, ↓e_expr, ↓e_ifs, ↓e_set, ↓e_asg, ↓par2_two, ↓e_par, ↓e_for, ↓e_setF, ↓e_put, ↓opt_some, ↓e_var, ↓e_c, ↓e_b, ↓e_1, ↓e_tst, ↓e_kB, ↓e_tru, ↓e_notT, ↓e_andT, ↓e_orT, ↓truK_bl, ↓e_andV, ↓e_orV, ↓e_notV, ↓e_if, ↓chK_bl, ↓e_ch, ↓e_nil, ↓e_cons, ↓e_tup, ↓e_lst, ↓e_lstF, ↓e_call, ↓e_arN, ↓e_p1, ↓e_p2, ↓e_meth, ↓e_bm, ↓e_fld, ↓e_lc, ↓e_dc, ↓e_it, ↓e_rng1, ↓e_rng2, ↓e_intB, ↓e_sl, ↓e_no, ↓e_so, ↓e_yes, ↓e_anm, ↓gs_0, ↓gs_s, ↓dr_int, ↓dr_str, ↓dr_bl, ↓dr_nn, ↓dr_tup, ↓dr_lst, ↓dr_dct, ↓dr_obj, ↓k_lt_int, ↓k_le_int, ↓k_gt_int, ↓k_ge_int, ↓k_lt_str, ↓k_add_int, ↓k_add_str, ↓k_add_tup, ↓k_add_lst, ↓k_sub, ↓k_mul, ↓k_div, ↓k_mod, ↓k_pow, ↓k_neg, ↓k_eq_int, ↓k_eq_str, ↓k_is_nn, ↓k_is_int, ↓k_is_tup, ↓k_is_obj, ↓k_ix_lst, ↓k_ix_tup, ↓k_ix_str, ↓k_ix_dct, ↓k_len_str, ↓k_len_lst, ↓k_len_tup, ↓k_int_int, ↓k_int_bl, ↓k_abs, ↓k_str_int, ↓k_str_str, ↓k_tup_lst, ↓k_it_str, ↓k_it_tup, ↓k_it_lst, ↓k_in_dct, ↓e_enum, ↓k_en_tup, ↓k_en_lst, ↓e_atp, ↓e_lcM, ↓par3_three, ↓e_lits, ↓e_par3, ↓e_rev, ↓e_dct0, ↓e_nevE, ↓e_raise1, ↓e_exF, ↓e_exI, ↓e_tryA, ↓k_rev_lst, ↓k_addM_lst, ↓k_max2, ↓k_min2, List.set_cons_zero, List.set_cons_succ, wipeP, Bool.not_false, Bool.false_and, if_true] at h ⊢
      exact gR_now h
    | true =>
      rw [hb] at h
      simp -implicitDefEqProofs only [↓e_ret, ↓e_retN, ↓e_nxt, ↓e_seq, ↓e_nev, ↓e_brk, ↓e_cnt, ↓e_expr, ↓e_ifs, ↓e_set, ↓e_asg, ↓par2_two, ↓e_par, ↓e_for, ↓e_setF, ↓e_put, ↓opt_some, ↓e_var, ↓e_c, ↓e_b, ↓e_1, ↓e_tst, ↓e_kB, ↓e_tru, ↓e_notT, ↓e_andT, ↓e_orT, ↓truK_bl, ↓e_andV, ↓e_orV, ↓e_notV, ↓e_if, ↓chK_bl, ↓e_ch, ↓e_nil, ↓e_cons, ↓e_tup, ↓e_lst, ↓e_lstF, ↓e_call, ↓e_arN, ↓e_p1, ↓e_p2, ↓e_meth, ↓e_bm, ↓e_fld, ↓e_lc, ↓e_dc, ↓e_it, ↓e_rng1, ↓e_rng2, ↓e_intB, ↓e_sl, ↓e_no, ↓e_so, ↓e_yes, ↓e_anm, ↓gs_0, ↓gs_s, ↓dr_int, ↓dr_str, ↓dr_bl, ↓dr_nn, ↓dr_tup, ↓dr_lst, ↓dr_dct, ↓dr_obj, ↓k_lt_int, ↓k_le_int, ↓k_gt_int, ↓k_ge_int, ↓k_lt_str, ↓k_add_int, ↓k_add_str, ↓k_add_tup, ↓k_add_lst, ↓k_sub, ↓k_mul, ↓k_div, ↓k_mod, ↓k_pow, ↓k_neg, ↓k_eq_int, ↓k_eq_str, ↓k_is_nn, ↓k_is_int, ↓k_is_tup, ↓k_is_obj, ↓k_ix_lst, ↓k_ix_tup, ↓k_ix_str, ↓k_ix_dct, ↓k_len_str, ↓k_len_lst, ↓k_len_tup, ↓k_int_int, ↓k_int_bl, ↓k_abs, ↓k_str_int, ↓k_str_str, ↓k_tup_lst, ↓k_it_str, ↓k_it_tup, ↓k_it_lst, ↓k_in_dct, ↓e_enum, ↓k_en_tup, ↓k_en_lst, ↓e_atp, ↓e_lcM, ↓par3_three, ↓e_lits, ↓e_par3, ↓e_rev, ↓e_dct0, ↓e_nevE, ↓e_raise1, ↓e_exF, ↓e_exI, ↓e_tryA, ↓k_rev_lst, ↓k_addM_lst, ↓k_max2, ↓k_min2, List.set_cons_zero, List.set_cons_succ, wipeP, Bool.not_true, Bool.true_and, Bool.false_eq_true, if_false] at h ⊢
      refine ⟨.str r.bgn, rfl, .str r.fin, rfl, ?_⟩
      simp -implicitDefEqProofs only [↓e_ret, ↓e_retN, ↓e_nxt, ↓e_seq, ↓e_nev, ↓e_brk, ↓e_cnt, ↓e_expr, ↓e_ifs, ↓e_set, ↓e_asg, ↓par2_two, ↓e_par, ↓e_for, ↓e_setF, ↓e_put, ↓opt_some, ↓e_var, ↓e_c, ↓e_b, ↓e_1, ↓e_tst, ↓e_kB, ↓e_tru, ↓e_notT, ↓e_andT, ↓e_orT, ↓truK_bl, ↓e_andV, ↓e_orV, ↓e_notV, ↓e_if, ↓chK_bl, ↓e_ch, ↓e_nil, ↓e_cons, ↓e_tup, ↓e_lst, ↓e_lstF, ↓e_call, ↓e_arN, ↓e_p1, ↓e_p2, ↓e_meth, ↓e_bm, ↓e_fld, ↓e_lc, ↓e_dc, ↓e_it, ↓e_rng1, ↓e_rng2, ↓e_intB, ↓e_sl, ↓e_no, ↓e_so, ↓e_yes, ↓e_anm, ↓gs_0, ↓gs_s, ↓dr_int, ↓dr_str, ↓dr_bl, ↓dr_nn, ↓dr_tup, ↓dr_lst, ↓dr_dct, ↓dr_obj, ↓k_lt_int, ↓k_le_int, ↓k_gt_int, ↓k_ge_int, ↓k_lt_str, ↓k_add_int, ↓k_add_str, ↓k_add_tup, ↓k_add_lst, ↓k_sub, ↓k_mul, ↓k_div, ↓k_mod, ↓k_pow, ↓k_neg, ↓k_eq_int, ↓k_eq_str, ↓k_is_nn, ↓k_is_int, ↓k_is_tup, ↓k_is_obj, ↓k_ix_lst, ↓k_ix_tup, ↓k_ix_str, ↓k_ix_dct, ↓k_len_str, ↓k_len_lst, ↓k_len_tup, ↓k_int_int, ↓k_int_bl, ↓k_abs, ↓k_str_int, ↓k_str_str, ↓k_tup_lst, ↓k_it_str, ↓k_it_tup, ↓k_it_lst, ↓k_in_dct, ↓e_enum, ↓k_en_tup, ↓k_en_lst, ↓e_atp, ↓e_lcM, ↓par3_three, ↓e_lits, ↓e_par3, ↓e_rev, ↓e_dct0, ↓e_nevE, ↓e_raise1, ↓e_exF, ↓e_exI, ↓e_tryA, ↓k_rev_lst, ↓k_addM_lst, ↓k_max2, ↓k_min2, List.set_cons_zero, List.set_cons_succ, wipeP, Bool.bne_false]
      by_cases hne : r.bgn = r.fin
      · simp -implicitDefEqProofs only [hne, decide_true, if_true, ↓e_ret, ↓e_retN, ↓e_nxt, ↓e_seq, ↓e_nev, ↓e_brk, ↓e_cnt, ↓e_expr, ↓e_ifs, ↓e_set, ↓e_asg, ↓par2_two, ↓e_par, ↓e_for, ↓e_setF, ↓e_put, ↓opt_some, ↓e_var, ↓e_c, ↓e_b, ↓e_1, ↓e_tst, ↓e_kB, ↓e_tru, ↓e_notT, ↓e_andT, ↓e_orT, ↓truK_bl, ↓e_andV, ↓e_orV, ↓e_notV, ↓e_if, ↓chK_bl, ↓e_ch, ↓e_nil, ↓e_cons, ↓e_tup, ↓e_lst, ↓e_lstF, ↓e_call, ↓e_arN, ↓e_p1, ↓e_p2, ↓e_meth, ↓e_bm, ↓e_fld, ↓e_lc, ↓e_dc, ↓e_it, ↓e_rng1, ↓e_rng2, ↓e_intB, ↓e_sl, ↓e_no, ↓e_so, ↓e_yes, ↓e_anm, ↓gs_0, ↓gs_s, ↓dr_int, ↓dr_str, ↓dr_bl, ↓dr_nn, ↓dr_tup, ↓dr_lst, ↓dr_dct, ↓dr_obj, ↓k_lt_int, ↓k_le_int, ↓k_gt_int, ↓k_ge_int, ↓k_lt_str, ↓k_add_int, ↓k_add_str, ↓k_add_tup, ↓k_add_lst, ↓k_sub, ↓k_mul, ↓k_div, ↓k_mod, ↓k_pow, ↓k_neg, ↓k_eq_int, ↓k_eq_str, ↓k_is_nn, ↓k_is_int, ↓k_is_tup, ↓k_is_obj, ↓k_ix_lst, ↓k_ix_tup, ↓k_ix_str, ↓k_ix_dct, ↓k_len_str, ↓k_len_lst, ↓k_len_tup, ↓k_int_int, ↓k_int_bl, ↓k_abs, ↓k_str_int, ↓k_str_str, ↓k_tup_lst, ↓k_it_str, ↓k_it_tup, ↓k_it_lst, ↓k_in_dct, ↓e_enum, ↓k_en_tup, ↓k_en_lst, ↓e_atp, ↓e_lcM, ↓par3_three, ↓e_lits, ↓e_par3, ↓e_rev, ↓e_dct0, ↓e_nevE, ↓e_raise1, ↓e_exF, ↓e_exI, ↓e_tryA, ↓k_rev_lst, ↓k_addM_lst, ↓k_max2, ↓k_min2, List.set_cons_zero, List.set_cons_succ, wipeP]
        simp only [hne, ne_eq, not_true_eq_false, decide_false, Bool.false_and] at h
        exact gR_now h
      · have hd : decide (r.bgn ≠ r.fin) = true := decide_eq_true hne
        rw [hd, Bool.true_and] at h
        rw [if_neg (by simpa using hne)]
        refine ⟨.str r.bgn, rfl, ?_⟩
        rw [k_in_strs hts]
        simp -implicitDefEqProofs only [↓e_ret, ↓e_retN, ↓e_nxt, ↓e_seq, ↓e_nev, ↓e_brk, ↓e_cnt, ↓e_expr, ↓e_ifs, ↓e_set, ↓e_asg, ↓par2_two, ↓e_par, ↓e_for, ↓e_setF, ↓e_put, ↓opt_some, ↓e_var, ↓e_c, ↓e_b, ↓e_1, ↓e_tst, ↓e_kB, ↓e_tru, ↓e_notT, ↓e_andT, ↓e_orT, ↓truK_bl, ↓e_andV, ↓e_orV, ↓e_notV, ↓e_if, ↓chK_bl, ↓e_ch, ↓e_nil, ↓e_cons, ↓e_tup, ↓e_lst, ↓e_lstF, ↓e_call, ↓e_arN, ↓e_p1, ↓e_p2, ↓e_meth, ↓e_bm, ↓e_fld, ↓e_lc, ↓e_dc, ↓e_it, ↓e_rng1, ↓e_rng2, ↓e_intB, ↓e_sl, ↓e_no, ↓e_so, ↓e_yes, ↓e_anm, ↓gs_0, ↓gs_s, ↓dr_int, ↓dr_str, ↓dr_bl, ↓dr_nn, ↓dr_tup, ↓dr_lst, ↓dr_dct, ↓dr_obj, ↓k_lt_int, ↓k_le_int, ↓k_gt_int, ↓k_ge_int, ↓k_lt_str, ↓k_add_int, ↓k_add_str, ↓k_add_tup, ↓k_add_lst, ↓k_sub, ↓k_mul, ↓k_div, ↓k_mod, ↓k_pow, ↓k_neg, ↓k_eq_int, ↓k_eq_str, ↓k_is_nn, ↓k_is_int, ↓k_is_tup, ↓k_is_obj, ↓k_ix_lst, ↓k_ix_tup, ↓k_ix_str, ↓k_ix_dct, ↓k_len_str, ↓k_len_lst, ↓k_len_tup, ↓k_int_int, ↓k_int_bl, ↓k_abs, ↓k_str_int, ↓k_str_str, ↓k_tup_lst, ↓k_it_str, ↓k_it_tup, ↓k_it_lst, ↓k_in_dct, ↓e_enum, ↓k_en_tup, ↓k_en_lst, ↓e_atp, ↓e_lcM, ↓par3_three, ↓e_lits, ↓e_par3, ↓e_rev, ↓e_dct0, ↓e_nevE, ↓e_raise1, ↓e_exF, ↓e_exI, ↓e_tryA, ↓k_rev_lst, ↓k_addM_lst, ↓k_max2, ↓k_min2, List.set_cons_zero, List.set_cons_succ, wipeP, Bool.bne_true]
        cases h1 : decide (r.bgn ∈ ts) with
        | false =>
          rw [h1] at h
          simp -implicitDefEqProofs only [Bool.not_false, if_true, ↓e_ret, ↓e_retN, ↓e_nxt, ↓e_seq, ↓e_nev, ↓e_brk, ↓e_cnt, ↓e_expr, ↓e_ifs, ↓e_set, ↓e_asg, ↓par2_two, ↓e_par, ↓e_for, ↓e_setF, ↓e_put, ↓opt_some, ↓e_var, ↓e_c, ↓e_b, ↓e_1, ↓e_tst, ↓e_kB, ↓e_tru, ↓e_notT, ↓e_andT, ↓e_orT, ↓truK_bl, ↓e_andV, ↓e_orV, ↓e_notV, ↓e_if, ↓chK_bl, ↓e_ch, ↓e_nil, ↓e_cons, ↓e_tup, ↓e_lst, ↓e_lstF, ↓e_call, ↓e_arN, ↓e_p1, ↓e_p2, ↓e_meth, ↓e_bm, ↓e_fld, ↓e_lc, ↓e_dc, ↓e_it, ↓e_rng1, ↓e_rng2, ↓e_intB, ↓e_sl, ↓e_no, ↓e_so, ↓e_yes, ↓e_anm, ↓gs_0, ↓gs_s, ↓dr_int, ↓dr_str, ↓dr_bl, ↓dr_nn, ↓dr_tup, ↓dr_lst, ↓dr_dct, ↓dr_obj, ↓k_lt_int, ↓k_le_int, ↓k_gt_int, ↓k_ge_int, ↓k_lt_str, ↓k_add_int, ↓k_add_str, ↓k_add_tup, ↓k_add_lst, ↓k_sub, ↓k_mul, ↓k_div, ↓k_mod, ↓k_pow, ↓k_neg, ↓k_eq_int, ↓k_eq_str, ↓k_is_nn, ↓k_is_int, ↓k_is_tup, ↓k_is_obj, ↓k_ix_lst, ↓k_ix_tup, ↓k_ix_str, ↓k_ix_dct, ↓k_len_str, ↓k_len_lst, ↓k_len_tup, ↓k_int_int, ↓k_int_bl, ↓k_abs, ↓k_str_int, ↓k_str_str, ↓k_tup_lst, ↓k_it_str, ↓k_it_tup, ↓k_it_lst, ↓k_in_dct, ↓e_enum, ↓k_en_tup, ↓k_en_lst, ↓e_atp, ↓e_lcM, ↓par3_three, ↓e_lits, ↓e_par3, ↓e_rev, ↓e_dct0, ↓e_nevE, ↓e_raise1, ↓e_exF, ↓e_exI, ↓e_tryA, ↓k_rev_lst, ↓k_addM_lst, ↓k_max2, ↓k_min2, List.set_cons_zero, List.set_cons_succ, wipeP, Bool.false_and] at h ⊢
          exact gR_now h
        | true =>
          rw [h1] at h
          simp -implicitDefEqProofs only [Bool.not_true, Bool.false_eq_true, if_false, ↓e_ret, ↓e_retN, ↓e_nxt, ↓e_seq, ↓e_nev, ↓e_brk, ↓e_cnt, ↓e_expr, ↓e_ifs, ↓e_set, ↓e_asg, ↓par2_two, ↓e_par, ↓e_for, ↓e_setF, ↓e_put, ↓opt_some, ↓e_var, ↓e_c, ↓e_b, ↓e_1, ↓e_tst, ↓e_kB, ↓e_tru, ↓e_notT, ↓e_andT, ↓e_orT, ↓truK_bl, ↓e_andV, ↓e_orV, ↓e_notV, ↓e_if, ↓chK_bl, ↓e_ch, ↓e_nil, ↓e_cons, ↓e_tup, ↓e_lst, ↓e_lstF, ↓e_call, ↓e_arN, ↓e_p1, ↓e_p2, ↓e_meth, ↓e_bm, ↓e_fld, ↓e_lc, ↓e_dc, ↓e_it, ↓e_rng1, ↓e_rng2, ↓e_intB, ↓e_sl, ↓e_no, ↓e_so, ↓e_yes, ↓e_anm, ↓gs_0, ↓gs_s, ↓dr_int, ↓dr_str, ↓dr_bl, ↓dr_nn, ↓dr_tup, ↓dr_lst, ↓dr_dct, ↓dr_obj, ↓k_lt_int, ↓k_le_int, ↓k_gt_int, ↓k_ge_int, ↓k_lt_str, ↓k_add_int, ↓k_add_str, ↓k_add_tup, ↓k_add_lst, ↓k_sub, ↓k_mul, ↓k_div, ↓k_mod, ↓k_pow, ↓k_neg, ↓k_eq_int, ↓k_eq_str, ↓k_is_nn, ↓k_is_int, ↓k_is_tup, ↓k_is_obj, ↓k_ix_lst, ↓k_ix_tup, ↓k_ix_str, ↓k_ix_dct, ↓k_len_str, ↓k_len_lst, ↓k_len_tup, ↓k_int_int, ↓k_int_bl, ↓k_abs, ↓k_str_int, ↓k_str_str, ↓k_tup_lst, ↓k_it_str, ↓k_it_tup, ↓k_it_lst, ↓k_in_dct, ↓e_enum, ↓k_en_tup, ↓k_en_lst, ↓e_atp, ↓e_lcM, ↓par3_three, ↓e_lits, ↓e_par3, ↓e_rev, ↓e_dct0, ↓e_nevE, ↓e_raise1, ↓e_exF, ↓e_exI, ↓e_tryA, ↓k_rev_lst, ↓k_addM_lst, ↓k_max2, ↓k_min2, List.set_cons_zero, List.set_cons_succ, wipeP, Bool.true_and] at h ⊢
          refine ⟨.str r.fin, rfl, ?_⟩
          rw [k_in_strs hts]
          simp -implicitDefEqProofs only [↓e_ret, ↓e_retN, ↓e_nxt, ↓e_seq, ↓e_nev, ↓e_brk, ↓e_cnt, ↓e_expr, ↓e_ifs, ↓e_set, ↓e_asg, ↓par2_two, ↓e_par, ↓e_for, ↓e_setF, ↓e_put, ↓opt_some, ↓e_var, ↓e_c, ↓e_b, ↓e_1, ↓e_tst, ↓e_kB, ↓e_tru, ↓e_notT, ↓e_andT, ↓e_orT, ↓truK_bl, ↓e_andV, ↓e_orV, ↓e_notV, ↓e_if, ↓chK_bl, ↓e_ch, ↓e_nil, ↓e_cons, ↓e_tup, ↓e_lst, ↓e_lstF, ↓e_call, ↓e_arN, ↓e_p1, ↓e_p2, ↓e_meth, ↓e_bm, ↓e_fld, ↓e_lc, ↓e_dc, ↓e_it, ↓e_rng1, ↓e_rng2, ↓e_intB, ↓e_sl, ↓e_no, ↓e_so, ↓e_yes, ↓e_anm, ↓gs_0, ↓gs_s, ↓dr_int, ↓dr_str, ↓dr_bl, ↓dr_nn, ↓dr_tup, ↓dr_lst, ↓dr_dct, ↓dr_obj, ↓k_lt_int, ↓k_le_int, ↓k_gt_int, ↓k_ge_int, ↓k_lt_str, ↓k_add_int, ↓k_add_str, ↓k_add_tup, ↓k_add_lst, ↓k_sub, ↓k_mul, ↓k_div, ↓k_mod, ↓k_pow, ↓k_neg, ↓k_eq_int, ↓k_eq_str, ↓k_is_nn, ↓k_is_int, ↓k_is_tup, ↓k_is_obj, ↓k_ix_lst, ↓k_ix_tup, ↓k_ix_str, ↓k_ix_dct, ↓k_len_str, ↓k_len_lst, ↓k_len_tup, ↓k_int_int, ↓k_int_bl, ↓k_abs, ↓k_str_int, ↓k_str_str, ↓k_tup_lst, ↓k_it_str, ↓k_it_tup, ↓k_it_lst, ↓k_in_dct, ↓e_enum, ↓k_en_tup, ↓k_en_lst, ↓e_atp, ↓e_lcM, ↓par3_three, ↓e_lits, ↓e_par3, ↓e_rev, ↓e_dct0, ↓e_nevE, ↓e_raise1, ↓e_exF, ↓e_exI, ↓e_tryA, ↓k_rev_lst, ↓k_addM_lst, ↓k_max2, ↓k_min2, List.set_cons_zero, List.set_cons_succ, wipeP, Bool.bne_true]
          cases h2 : decide (r.fin ∈ ts) with
          | false =>
            rw [h2] at h
            simp -implicitDefEqProofs only [Bool.not_false, if_true, ↓e_ret, ↓e_retN, ↓e_nxt, ↓e_seq, ↓e_nev, ↓e_brk, ↓e_cnt, ↓e_expr, ↓e_ifs, ↓e_set, ↓e_asg, ↓par2_two, ↓e_par, ↓e_for, ↓e_setF, ↓e_put, ↓opt_some, ↓e_var, ↓e_c, ↓e_b, ↓e_1, ↓e_tst, ↓e_kB, ↓e_tru, ↓e_notT, ↓e_andT, ↓e_orT, ↓truK_bl, ↓e_andV, ↓e_orV, ↓e_notV, ↓e_if, ↓chK_bl, ↓e_ch, ↓e_nil, ↓e_cons, ↓e_tup, ↓e_lst, ↓e_lstF, ↓e_call, ↓e_arN, ↓e_p1, ↓e_p2, ↓e_meth, ↓e_bm, ↓e_fld, ↓e_lc, ↓e_dc, ↓e_it, ↓e_rng1, ↓e_rng2, ↓e_intB, ↓e_sl, ↓e_no, ↓e_so, ↓e_yes, ↓e_anm, ↓gs_0, ↓gs_s, ↓dr_int, ↓dr_str, ↓dr_bl, ↓dr_nn, ↓dr_tup, ↓dr_lst, ↓dr_dct, ↓dr_obj, ↓k_lt_int, ↓k_le_int, ↓k_gt_int, ↓k_ge_int, ↓k_lt_str, ↓k_add_int, ↓k_add_str, ↓k_add_tup, ↓k_add_lst, ↓k_sub, ↓k_mul, ↓k_div, ↓k_mod, ↓k_pow, ↓k_neg, ↓k_eq_int, ↓k_eq_str, ↓k_is_nn, ↓k_is_int, ↓k_is_tup, ↓k_is_obj, ↓k_ix_lst, ↓k_ix_tup, ↓k_ix_str, ↓k_ix_dct, ↓k_len_str, ↓k_len_lst, ↓k_len_tup, ↓k_int_int, ↓k_int_bl, ↓k_abs, ↓k_str_int, ↓k_str_str, ↓k_tup_lst, ↓k_it_str, ↓k_it_tup, ↓k_it_lst, ↓k_in_dct, ↓e_enum, ↓k_en_tup, ↓k_en_lst, ↓e_atp, ↓e_lcM, ↓par3_three, ↓e_lits, ↓e_par3, ↓e_rev, ↓e_dct0, ↓e_nevE, ↓e_raise1, ↓e_exF, ↓e_exI, ↓e_tryA, ↓k_rev_lst, ↓k_addM_lst, ↓k_max2, ↓k_min2, List.set_cons_zero, List.set_cons_succ, wipeP, Bool.false_and] at h ⊢
            exact gR_now h
          | true =>
            rw [h2] at h
            simp -implicitDefEqProofs only [Bool.not_true, Bool.false_eq_true, if_false, ↓e_ret, ↓e_retN, ↓e_nxt, ↓e_seq, ↓e_nev, ↓e_brk, ↓e_cnt, ↓e_expr, ↓e_ifs, ↓e_set, ↓e_asg, ↓par2_two, ↓e_par, ↓e_for, ↓e_setF, ↓e_put, ↓opt_some, ↓e_var, ↓e_c, ↓e_b, ↓e_1, ↓e_tst, ↓e_kB, ↓e_tru, ↓e_notT, ↓e_andT, ↓e_orT, ↓truK_bl, ↓e_andV, ↓e_orV, ↓e_notV, ↓e_if, ↓chK_bl, ↓e_ch, ↓e_nil, ↓e_cons, ↓e_tup, ↓e_lst, ↓e_lstF, ↓e_call, ↓e_arN, ↓e_p1, ↓e_p2, ↓e_meth, ↓e_bm, ↓e_fld, ↓e_lc, ↓e_dc, ↓e_it, ↓e_rng1, ↓e_rng2, ↓e_intB, ↓e_sl, ↓e_no, ↓e_so, ↓e_yes, ↓e_anm, ↓gs_0, ↓gs_s, ↓dr_int, ↓dr_str, ↓dr_bl, ↓dr_nn, ↓dr_tup, ↓dr_lst, ↓dr_dct, ↓dr_obj, ↓k_lt_int, ↓k_le_int, ↓k_gt_int, ↓k_ge_int, ↓k_lt_str, ↓k_add_int, ↓k_add_str, ↓k_add_tup, ↓k_add_lst, ↓k_sub, ↓k_mul, ↓k_div, ↓k_mod, ↓k_pow, ↓k_neg, ↓k_eq_int, ↓k_eq_str, ↓k_is_nn, ↓k_is_int, ↓k_is_tup, ↓k_is_obj, ↓k_ix_lst, ↓k_ix_tup, ↓k_ix_str, ↓k_ix_dct, ↓k_len_str, ↓k_len_lst, ↓k_len_tup, ↓k_int_int, ↓k_int_bl, ↓k_abs, ↓k_str_int, ↓k_str_str, ↓k_tup_lst, ↓k_it_str, ↓k_it_tup, ↓k_it_lst, ↓k_in_dct, ↓e_enum, ↓k_en_tup, ↓k_en_lst, ↓e_atp, ↓e_lcM, ↓par3_three, ↓e_lits, ↓e_par3, ↓e_rev, ↓e_dct0, ↓e_nevE, ↓e_raise1, ↓e_exF, ↓e_exI, ↓e_tryA, ↓k_rev_lst, ↓k_addM_lst, ↓k_max2, ↓k_min2, List.set_cons_zero, List.set_cons_succ, wipeP, Bool.true_and] at h ⊢
            refine ⟨.int r.len, rfl, ?_⟩
            simp -implicitDefEqProofs only [↓e_ret, ↓e_retN, ↓e_nxt, ↓e_seq, ↓e_nev, ↓e_brk, ↓e_cnt, ↓e_expr, ↓e_ifs, ↓e_set, ↓e_asg, ↓par2_two, ↓e_par, ↓e_for, ↓e_setF, ↓e_put, ↓opt_some, ↓e_var, ↓e_c, ↓e_b, ↓e_1, ↓e_tst, ↓e_kB, ↓e_tru, ↓e_notT, ↓e_andT, ↓e_orT, ↓truK_bl, ↓e_andV, ↓e_orV, ↓e_notV, ↓e_if, ↓chK_bl, ↓e_ch, ↓e_nil, ↓e_cons, ↓e_tup, ↓e_lst, ↓e_lstF, ↓e_call, ↓e_arN, ↓e_p1, ↓e_p2, ↓e_meth, ↓e_bm, ↓e_fld, ↓e_lc, ↓e_dc, ↓e_it, ↓e_rng1, ↓e_rng2, ↓e_intB, ↓e_sl, ↓e_no, ↓e_so, ↓e_yes, ↓e_anm, ↓gs_0, ↓gs_s, ↓dr_int, ↓dr_str, ↓dr_bl, ↓dr_nn, ↓dr_tup, ↓dr_lst, ↓dr_dct, ↓dr_obj, ↓k_lt_int, ↓k_le_int, ↓k_gt_int, ↓k_ge_int, ↓k_lt_str, ↓k_add_int, ↓k_add_str, ↓k_add_tup, ↓k_add_lst, ↓k_sub, ↓k_mul, ↓k_div, ↓k_mod, ↓k_pow, ↓k_neg, ↓k_eq_int, ↓k_eq_str, ↓k_is_nn, ↓k_is_int, ↓k_is_tup, ↓k_is_obj, ↓k_ix_lst, ↓k_ix_tup, ↓k_ix_str, ↓k_ix_dct, ↓k_len_str, ↓k_len_lst, ↓k_len_tup, ↓k_int_int, ↓k_int_bl, ↓k_abs, ↓k_str_int, ↓k_str_str, ↓k_tup_lst, ↓k_it_str, ↓k_it_tup, ↓k_it_lst, ↓k_in_dct, ↓e_enum, ↓k_en_tup, ↓k_en_lst, ↓e_atp, ↓e_lcM, ↓par3_three, ↓e_lits, ↓e_par3, ↓e_rev, ↓e_dct0, ↓e_nevE, ↓e_raise1, ↓e_exF, ↓e_exI, ↓e_tryA, ↓k_rev_lst, ↓k_addM_lst, ↓k_max2, ↓k_min2, List.set_cons_zero, List.set_cons_succ, wipeP, ↓t_is_within]
            refine ⟨rfl, ?_⟩
            cases h3 : (decide ((-1000 : Int) ≤ r.len) && decide (r.len ≤ 1000)) with
            | false =>
              rw [h3] at h
              simp only [Bool.false_and, Bool.false_eq_true, if_false] at h ⊢
              exact gR_now h
            | true =>
              rw [h3] at h
              simp only [Bool.true_and, if_true] at h ⊢
              refine ⟨.int r.room, rfl, ?_⟩
              simp -implicitDefEqProofs only [↓e_ret, ↓e_retN, ↓e_nxt, ↓e_seq, ↓e_nev, ↓e_brk, ↓e_cnt, ↓e_expr, ↓e_ifs, ↓e_set, ↓e_asg, ↓par2_two, ↓e_par, ↓e_for, ↓e_setF, ↓e_put, ↓opt_some, ↓e_var, ↓e_c, ↓e_b, ↓e_1, ↓e_tst, ↓e_kB, ↓e_tru, ↓e_notT, ↓e_andT, ↓e_orT, ↓truK_bl, ↓e_andV, ↓e_orV, ↓e_notV, ↓e_if, ↓chK_bl, ↓e_ch, ↓e_nil, ↓e_cons, ↓e_tup, ↓e_lst, ↓e_lstF, ↓e_call, ↓e_arN, ↓e_p1, ↓e_p2, ↓e_meth, ↓e_bm, ↓e_fld, ↓e_lc, ↓e_dc, ↓e_it, ↓e_rng1, ↓e_rng2, ↓e_intB, ↓e_sl, ↓e_no, ↓e_so, ↓e_yes, ↓e_anm, ↓gs_0, ↓gs_s, ↓dr_int, ↓dr_str, ↓dr_bl, ↓dr_nn, ↓dr_tup, ↓dr_lst, ↓dr_dct, ↓dr_obj, ↓k_lt_int, ↓k_le_int, ↓k_gt_int, ↓k_ge_int, ↓k_lt_str, ↓k_add_int, ↓k_add_str, ↓k_add_tup, ↓k_add_lst, ↓k_sub, ↓k_mul, ↓k_div, ↓k_mod, ↓k_pow, ↓k_neg, ↓k_eq_int, ↓k_eq_str, ↓k_is_nn, ↓k_is_int, ↓k_is_tup, ↓k_is_obj, ↓k_ix_lst, ↓k_ix_tup, ↓k_ix_str, ↓k_ix_dct, ↓k_len_str, ↓k_len_lst, ↓k_len_tup, ↓k_int_int, ↓k_int_bl, ↓k_abs, ↓k_str_int, ↓k_str_str, ↓k_tup_lst, ↓k_it_str, ↓k_it_tup, ↓k_it_lst, ↓k_in_dct, ↓e_enum, ↓k_en_tup, ↓k_en_lst, ↓e_atp, ↓e_lcM, ↓par3_three, ↓e_lits, ↓e_par3, ↓e_rev, ↓e_dct0, ↓e_nevE, ↓e_raise1, ↓e_exF, ↓e_exI, ↓e_tryA, ↓k_rev_lst, ↓k_addM_lst, ↓k_max2, ↓k_min2, List.set_cons_zero, List.set_cons_succ, wipeP, ↓t_is_within]
              exact ⟨rfl, gR_now h⟩
  · exact h.elim

theorem pw_nodup {ts : List Str} (h : ts.Pairwise (fun a b => ltS a b = true)) : ts.Nodup := h.imp fun {a b} h e => by
  subst e
  exact List.lt_irrefl _ (of_decide_eq_true h)
theorem roads_nodup {rs : List Road} (h : rs.Pairwise (fun a b => ltS a.name b.name = true)) : (rs.map (·.name)).Nodup := by
  refine pw_nodup ?_
  rw [List.pairwise_map]
  exact h
theorem roadB_in {ts : List Str} {r : Road} (h : roadB ts r = true) : r.bgn ∈ ts ∧ r.fin ∈ ts ∧ r.bgn ≠ r.fin := by
  unfold roadB at h
  simp only [Bool.and_eq_true, decide_eq_true_eq] at h
  exact ⟨h.1.1.1.1.1.2, h.1.1.1.1.2, h.1.1.1.1.1.1.2⟩
theorem nodup_inj {α β : Type} {f : α → β} : ∀ {l : List α}, (l.map f).Nodup → ∀ {a b : α}, a ∈ l → b ∈ l → f a = f b → a = b
  | x :: l, nd, a, b, ha, hb, e => by
    rw [List.map_cons, List.nodup_cons] at nd
    rcases List.mem_cons.mp ha with ea | ha
    · rcases List.mem_cons.mp hb with eb | hb
      · rw [ea, eb]
      · exact absurd (List.mem_map.mpr ⟨b, hb, by rw [← e, ea]⟩) nd.1
    · rcases List.mem_cons.mp hb with eb | hb
      · exact absurd (List.mem_map.mpr ⟨a, ha, by rw [e, eb]⟩) nd.1
      · exact nodup_inj nd.2 ha hb e
/-- the cells, an item put behind one's -/
def upC (F : Kd → Str → List PV) (k : Kd) (b : Str) (y : PV) : Kd → Str → List PV := fun k' t => if k' = k ∧ t = b then F k' t ++ [y] else F k' t
def Hold (S : Sto) (cells : List Cell) (F : Kd → Str → List PV) : Prop := ∀ c ∈ cells, S c.2 = some (.lst (F c.1.1 c.1.2))
theorem Hold.up {S : Sto} {cells : List Cell} {F : Kd → Str → List PV} {k : Kd} {b : Str} {x : Addr} {y : PV} (nd : (cells.map Prod.snd).Nodup) (nd1 : (cells.map Prod.fst).Nodup) (h : Hold S cells F) (hx : ((k, b), x) ∈ cells) : Hold (updS S x (.lst (F k b ++ [y]))) cells (upC F k b y) := fun c hc => by
  by_cases e : c.2 = x
  · have ec : c = ((k, b), x) := nodup_inj nd hc hx e
    subst ec
    rw [updS_same]
    simp [upC]
  · rw [updS_ne e, h c hc]
    unfold upC
    rw [if_neg]
    rintro ⟨e1, e2⟩
    have e3 : c.1 = (k, b) := Prod.ext e1 e2
    have := nodup_inj nd1 hc hx e3
    exact e (by rw [this])
theorem up_cont {r : Road} (hne : r.bgn ≠ r.fin) (done : List Road) : upC (upC (upC (upC (cont done) .o r.bgn (roadP r)) .i r.fin (roadP r)) .t r.bgn (roadP r)) .t r.fin (roadP r) = cont (done ++ [r]) := by
  funext k t
  have ec : cont (done ++ [r]) k t = cont done k t ++ (if k.cond t r = true then [roadP r] else []) := by
    unfold cont
    rw [List.filter_append, List.map_append]
    congr 1
    by_cases h : k.cond t r = true
    · rw [if_pos h, List.filter_cons_of_pos h]; rfl
    · rw [if_neg h, List.filter_cons_of_neg h]; rfl
  rw [ec]
  unfold upC
  cases k with
  | o =>
    by_cases h : t = r.bgn
    · subst h; simp [Kd.cond]
    · have h' : ¬ r.bgn = t := fun z => h z.symm
      simp [Kd.cond, h, h']
  | i =>
    by_cases h : t = r.fin
    · subst h; simp [Kd.cond]
    · have h' : ¬ r.fin = t := fun z => h z.symm
      simp [Kd.cond, h, h']
  | t =>
    by_cases h : t = r.bgn
    · subst h
      have : ¬ r.bgn = r.fin := hne
      simp [Kd.cond, this]
    · have h' : ¬ r.bgn = t := fun z => h z.symm
      by_cases h2 : t = r.fin
      · subst h2; simp [Kd.cond, h', h]
      · have h2' : ¬ r.fin = t := fun z => h2 z.symm
        simp [Kd.cond, h, h', h2, h2']
theorem dict_get {cells : List Cell} {k : Kd} {b : Str} {x : Addr} {ts : List Str} (hk : (cells.filter fun c => c.1.1 == k).map (fun c => c.1.2) = ts) (nd : ts.Nodup) (hx : ((k, b), x) ∈ cells) : dget (dictOf cells k) (.inr b) = some (.ref x) := by
  refine dget_mem ?_ ?_
  · unfold dictOf
    rw [List.map_map]
    have e : ((fun p : Key × PV => p.1) ∘ fun c : Cell => ((.inr c.1.2 : Key), PV.ref c.2)) = (fun s : Str => (.inr s : Key)) ∘ fun c : Cell => c.1.2 := rfl
    rw [e, ← List.map_map, hk]
    exact List.Pairwise.map _ (fun a b h e => h (Sum.inr.inj e)) nd
  · exact List.mem_map.mpr ⟨((k, b), x), List.mem_filter.mpr ⟨hx, by simp⟩, rfl⟩
theorem cell_of {cells : List Cell} {k : Kd} {b : Str} {ts : List Str} (hk : (cells.filter fun c => c.1.1 == k).map (fun c => c.1.2) = ts) (hb : b ∈ ts) : ∃ x, ((k, b), x) ∈ cells := by
  rw [← hk] at hb
  obtain ⟨c, hc, e⟩ := List.mem_map.mp hb
  obtain ⟨h1, h2⟩ := List.mem_filter.mp hc
  have e2 : c.1.1 = k := by simpa using h2
  refine ⟨c.2, ?_⟩
  have : c = ((k, b), c.2) := by rw [← e2, ← e]
  rw [← this]; exact h1

theorem keep_step {C a : Addr} {nm : Str} {k : Kd} {b : Str} {x : Addr} {j : Int} {S : Sto} {ρ : Slots} {P : PEnds} {fs : List (Str × PV)} {cells : List Cell} {ts : List Str} {F : Kd → Str → List PV} {r : Road}
    (g0 : gs ρ 0 = some (.ref a)) (g3 : gs ρ 3 = some (roadP r)) (hS : S a = some (.ins C fs)) (hl : fs.lookup nm = some (.dct (dictOf cells k))) (hj : atI [PV.str r.name, .str r.bgn, .str r.fin, .int r.len, .int r.room] j = some (.str b))
    (hk : (cells.filter fun c => c.1.1 == k).map (fun c => c.1.2) = ts) (nd : ts.Nodup) (hx : ((k, b), x) ∈ cells) (hh : Hold S cells F) (hz : (F k b).length < sizeLine) (hn : P.nx ρ (updS S x (.lst (F k b ++ [roadP r])))) :
    wExpr (wBM "list" kApp (wB kIx (wFld [C] nm (wVar 0)) (wB kIx (wVar 3) (wC (.int j)))) (wCons (wVar 3) wNil)) P ρ S := by
  have h2 : S x = some (.lst (F k b)) := hh _ hx
  have e3 : roadP r = .tup [PV.str r.name, .str r.bgn, .str r.fin, .int r.len, .int r.room] := rfl
  simp -implicitDefEqProofs only [↓e_ret, ↓e_retN, ↓e_nxt, ↓e_seq, ↓e_nev, ↓e_brk, ↓e_cnt, ↓e_expr, ↓e_ifs, ↓e_set, ↓e_asg, ↓par2_two, ↓e_par, ↓e_for, ↓e_setF, ↓e_put, ↓opt_some, ↓e_var, ↓e_c, ↓e_b, ↓e_1, ↓e_tst, ↓e_kB, ↓e_tru, ↓e_notT, ↓e_andT, ↓e_orT, ↓truK_bl, ↓e_andV, ↓e_orV, ↓e_notV, ↓e_if, ↓chK_bl, ↓e_ch, ↓e_nil, ↓e_cons, ↓e_tup, ↓e_lst, ↓e_lstF, ↓e_call, ↓e_arN, ↓e_p1, ↓e_p2, ↓e_meth, ↓e_bm, ↓e_fld, ↓e_lc, ↓e_dc, ↓e_it, ↓e_rng1, ↓e_rng2, ↓e_intB, ↓e_sl, ↓e_no, ↓e_so, ↓e_yes, ↓e_anm, ↓gs_0, ↓gs_s, ↓dr_int, ↓dr_str, ↓dr_bl, ↓dr_nn, ↓dr_tup, ↓dr_lst, ↓dr_dct, ↓dr_obj, ↓k_lt_int, ↓k_le_int, ↓k_gt_int, ↓k_ge_int, ↓k_lt_str, ↓k_add_int, ↓k_add_str, ↓k_add_tup, ↓k_add_lst, ↓k_sub, ↓k_mul, ↓k_div, ↓k_mod, ↓k_pow, ↓k_neg, ↓k_eq_int, ↓k_eq_str, ↓k_is_nn, ↓k_is_int, ↓k_is_tup, ↓k_is_obj, ↓k_ix_lst, ↓k_ix_tup, ↓k_ix_str, ↓k_ix_dct, ↓k_len_str, ↓k_len_lst, ↓k_len_tup, ↓k_int_int, ↓k_int_bl, ↓k_abs, ↓k_str_int, ↓k_str_str, ↓k_tup_lst, ↓k_it_str, ↓k_it_tup, ↓k_it_lst, ↓k_in_dct, ↓e_enum, ↓k_en_tup, ↓k_en_lst, ↓e_atp, ↓e_lcM, ↓par3_three, ↓e_lits, ↓e_par3, ↓e_rev, ↓e_dct0, ↓e_nevE, ↓e_raise1, ↓e_exF, ↓e_exI, ↓e_tryA, ↓k_rev_lst, ↓k_addM_lst, ↓k_max2, ↓k_min2, List.set_cons_zero, List.set_cons_succ, wipeP, g0, k_fldI hS hl (List.mem_singleton.mpr rfl), g3]
  rw [e3, k_ix_tup]
  refine ⟨.str b, hj, ?_⟩
  rw [k_ix_dct]
  refine ⟨.ref x, dict_get hk nd hx, ?_⟩
  rw [k_tyB_ref h2]
  refine ⟨trivial, ?_⟩
  rw [k_app h2, ← e3]
  exact ⟨hz, hn⟩
theorem cont_le (done : List Road) (k : Kd) (t : Str) : (cont done k t).length ≤ done.length := by
  unfold cont
  rw [List.length_map]
  exact List.length_filter_le _ _
theorem cells_fst0 : ∀ {cells : List Cell}, (∀ k : Kd, ((cells.filter fun c => c.1.1 == k).map (fun c => c.1.2)).Nodup) → (cells.map Prod.fst).Nodup
  | [], _ => List.nodup_nil
  | c :: r, h => by
    rw [List.map_cons, List.nodup_cons]
    refine ⟨fun z => ?_, cells_fst0 fun k => ?_⟩
    · obtain ⟨d, hd, e⟩ := List.mem_map.mp z
      have h1 := h c.1.1
      rw [List.filter_cons_of_pos (by simp), List.map_cons, List.nodup_cons] at h1
      exact h1.1 (List.mem_map.mpr ⟨d, List.mem_filter.mpr ⟨hd, by simp [e]⟩, by rw [e]⟩)
    · have h1 := h k
      by_cases q : (c.1.1 == k) = true
      · rw [List.filter_cons_of_pos (by simpa using q), List.map_cons, List.nodup_cons] at h1
        exact h1.2
      · rw [List.filter_cons_of_neg (by simpa using q)] at h1
        exact h1
theorem cells_fst {cells : List Cell} {ts : List Str} (hk : ∀ k : Kd, (cells.filter fun c => c.1.1 == k).map (fun c => c.1.2) = ts) (nd : ts.Nodup) : (cells.map Prod.fst).Nodup :=
  cells_fst0 fun k => by rw [hk k]; exact nd
theorem keep_loop (K : PySem.W.Frag) {a : Addr} {ts : List Str} {rs : List Road} {cells : List Cell} {S0 : Sto} {R : RK} {Z : ZK} (ok : NetOk ts rs) (hk : ∀ k : Kd, (cells.filter fun c => c.1.1 == k).map (fun c => c.1.2) = ts) (nd : (cells.map Prod.snd).Nodup) (nd1 : (cells.map Prod.fst).Nodup) (na : a ∉ cells.map Prod.snd)
    (new : ∀ c ∈ cells, S0 c.2 = none) (hR : ∀ S', Kept (He.ga K "Net") a ts rs S0 S' cells → R .non S') : ∀ (rest done : List Road) (x3 x4 : Option PV) (S : Sto), done ++ rest = rs → S a = some (.ins (He.ga K "Net") (keptF ts rs cells)) → Hold S cells (cont done) → (∀ b, b ≠ a → b ∉ cells.map Prod.snd → S b = S0 b) →
      wForL (fun _ => True) (.nm 3) (w_Net_keep_1 K) (fin R Z) (rest.map roadP) [some (.ref a), some (townsP ts), some (roadsP rs), x3, x4] S := by
  intro rest
  induction rest with
  | nil =>
    intro done x3 x4 S e h1 h2 h3
    rw [List.append_nil] at e
    subst e
    exact ⟨trivial, wfg_now (hR S ⟨nd, na, new, hk, h1, h2, h3⟩)⟩
  | cons r rest ih =>
    intro done x3 x4 S e h1 h2 h3
    have hr : r ∈ rs := by rw [← e]; exact List.mem_append_right _ List.mem_cons_self
    obtain ⟨b1, b2, b3⟩ := roadB_in (ok.rn r hr)
    have ndt := pw_nodup ok.ta
    obtain ⟨xo, ho⟩ := cell_of (hk .o) b1
    obtain ⟨xi, hi⟩ := cell_of (hk .i) b2
    obtain ⟨xt, ht⟩ := cell_of (hk .t) b1
    obtain ⟨xu, hu⟩ := cell_of (hk .t) b2
    have hlen : done.length < 200 := by
      have := congrArg List.length e
      have := ok.rl
      rw [List.length_append, List.length_cons] at *
      omega
    have ne : ∀ {k b x}, ((k, b), x) ∈ cells → a ≠ x := fun h z => na (by rw [z]; exact List.mem_map.mpr ⟨_, h, rfl⟩)
    have sz := sizeLine_eq
    refine ⟨trivial, ?_⟩
    simp only [↓e_anm, List.set_cons_zero, List.set_cons_succ, w_Net_keep_1, ↓e_seq]
    have u1 := h2.up (y := roadP r) nd nd1 ho
    have u2 := u1.up (y := roadP r) nd nd1 hi
    have u3 := u2.up (y := roadP r) nd nd1 ht
    have u4 := u3.up (y := roadP r) nd nd1 hu
    have l0 := cont_le done
    have up_le : ∀ (F : Kd → Str → List PV) (k : Kd) (b : Str) (y : PV) (n : Nat), (∀ k t, (F k t).length ≤ n) → ∀ k' t, (upC F k b y k' t).length ≤ n + 1 := fun F k b y n h k' t => by
      unfold upC
      have := h k' t
      split
      · rw [List.length_append, List.length_singleton]; omega
      · omega
    have l1 := up_le _ .o r.bgn (roadP r) _ l0
    have l2 := up_le _ .i r.fin (roadP r) _ l1
    have l3 := up_le _ .t r.bgn (roadP r) _ l2
    have n1 : updS S xo (.lst (cont done .o r.bgn ++ [roadP r])) a = some (.ins (He.ga K "Net") (keptF ts rs cells)) := by rw [updS_ne (ne ho)]; exact h1
    have n2 : ∀ m, updS (updS S xo (.lst (cont done .o r.bgn ++ [roadP r]))) xi m a = some (.ins (He.ga K "Net") (keptF ts rs cells)) := fun m => by rw [updS_ne (ne hi)]; exact n1
    have n3 : ∀ m m', updS (updS (updS S xo (.lst (cont done .o r.bgn ++ [roadP r]))) xi m) xt m' a = some (.ins (He.ga K "Net") (keptF ts rs cells)) := fun m m' => by rw [updS_ne (ne ht)]; exact n2 m
    refine keep_step (r := r) (nm := "outs") (j := 1) (k := .o) (F := cont done) rfl rfl h1 rfl rfl (hk .o) ndt ho h2 (by have := l0 .o r.bgn; omega) ?_
    simp only [↓e_seq]
    refine keep_step (r := r) (nm := "ins") (j := 2) (k := .i) rfl rfl n1 rfl rfl (hk .i) ndt hi u1 (by have := l1 .i r.fin; omega) ?_
    simp only [↓e_seq]
    refine keep_step (r := r) (nm := "ties") (j := 1) (k := .t) rfl rfl (n2 _) rfl rfl (hk .t) ndt ht u2 (by have := l2 .t r.bgn; omega) ?_
    simp only
    refine keep_step (r := r) (nm := "ties") (j := 2) (k := .t) rfl rfl (n3 _ _) rfl rfl (hk .t) ndt hu u3 (by have := l3 .t r.fin; omega) ?_
    rw [up_cont b3] at u4
    refine ih (done ++ [r]) _ _ _ (by rw [List.append_assoc]; exact e) (by rw [updS_ne (ne hu)]; exact n3 _ _) u4 fun b hb hc => ?_
    have nb : ∀ {k t x}, ((k, t), x) ∈ cells → b ≠ x := fun h z => hc (by rw [z]; exact List.mem_map.mpr ⟨_, h, rfl⟩)
    rw [updS_ne (nb hu), updS_ne (nb ht), updS_ne (nb hi), updS_ne (nb ho)]
    exact h3 b hb hc

theorem dictOf_app (A B : List Cell) (k : Kd) : dictOf (A ++ B) k = dictOf A k ++ dictOf B k := by unfold dictOf; rw [List.filter_append, List.map_append]
abbrev tagC (k : Kd) (As : List (Str × Addr)) : List Cell := As.map fun p => ((k, p.1), p.2)
theorem filt_tag (k k' : Kd) (As : List (Str × Addr)) : ((tagC k As).filter fun c => c.1.1 == k') = if k = k' then tagC k As else [] := by
  by_cases h : k = k'
  · rw [if_pos h, List.filter_eq_self]
    intro c hc
    obtain ⟨p, _, e⟩ := List.mem_map.mp hc
    rw [← e]; simp [h]
  · rw [if_neg h, List.filter_eq_nil_iff]
    intro c hc
    obtain ⟨p, _, e⟩ := List.mem_map.mp hc
    rw [← e]; simp [h]
theorem pure_Net_keep (K : PySem.W.Frag) : ∀ ps S R Z, ps.length = 3 → sp_Net_keep K ps S R Z → w_Net_keep K (fin R Z) (startP n_Net_keep ps) S := by
  intro ps S R Z hl h
  obtain ⟨a, ts, rs, rfl, hS, ok, hR⟩ := h
  have e : startP n_Net_keep [.ref a, townsP ts, roadsP rs] = [some (.ref a), some (townsP ts), some (roadsP rs), none, none] := rfl
  rw [e]
  have m1 : He.ga K "Net" ∈ [He.ga K "Net"] := List.mem_singleton.mpr rfl
  have ndt := pw_nodup ok.ta
  have tl : ts.length ≤ sizeLine := by have := ok.tl; rw [sizeLine_eq]; omega
  have rl : rs.length ≤ sizeLine := by have := ok.rl; rw [sizeLine_eq]; omega
  simp -implicitDefEqProofs only [w_Net_keep, ↓e_ret, ↓e_retN, ↓e_nxt, ↓e_seq, ↓e_nev, ↓e_brk, ↓e_cnt, ↓e_expr, ↓e_ifs, ↓e_set, ↓e_asg, ↓par2_two, ↓e_par, ↓e_for, ↓e_setF, ↓e_put, ↓opt_some, ↓e_var, ↓e_c, ↓e_b, ↓e_1, ↓e_tst, ↓e_kB, ↓e_tru, ↓e_notT, ↓e_andT, ↓e_orT, ↓truK_bl, ↓e_andV, ↓e_orV, ↓e_notV, ↓e_if, ↓chK_bl, ↓e_ch, ↓e_nil, ↓e_cons, ↓e_tup, ↓e_lst, ↓e_lstF, ↓e_call, ↓e_arN, ↓e_p1, ↓e_p2, ↓e_meth, ↓e_bm, ↓e_fld, ↓e_lc, ↓e_dc, ↓e_it, ↓e_rng1, ↓e_rng2, ↓e_intB, ↓e_sl, ↓e_no, ↓e_so, ↓e_yes, ↓e_anm, ↓gs_0, ↓gs_s, ↓dr_int, ↓dr_str, ↓dr_bl, ↓dr_nn, ↓dr_tup, ↓dr_lst, ↓dr_dct, ↓dr_obj, ↓k_lt_int, ↓k_le_int, ↓k_gt_int, ↓k_ge_int, ↓k_lt_str, ↓k_add_int, ↓k_add_str, ↓k_add_tup, ↓k_add_lst, ↓k_sub, ↓k_mul, ↓k_div, ↓k_mod, ↓k_pow, ↓k_neg, ↓k_eq_int, ↓k_eq_str, ↓k_is_nn, ↓k_is_int, ↓k_is_tup, ↓k_is_obj, ↓k_ix_lst, ↓k_ix_tup, ↓k_ix_str, ↓k_ix_dct, ↓k_len_str, ↓k_len_lst, ↓k_len_tup, ↓k_int_int, ↓k_int_bl, ↓k_abs, ↓k_str_int, ↓k_str_str, ↓k_tup_lst, ↓k_it_str, ↓k_it_tup, ↓k_it_lst, ↓k_in_dct, ↓e_enum, ↓k_en_tup, ↓k_en_lst, ↓e_atp, ↓e_lcM, ↓par3_three, ↓e_lits, ↓e_par3, ↓e_rev, ↓e_dct0, ↓e_nevE, ↓e_raise1, ↓e_exF, ↓e_exI, ↓e_tryA, ↓k_rev_lst, ↓k_addM_lst, ↓k_max2, ↓k_min2, List.set_cons_zero, List.set_cons_succ, wipeP]
  have it_t : ∀ (S : Sto) (RI : List PV → (Sto → Prop) → Sto → Prop), itK (townsP ts) S RI = RI (ts.map PV.str) (fun _ => True) S := fun _ _ => rfl
  have it_r : ∀ (S : Sto) (RI : List PV → (Sto → Prop) → Sto → Prop), itK (roadsP rs) S RI = RI (rs.map roadP) (fun _ => True) S := fun _ _ => rfl
  have hset : ∀ (i : Nat) (p : PV), i = 4 → gs ([some (PV.ref a), some (townsP ts), some (roadsP rs), none, none].set i (some p)) i = some p := fun i p h => by subst h; rfl
  have P1 : putP "towns" (townsP ts) [] = ([("towns", townsP ts)] : List (Str × PV)) := rfl
  have P2 : ∀ b, putP "roads" b [("towns", townsP ts)] = ([("towns", townsP ts), ("roads", b)] : List (Str × PV)) := fun b => putP_new rfl
  have P3 : ∀ b c, putP "named" c [("towns", townsP ts), ("roads", b)] = ([("towns", townsP ts), ("roads", b), ("named", c)] : List (Str × PV)) := fun b c => putP_new rfl
  have P4 : ∀ b c d, putP "outs" d [("towns", townsP ts), ("roads", b), ("named", c)] = ([("towns", townsP ts), ("roads", b), ("named", c), ("outs", d)] : List (Str × PV)) := fun b c d => putP_new rfl
  have P5 : ∀ b c d e, putP "ins" e [("towns", townsP ts), ("roads", b), ("named", c), ("outs", d)] = ([("towns", townsP ts), ("roads", b), ("named", c), ("outs", d), ("ins", e)] : List (Str × PV)) := fun b c d e => putP_new rfl
  have P6 : ∀ b c d e f, putP "ties" f [("towns", townsP ts), ("roads", b), ("named", c), ("outs", d), ("ins", e)] = ([("towns", townsP ts), ("roads", b), ("named", c), ("outs", d), ("ins", e), ("ties", f)] : List (Str × PV)) := fun b c d e f => putP_new rfl
  rw [k_setF hS m1 (by simp), P1, k_setF updS_same m1 (by simp), P2, it_r]
  refine dc_pure roadP roadP (·.name) trivial rs (roads_nodup ok.ra) (fun r hr R' hR' => ?_) rl ?_
  · simp -implicitDefEqProofs only [↓e_ret, ↓e_retN, ↓e_nxt, ↓e_seq, ↓e_nev, ↓e_brk, ↓e_cnt, ↓e_expr, ↓e_ifs, ↓e_set, ↓e_asg, ↓par2_two, ↓e_par, ↓e_for, ↓e_setF, ↓e_put, ↓opt_some, ↓e_var, ↓e_c, ↓e_b, ↓e_1, ↓e_tst, ↓e_kB, ↓e_tru, ↓e_notT, ↓e_andT, ↓e_orT, ↓truK_bl, ↓e_andV, ↓e_orV, ↓e_notV, ↓e_if, ↓chK_bl, ↓e_ch, ↓e_nil, ↓e_cons, ↓e_tup, ↓e_lst, ↓e_lstF, ↓e_call, ↓e_arN, ↓e_p1, ↓e_p2, ↓e_meth, ↓e_bm, ↓e_fld, ↓e_lc, ↓e_dc, ↓e_it, ↓e_rng1, ↓e_rng2, ↓e_intB, ↓e_sl, ↓e_no, ↓e_so, ↓e_yes, ↓e_anm, ↓gs_0, ↓gs_s, ↓dr_int, ↓dr_str, ↓dr_bl, ↓dr_nn, ↓dr_tup, ↓dr_lst, ↓dr_dct, ↓dr_obj, ↓k_lt_int, ↓k_le_int, ↓k_gt_int, ↓k_ge_int, ↓k_lt_str, ↓k_add_int, ↓k_add_str, ↓k_add_tup, ↓k_add_lst, ↓k_sub, ↓k_mul, ↓k_div, ↓k_mod, ↓k_pow, ↓k_neg, ↓k_eq_int, ↓k_eq_str, ↓k_is_nn, ↓k_is_int, ↓k_is_tup, ↓k_is_obj, ↓k_ix_lst, ↓k_ix_tup, ↓k_ix_str, ↓k_ix_dct, ↓k_len_str, ↓k_len_lst, ↓k_len_tup, ↓k_int_int, ↓k_int_bl, ↓k_abs, ↓k_str_int, ↓k_str_str, ↓k_tup_lst, ↓k_it_str, ↓k_it_tup, ↓k_it_lst, ↓k_in_dct, ↓e_enum, ↓k_en_tup, ↓k_en_lst, ↓e_atp, ↓e_lcM, ↓par3_three, ↓e_lits, ↓e_par3, ↓e_rev, ↓e_dct0, ↓e_nevE, ↓e_raise1, ↓e_exF, ↓e_exI, ↓e_tryA, ↓k_rev_lst, ↓k_addM_lst, ↓k_max2, ↓k_min2, List.set_cons_zero, List.set_cons_succ, wipeP]
    exact ⟨.str r.name, rfl, hR'⟩
  rw [k_setF updS_same m1 (by simp), P3, it_t]
  refine dc_lists (hset 4 · rfl) ndt tl fun As S1 a1 a2 a3 a4 a5 => ?_
  have na1 : a ∉ As.map Prod.snd := fun z => by
    obtain ⟨p, hp, e⟩ := List.mem_map.mp z
    have := a3 p hp
    rw [e, updS_same] at this; cases this
  have h1 := (a5 a na1).trans updS_same
  rw [k_setF h1 m1 (by simp), P4, it_t]
  refine dc_lists (hset 4 · rfl) ndt tl fun Bs S2 b1 b2 b3 b4 b5 => ?_
  have na2 : a ∉ Bs.map Prod.snd := fun z => by
    obtain ⟨p, hp, e⟩ := List.mem_map.mp z
    have := b3 p hp
    rw [e, updS_same] at this; cases this
  have h2 := (b5 a na2).trans updS_same
  rw [k_setF h2 m1 (by simp), P5, it_t]
  refine dc_lists (hset 4 · rfl) ndt tl fun Cs S3 c1 c2 c3 c4 c5 => ?_
  have na3 : a ∉ Cs.map Prod.snd := fun z => by
    obtain ⟨p, hp, e⟩ := List.mem_map.mp z
    have := c3 p hp
    rw [e, updS_same] at this; cases this
  have h3 := (c5 a na3).trans updS_same
  rw [k_setF h3 m1 (by simp), P6, it_r]
  -- the cells
  have dj1 : ∀ p ∈ Bs, p.2 ∉ As.map Prod.snd := fun p hp z => by
    obtain ⟨q, hq, e⟩ := List.mem_map.mp z
    have := b3 p hp
    have na : a ≠ p.2 := fun z => na2 (List.mem_map.mpr ⟨p, hp, z.symm⟩)
    rw [updS_ne na.symm, ← e, a4 q hq] at this; cases this
  have dj2 : ∀ p ∈ Cs, p.2 ∉ As.map Prod.snd ∧ p.2 ∉ Bs.map Prod.snd := fun p hp => by
    have na : a ≠ p.2 := fun z => na3 (List.mem_map.mpr ⟨p, hp, z.symm⟩)
    have h4 := c3 p hp
    rw [updS_ne na.symm] at h4
    refine ⟨fun z => ?_, fun z => ?_⟩
    · obtain ⟨q, hq, e⟩ := List.mem_map.mp z
      by_cases hb : p.2 ∈ Bs.map Prod.snd
      · obtain ⟨q', hq', e'⟩ := List.mem_map.mp hb
        rw [← e', b4 q' hq'] at h4; cases h4
      · rw [b5 _ hb, updS_ne na.symm, ← e, a4 q hq] at h4; cases h4
    · obtain ⟨q, hq, e⟩ := List.mem_map.mp z
      rw [← e, b4 q hq] at h4; cases h4
  have eA : (tagC .o As).map Prod.snd = As.map Prod.snd := by rw [List.map_map]; rfl
  have eB : (tagC .i Bs).map Prod.snd = Bs.map Prod.snd := by rw [List.map_map]; rfl
  have eC : (tagC .t Cs).map Prod.snd = Cs.map Prod.snd := by rw [List.map_map]; rfl
  have esnd : ((tagC .o As ++ tagC .i Bs ++ tagC .t Cs).map Prod.snd) = As.map Prod.snd ++ Bs.map Prod.snd ++ Cs.map Prod.snd := by rw [List.map_append, List.map_append, eA, eB, eC]
  have hkeys : ∀ k : Kd, ((tagC .o As ++ tagC .i Bs ++ tagC .t Cs).filter fun c => c.1.1 == k).map (fun c => c.1.2) = ts := fun k => by
    rw [List.filter_append, List.filter_append, filt_tag, filt_tag, filt_tag]
    cases k <;> simp [tagC, List.map_map] <;> first | exact a1 | exact b1 | exact c1
  have ed : ∀ k : Kd, dictOf (tagC .o As ++ tagC .i Bs ++ tagC .t Cs) k = (match k with
      | .o => As
      | .i => Bs
      | .t => Cs).map fun (p : Str × Addr) => ((.inr p.1 : Key), PV.ref p.2) := fun k => by
    rw [dictOf_app, dictOf_app]
    unfold dictOf
    rw [filt_tag, filt_tag, filt_tag]
    cases k <;> simp [tagC, List.map_map] <;> intros <;> rfl
  have hnd : ((tagC .o As ++ tagC .i Bs ++ tagC .t Cs).map Prod.snd).Nodup := by
    rw [esnd]
    refine List.nodup_append.mpr ⟨List.nodup_append.mpr ⟨a2, b2, fun x hx y hy z => ?_⟩, c2, fun x hx y hy z => ?_⟩
    · obtain ⟨p, hp, e⟩ := List.mem_map.mp hy
      exact dj1 p hp (by rw [e, ← z]; exact hx)
    · obtain ⟨p, hp, e⟩ := List.mem_map.mp hy
      rcases List.mem_append.mp hx with hx | hx
      · exact (dj2 p hp).1 (by rw [e, ← z]; exact hx)
      · exact (dj2 p hp).2 (by rw [e, ← z]; exact hx)
  have hna : a ∉ (tagC .o As ++ tagC .i Bs ++ tagC .t Cs).map Prod.snd := by
    rw [esnd]
    intro z
    rcases List.mem_append.mp z with z | z
    · rcases List.mem_append.mp z with z | z
      · exact na1 z
      · exact na2 z
    · exact na3 z
  have neA : ∀ p ∈ As, p.2 ≠ a := fun p hp z => na1 (List.mem_map.mpr ⟨p, hp, z⟩)
  have neB : ∀ p ∈ Bs, p.2 ≠ a := fun p hp z => na2 (List.mem_map.mpr ⟨p, hp, z⟩)
  have neC : ∀ p ∈ Cs, p.2 ≠ a := fun p hp z => na3 (List.mem_map.mpr ⟨p, hp, z⟩)
  have sA : ∀ b, b ≠ a → b ∉ As.map Prod.snd → S1 b = S b := fun b h1 h2 => by rw [a5 b h2, updS_ne h1, updS_ne h1, updS_ne h1]
  have sB : ∀ b, b ≠ a → b ∉ Bs.map Prod.snd → S2 b = S1 b := fun b h1 h2 => by rw [b5 b h2, updS_ne h1]
  have sC : ∀ b, b ≠ a → b ∉ Cs.map Prod.snd → S3 b = S2 b := fun b h1 h2 => by rw [c5 b h2, updS_ne h1]
  have A_B : ∀ p ∈ As, p.2 ∉ Bs.map Prod.snd := fun p hp z => by
    obtain ⟨q, hq, e⟩ := List.mem_map.mp z
    exact dj1 q hq (by rw [e]; exact List.mem_map.mpr ⟨p, hp, rfl⟩)
  have A_C : ∀ p ∈ As, p.2 ∉ Cs.map Prod.snd := fun p hp z => by
    obtain ⟨q, hq, e⟩ := List.mem_map.mp z
    exact (dj2 q hq).1 (by rw [e]; exact List.mem_map.mpr ⟨p, hp, rfl⟩)
  have B_C : ∀ p ∈ Bs, p.2 ∉ Cs.map Prod.snd := fun p hp z => by
    obtain ⟨q, hq, e⟩ := List.mem_map.mp z
    exact (dj2 q hq).2 (by rw [e]; exact List.mem_map.mpr ⟨p, hp, rfl⟩)
  refine keep_loop K (S0 := S) ok hkeys hnd (cells_fst hkeys ndt) hna (fun c hc => ?_) (fun S' h => hR S' _ h) rs [] none none _ rfl ?_ (fun c hc => ?_) fun b hb hc => ?_
  · rcases List.mem_append.mp hc with hc | hc
    · rcases List.mem_append.mp hc with hc | hc
      · obtain ⟨p, hp, rfl⟩ := List.mem_map.mp hc
        have h := a3 p hp
        rw [updS_ne (neA p hp), updS_ne (neA p hp), updS_ne (neA p hp)] at h
        exact h
      · obtain ⟨p, hp, rfl⟩ := List.mem_map.mp hc
        have h := b3 p hp
        rw [updS_ne (neB p hp), sA _ (neB p hp) (dj1 p hp)] at h
        exact h
    · obtain ⟨p, hp, rfl⟩ := List.mem_map.mp hc
      have h := c3 p hp
      rw [updS_ne (neC p hp), sB _ (neC p hp) (dj2 p hp).2, sA _ (neC p hp) (dj2 p hp).1] at h
      exact h
  · rw [updS_same]
    unfold keptF
    rw [ed, ed, ed]
    rfl
  · have e0 : ∀ k t, cont [] k t = [] := fun _ _ => rfl
    rcases List.mem_append.mp hc with hc | hc
    · rcases List.mem_append.mp hc with hc | hc
      · obtain ⟨p, hp, rfl⟩ := List.mem_map.mp hc
        rw [updS_ne (neA p hp), sC _ (neA p hp) (A_C p hp), sB _ (neA p hp) (A_B p hp), a4 p hp, e0]
      · obtain ⟨p, hp, rfl⟩ := List.mem_map.mp hc
        rw [updS_ne (neB p hp), sC _ (neB p hp) (B_C p hp), b4 p hp, e0]
    · obtain ⟨p, hp, rfl⟩ := List.mem_map.mp hc
      rw [updS_ne (neC p hp), c4 p hp, e0]
  · rw [esnd] at hc
    have h1 : b ∉ As.map Prod.snd := fun z => hc (List.mem_append_left _ (List.mem_append_left _ z))
    have h2 : b ∉ Bs.map Prod.snd := fun z => hc (List.mem_append_left _ (List.mem_append_right _ z))
    have h3 : b ∉ Cs.map Prod.snd := fun z => hc (List.mem_append_right _ z)
    rw [updS_ne hb, sC b hb h3, sB b hb h2, sA b hb h1]

theorem name_sz {x : Str} (h : nameB x = true) : x.length ≤ 8 := by
  unfold nameB at h
  simp only [Bool.and_eq_true, decide_eq_true_eq] at h
  exact h.2.1
theorem name_szL {x : Str} (h : nameB x = true) : x.length ≤ sizeLine := by
  have := name_sz h
  rw [sizeLine_eq]; omega
theorem roadB_n {ts : List Str} {r : Road} (h : roadB ts r = true) : nameB r.name = true ∧ nameB r.bgn = true ∧ nameB r.fin = true ∧ (-1000 ≤ r.len ∧ r.len ≤ 1000) ∧ 0 ≤ r.room ∧ r.room ≤ 1000 := by
  unfold roadB at h
  simp only [Bool.and_eq_true, decide_eq_true_eq] at h
  exact ⟨h.1.1.1.1.1.1.1.1.1, h.1.1.1.1.1.1.1.1.2, h.1.1.1.1.1.1.1.2, ⟨h.1.1.1.2, h.1.1.2⟩, h.1.2, h.2⟩
theorem roadB_sz {ts : List Str} {r : Road} (h : roadB ts r = true) : RoadSz r := let ⟨a, b, c, _⟩ := roadB_n h; ⟨name_szL a, name_szL b, name_szL c⟩
section
variable {K : PySem.W.Frag} {S : Sto} {R : RK} {Z : ZK}
theorem t_does_ascend {ss : List Str} (hz : ss.length ≤ 1000) (h : R (.bl (decide (ss.Pairwise (fun a b => ltS a b = true)))) S) : sp_does_ascend K [townsP ss] S R Z := ⟨ss, rfl, hz, h⟩
theorem t_is_road {ts : List Str} {r : Road} {p : PV} (hp : seqOf (dr S p) = some (ts.map PV.str)) (h : R (.bl (roadB ts r)) S) (hz : RoadSz r) : sp_is_road K [p, roadP r] S R Z := ⟨ts, r, hp, rfl, hz, h⟩
end
theorem pure_Net___init__ (K : PySem.W.Frag) : ∀ ps S R Z, ps.length = 3 → sp_Net___init__ K ps S R Z → w_Net___init__ K (fin R Z) (startP n_Net___init__ ps) S := by
  intro ps S R Z hl h
  obtain ⟨a, ts, rs, rfl, hS, ok, hR⟩ := h
  have e : startP n_Net___init__ [.ref a, townsP ts, roadsP rs] = [some (.ref a), some (townsP ts), some (roadsP rs), none, none, none] := rfl
  rw [e]
  have it_t : ∀ (S : Sto) (RI : List PV → (Sto → Prop) → Sto → Prop), itK (townsP ts) S RI = RI (ts.map PV.str) (fun _ => True) S := fun _ _ => rfl
  have i1 : ∀ R', kIsB (townsP ts) (.ty "tuple") S R' = R' (.bl true) S := fun R' => k_isB_tup (by decide)
  have i2 : ∀ R', kIsB (roadsP rs) (.ty "tuple") S R' = R' (.bl true) S := fun R' => k_isB_tup (by decide)
  have l1 : ∀ R', kLen (townsP ts) S R' = R' (.int ts.length) S := fun R' => by
    have : kLen (townsP ts) S R' = R' (.int (ts.map PV.str).length) S := rfl
    rw [this, List.length_map]
  have l2 : ∀ R', kLen (roadsP rs) S R' = R' (.int rs.length) S := fun R' => by
    have : kLen (roadsP rs) S R' = R' (.int (rs.map roadP).length) S := rfl
    rw [this, List.length_map]
  have d1 : decide ((40 : Int) < ts.length) = false := decide_eq_false (by have := ok.tl; omega)
  have d2 : decide ((120 : Int) < rs.length) = false := decide_eq_false (by have := ok.rl; omega)
  have en : ∀ (S : Sto) (RI : List PV → (Sto → Prop) → Sto → Prop), enK (roadsP rs) S RI = RI (enumP (rs.map roadP)) (fun _ => True) S := fun _ _ => rfl
  simp -implicitDefEqProofs only [w_Net___init__, ↓e_ret, ↓e_retN, ↓e_nxt, ↓e_seq, ↓e_nev, ↓e_brk, ↓e_cnt, ↓e_expr, ↓e_ifs, ↓e_set, ↓e_asg, ↓par2_two, ↓e_par, ↓e_for, ↓e_setF, ↓e_put, ↓opt_some, ↓e_var, ↓e_c, ↓e_b, ↓e_1, ↓e_tst, ↓e_kB, ↓e_tru, ↓e_notT, ↓e_andT, ↓e_orT, ↓truK_bl, ↓e_andV, ↓e_orV, ↓e_notV, ↓e_if, ↓chK_bl, ↓e_ch, ↓e_nil, ↓e_cons, ↓e_tup, ↓e_lst, ↓e_lstF, ↓e_call, ↓e_arN, ↓e_p1, ↓e_p2, ↓e_meth, ↓e_bm, ↓e_fld, ↓e_lc, ↓e_dc, ↓e_it, ↓e_rng1, ↓e_rng2, ↓e_intB, ↓e_sl, ↓e_no, ↓e_so, ↓e_yes, ↓e_anm, ↓gs_0, ↓gs_s, ↓dr_int, ↓dr_str, ↓dr_bl, ↓dr_nn, ↓dr_tup, ↓dr_lst, ↓dr_dct, ↓dr_obj, ↓k_lt_int, ↓k_le_int, ↓k_gt_int, ↓k_ge_int, ↓k_lt_str, ↓k_add_int, ↓k_add_str, ↓k_add_tup, ↓k_add_lst, ↓k_sub, ↓k_mul, ↓k_div, ↓k_mod, ↓k_pow, ↓k_neg, ↓k_eq_int, ↓k_eq_str, ↓k_is_nn, ↓k_is_int, ↓k_is_tup, ↓k_is_obj, ↓k_ix_lst, ↓k_ix_tup, ↓k_ix_str, ↓k_ix_dct, ↓k_len_str, ↓k_len_lst, ↓k_len_tup, ↓k_int_int, ↓k_int_bl, ↓k_abs, ↓k_str_int, ↓k_str_str, ↓k_tup_lst, ↓k_it_str, ↓k_it_tup, ↓k_it_lst, ↓k_in_dct, ↓e_enum, ↓k_en_tup, ↓k_en_lst, ↓e_atp, ↓e_lcM, ↓par3_three, ↓e_lits, ↓e_par3, ↓e_rev, ↓e_dct0, ↓e_nevE, ↓e_raise1, ↓e_exF, ↓e_exI, ↓e_tryA, ↓k_rev_lst, ↓k_addM_lst, ↓k_max2, ↓k_min2, List.set_cons_zero, List.set_cons_succ, wipeP, i1, l1, d1, it_t, Bool.not_true, Bool.false_eq_true, if_false]
  refine wLcL_allM PV.str (fun x => PV.bl (nameB x)) trivial _ (fun x hx R' hR' => ?_) (by have := ok.tl; rw [sizeLine_eq]; omega) ?_
  · simp -implicitDefEqProofs only [w_Net___init___1, ↓e_ret, ↓e_retN, ↓e_nxt, ↓e_seq, ↓e_nev, ↓e_brk, ↓e_cnt, ↓e_expr, ↓e_ifs, ↓e_set, ↓e_asg, ↓par2_two, ↓e_par, ↓e_for, ↓e_setF, ↓e_put, ↓opt_some, ↓e_var, ↓e_c, ↓e_b, ↓e_1, ↓e_tst, ↓e_kB, ↓e_tru, ↓e_notT, ↓e_andT, ↓e_orT, ↓truK_bl, ↓e_andV, ↓e_orV, ↓e_notV, ↓e_if, ↓chK_bl, ↓e_ch, ↓e_nil, ↓e_cons, ↓e_tup, ↓e_lst, ↓e_lstF, ↓e_call, ↓e_arN, ↓e_p1, ↓e_p2, ↓e_meth, ↓e_bm, ↓e_fld, ↓e_lc, ↓e_dc, ↓e_it, ↓e_rng1, ↓e_rng2, ↓e_intB, ↓e_sl, ↓e_no, ↓e_so, ↓e_yes, ↓e_anm, ↓gs_0, ↓gs_s, ↓dr_int, ↓dr_str, ↓dr_bl, ↓dr_nn, ↓dr_tup, ↓dr_lst, ↓dr_dct, ↓dr_obj, ↓k_lt_int, ↓k_le_int, ↓k_gt_int, ↓k_ge_int, ↓k_lt_str, ↓k_add_int, ↓k_add_str, ↓k_add_tup, ↓k_add_lst, ↓k_sub, ↓k_mul, ↓k_div, ↓k_mod, ↓k_pow, ↓k_neg, ↓k_eq_int, ↓k_eq_str, ↓k_is_nn, ↓k_is_int, ↓k_is_tup, ↓k_is_obj, ↓k_ix_lst, ↓k_ix_tup, ↓k_ix_str, ↓k_ix_dct, ↓k_len_str, ↓k_len_lst, ↓k_len_tup, ↓k_int_int, ↓k_int_bl, ↓k_abs, ↓k_str_int, ↓k_str_str, ↓k_tup_lst, ↓k_it_str, ↓k_it_tup, ↓k_it_lst, ↓k_in_dct, ↓e_enum, ↓k_en_tup, ↓k_en_lst, ↓e_atp, ↓e_lcM, ↓par3_three, ↓e_lits, ↓e_par3, ↓e_rev, ↓e_dct0, ↓e_nevE, ↓e_raise1, ↓e_exF, ↓e_exI, ↓e_tryA, ↓k_rev_lst, ↓k_addM_lst, ↓k_max2, ↓k_min2, List.set_cons_zero, List.set_cons_succ, wipeP, ↓t_is_name]
    exact ⟨rfl, name_szL (ok.tn x hx), hR'⟩
  rw [k_allM]
  have e1 : ts.all nameB = true := List.all_eq_true.mpr ok.tn
  rw [e1]
  simp -implicitDefEqProofs only [↓e_ret, ↓e_retN, ↓e_nxt, ↓e_seq, ↓e_nev, ↓e_brk, ↓e_cnt, ↓e_expr, ↓e_ifs, ↓e_set, ↓e_asg, ↓par2_two, ↓e_par, ↓e_for, ↓e_setF, ↓e_put, ↓opt_some, ↓e_var, ↓e_c, ↓e_b, ↓e_1, ↓e_tst, ↓e_kB, ↓e_tru, ↓e_notT, ↓e_andT, ↓e_orT, ↓truK_bl, ↓e_andV, ↓e_orV, ↓e_notV, ↓e_if, ↓chK_bl, ↓e_ch, ↓e_nil, ↓e_cons, ↓e_tup, ↓e_lst, ↓e_lstF, ↓e_call, ↓e_arN, ↓e_p1, ↓e_p2, ↓e_meth, ↓e_bm, ↓e_fld, ↓e_lc, ↓e_dc, ↓e_it, ↓e_rng1, ↓e_rng2, ↓e_intB, ↓e_sl, ↓e_no, ↓e_so, ↓e_yes, ↓e_anm, ↓gs_0, ↓gs_s, ↓dr_int, ↓dr_str, ↓dr_bl, ↓dr_nn, ↓dr_tup, ↓dr_lst, ↓dr_dct, ↓dr_obj, ↓k_lt_int, ↓k_le_int, ↓k_gt_int, ↓k_ge_int, ↓k_lt_str, ↓k_add_int, ↓k_add_str, ↓k_add_tup, ↓k_add_lst, ↓k_sub, ↓k_mul, ↓k_div, ↓k_mod, ↓k_pow, ↓k_neg, ↓k_eq_int, ↓k_eq_str, ↓k_is_nn, ↓k_is_int, ↓k_is_tup, ↓k_is_obj, ↓k_ix_lst, ↓k_ix_tup, ↓k_ix_str, ↓k_ix_dct, ↓k_len_str, ↓k_len_lst, ↓k_len_tup, ↓k_int_int, ↓k_int_bl, ↓k_abs, ↓k_str_int, ↓k_str_str, ↓k_tup_lst, ↓k_it_str, ↓k_it_tup, ↓k_it_lst, ↓k_in_dct, ↓e_enum, ↓k_en_tup, ↓k_en_lst, ↓e_atp, ↓e_lcM, ↓par3_three, ↓e_lits, ↓e_par3, ↓e_rev, ↓e_dct0, ↓e_nevE, ↓e_raise1, ↓e_exF, ↓e_exI, ↓e_tryA, ↓k_rev_lst, ↓k_addM_lst, ↓k_max2, ↓k_min2, List.set_cons_zero, List.set_cons_succ, wipeP, Bool.not_true, Bool.false_eq_true, if_false]
  refine ⟨rfl, t_does_ascend (by have := ok.tl; omega) ?_⟩
  rw [decide_eq_true ok.ta]
  simp -implicitDefEqProofs only [↓e_ret, ↓e_retN, ↓e_nxt, ↓e_seq, ↓e_nev, ↓e_brk, ↓e_cnt, ↓e_expr, ↓e_ifs, ↓e_set, ↓e_asg, ↓par2_two, ↓e_par, ↓e_for, ↓e_setF, ↓e_put, ↓opt_some, ↓e_var, ↓e_c, ↓e_b, ↓e_1, ↓e_tst, ↓e_kB, ↓e_tru, ↓e_notT, ↓e_andT, ↓e_orT, ↓truK_bl, ↓e_andV, ↓e_orV, ↓e_notV, ↓e_if, ↓chK_bl, ↓e_ch, ↓e_nil, ↓e_cons, ↓e_tup, ↓e_lst, ↓e_lstF, ↓e_call, ↓e_arN, ↓e_p1, ↓e_p2, ↓e_meth, ↓e_bm, ↓e_fld, ↓e_lc, ↓e_dc, ↓e_it, ↓e_rng1, ↓e_rng2, ↓e_intB, ↓e_sl, ↓e_no, ↓e_so, ↓e_yes, ↓e_anm, ↓gs_0, ↓gs_s, ↓dr_int, ↓dr_str, ↓dr_bl, ↓dr_nn, ↓dr_tup, ↓dr_lst, ↓dr_dct, ↓dr_obj, ↓k_lt_int, ↓k_le_int, ↓k_gt_int, ↓k_ge_int, ↓k_lt_str, ↓k_add_int, ↓k_add_str, ↓k_add_tup, ↓k_add_lst, ↓k_sub, ↓k_mul, ↓k_div, ↓k_mod, ↓k_pow, ↓k_neg, ↓k_eq_int, ↓k_eq_str, ↓k_is_nn, ↓k_is_int, ↓k_is_tup, ↓k_is_obj, ↓k_ix_lst, ↓k_ix_tup, ↓k_ix_str, ↓k_ix_dct, ↓k_len_str, ↓k_len_lst, ↓k_len_tup, ↓k_int_int, ↓k_int_bl, ↓k_abs, ↓k_str_int, ↓k_str_str, ↓k_tup_lst, ↓k_it_str, ↓k_it_tup, ↓k_it_lst, ↓k_in_dct, ↓e_enum, ↓k_en_tup, ↓k_en_lst, ↓e_atp, ↓e_lcM, ↓par3_three, ↓e_lits, ↓e_par3, ↓e_rev, ↓e_dct0, ↓e_nevE, ↓e_raise1, ↓e_exF, ↓e_exI, ↓e_tryA, ↓k_rev_lst, ↓k_addM_lst, ↓k_max2, ↓k_min2, List.set_cons_zero, List.set_cons_succ, wipeP, i2, l2, d2, Bool.not_true, Bool.false_eq_true, if_false, en]
  unfold enumP
  rw [List.length_map]
  refine wForL_inv (fun (i : Nat) => PV.tup [.int i, (rs.map roadP).getD i .non]) (fun rest ρ S' => (∀ i ∈ rest, i < rs.length) ∧ S' = S ∧ ∃ x y z, ρ = [some (.ref a), some (townsP ts), some (roadsP rs), x, y, z])
    (fun i r ρ S' ⟨h1, h2, x, y, z, h3⟩ => ?_) (fun ρ S' ⟨h1, h2, x, y, z, h3⟩ => ?_) (List.range rs.length) _ S ⟨fun i hi => List.mem_range.mp hi, rfl, none, none, none, rfl⟩
  · subst h2 h3
    refine ⟨trivial, fun N hN => ?_⟩
    have hi : i < rs.length := h1 i List.mem_cons_self
    have er : (rs.map roadP).getD i .non = roadP rs[i] := by simp [List.getD, List.getElem?_eq_getElem hi]
    rw [er, e_atp]
    refine ⟨rfl, ?_⟩
    simp -implicitDefEqProofs only [setM_cons, setM_nil, ↓e_ret, ↓e_retN, ↓e_nxt, ↓e_seq, ↓e_nev, ↓e_brk, ↓e_cnt, ↓e_expr, ↓e_ifs, ↓e_set, ↓e_asg, ↓par2_two, ↓e_par, ↓e_for, ↓e_setF, ↓e_put, ↓opt_some, ↓e_var, ↓e_c, ↓e_b, ↓e_1, ↓e_tst, ↓e_kB, ↓e_tru, ↓e_notT, ↓e_andT, ↓e_orT, ↓truK_bl, ↓e_andV, ↓e_orV, ↓e_notV, ↓e_if, ↓chK_bl, ↓e_ch, ↓e_nil, ↓e_cons, ↓e_tup, ↓e_lst, ↓e_lstF, ↓e_call, ↓e_arN, ↓e_p1, ↓e_p2, ↓e_meth, ↓e_bm, ↓e_fld, ↓e_lc, ↓e_dc, ↓e_it, ↓e_rng1, ↓e_rng2, ↓e_intB, ↓e_sl, ↓e_no, ↓e_so, ↓e_yes, ↓e_anm, ↓gs_0, ↓gs_s, ↓dr_int, ↓dr_str, ↓dr_bl, ↓dr_nn, ↓dr_tup, ↓dr_lst, ↓dr_dct, ↓dr_obj, ↓k_lt_int, ↓k_le_int, ↓k_gt_int, ↓k_ge_int, ↓k_lt_str, ↓k_add_int, ↓k_add_str, ↓k_add_tup, ↓k_add_lst, ↓k_sub, ↓k_mul, ↓k_div, ↓k_mod, ↓k_pow, ↓k_neg, ↓k_eq_int, ↓k_eq_str, ↓k_is_nn, ↓k_is_int, ↓k_is_tup, ↓k_is_obj, ↓k_ix_lst, ↓k_ix_tup, ↓k_ix_str, ↓k_ix_dct, ↓k_len_str, ↓k_len_lst, ↓k_len_tup, ↓k_int_int, ↓k_int_bl, ↓k_abs, ↓k_str_int, ↓k_str_str, ↓k_tup_lst, ↓k_it_str, ↓k_it_tup, ↓k_it_lst, ↓k_in_dct, ↓e_enum, ↓k_en_tup, ↓k_en_lst, ↓e_atp, ↓e_lcM, ↓par3_three, ↓e_lits, ↓e_par3, ↓e_rev, ↓e_dct0, ↓e_nevE, ↓e_raise1, ↓e_exF, ↓e_exI, ↓e_tryA, ↓k_rev_lst, ↓k_addM_lst, ↓k_max2, ↓k_min2, List.set_cons_zero, List.set_cons_succ, wipeP, w_Net___init___2]
    refine ⟨rfl, t_is_road (ts := ts) rfl ?_ (roadB_sz (ok.rn _ (List.getElem_mem hi)))⟩
    rw [ok.rn _ (List.getElem_mem hi)]
    simp -implicitDefEqProofs only [↓e_ret, ↓e_retN, ↓e_nxt, ↓e_seq, ↓e_nev, ↓e_brk, ↓e_cnt, ↓e_expr, ↓e_ifs, ↓e_set, ↓e_asg, ↓par2_two, ↓e_par, ↓e_for, ↓e_setF, ↓e_put, ↓opt_some, ↓e_var, ↓e_c, ↓e_b, ↓e_1, ↓e_tst, ↓e_kB, ↓e_tru, ↓e_notT, ↓e_andT, ↓e_orT, ↓truK_bl, ↓e_andV, ↓e_orV, ↓e_notV, ↓e_if, ↓chK_bl, ↓e_ch, ↓e_nil, ↓e_cons, ↓e_tup, ↓e_lst, ↓e_lstF, ↓e_call, ↓e_arN, ↓e_p1, ↓e_p2, ↓e_meth, ↓e_bm, ↓e_fld, ↓e_lc, ↓e_dc, ↓e_it, ↓e_rng1, ↓e_rng2, ↓e_intB, ↓e_sl, ↓e_no, ↓e_so, ↓e_yes, ↓e_anm, ↓gs_0, ↓gs_s, ↓dr_int, ↓dr_str, ↓dr_bl, ↓dr_nn, ↓dr_tup, ↓dr_lst, ↓dr_dct, ↓dr_obj, ↓k_lt_int, ↓k_le_int, ↓k_gt_int, ↓k_ge_int, ↓k_lt_str, ↓k_add_int, ↓k_add_str, ↓k_add_tup, ↓k_add_lst, ↓k_sub, ↓k_mul, ↓k_div, ↓k_mod, ↓k_pow, ↓k_neg, ↓k_eq_int, ↓k_eq_str, ↓k_is_nn, ↓k_is_int, ↓k_is_tup, ↓k_is_obj, ↓k_ix_lst, ↓k_ix_tup, ↓k_ix_str, ↓k_ix_dct, ↓k_len_str, ↓k_len_lst, ↓k_len_tup, ↓k_int_int, ↓k_int_bl, ↓k_abs, ↓k_str_int, ↓k_str_str, ↓k_tup_lst, ↓k_it_str, ↓k_it_tup, ↓k_it_lst, ↓k_in_dct, ↓e_enum, ↓k_en_tup, ↓k_en_lst, ↓e_atp, ↓e_lcM, ↓par3_three, ↓e_lits, ↓e_par3, ↓e_rev, ↓e_dct0, ↓e_nevE, ↓e_raise1, ↓e_exF, ↓e_exI, ↓e_tryA, ↓k_rev_lst, ↓k_addM_lst, ↓k_max2, ↓k_min2, List.set_cons_zero, List.set_cons_succ, wipeP, Bool.not_true, Bool.false_eq_true, if_false]
    by_cases h0 : i = 0
    · have : decide ((0 : Int) < (i : Int)) = false := decide_eq_false (by omega)
      rw [this]
      simp -implicitDefEqProofs only [↓e_ret, ↓e_retN, ↓e_nxt, ↓e_seq, ↓e_nev, ↓e_brk, ↓e_cnt, ↓e_expr, ↓e_ifs, ↓e_set, ↓e_asg, ↓par2_two, ↓e_par, ↓e_for, ↓e_setF, ↓e_put, ↓opt_some, ↓e_var, ↓e_c, ↓e_b, ↓e_1, ↓e_tst, ↓e_kB, ↓e_tru, ↓e_notT, ↓e_andT, ↓e_orT, ↓truK_bl, ↓e_andV, ↓e_orV, ↓e_notV, ↓e_if, ↓chK_bl, ↓e_ch, ↓e_nil, ↓e_cons, ↓e_tup, ↓e_lst, ↓e_lstF, ↓e_call, ↓e_arN, ↓e_p1, ↓e_p2, ↓e_meth, ↓e_bm, ↓e_fld, ↓e_lc, ↓e_dc, ↓e_it, ↓e_rng1, ↓e_rng2, ↓e_intB, ↓e_sl, ↓e_no, ↓e_so, ↓e_yes, ↓e_anm, ↓gs_0, ↓gs_s, ↓dr_int, ↓dr_str, ↓dr_bl, ↓dr_nn, ↓dr_tup, ↓dr_lst, ↓dr_dct, ↓dr_obj, ↓k_lt_int, ↓k_le_int, ↓k_gt_int, ↓k_ge_int, ↓k_lt_str, ↓k_add_int, ↓k_add_str, ↓k_add_tup, ↓k_add_lst, ↓k_sub, ↓k_mul, ↓k_div, ↓k_mod, ↓k_pow, ↓k_neg, ↓k_eq_int, ↓k_eq_str, ↓k_is_nn, ↓k_is_int, ↓k_is_tup, ↓k_is_obj, ↓k_ix_lst, ↓k_ix_tup, ↓k_ix_str, ↓k_ix_dct, ↓k_len_str, ↓k_len_lst, ↓k_len_tup, ↓k_int_int, ↓k_int_bl, ↓k_abs, ↓k_str_int, ↓k_str_str, ↓k_tup_lst, ↓k_it_str, ↓k_it_tup, ↓k_it_lst, ↓k_in_dct, ↓e_enum, ↓k_en_tup, ↓k_en_lst, ↓e_atp, ↓e_lcM, ↓par3_three, ↓e_lits, ↓e_par3, ↓e_rev, ↓e_dct0, ↓e_nevE, ↓e_raise1, ↓e_exF, ↓e_exI, ↓e_tryA, ↓k_rev_lst, ↓k_addM_lst, ↓k_max2, ↓k_min2, List.set_cons_zero, List.set_cons_succ, wipeP, Bool.false_eq_true, if_false]
      exact hN _ _ ⟨fun j hj => h1 j (List.mem_cons_of_mem _ hj), rfl, _, _, _, rfl⟩
    · have : decide ((0 : Int) < (i : Int)) = true := decide_eq_true (by omega)
      rw [this]
      simp -implicitDefEqProofs only [↓e_ret, ↓e_retN, ↓e_nxt, ↓e_seq, ↓e_nev, ↓e_brk, ↓e_cnt, ↓e_expr, ↓e_ifs, ↓e_set, ↓e_asg, ↓par2_two, ↓e_par, ↓e_for, ↓e_setF, ↓e_put, ↓opt_some, ↓e_var, ↓e_c, ↓e_b, ↓e_1, ↓e_tst, ↓e_kB, ↓e_tru, ↓e_notT, ↓e_andT, ↓e_orT, ↓truK_bl, ↓e_andV, ↓e_orV, ↓e_notV, ↓e_if, ↓chK_bl, ↓e_ch, ↓e_nil, ↓e_cons, ↓e_tup, ↓e_lst, ↓e_lstF, ↓e_call, ↓e_arN, ↓e_p1, ↓e_p2, ↓e_meth, ↓e_bm, ↓e_fld, ↓e_lc, ↓e_dc, ↓e_it, ↓e_rng1, ↓e_rng2, ↓e_intB, ↓e_sl, ↓e_no, ↓e_so, ↓e_yes, ↓e_anm, ↓gs_0, ↓gs_s, ↓dr_int, ↓dr_str, ↓dr_bl, ↓dr_nn, ↓dr_tup, ↓dr_lst, ↓dr_dct, ↓dr_obj, ↓k_lt_int, ↓k_le_int, ↓k_gt_int, ↓k_ge_int, ↓k_lt_str, ↓k_add_int, ↓k_add_str, ↓k_add_tup, ↓k_add_lst, ↓k_sub, ↓k_mul, ↓k_div, ↓k_mod, ↓k_pow, ↓k_neg, ↓k_eq_int, ↓k_eq_str, ↓k_is_nn, ↓k_is_int, ↓k_is_tup, ↓k_is_obj, ↓k_ix_lst, ↓k_ix_tup, ↓k_ix_str, ↓k_ix_dct, ↓k_len_str, ↓k_len_lst, ↓k_len_tup, ↓k_int_int, ↓k_int_bl, ↓k_abs, ↓k_str_int, ↓k_str_str, ↓k_tup_lst, ↓k_it_str, ↓k_it_tup, ↓k_it_lst, ↓k_in_dct, ↓e_enum, ↓k_en_tup, ↓k_en_lst, ↓e_atp, ↓e_lcM, ↓par3_three, ↓e_lits, ↓e_par3, ↓e_rev, ↓e_dct0, ↓e_nevE, ↓e_raise1, ↓e_exF, ↓e_exI, ↓e_tryA, ↓k_rev_lst, ↓k_addM_lst, ↓k_max2, ↓k_min2, List.set_cons_zero, List.set_cons_succ, wipeP, if_true]
      have ix : ∀ S R', kIx (roadsP rs) (.int ((i : Int) - 1)) S R' = ∃ z, atI (rs.map roadP) ((i : Int) - 1) = some z ∧ R' z S := fun S R' => rfl
      rw [ix]
      refine ⟨roadP rs[i - 1], atI_nn (j := i - 1) (by omega) (by rw [List.getElem?_map, List.getElem?_eq_getElem (by omega)]; rfl), ?_⟩
      have ix2 : ∀ S (r : Road) R', kIx (roadP r) (.int 0) S R' = ∃ z, atI [PV.str r.name, .str r.bgn, .str r.fin, .int r.len, .int r.room] 0 = some z ∧ R' z S := fun S r R' => rfl
      rw [ix2]
      refine ⟨.str rs[i - 1].name, rfl, ?_⟩
      rw [ix2]
      refine ⟨.str rs[i].name, rfl, ?_⟩
      rw [k_lt_str]
      have hlt : ltS rs[i - 1].name rs[i].name = true := List.pairwise_iff_getElem.mp ok.ra (i - 1) i (by omega) hi (by omega)
      rw [hlt]
      simp -implicitDefEqProofs only [↓e_ret, ↓e_retN, ↓e_nxt, ↓e_seq, ↓e_nev, ↓e_brk, ↓e_cnt, ↓e_expr, ↓e_ifs, ↓e_set, ↓e_asg, ↓par2_two, ↓e_par, ↓e_for, ↓e_setF, ↓e_put, ↓opt_some, ↓e_var, ↓e_c, ↓e_b, ↓e_1, ↓e_tst, ↓e_kB, ↓e_tru, ↓e_notT, ↓e_andT, ↓e_orT, ↓truK_bl, ↓e_andV, ↓e_orV, ↓e_notV, ↓e_if, ↓chK_bl, ↓e_ch, ↓e_nil, ↓e_cons, ↓e_tup, ↓e_lst, ↓e_lstF, ↓e_call, ↓e_arN, ↓e_p1, ↓e_p2, ↓e_meth, ↓e_bm, ↓e_fld, ↓e_lc, ↓e_dc, ↓e_it, ↓e_rng1, ↓e_rng2, ↓e_intB, ↓e_sl, ↓e_no, ↓e_so, ↓e_yes, ↓e_anm, ↓gs_0, ↓gs_s, ↓dr_int, ↓dr_str, ↓dr_bl, ↓dr_nn, ↓dr_tup, ↓dr_lst, ↓dr_dct, ↓dr_obj, ↓k_lt_int, ↓k_le_int, ↓k_gt_int, ↓k_ge_int, ↓k_lt_str, ↓k_add_int, ↓k_add_str, ↓k_add_tup, ↓k_add_lst, ↓k_sub, ↓k_mul, ↓k_div, ↓k_mod, ↓k_pow, ↓k_neg, ↓k_eq_int, ↓k_eq_str, ↓k_is_nn, ↓k_is_int, ↓k_is_tup, ↓k_is_obj, ↓k_ix_lst, ↓k_ix_tup, ↓k_ix_str, ↓k_ix_dct, ↓k_len_str, ↓k_len_lst, ↓k_len_tup, ↓k_int_int, ↓k_int_bl, ↓k_abs, ↓k_str_int, ↓k_str_str, ↓k_tup_lst, ↓k_it_str, ↓k_it_tup, ↓k_it_lst, ↓k_in_dct, ↓e_enum, ↓k_en_tup, ↓k_en_lst, ↓e_atp, ↓e_lcM, ↓par3_three, ↓e_lits, ↓e_par3, ↓e_rev, ↓e_dct0, ↓e_nevE, ↓e_raise1, ↓e_exF, ↓e_exI, ↓e_tryA, ↓k_rev_lst, ↓k_addM_lst, ↓k_max2, ↓k_min2, List.set_cons_zero, List.set_cons_succ, wipeP, Bool.not_true, Bool.false_eq_true, if_false]
      exact hN _ _ ⟨fun j hj => h1 j (List.mem_cons_of_mem _ hj), rfl, _, _, _, rfl⟩
  · subst h2 h3
    refine ⟨trivial, ?_⟩
    simp -implicitDefEqProofs only [↓e_ret, ↓e_retN, ↓e_nxt, ↓e_seq, ↓e_nev, ↓e_brk, ↓e_cnt, ↓e_expr, ↓e_ifs, ↓e_set, ↓e_asg, ↓par2_two, ↓e_par, ↓e_for, ↓e_setF, ↓e_put, ↓opt_some, ↓e_var, ↓e_c, ↓e_b, ↓e_1, ↓e_tst, ↓e_kB, ↓e_tru, ↓e_notT, ↓e_andT, ↓e_orT, ↓truK_bl, ↓e_andV, ↓e_orV, ↓e_notV, ↓e_if, ↓chK_bl, ↓e_ch, ↓e_nil, ↓e_cons, ↓e_tup, ↓e_lst, ↓e_lstF, ↓e_call, ↓e_arN, ↓e_p1, ↓e_p2, ↓e_meth, ↓e_bm, ↓e_fld, ↓e_lc, ↓e_dc, ↓e_it, ↓e_rng1, ↓e_rng2, ↓e_intB, ↓e_sl, ↓e_no, ↓e_so, ↓e_yes, ↓e_anm, ↓gs_0, ↓gs_s, ↓dr_int, ↓dr_str, ↓dr_bl, ↓dr_nn, ↓dr_tup, ↓dr_lst, ↓dr_dct, ↓dr_obj, ↓k_lt_int, ↓k_le_int, ↓k_gt_int, ↓k_ge_int, ↓k_lt_str, ↓k_add_int, ↓k_add_str, ↓k_add_tup, ↓k_add_lst, ↓k_sub, ↓k_mul, ↓k_div, ↓k_mod, ↓k_pow, ↓k_neg, ↓k_eq_int, ↓k_eq_str, ↓k_is_nn, ↓k_is_int, ↓k_is_tup, ↓k_is_obj, ↓k_ix_lst, ↓k_ix_tup, ↓k_ix_str, ↓k_ix_dct, ↓k_len_str, ↓k_len_lst, ↓k_len_tup, ↓k_int_int, ↓k_int_bl, ↓k_abs, ↓k_str_int, ↓k_str_str, ↓k_tup_lst, ↓k_it_str, ↓k_it_tup, ↓k_it_lst, ↓k_in_dct, ↓e_enum, ↓k_en_tup, ↓k_en_lst, ↓e_atp, ↓e_lcM, ↓par3_three, ↓e_lits, ↓e_par3, ↓e_rev, ↓e_dct0, ↓e_nevE, ↓e_raise1, ↓e_exF, ↓e_exI, ↓e_tryA, ↓k_rev_lst, ↓k_addM_lst, ↓k_max2, ↓k_min2, List.set_cons_zero, List.set_cons_succ, wipeP]
    rw [k_methI hS rfl]
    refine ⟨trivial, rfl, a, ts, rs, rfl, hS, ok, fun S' cells hk => wfg_now (hR S' cells hk)⟩

/-! ### numbers -/
theorem numL_head {n : Nat} (h : 0 < n) : ∀ c r, TL.numL n = c :: r → c ≠ 48 := by
  induction n using Nat.strongRecOn with
  | ind n ih =>
    intro c r e
    by_cases h10 : n < 10
    · rw [TL.numL_lt h10] at e
      cases e; omega
    · rw [TL.numL_step (by omega)] at e
      cases e2 : TL.numL (n / 10) with
      | nil => exact absurd e2 (TL.numL_ne _)
      | cons d r2 =>
        rw [e2] at e
        cases e
        exact ih (n / 10) (by omega) (by omega) _ _ e2
theorem tl_nat (n : Nat) : ((toString (n : Int) : String) : Str).cps.toList = TL.numL n := TL.tl_num n
theorem nat_len {n : Nat} (h : n ≤ 1000) : ((toString (n : Int) : String) : Str).length ≤ 4 := by
  rw [TL.len_tl]
  show (List.length (Str.cps _).toList) ≤ 4
  rw [tl_nat]
  exact TL.numL_len (by decide) (by omega)
theorem nat_len1 (n : Nat) : 1 ≤ ((toString (n : Int) : String) : Str).length := by
  rw [TL.len_tl]
  show 1 ≤ (List.length (Str.cps _).toList)
  rw [tl_nat]
  exact List.length_pos_iff.mpr (TL.numL_ne n)
def digs : List Nat := ("0123456789" : Str).cps.toList
theorem digs_eq : digs = [48, 49, 50, 51, 52, 53, 54, 55, 56, 57] := by decide +kernel
theorem in_digs {c : Nat} (h : 48 ≤ c ∧ c ≤ 57) : digs.contains c = true := by
  rw [digs_eq, List.contains_iff_mem]
  simp only [List.mem_cons, List.not_mem_nil, or_false]
  omega
theorem sz0 {x : Nat} (h : x ≤ 1000) : x ≤ sizeLine := by rw [sizeLine_eq]; omega
theorem k_in_str {S : Sto} {R : RK} {neg : Bool} {z c : Str} : kIn neg (.str c) (.str z) S R = (c.length = 1 ∧ R (.bl (z.cps.toList.contains (c.cps.getD 0 0) != neg)) S) := rfl
theorem tl_neg (n : Nat) (h : 0 < n) : ((toString (-(n : Int)) : String) : Str).cps.toList = 45 :: TL.numL n := by
  obtain ⟨m, rfl⟩ : ∃ m, n = m + 1 := ⟨n - 1, by omega⟩
  have e : (toString (-((m + 1 : Nat) : Int)) : String) = "-" ++ toString (m + 1) := rfl
  show TL.tl (Str.ofString _) = _
  rw [e, TL.tl_ofString, String.toList_append, List.map_append]
  have := TL.tl_num (m + 1)
  rw [TL.tl_ofString] at this
  show _ ++ List.map Char.toNat (toString ((m + 1 : Nat) : Int)).toList = _
  rw [this]; rfl

/-! ### lines -/
theorem small_eq : small = [97, 98, 99, 100, 101, 102, 103, 104, 105, 106, 107, 108, 109, 110, 111, 112, 113, 114, 115, 116, 117, 118, 119, 120, 121, 122] := by decide +kernel
theorem small_iff {c : Nat} : small.contains c = true ↔ 97 ≤ c ∧ c ≤ 122 := by
  rw [small_eq, List.contains_iff_mem]
  simp only [List.mem_cons, List.not_mem_nil, or_false]
  omega
theorem name_signs {x : Str} (h : nameB x = true) : ∀ c ∈ x.cps.toList, 97 ≤ c ∧ c ≤ 122 := by
  unfold nameB at h
  simp only [Bool.and_eq_true, List.all_eq_true] at h
  exact fun c hc => small_iff.mp (h.2.2 c hc)
theorem int_signs {n : Int} : ∀ c ∈ ((toString n : String) : Str).cps.toList, c = 45 ∨ (48 ≤ c ∧ c ≤ 57) := by
  intro c hc
  by_cases h0 : 0 ≤ n
  · obtain ⟨m, rfl⟩ : ∃ m : Nat, n = m := ⟨n.toNat, by omega⟩
    rw [tl_nat] at hc
    exact .inr (TL.numL_digits m c hc)
  · obtain ⟨m, rfl⟩ : ∃ m : Nat, n = -(m : Int) := ⟨(-n).toNat, by omega⟩
    rw [tl_neg m (by omega)] at hc
    rcases List.mem_cons.mp hc with h | h
    · exact .inl h
    · exact .inr (TL.numL_digits m c h)
theorem int_len {n : Int} (h : -1000 ≤ n ∧ n ≤ 1000) : ((toString n : String) : Str).length ≤ 5 := by
  by_cases h0 : 0 ≤ n
  · obtain ⟨m, rfl⟩ : ∃ m : Nat, n = m := ⟨n.toNat, by omega⟩
    have := nat_len (n := m) (by omega)
    omega
  · obtain ⟨m, rfl⟩ : ∃ m : Nat, n = -(m : Int) := ⟨(-n).toNat, by omega⟩
    rw [TL.len_tl]
    show (List.length (Str.cps _).toList) ≤ 5
    rw [tl_neg m (by omega)]
    have := TL.numL_len (n := m) (k := 4) (by decide) (by omega)
    simp only [List.length_cons]; omega
theorem RdOk.signs {r : Road} (h : RdOk r) : ∀ w ∈ roadWords r, ∀ c ∈ w.cps.toList, c ≠ 32 ∧ c ≠ 10 := by
  intro w hw c hc
  have hname : ∀ x : Str, nameB x = true → w = x → c ≠ 32 ∧ c ≠ 10 := fun x hx e => by
    subst e
    have := name_signs hx c hc; omega
  have hint : ∀ n : Int, w = ((toString n : String) : Str) → c ≠ 32 ∧ c ≠ 10 := fun n e => by
    subst e
    have := int_signs c hc; omega
  have hroad : w = ("road" : Str) → c ≠ 32 ∧ c ≠ 10 := fun e => by
    subst e
    have q : ("road" : Str).cps.toList = [114, 111, 97, 100] := by decide +kernel
    rw [q] at hc
    simp only [List.mem_cons, List.not_mem_nil, or_false] at hc
    omega
  unfold roadWords at hw
  simp only [List.mem_cons, List.not_mem_nil, or_false] at hw
  rcases hw with e | e | e | e | e | e
  · exact hroad e
  · exact hname _ h.n e
  · exact hname _ h.b e
  · exact hname _ h.f e
  · exact hint _ e
  · exact hint _ e
theorem tl_sp : TL.tl (" " : Str) = [32] := by decide +kernel
theorem tl_nl : TL.tl ("\n" : Str) = [10] := by decide +kernel
theorem split_road {r : Road} (h : RdOk r) : Txt.split (roadLine r) " " = roadWords r :=
  TL.split_join (s := 32) (S := []) tl_sp (by decide +kernel) (List.cons_ne_nil _ _) fun p hp hm => (h.signs p hp 32 hm).1 rfl
theorem split_town {t : Str} (h : nameB t = true) : Txt.split (townLine t) " " = [("town" : Str), t] := by
  have e : townLine t = Txt.join " " [("town" : Str), t] := by
    refine TL.ext_tl ?_
    rw [TL.join_eq, TL.tl_join]
    show TL.tl (("town " : Str) ++ t) = TL.tl ("town" : Str) ++ (TL.tl (" " : Str) ++ TL.tl t)
    rw [TL.tl_append, ← List.append_assoc]
    exact congrArg (· ++ TL.tl t) (by decide +kernel)
  rw [e]
  refine TL.split_join (s := 32) (S := []) tl_sp (by decide +kernel) (List.cons_ne_nil _ _) fun p hp hm => ?_
  simp only [List.mem_cons, List.not_mem_nil, or_false] at hp
  rcases hp with rfl | rfl
  · have : TL.tl ("town" : Str) = [116, 111, 119, 110] := by decide +kernel
    rw [this] at hm
    revert hm; decide
  · have := name_signs h 32 hm; omega
theorem tl_line (r : Road) : TL.tl (roadLine r) = TL.joinL [32] ((roadWords r).map TL.tl) := by
  unfold roadLine
  rw [TL.join_eq, TL.tl_join, tl_sp]
theorem joinL_mem {s : Nat} : ∀ {ps : List (List Nat)} {c : Nat}, c ∈ TL.joinL [s] ps → c = s ∨ ∃ p ∈ ps, c ∈ p
  | [], c, h => absurd h List.not_mem_nil
  | [p], c, h => .inr ⟨p, List.mem_cons_self, h⟩
  | p :: q :: r, c, h => by
    have h : c ∈ p ++ ([s] ++ TL.joinL [s] (q :: r)) := h
    rcases List.mem_append.mp h with h | h
    · exact .inr ⟨p, List.mem_cons_self, h⟩
    · rcases List.mem_append.mp h with h | h
      · exact .inl (List.mem_singleton.mp h)
      · rcases joinL_mem h with h | ⟨z, hz, h⟩
        · exact .inl h
        · exact .inr ⟨z, List.mem_cons_of_mem _ hz, h⟩
/-- no line end in a line -/
theorem road_noNl {r : Road} (h : RdOk r) : (10 : Nat) ∉ TL.tl (roadLine r) := fun hm => by
  rw [tl_line] at hm
  rcases joinL_mem hm with h1 | ⟨p, hp, h1⟩
  · omega
  · obtain ⟨w, hw, rfl⟩ := List.mem_map.mp hp
    exact (h.signs w hw 10 h1).2 rfl
theorem town_noNl {t : Str} (h : nameB t = true) : (10 : Nat) ∉ TL.tl (townLine t) := fun hm => by
  unfold townLine at hm
  rw [TL.tl_append] at hm
  rcases List.mem_append.mp hm with h1 | h1
  · have : TL.tl ("town " : Str) = [116, 111, 119, 110, 32] := by decide +kernel
    rw [this] at h1
    revert h1; decide
  · have := name_signs h 10 h1; omega
theorem lines_noNl {ts : List Str} {rs : List Road} (h1 : ∀ t ∈ ts, nameB t = true) (h2 : ∀ r ∈ rs, RdOk r) : ∀ x ∈ linesOf ts rs, (10 : Nat) ∉ TL.tl x := by
  intro x hx
  rcases List.mem_append.mp hx with h | h
  · obtain ⟨t, ht, rfl⟩ := List.mem_map.mp h
    exact town_noNl (h1 t ht)
  · obtain ⟨r, hr, rfl⟩ := List.mem_map.mp h
    exact road_noNl (h2 r hr)
theorem joinL_nil : ∀ ps : List (List Nat), TL.joinL [] ps = ps.flatten
  | [] => rfl
  | [p] => by show p = _; simp
  | p :: q :: r => by
    show p ++ ([] ++ TL.joinL [] (q :: r)) = _
    rw [joinL_nil (q :: r)]; simp
theorem joinL_snoc {s : Nat} : ∀ ps : List (List Nat), TL.joinL [s] (ps ++ [[]]) = (ps.map fun p => p ++ [s]).flatten
  | [] => rfl
  | [p] => by show p ++ ([s] ++ []) = _; simp
  | p :: q :: r => by
    show p ++ ([s] ++ TL.joinL [s] (q :: r ++ [[]])) = _
    rw [joinL_snoc (q :: r)]; simp
theorem text_lines (ls : List Str) : Txt.join "" (ls.map fun x => x ++ "\n") = Txt.join "\n" (ls ++ [("" : Str)]) := by
  refine TL.ext_tl ?_
  have e0 : TL.tl ("" : Str) = [] := by decide +kernel
  rw [TL.join_eq, TL.tl_join, TL.join_eq, TL.tl_join, tl_nl, e0, joinL_nil, List.map_append]
  have : List.map TL.tl [("" : Str)] = [[]] := by rw [List.map_singleton, e0]
  rw [this, joinL_snoc, List.map_map, List.map_map]
  refine congrArg List.flatten (List.map_congr_left fun x _ => ?_)
  show TL.tl (x ++ "\n") = TL.tl x ++ [10]
  rw [TL.tl_append, tl_nl]
/-- the text, cut at its line ends -/
theorem split_text {ls : List Str} (h : ∀ x ∈ ls, (10 : Nat) ∉ TL.tl x) : Txt.split (Txt.join "" (ls.map fun x => x ++ "\n")) "\n" = ls ++ [("" : Str)] := by
  rw [text_lines]
  refine TL.split_join (s := 10) (S := []) tl_nl (by decide +kernel) (by simp) fun p hp => ?_
  rcases List.mem_append.mp hp with h1 | h1
  · exact h p h1
  · rw [List.mem_singleton.mp h1]
    have e0 : TL.tl ("" : Str) = [] := by decide +kernel
    rw [e0]; exact List.not_mem_nil
theorem int_inj {m n : Int} (h : ((toString m : String) : Str) = ((toString n : String) : Str)) : m = n := by
  have key : ∀ n : Int, ((toString n : String) : Str).cps.toList = if 0 ≤ n then TL.numL n.toNat else 45 :: TL.numL (-n).toNat := fun n => by
    split
    · obtain ⟨m, rfl⟩ : ∃ m : Nat, n = m := ⟨n.toNat, by omega⟩
      exact tl_nat m
    · obtain ⟨m, rfl⟩ : ∃ m : Nat, n = -(m : Int) := ⟨(-n).toNat, by omega⟩
      rw [tl_neg m (by omega)]
      congr 2; omega
  have e : ((toString m : String) : Str).cps.toList = ((toString n : String) : Str).cps.toList := congrArg (fun x : Str => x.cps.toList) h
  rw [key, key] at e
  have hd : ∀ a b : Nat, TL.numL a = 45 :: TL.numL b → False := fun a b e => by
    have := TL.numL_digits a 45 (by rw [e]; exact List.mem_cons_self); omega
  split at e <;> split at e
  · have := TL.numL_inj e; omega
  · exact (hd _ _ e).elim
  · exact (hd _ _ e.symm).elim
  · have := TL.numL_inj (List.cons.inj e).2; omega
theorem words_inj {r q : Road} (h : roadWords r = roadWords q) : r = q := by
  unfold roadWords at h
  obtain ⟨n1, b1, f1, l1, m1⟩ := r
  obtain ⟨n2, b2, f2, l2, m2⟩ := q
  simp only [List.cons.injEq, and_true, true_and] at h
  obtain ⟨rfl, rfl, rfl, h4, h5⟩ := h
  rw [int_inj h4, int_inj h5]
theorem NetOk.rd {ts : List Str} {rs : List Road} (h : NetOk ts rs) : ∀ r ∈ rs, RdOk r := fun r hr => let ⟨a, b, c, d, e, f⟩ := roadB_n (h.rn r hr); ⟨a, b, c, d, e, f⟩
/-- what a line's words are -/
inductive Ln where
  | t (x : Str)
  | r (q : Road)
def lnOf : Ln → List Str
  | .t x => [("town" : Str), x]
  | .r q => roadWords q
theorem ln_inj {a b : Ln} (h : lnOf a = lnOf b) : a = b := by
  have ne : ("town" : Str) ≠ "road" := by decide +kernel
  cases a with
  | t x => cases b with
    | t y =>
      simp only [lnOf, List.cons.injEq, and_true, true_and] at h
      rw [h]
    | r q => exact absurd (List.cons.inj h).1 ne
  | r p => cases b with
    | t y => exact absurd (List.cons.inj h).1.symm ne
    | r q => rw [words_inj (r := p) (q := q) h]
theorem map_lines {ts : List Str} {rs : List Road} (h1 : ∀ t ∈ ts, nameB t = true) (h2 : ∀ r ∈ rs, RdOk r) : (linesOf ts rs).map (fun x => Txt.split x " ") = (ts.map Ln.t ++ rs.map Ln.r).map lnOf := by
  unfold linesOf
  rw [List.map_append, List.map_append, List.map_map, List.map_map, List.map_map, List.map_map]
  congr 1
  · exact List.map_congr_left fun t ht => split_town (h1 t ht)
  · exact List.map_congr_left fun r hr => split_road (h2 r hr)
theorem map_inj' {α β : Type} {f : α → β} (hf : ∀ a b, f a = f b → a = b) : ∀ {xs ys : List α}, xs.map f = ys.map f → xs = ys
  | [], [], _ => rfl
  | [], _ :: _, h => by cases h
  | _ :: _, [], h => by cases h
  | x :: xs, y :: ys, h => by
    have := List.cons.inj h
    rw [hf _ _ this.1, map_inj' hf this.2]
theorem ln_app : ∀ {ts us : List Str} {rs qs : List Road}, ts.map Ln.t ++ rs.map Ln.r = us.map Ln.t ++ qs.map Ln.r → ts = us ∧ rs = qs
  | [], [], _, _, h => ⟨rfl, map_inj' (fun _ _ e => Ln.r.inj e) h⟩
  | [], u :: us, [], qs, h => by cases h
  | [], u :: us, r :: rs, qs, h => by
    have := (List.cons.inj h).1
    cases this
  | t :: ts, [], rs, [], h => by cases h
  | t :: ts, [], rs, q :: qs, h => by
    have := (List.cons.inj h).1
    cases this
  | t :: ts, u :: us, rs, qs, h => by
    have h := List.cons.inj h
    obtain ⟨a, b⟩ := ln_app h.2
    rw [Ln.t.inj h.1, a, b]; exact ⟨rfl, rfl⟩
theorem netText_inj {ts us : List Str} {rs qs : List Road} (h : NetOk ts rs) (h' : NetOk us qs) (e : netText ts rs = netText us qs) : ts = us ∧ rs = qs := by
  have e1 := congrArg (fun x => Txt.split x "\n") e
  dsimp only [netText] at e1
  rw [split_text (lines_noNl h.tn h.rd), split_text (lines_noNl h'.tn h'.rd)] at e1
  have e2 := congrArg (List.map fun x => Txt.split x " ") (List.append_cancel_right e1)
  rw [map_lines h.tn h.rd, map_lines h'.tn h'.rd] at e2
  have e3 := map_inj' (fun _ _ => ln_inj) e2
  exact ln_app e3

/-! ### a net made -/
theorem fz_cells {S : Sto} {A : Addr → Prop} {rs : List Road} : ∀ cs : List Cell, (∀ c ∈ cs, A c.2 ∧ S c.2 = some (.lst (cont rs c.1.1 c.1.2))) → Fzs S A (cs.map fun c => PV.ref c.2) (cs.map fun c => PV.lst (cont rs c.1.1 c.1.2))
  | [], _ => .nil
  | c :: r, h => .cons (.lst (h c List.mem_cons_self).1 (h c List.mem_cons_self).2 (fzs_same _)) (fz_cells r fun d hd => h d (List.mem_cons_of_mem _ hd))
where fzs_same {S : Sto} {A : Addr → Prop} : ∀ xs : List PV, Fzs S A xs xs
  | [] => .nil
  | x :: xs => .cons (.same x) (fzs_same xs)
theorem fz_dict {S : Sto} {A : Addr → Prop} {ts : List Str} {rs : List Road} {cells : List Cell} (k : Kd) (hk : (cells.filter fun c => c.1.1 == k).map (fun c => c.1.2) = ts) (h : ∀ c ∈ cells, A c.2 ∧ S c.2 = some (.lst (cont rs c.1.1 c.1.2))) :
    Fz S A (.dct (dictOf cells k)) (.dct (ts.map fun t => ((.inr t : Key), .lst (cont rs k t)))) := by
  refine .dctF ?_ ?_
  · subst hk
    simp only [dictOf, List.map_map, Function.comp_def]
  · have e1 : (dictOf cells k).map (·.2) = (cells.filter fun c => c.1.1 == k).map fun c => PV.ref c.2 := by simp only [dictOf, List.map_map, Function.comp_def]
    have e2 : (ts.map fun t => ((.inr t : Key), PV.lst (cont rs k t))).map (·.2) = (cells.filter fun c => c.1.1 == k).map fun c => PV.lst (cont rs c.1.1 c.1.2) := by
      subst hk
      simp only [List.map_map, Function.comp_def]
      refine List.map_congr_left fun c hc => ?_
      have := (List.mem_filter.mp hc).2
      rw [eq_of_beq this]
    rw [e1, e2]
    exact fz_cells _ fun c hc => h c (List.mem_filter.mp hc).1
theorem net_make {K : PySem.W.Frag} {ts : List Str} {rs : List Road} {S : Sto} {R : RK} {Z : ZK} (ok : NetOk ts rs) (h : R (netK K ts rs) S) : kMake (He.ga K "Net") (sp_Net___init__ K) [townsP ts, roadsP rs] S R Z := by
  intro x hx
  refine ⟨x, ts, rs, rfl, updS_same, ok, fun S' cells hk => ⟨rfl, fun b => b = x ∨ b ∈ cells.map Prod.snd, netK K ts rs, S, fun b hb => ?_, ?_, fun b o e => ?_, fun b hb => ?_, h⟩⟩
  · rcases hb with rfl | hb
    · rw [hk.ins]; simp
    · obtain ⟨c, hc, rfl⟩ := List.mem_map.mp hb
      rw [hk.hold c hc]; simp
  · have hc : ∀ c ∈ cells, (c.2 = x ∨ c.2 ∈ cells.map Prod.snd) ∧ S' c.2 = some (.lst (cont rs c.1.1 c.1.2)) := fun c hc => ⟨.inr (List.mem_map_of_mem hc), hk.hold c hc⟩
    exact .obj (.inl rfl) hk.ins rfl (.cons (.same _) (.cons (.same _) (.cons (.same _) (.cons (fz_dict .o (hk.keys .o) hc) (.cons (fz_dict .i (hk.keys .i) hc) (.cons (fz_dict .t (hk.keys .t) hc) .nil))))))
  · have n1 : b ≠ x := fun z => by rw [z, hx] at e; cases e
    have n2 : b ∉ cells.map Prod.snd := fun z => by
      obtain ⟨c, hc, rfl⟩ := List.mem_map.mp z
      have := hk.new c hc
      rw [updS_ne n1, e] at this; cases this
    rw [hk.oth b n1 n2, updS_ne n1, e]
  · rcases hb with rfl | hb
    · exact hx
    · obtain ⟨c, hc, rfl⟩ := List.mem_map.mp hb
      have n1 : c.2 ≠ x := fun z => hk.na (z ▸ hb)
      have := hk.new c hc
      rwa [updS_ne n1] at this
/-! ### == -/
theorem toDs_strs : ∀ ts : List Str, toDs (ts.map PV.str) = some (ts.map PyData.str)
  | [] => rfl
  | x :: xs => by
    show ((toD (.str x)).bind fun d => (toDs (xs.map PV.str)).map (d :: ·)) = _
    rw [toDs_strs xs]; rfl
def roadD (r : Road) : PyData := .tuple [.str r.name, .str r.bgn, .str r.fin, .int r.len, .int r.room]
theorem toDs_roads : ∀ rs : List Road, toDs (rs.map roadP) = some (rs.map roadD)
  | [] => rfl
  | x :: xs => by
    show ((toD (roadP x)).bind fun d => (toDs (xs.map roadP)).map (d :: ·)) = _
    rw [toDs_roads xs]; rfl
theorem name_strOk {x : Str} (h : nameB x = true) : PyData.strOk x = true := by
  unfold PyData.strOk
  rw [← Array.all_toList, List.all_eq_true]
  intro c hc
  have := name_signs h c hc
  exact decide_eq_true (by omega)
theorem lay_strs : ∀ ts : List Str, (∀ t ∈ ts, nameB t = true) → PyData.canLayAll0 (ts.map PyData.str) = true ∧ PyData.depthAll (ts.map PyData.str) = 0
  | [], _ => ⟨rfl, rfl⟩
  | x :: xs, h => by
    obtain ⟨a, b⟩ := lay_strs xs fun t ht => h t (List.mem_cons_of_mem _ ht)
    refine ⟨?_, ?_⟩
    · show (PyData.strOk x && PyData.canLayAll0 (xs.map PyData.str)) = true
      rw [a, name_strOk (h x List.mem_cons_self)]; rfl
    · show max 0 (PyData.depthAll (xs.map PyData.str)) = 0
      rw [b]; rfl
theorem lay_roads : ∀ rs : List Road, (∀ r ∈ rs, RdOk r) → PyData.canLayAll0 (rs.map roadD) = true ∧ PyData.depthAll (rs.map roadD) ≤ 1
  | [], _ => ⟨rfl, Nat.zero_le _⟩
  | x :: xs, h => by
    obtain ⟨a, b⟩ := lay_roads xs fun t ht => h t (List.mem_cons_of_mem _ ht)
    have hx := h x List.mem_cons_self
    refine ⟨?_, ?_⟩
    · show ((PyData.strOk x.name && (PyData.strOk x.bgn && (PyData.strOk x.fin && true))) && PyData.canLayAll0 (xs.map roadD)) = true
      rw [a, name_strOk hx.n, name_strOk hx.b, name_strOk hx.f]; rfl
    · show max 1 (PyData.depthAll (xs.map roadD)) ≤ 1
      omega
theorem shaped_strs {ts : List Str} (h : ∀ t ∈ ts, nameB t = true) : SeqAt.shaped (.tuple (ts.map PyData.str)) = true := by
  obtain ⟨a, b⟩ := lay_strs ts h
  show (PyData.canLayAll0 (ts.map PyData.str) && decide (PyData.depthAll (ts.map PyData.str) + 1 ≤ 64)) = true
  rw [a, b]; rfl
theorem shaped_roads {rs : List Road} (h : ∀ r ∈ rs, RdOk r) : SeqAt.shaped (.tuple (rs.map roadD)) = true := by
  obtain ⟨a, b⟩ := lay_roads rs h
  show (PyData.canLayAll0 (rs.map roadD) && decide (PyData.depthAll (rs.map roadD) + 1 ≤ 64)) = true
  rw [a, decide_eq_true (by omega)]; rfl
theorem eqv_strs : ∀ ts us : List Str, PyData.eqvAll (ts.map PyData.str) (us.map PyData.str) = decide (ts = us)
  | [], [] => rfl
  | [], _ :: _ => rfl
  | _ :: _, [] => rfl
  | x :: xs, y :: ys => by
    show ((x == y) && PyData.eqvAll (xs.map PyData.str) (ys.map PyData.str)) = _
    rw [eqv_strs xs ys, Bool.eq_iff_iff]; simp
theorem eqv_road {r q : Road} : PyData.eqv (roadD r) (roadD q) = decide (r = q) := by
  show ((r.name == q.name) && ((r.bgn == q.bgn) && ((r.fin == q.fin) && ((r.len == q.len) && ((r.room == q.room) && true))))) = _
  obtain ⟨a, b, c, d, e⟩ := r
  obtain ⟨a', b', c', d', e'⟩ := q
  rw [Bool.eq_iff_iff]; simp
theorem eqv_roads : ∀ ts us : List Road, PyData.eqvAll (ts.map roadD) (us.map roadD) = decide (ts = us)
  | [], [] => rfl
  | [], _ :: _ => rfl
  | _ :: _, [] => rfl
  | x :: xs, y :: ys => by
    show (PyData.eqv (roadD x) (roadD y) && PyData.eqvAll (xs.map roadD) (ys.map roadD)) = _
    rw [eqv_roads xs ys, eqv_road, Bool.eq_iff_iff]; simp
theorem toD_towns (ts : List Str) : toD (townsP ts) = some (.tuple (ts.map PyData.str)) := by
  show (toDs (ts.map PV.str)).map PyData.tuple = _
  rw [toDs_strs]; rfl
theorem toD_roads (ts : List Road) : toD (roadsP ts) = some (.tuple (ts.map roadD)) := by
  show (toDs (ts.map roadP)).map PyData.tuple = _
  rw [toDs_roads]; rfl
section
variable {S : Sto} {R : RK} {Z : ZK} {K : PySem.W.Frag}
theorem k_eq_towns {neg : Bool} {ts us : List Str} (h : ∀ t ∈ ts, nameB t = true) (h' : ∀ t ∈ us, nameB t = true) : kEqA neg (townsP ts) (townsP us) S R = R (.bl (decide (ts = us) != neg)) S := by
  show kEqD neg (townsP ts) (townsP us) S R = _
  show (match toD (townsP ts), toD (townsP us) with
    | some d, some e => SeqAt.shaped d = true ∧ SeqAt.shaped e = true ∧ R (.bl (PyData.eqv d e != neg)) S
    | _, _ => False) = _
  rw [toD_towns, toD_towns]
  show (SeqAt.shaped _ = true ∧ SeqAt.shaped _ = true ∧ R (.bl (PyData.eqvAll _ _ != neg)) S) = _
  rw [shaped_strs h, shaped_strs h', eqv_strs]; simp
theorem k_eq_roads {neg : Bool} {ts us : List Road} (h : ∀ t ∈ ts, RdOk t) (h' : ∀ t ∈ us, RdOk t) : kEqA neg (roadsP ts) (roadsP us) S R = R (.bl (decide (ts = us) != neg)) S := by
  show (match toD (roadsP ts), toD (roadsP us) with
    | some d, some e => SeqAt.shaped d = true ∧ SeqAt.shaped e = true ∧ R (.bl (PyData.eqv d e != neg)) S
    | _, _ => False) = _
  rw [toD_roads, toD_roads]
  show (SeqAt.shaped _ = true ∧ SeqAt.shaped _ = true ∧ R (.bl (PyData.eqvAll _ _ != neg)) S) = _
  rw [shaped_roads h, shaped_roads h', eqv_roads]; simp
/-- the fields of a net -/
theorem f_towns {C : Addr} {Cs : List Addr} {ts : List Str} {rs : List Road} (hc : C ∈ Cs) : fldK "towns" (netP C ts rs) S R (· ∈ Cs) = R (townsP ts) S := k_fldO rfl hc
theorem f_roads {C : Addr} {Cs : List Addr} {ts : List Str} {rs : List Road} (hc : C ∈ Cs) : fldK "roads" (netP C ts rs) S R (· ∈ Cs) = R (roadsP rs) S := k_fldO rfl hc
theorem f_outs {C : Addr} {Cs : List Addr} {ts : List Str} {rs : List Road} (hc : C ∈ Cs) : fldK "outs" (netP C ts rs) S R (· ∈ Cs) = R (.dct (outsP ts rs fun r t => r.bgn == t)) S := k_fldO rfl hc
end

/-! ### sorted texts -/
theorem rising_pw : ∀ (l : List Str) (p : Str), risingS p l = true → (p :: l).Pairwise fun a b => ¬ (b.cps.toList < a.cps.toList)
  | [], p, _ => List.pairwise_singleton _ _
  | x :: r, p, h => by
    have h : (!ltCps x.cps.toList p.cps.toList && risingS x r) = true := h
    rw [Bool.and_eq_true, Bool.not_eq_true', ltCps_eq, decide_eq_false_iff_not] at h
    have ih := rising_pw r x h.2
    refine List.pairwise_cons.mpr ⟨fun y hy => ?_, ih⟩
    rcases List.mem_cons.mp hy with rfl | hy
    · exact h.1
    · exact List.le_trans (List.not_lt.mp h.1) (List.not_lt.mp ((List.pairwise_cons.mp ih).1 y hy))
theorem sorted_pw {zs : List Str} (h : sortedS zs = true) (nd : zs.Nodup) : zs.Pairwise fun a b => ltS a b = true := by
  cases zs with
  | nil => exact .nil
  | cons x r =>
    refine ((rising_pw r x h).and nd).imp fun {a b} h => ?_
    refine decide_eq_true (Classical.byContradiction fun n => h.2 (TL.ext_tl ?_))
    exact List.le_antisymm (List.not_lt.mp h.1) (List.not_lt.mp n)
theorem roadB_mono {ts us : List Str} {r : Road} (h : roadB ts r = true) (m : ∀ t ∈ ts, t ∈ us) : roadB us r = true := by
  unfold roadB at h ⊢
  simp only [Bool.and_eq_true, decide_eq_true_eq] at h ⊢
  obtain ⟨⟨⟨⟨⟨h1, h2⟩, h3⟩, h4⟩, h5⟩, h6⟩ := h
  exact ⟨⟨⟨⟨⟨⟨h1.1, m _ h1.2⟩, m _ h2⟩, h3⟩, h4⟩, h5⟩, h6⟩
section
variable {S : Sto} {R : RK} {Z : ZK} {K : PySem.W.Frag}
theorem k_sorted_strs {p : PV} {ss : List Str} (h : seqOf (dr S p) = some (ss.map PV.str)) : kSorted p S R = ∀ zs : List Str, zs.Perm ss → sortedS zs = true → R (.lst (zs.map PV.str)) S := by
  unfold kSorted
  rw [h]
  show (match strsOf (ss.map PV.str) with
    | some ss => ∀ zs : List Str, zs.Perm ss → sortedS zs = true → R (.lst (zs.map PV.str)) S
    | none => False) = _
  rw [strsOf_map]
theorem k_join {a : Str} {p : PV} {ys : List Str} (h : seqOf (dr S p) = some (ys.map PV.str)) : kJoin (.str a) [p] S R = ((ys.map Str.length).sum + ys.length * a.length ≤ 16777216 ∧ R (.str (Txt.join a ys)) S) := by
  show (match seqOf (dr S p) with
    | some xs => match (strsOf xs : Option (List Str)) with
      | some ys => (ys.map Str.length).sum + ys.length * a.length ≤ 16777216 ∧ R (.str (Txt.join a ys)) S
      | none => False
    | none => False) = _
  rw [h]
  dsimp only
  rw [strsOf_map]
end

/-! ### lengths of texts -/
theorem joinL_len (S : List Nat) : ∀ ps : List (List Nat), (TL.joinL S ps).length ≤ (ps.map List.length).sum + ps.length * S.length
  | [] => Nat.zero_le _
  | [p] => by
    show p.length ≤ (p.length + 0) + 1 * S.length
    omega
  | p :: q :: r => by
    have ih := joinL_len S (q :: r)
    show (p ++ (S ++ TL.joinL S (q :: r))).length ≤ (p.length + (List.map List.length (q :: r)).sum) + (q :: r).length.succ * S.length
    rw [List.length_append, List.length_append, Nat.succ_mul]
    omega
theorem join_len (a : Str) (ys : List Str) : (Txt.join a ys).length ≤ (ys.map Str.length).sum + ys.length * a.length := by
  rw [TL.len_tl, TL.join_eq, TL.tl_join]
  have := joinL_len (TL.tl a) (ys.map TL.tl)
  rw [List.map_map, List.length_map, ← TL.len_tl] at this
  have e : (List.length ∘ TL.tl) = Str.length := funext fun x => (TL.len_tl x).symm
  rwa [e] at this
theorem sum_le {α : Type} {f : α → Nat} {B : Nat} : ∀ (xs : List α), (∀ x ∈ xs, f x ≤ B) → (xs.map f).sum ≤ xs.length * B
  | [], _ => by simp
  | x :: xs, h => by
    have := sum_le xs fun y hy => h y (List.mem_cons_of_mem _ hy)
    have := h x List.mem_cons_self
    rw [List.map_cons, List.sum_cons, List.length_cons, Nat.succ_mul]; omega
theorem app_len (a b : Str) : (a ++ b).length = a.length + b.length := by
  rw [TL.len_tl, TL.tl_append, List.length_append, ← TL.len_tl, ← TL.len_tl]
theorem len_road : ("road" : Str).length = 4 := by decide +kernel
theorem len_town : ("town " : Str).length = 5 := by decide +kernel
theorem len_nl : ("\n" : Str).length = 1 := by decide +kernel
theorem len_sp : (" " : Str).length = 1 := by decide +kernel
theorem len_e : ("" : Str).length = 0 := by decide +kernel
theorem RdOk.wordsLen {r : Road} (h : RdOk r) : ((roadWords r).map Str.length).sum ≤ 38 := by
  unfold roadWords
  simp only [List.map_cons, List.map_nil, List.sum_cons, List.sum_nil]
  have := name_sz h.n
  have := name_sz h.b
  have := name_sz h.f
  have := int_len h.l
  have := int_len (n := r.room) ⟨by have := h.r.1; omega, h.r.2⟩
  rw [len_road]; omega
theorem road_len {r : Road} (h : RdOk r) : (roadLine r).length ≤ 44 := by
  have h1 := join_len " " (roadWords r)
  have h2 := h.wordsLen
  rw [len_sp] at h1
  have h3 : (roadWords r).length = 6 := rfl
  unfold roadLine
  omega
theorem town_len {t : Str} (h : nameB t = true) : (townLine t).length ≤ 13 := by
  unfold townLine
  rw [app_len, len_town]
  have := name_sz h; omega
theorem lines_len {ts : List Str} {rs : List Road} (o : NetOk ts rs) : ∀ x ∈ linesOf ts rs, x.length ≤ 44 := by
  intro x hx
  rcases List.mem_append.mp hx with h | h
  · obtain ⟨t, ht, rfl⟩ := List.mem_map.mp h
    have := town_len (o.tn t ht); omega
  · obtain ⟨r, hr, rfl⟩ := List.mem_map.mp h
    exact road_len (o.rd r hr)
theorem lines_num {ts : List Str} {rs : List Road} (o : NetOk ts rs) : (linesOf ts rs).length ≤ 160 := by
  unfold linesOf
  rw [List.length_append, List.length_map, List.length_map]
  have := o.tl; have := o.rl; omega
theorem sum_lines {ts : List Str} {rs : List Road} (o : NetOk ts rs) : ((((linesOf ts rs).map fun x : Str => (x ++ "\n" : Str)) : List Str).map Str.length).sum ≤ 7200 := by
  rw [List.map_map]
  have := sum_le (f := Str.length ∘ fun x : Str => (x ++ "\n" : Str)) (B := 45) (linesOf ts rs) fun x hx => by
    show (x ++ "\n").length ≤ 45
    rw [app_len, len_nl]
    have := lines_len o x hx; omega
  have := lines_num o
  omega
theorem netText_len {ts : List Str} {rs : List Road} (o : NetOk ts rs) : (netText ts rs).length ≤ 7200 := by
  have h1 := join_len "" ((linesOf ts rs).map fun x => x ++ "\n")
  have h2 := sum_lines o
  rw [len_e] at h1
  unfold netText
  omega
theorem log_small {n : Int} (h : -1000 ≤ n ∧ n ≤ 1000) : n.natAbs.log2 < 1920 := by
  by_cases h0 : n.natAbs = 0
  · rw [h0]; decide
  · have := (Nat.log2_lt h0 (k := 10)).mpr (by omega)
    omega
def partOf : PV → PV
  | .int n => .str (toString n)
  | p => p
theorem road_parts (r : Road) : [PV.str r.name, .str r.bgn, .str r.fin, .int r.len, .int r.room].map partOf = [PV.str r.name, .str r.bgn, .str r.fin, .str (toString r.len), .str (toString r.room)] := rfl

theorem sub_upd {S : Sto} {a : Addr} {o : MO} {S' : Sto} (n : S a = none) (h : ∀ x, x ≠ a → S' x = S x) : Sub S S' := fun b u e => by
  rw [h b fun z => by rw [z, n] at e; cases e]; exact e
theorem pure__law_text (K : PySem.W.Frag) : ∀ ps S R Z, ps.length = 2 → sp__law_text K ps S R Z → w__law_text K (fin R Z) (startP n__law_text ps) S := by
  intro ps S R Z hl h
  obtain ⟨ts, rs, rfl, ok, hR⟩ := h
  have e : startP n__law_text [townsP ts, roadsP rs] = [some (townsP ts), some (roadsP rs), none, none, none, none, none, none, none] := rfl
  rw [e]
  have it_t : ∀ (S : Sto) (RI : List PV → (Sto → Prop) → Sto → Prop), itK (townsP ts) S RI = RI (ts.map PV.str) (fun _ => True) S := fun _ _ => rfl
  have it_r : ∀ (S : Sto) (RI : List PV → (Sto → Prop) → Sto → Prop), itK (roadsP rs) S RI = RI (rs.map roadP) (fun _ => True) S := fun _ _ => rfl
  simp -implicitDefEqProofs only [w__law_text, ↓e_ret, ↓e_retN, ↓e_nxt, ↓e_seq, ↓e_nev, ↓e_brk, ↓e_cnt, ↓e_expr, ↓e_ifs, ↓e_set, ↓e_asg, ↓par2_two, ↓e_par, ↓e_for, ↓e_setF, ↓e_put, ↓opt_some, ↓e_var, ↓e_c, ↓e_b, ↓e_1, ↓e_tst, ↓e_kB, ↓e_tru, ↓e_notT, ↓e_andT, ↓e_orT, ↓truK_bl, ↓e_andV, ↓e_orV, ↓e_notV, ↓e_if, ↓chK_bl, ↓e_ch, ↓e_nil, ↓e_cons, ↓e_tup, ↓e_lst, ↓e_lstF, ↓e_call, ↓e_arN, ↓e_p1, ↓e_p2, ↓e_meth, ↓e_bm, ↓e_fld, ↓e_lc, ↓e_dc, ↓e_it, ↓e_rng1, ↓e_rng2, ↓e_intB, ↓e_sl, ↓e_no, ↓e_so, ↓e_yes, ↓e_anm, ↓gs_0, ↓gs_s, ↓dr_int, ↓dr_str, ↓dr_bl, ↓dr_nn, ↓dr_tup, ↓dr_lst, ↓dr_dct, ↓dr_obj, ↓k_lt_int, ↓k_le_int, ↓k_gt_int, ↓k_ge_int, ↓k_lt_str, ↓k_add_int, ↓k_add_str, ↓k_add_tup, ↓k_add_lst, ↓k_sub, ↓k_mul, ↓k_div, ↓k_mod, ↓k_pow, ↓k_neg, ↓k_eq_int, ↓k_eq_str, ↓k_is_nn, ↓k_is_int, ↓k_is_tup, ↓k_is_obj, ↓k_ix_lst, ↓k_ix_tup, ↓k_ix_str, ↓k_ix_dct, ↓k_len_str, ↓k_len_lst, ↓k_len_tup, ↓k_int_int, ↓k_int_bl, ↓k_abs, ↓k_str_int, ↓k_str_str, ↓k_tup_lst, ↓k_it_str, ↓k_it_tup, ↓k_it_lst, ↓k_in_dct, ↓e_enum, ↓k_en_tup, ↓k_en_lst, ↓e_atp, ↓e_lcM, ↓par3_three, ↓e_lits, ↓e_par3, ↓e_rev, ↓e_dct0, ↓e_nevE, ↓e_raise1, ↓e_exF, ↓e_exI, ↓e_tryA, ↓k_rev_lst, ↓k_addM_lst, ↓k_max2, ↓k_min2, List.set_cons_zero, List.set_cons_succ, wipeP, it_t, it_r]
  refine wLcL_allM PV.str (fun t => PV.str (townLine t ++ "\n")) trivial _ (fun x hx R' hR' => ?_) (sz0 (by have := ok.tl; omega)) ?_
  · simp -implicitDefEqProofs only [w__law_text_1, ↓e_ret, ↓e_retN, ↓e_nxt, ↓e_seq, ↓e_nev, ↓e_brk, ↓e_cnt, ↓e_expr, ↓e_ifs, ↓e_set, ↓e_asg, ↓par2_two, ↓e_par, ↓e_for, ↓e_setF, ↓e_put, ↓opt_some, ↓e_var, ↓e_c, ↓e_b, ↓e_1, ↓e_tst, ↓e_kB, ↓e_tru, ↓e_notT, ↓e_andT, ↓e_orT, ↓truK_bl, ↓e_andV, ↓e_orV, ↓e_notV, ↓e_if, ↓chK_bl, ↓e_ch, ↓e_nil, ↓e_cons, ↓e_tup, ↓e_lst, ↓e_lstF, ↓e_call, ↓e_arN, ↓e_p1, ↓e_p2, ↓e_meth, ↓e_bm, ↓e_fld, ↓e_lc, ↓e_dc, ↓e_it, ↓e_rng1, ↓e_rng2, ↓e_intB, ↓e_sl, ↓e_no, ↓e_so, ↓e_yes, ↓e_anm, ↓gs_0, ↓gs_s, ↓dr_int, ↓dr_str, ↓dr_bl, ↓dr_nn, ↓dr_tup, ↓dr_lst, ↓dr_dct, ↓dr_obj, ↓k_lt_int, ↓k_le_int, ↓k_gt_int, ↓k_ge_int, ↓k_lt_str, ↓k_add_int, ↓k_add_str, ↓k_add_tup, ↓k_add_lst, ↓k_sub, ↓k_mul, ↓k_div, ↓k_mod, ↓k_pow, ↓k_neg, ↓k_eq_int, ↓k_eq_str, ↓k_is_nn, ↓k_is_int, ↓k_is_tup, ↓k_is_obj, ↓k_ix_lst, ↓k_ix_tup, ↓k_ix_str, ↓k_ix_dct, ↓k_len_str, ↓k_len_lst, ↓k_len_tup, ↓k_int_int, ↓k_int_bl, ↓k_abs, ↓k_str_int, ↓k_str_str, ↓k_tup_lst, ↓k_it_str, ↓k_it_tup, ↓k_it_lst, ↓k_in_dct, ↓e_enum, ↓k_en_tup, ↓k_en_lst, ↓e_atp, ↓e_lcM, ↓par3_three, ↓e_lits, ↓e_par3, ↓e_rev, ↓e_dct0, ↓e_nevE, ↓e_raise1, ↓e_exF, ↓e_exI, ↓e_tryA, ↓k_rev_lst, ↓k_addM_lst, ↓k_max2, ↓k_min2, List.set_cons_zero, List.set_cons_succ, wipeP]
    have := town_len (ok.tn x hx)
    unfold townLine at this
    rw [app_len] at this
    refine ⟨sz0 (by omega), ?_, hR'⟩
    rw [app_len, len_nl]
    exact sz0 (by omega)
  intro a ha
  refine wForL_inv roadP (fun rest ρ S' => (∀ r ∈ rest, RdOk r) ∧ (∃ done, rs = done ++ rest ∧ S' a = some (.lst ((linesOf ts done).map fun x => PV.str (x ++ "\n")))) ∧ (∀ x, x ≠ a → S' x = S x) ∧ ∃ y1 y2 y3 y4 y5 y6, ρ = [some (townsP ts), some (roadsP rs), some (.ref a), y1, y2, y3, y4, y5, y6])
    (fun r rest ρ S' ⟨h1, ⟨done, h2, h3⟩, h4, y1, y2, y3, y4, y5, y6, h5⟩ => ?_) (fun ρ S' ⟨h1, ⟨done, h2, h3⟩, h4, y1, y2, y3, y4, y5, y6, h5⟩ => ?_) rs _ _ ⟨ok.rd, ⟨[], rfl, ?_⟩, ?_, _, _, _, _, _, _, rfl⟩
  · subst h5
    refine ⟨trivial, fun N hN => ?_⟩
    have hr := h1 r List.mem_cons_self
    have ea : ∀ f : Slots → Prop, asg (.tp [3, 4, 5, 6, 7]) (roadP r) [some (townsP ts), some (roadsP rs), some (.ref a), y1, y2, y3, y4, y5, y6] S' f = (5 = 5 ∧ f [some (townsP ts), some (roadsP rs), some (.ref a), some (.str r.name), some (.str r.bgn), some (.str r.fin), some (.int r.len), some (.int r.room), y6]) := fun _ => rfl
    rw [ea]
    refine ⟨rfl, ?_⟩
    simp -implicitDefEqProofs only [w__law_text_2, ↓e_ret, ↓e_retN, ↓e_nxt, ↓e_seq, ↓e_nev, ↓e_brk, ↓e_cnt, ↓e_expr, ↓e_ifs, ↓e_set, ↓e_asg, ↓par2_two, ↓e_par, ↓e_for, ↓e_setF, ↓e_put, ↓opt_some, ↓e_var, ↓e_c, ↓e_b, ↓e_1, ↓e_tst, ↓e_kB, ↓e_tru, ↓e_notT, ↓e_andT, ↓e_orT, ↓truK_bl, ↓e_andV, ↓e_orV, ↓e_notV, ↓e_if, ↓chK_bl, ↓e_ch, ↓e_nil, ↓e_cons, ↓e_tup, ↓e_lst, ↓e_lstF, ↓e_call, ↓e_arN, ↓e_p1, ↓e_p2, ↓e_meth, ↓e_bm, ↓e_fld, ↓e_lc, ↓e_dc, ↓e_it, ↓e_rng1, ↓e_rng2, ↓e_intB, ↓e_sl, ↓e_no, ↓e_so, ↓e_yes, ↓e_anm, ↓gs_0, ↓gs_s, ↓dr_int, ↓dr_str, ↓dr_bl, ↓dr_nn, ↓dr_tup, ↓dr_lst, ↓dr_dct, ↓dr_obj, ↓k_lt_int, ↓k_le_int, ↓k_gt_int, ↓k_ge_int, ↓k_lt_str, ↓k_add_int, ↓k_add_str, ↓k_add_tup, ↓k_add_lst, ↓k_sub, ↓k_mul, ↓k_div, ↓k_mod, ↓k_pow, ↓k_neg, ↓k_eq_int, ↓k_eq_str, ↓k_is_nn, ↓k_is_int, ↓k_is_tup, ↓k_is_obj, ↓k_ix_lst, ↓k_ix_tup, ↓k_ix_str, ↓k_ix_dct, ↓k_len_str, ↓k_len_lst, ↓k_len_tup, ↓k_int_int, ↓k_int_bl, ↓k_abs, ↓k_str_int, ↓k_str_str, ↓k_tup_lst, ↓k_it_str, ↓k_it_tup, ↓k_it_lst, ↓k_in_dct, ↓e_enum, ↓k_en_tup, ↓k_en_lst, ↓e_atp, ↓e_lcM, ↓par3_three, ↓e_lits, ↓e_par3, ↓e_rev, ↓e_dct0, ↓e_nevE, ↓e_raise1, ↓e_exF, ↓e_exI, ↓e_tryA, ↓k_rev_lst, ↓k_addM_lst, ↓k_max2, ↓k_min2, List.set_cons_zero, List.set_cons_succ, wipeP, k_tyB_ref h3, true_and]
    have rm : -1000 ≤ r.room ∧ r.room ≤ 1000 := ⟨by have := hr.r.1; omega, hr.r.2⟩
    refine ⟨rfl, log_small hr.l, log_small rm, sz0 (by simp), ?_⟩
    rw [k_join (ys := roadWords r) rfl]
    have hw := hr.wordsLen
    have h6 : (roadWords r).length = 6 := rfl
    have hrl := road_len hr
    refine ⟨by rw [len_sp]; omega, ?_⟩
    simp -implicitDefEqProofs only [↓e_ret, ↓e_retN, ↓e_nxt, ↓e_seq, ↓e_nev, ↓e_brk, ↓e_cnt, ↓e_expr, ↓e_ifs, ↓e_set, ↓e_asg, ↓par2_two, ↓e_par, ↓e_for, ↓e_setF, ↓e_put, ↓opt_some, ↓e_var, ↓e_c, ↓e_b, ↓e_1, ↓e_tst, ↓e_kB, ↓e_tru, ↓e_notT, ↓e_andT, ↓e_orT, ↓truK_bl, ↓e_andV, ↓e_orV, ↓e_notV, ↓e_if, ↓chK_bl, ↓e_ch, ↓e_nil, ↓e_cons, ↓e_tup, ↓e_lst, ↓e_lstF, ↓e_call, ↓e_arN, ↓e_p1, ↓e_p2, ↓e_meth, ↓e_bm, ↓e_fld, ↓e_lc, ↓e_dc, ↓e_it, ↓e_rng1, ↓e_rng2, ↓e_intB, ↓e_sl, ↓e_no, ↓e_so, ↓e_yes, ↓e_anm, ↓gs_0, ↓gs_s, ↓dr_int, ↓dr_str, ↓dr_bl, ↓dr_nn, ↓dr_tup, ↓dr_lst, ↓dr_dct, ↓dr_obj, ↓k_lt_int, ↓k_le_int, ↓k_gt_int, ↓k_ge_int, ↓k_lt_str, ↓k_add_int, ↓k_add_str, ↓k_add_tup, ↓k_add_lst, ↓k_sub, ↓k_mul, ↓k_div, ↓k_mod, ↓k_pow, ↓k_neg, ↓k_eq_int, ↓k_eq_str, ↓k_is_nn, ↓k_is_int, ↓k_is_tup, ↓k_is_obj, ↓k_ix_lst, ↓k_ix_tup, ↓k_ix_str, ↓k_ix_dct, ↓k_len_str, ↓k_len_lst, ↓k_len_tup, ↓k_int_int, ↓k_int_bl, ↓k_abs, ↓k_str_int, ↓k_str_str, ↓k_tup_lst, ↓k_it_str, ↓k_it_tup, ↓k_it_lst, ↓k_in_dct, ↓e_enum, ↓k_en_tup, ↓k_en_lst, ↓e_atp, ↓e_lcM, ↓par3_three, ↓e_lits, ↓e_par3, ↓e_rev, ↓e_dct0, ↓e_nevE, ↓e_raise1, ↓e_exF, ↓e_exI, ↓e_tryA, ↓k_rev_lst, ↓k_addM_lst, ↓k_max2, ↓k_min2, List.set_cons_zero, List.set_cons_succ, wipeP]
    refine ⟨sz0 (by rw [len_nl]; show (roadLine r).length + 1 ≤ 1000; omega), ?_⟩
    rw [k_app h3]
    refine ⟨?_, hN _ _ ⟨fun q hq => h1 q (List.mem_cons_of_mem _ hq), ⟨done ++ [r], by rw [h2, List.append_assoc]; rfl, ?_⟩, fun x hx => ?_, _, _, _, _, _, _, rfl⟩⟩
    · have h7 : rs.length = done.length + (rest.length + 1) := by rw [h2, List.length_append, List.length_cons]
      have := ok.rl
      have := ok.tl
      unfold linesOf
      rw [List.length_map, List.length_append, List.length_map, List.length_map, sizeLine_eq]; omega
    · rw [updS_same]
      unfold linesOf
      rw [List.map_append (l₁ := done), ← List.append_assoc, List.map_append (l₂ := [r].map roadLine)]
      rfl
    · rw [updS_ne hx]; exact h4 x hx
  · subst h5
    rw [List.append_nil] at h2
    subst h2
    refine ⟨trivial, ?_⟩
    simp -implicitDefEqProofs only [↓e_ret, ↓e_retN, ↓e_nxt, ↓e_seq, ↓e_nev, ↓e_brk, ↓e_cnt, ↓e_expr, ↓e_ifs, ↓e_set, ↓e_asg, ↓par2_two, ↓e_par, ↓e_for, ↓e_setF, ↓e_put, ↓opt_some, ↓e_var, ↓e_c, ↓e_b, ↓e_1, ↓e_tst, ↓e_kB, ↓e_tru, ↓e_notT, ↓e_andT, ↓e_orT, ↓truK_bl, ↓e_andV, ↓e_orV, ↓e_notV, ↓e_if, ↓chK_bl, ↓e_ch, ↓e_nil, ↓e_cons, ↓e_tup, ↓e_lst, ↓e_lstF, ↓e_call, ↓e_arN, ↓e_p1, ↓e_p2, ↓e_meth, ↓e_bm, ↓e_fld, ↓e_lc, ↓e_dc, ↓e_it, ↓e_rng1, ↓e_rng2, ↓e_intB, ↓e_sl, ↓e_no, ↓e_so, ↓e_yes, ↓e_anm, ↓gs_0, ↓gs_s, ↓dr_int, ↓dr_str, ↓dr_bl, ↓dr_nn, ↓dr_tup, ↓dr_lst, ↓dr_dct, ↓dr_obj, ↓k_lt_int, ↓k_le_int, ↓k_gt_int, ↓k_ge_int, ↓k_lt_str, ↓k_add_int, ↓k_add_str, ↓k_add_tup, ↓k_add_lst, ↓k_sub, ↓k_mul, ↓k_div, ↓k_mod, ↓k_pow, ↓k_neg, ↓k_eq_int, ↓k_eq_str, ↓k_is_nn, ↓k_is_int, ↓k_is_tup, ↓k_is_obj, ↓k_ix_lst, ↓k_ix_tup, ↓k_ix_str, ↓k_ix_dct, ↓k_len_str, ↓k_len_lst, ↓k_len_tup, ↓k_int_int, ↓k_int_bl, ↓k_abs, ↓k_str_int, ↓k_str_str, ↓k_tup_lst, ↓k_it_str, ↓k_it_tup, ↓k_it_lst, ↓k_in_dct, ↓e_enum, ↓k_en_tup, ↓k_en_lst, ↓e_atp, ↓e_lcM, ↓par3_three, ↓e_lits, ↓e_par3, ↓e_rev, ↓e_dct0, ↓e_nevE, ↓e_raise1, ↓e_exF, ↓e_exI, ↓e_tryA, ↓k_rev_lst, ↓k_addM_lst, ↓k_max2, ↓k_min2, List.set_cons_zero, List.set_cons_succ, wipeP]
    refine ⟨rfl, ?_⟩
    rw [k_join (ys := (linesOf ts rs).map fun x => x ++ "\n") (by rw [dr_refL h3, List.map_map]; rfl)]
    refine ⟨?_, gR_sub (sub_upd (o := .lst []) ha h4) hR⟩
    have := sum_lines ok
    rw [len_e]; omega
  · rw [updS_same]
    unfold linesOf
    rw [List.map_nil, List.append_nil, List.map_map]; rfl
  · intro x hx
    exact updS_ne hx

/-! ### the law's own -/
theorem pure__law_hand (K : PySem.W.Frag) : ∀ ps S R Z, ps.length = 1 → sp__law_hand K ps S R Z → w__law_hand K (fin R Z) (startP n__law_hand ps) S := by
  intro ps S R Z hl h
  obtain ⟨ns, rfl, hR⟩ := h
  have e : startP n__law_hand [.lst (ns.map PV.int)] = [some (.lst (ns.map PV.int)), none, none] := rfl
  rw [e]
  have sl : ∀ (S : Sto) (R' : RK), kSl (.lst (ns.map PV.int)) none (some 63) S R' = R' (.lst (cutP (ns.map PV.int) none (some 63))) S := fun _ _ => rfl
  have hcut : ∃ ms : List Int, cutP (ns.map PV.int) none (some 63) = ms.map PV.int ∧ ms.length ≤ 63 := by
    refine ⟨(ns.drop (HT.sIx (ns.map PV.int).length 0 none)).take (HT.sIx (ns.map PV.int).length (ns.map PV.int).length (some 63) - HT.sIx (ns.map PV.int).length 0 none), ?_, ?_⟩
    · unfold cutP
      rw [List.map_take, List.map_drop]
    · rw [List.length_take]
      have : HT.sIx (ns.map PV.int).length (ns.map PV.int).length (some 63) ≤ 63 := by
        unfold HT.sIx
        simp
        omega
      omega
  obtain ⟨ms, h1, h2⟩ := hcut
  simp -implicitDefEqProofs only [w__law_hand, ↓e_ret, ↓e_retN, ↓e_nxt, ↓e_seq, ↓e_nev, ↓e_brk, ↓e_cnt, ↓e_expr, ↓e_ifs, ↓e_set, ↓e_asg, ↓par2_two, ↓e_par, ↓e_for, ↓e_setF, ↓e_put, ↓opt_some, ↓e_var, ↓e_c, ↓e_b, ↓e_1, ↓e_tst, ↓e_kB, ↓e_tru, ↓e_notT, ↓e_andT, ↓e_orT, ↓truK_bl, ↓e_andV, ↓e_orV, ↓e_notV, ↓e_if, ↓chK_bl, ↓e_ch, ↓e_nil, ↓e_cons, ↓e_tup, ↓e_lst, ↓e_lstF, ↓e_call, ↓e_arN, ↓e_p1, ↓e_p2, ↓e_meth, ↓e_bm, ↓e_fld, ↓e_lc, ↓e_dc, ↓e_it, ↓e_rng1, ↓e_rng2, ↓e_intB, ↓e_sl, ↓e_no, ↓e_so, ↓e_yes, ↓e_anm, ↓gs_0, ↓gs_s, ↓dr_int, ↓dr_str, ↓dr_bl, ↓dr_nn, ↓dr_tup, ↓dr_lst, ↓dr_dct, ↓dr_obj, ↓k_lt_int, ↓k_le_int, ↓k_gt_int, ↓k_ge_int, ↓k_lt_str, ↓k_add_int, ↓k_add_str, ↓k_add_tup, ↓k_add_lst, ↓k_sub, ↓k_mul, ↓k_div, ↓k_mod, ↓k_pow, ↓k_neg, ↓k_eq_int, ↓k_eq_str, ↓k_is_nn, ↓k_is_int, ↓k_is_tup, ↓k_is_obj, ↓k_ix_lst, ↓k_ix_tup, ↓k_ix_str, ↓k_ix_dct, ↓k_len_str, ↓k_len_lst, ↓k_len_tup, ↓k_int_int, ↓k_int_bl, ↓k_abs, ↓k_str_int, ↓k_str_str, ↓k_tup_lst, ↓k_it_str, ↓k_it_tup, ↓k_it_lst, ↓k_in_dct, ↓e_enum, ↓k_en_tup, ↓k_en_lst, ↓e_atp, ↓e_lcM, ↓par3_three, ↓e_lits, ↓e_par3, ↓e_rev, ↓e_dct0, ↓e_nevE, ↓e_raise1, ↓e_exF, ↓e_exI, ↓e_tryA, ↓k_rev_lst, ↓k_addM_lst, ↓k_max2, ↓k_min2, List.set_cons_zero, List.set_cons_succ, wipeP, sl, h1]
  refine wLcL_allM PV.int (fun n => PV.int (if n < 0 then -n else n)) trivial _ (fun x hx R' hR' => ?_) (sz0 (by omega)) ?_
  · simp -implicitDefEqProofs only [w__law_hand_1, ↓e_ret, ↓e_retN, ↓e_nxt, ↓e_seq, ↓e_nev, ↓e_brk, ↓e_cnt, ↓e_expr, ↓e_ifs, ↓e_set, ↓e_asg, ↓par2_two, ↓e_par, ↓e_for, ↓e_setF, ↓e_put, ↓opt_some, ↓e_var, ↓e_c, ↓e_b, ↓e_1, ↓e_tst, ↓e_kB, ↓e_tru, ↓e_notT, ↓e_andT, ↓e_orT, ↓truK_bl, ↓e_andV, ↓e_orV, ↓e_notV, ↓e_if, ↓chK_bl, ↓e_ch, ↓e_nil, ↓e_cons, ↓e_tup, ↓e_lst, ↓e_lstF, ↓e_call, ↓e_arN, ↓e_p1, ↓e_p2, ↓e_meth, ↓e_bm, ↓e_fld, ↓e_lc, ↓e_dc, ↓e_it, ↓e_rng1, ↓e_rng2, ↓e_intB, ↓e_sl, ↓e_no, ↓e_so, ↓e_yes, ↓e_anm, ↓gs_0, ↓gs_s, ↓dr_int, ↓dr_str, ↓dr_bl, ↓dr_nn, ↓dr_tup, ↓dr_lst, ↓dr_dct, ↓dr_obj, ↓k_lt_int, ↓k_le_int, ↓k_gt_int, ↓k_ge_int, ↓k_lt_str, ↓k_add_int, ↓k_add_str, ↓k_add_tup, ↓k_add_lst, ↓k_sub, ↓k_mul, ↓k_div, ↓k_mod, ↓k_pow, ↓k_neg, ↓k_eq_int, ↓k_eq_str, ↓k_is_nn, ↓k_is_int, ↓k_is_tup, ↓k_is_obj, ↓k_ix_lst, ↓k_ix_tup, ↓k_ix_str, ↓k_ix_dct, ↓k_len_str, ↓k_len_lst, ↓k_len_tup, ↓k_int_int, ↓k_int_bl, ↓k_abs, ↓k_str_int, ↓k_str_str, ↓k_tup_lst, ↓k_it_str, ↓k_it_tup, ↓k_it_lst, ↓k_in_dct, ↓e_enum, ↓k_en_tup, ↓k_en_lst, ↓e_atp, ↓e_lcM, ↓par3_three, ↓e_lits, ↓e_par3, ↓e_rev, ↓e_dct0, ↓e_nevE, ↓e_raise1, ↓e_exF, ↓e_exI, ↓e_tryA, ↓k_rev_lst, ↓k_addM_lst, ↓k_max2, ↓k_min2, List.set_cons_zero, List.set_cons_succ, wipeP]; exact hR'
  have e2 : (ms.map fun n => PV.int (if n < 0 then -n else n)) = (ms.map fun n : Int => if n < 0 then -n else n).map PV.int := by rw [List.map_map]; rfl
  rw [e2]
  refine ⟨.inl (by omega), sz0 (by simp), fun a ha => gR_now (hR a _ ha ⟨_, 0, _, _, _, updS_same⟩ fun x hx => updS_ne hx)⟩

/-- the cells taken, the number drawn -/
def drawHead (K : PySem.W.Frag) : WS := wIfS (wAndT (tst (wB (kEqA false) (wB kIx (wVar 0) (wC (.int 2))) (wC (.int 0)))) (tst (wB (kLt) (wB kIx (wVar 0) (wC (.int 1))) (wCall (p1 kLen) (wCons (wB kIx (wVar 0) (wC (.int 0))) (wNil)))))) (wSeq (wSet 2 (wB kIx (wB kIx (wVar 0) (wC (.int 0))) (wB kIx (wVar 0) (wC (.int 1))))) (wSeq (wPut (wVar 0) (wC (.int 1)) (wB kAdd (wB kIx (wVar 0) (wC (.int 1))) (wC (.int 1)))) (wSeq (wPut (wVar 0) (wC (.int 3)) (wB kMod (wCall (p1 kInt) (wCons (wB kAdd (wB kAdd (wB kMul (wB kIx (wVar 0) (wC (.int 3))) (wC (.int 69621))) (wB kMul (wVar 2) (wC (.int 48271)))) (wC (.int 17))) (wNil))) (wC (.int 2147483629)))) (wIfS (tst (wB (kGe) (wVar 2) (wB kPow (wC (.int 10)) (wC (.int 18))))) (wPut (wVar 0) (wC (.int 2)) (wVar 2)) (wNext))))) (wNext)
def drawTail (K : PySem.W.Frag) : WS := wSeq (wIfS (tst (wB (kGt) (wB kIx (wVar 0) (wC (.int 2))) (wC (.int 0)))) (wSeq (wSet 3 (wB kMod (wCall (p1 kInt) (wCons (wB kIx (wVar 0) (wC (.int 2))) (wNil))) (wVar 1))) (wSeq (wPut (wVar 0) (wC (.int 2)) (wB kDiv (wB kIx (wVar 0) (wC (.int 2))) (wVar 1))) (wRet (wVar 3)))) (wNext)) (wSeq (wPut (wVar 0) (wC (.int 4)) (wB kAdd (wB kIx (wVar 0) (wC (.int 4))) (wC (.int 1)))) (wSeq (wSet 4 (wB kMod (wCall (p1 kInt) (wCons (wB kMul (wCall (p1 kInt) (wCons (wB kAdd (wB kIx (wVar 0) (wC (.int 3))) (wB kMul (wC (.int 7919)) (wB kIx (wVar 0) (wC (.int 4))))) (wNil))) (wC (.int 40692))) (wNil))) (wC (.int 2147483647)))) (wSeq (wSet 4 (wB kMod (wCall (p1 kInt) (wCons (wB kMul (wVar 4) (wB kAdd (wB kDiv (wVar 4) (wC (.int 1009))) (wC (.int 69621)))) (wNil))) (wC (.int 2147483647)))) (wSeq (wSet 4 (wB kMod (wCall (p1 kInt) (wCons (wB kMul (wVar 4) (wB kAdd (wB kDiv (wVar 4) (wC (.int 2003))) (wC (.int 40014)))) (wNil))) (wC (.int 2147483563)))) (wRet (wB kMod (wCall (p1 kInt) (wCons (wB kDiv (wVar 4) (wC (.int 16))) (wNil))) (wVar 1)))))))
theorem draw_cut (K : PySem.W.Frag) : w__law_draw K = wSeq (drawHead K) (drawTail K) := rfl
def HI (a : Addr) (cells : List Int) (i : Nat) (d f g : Int) (S : Sto) : Prop := S a = some (.lst [.lst (cells.map PV.int), .int i, .int d, .int f, .int g])
section
variable {a : Addr} {cells : List Int} {i : Nat} {d f g : Int} {S : Sto} {R : RK} {v : PV} {k : Sto → Prop}
theorem HI.at (h : HI a cells i d f g S) : HandAt a S := ⟨cells, i, d, f, g, h⟩
theorem HI.i0 (h : HI a cells i d f g S) : kIx (.ref a) (.int 0) S R = R (.lst (cells.map PV.int)) S := by
  rw [k_ix_ref h]; exact propext ⟨fun ⟨z, h1, h2⟩ => by cases h1; exact h2, fun h => ⟨_, rfl, h⟩⟩
theorem HI.i1 (h : HI a cells i d f g S) : kIx (.ref a) (.int 1) S R = R (.int i) S := by
  rw [k_ix_ref h]; exact propext ⟨fun ⟨z, h1, h2⟩ => by cases h1; exact h2, fun h => ⟨_, rfl, h⟩⟩
theorem HI.i2 (h : HI a cells i d f g S) : kIx (.ref a) (.int 2) S R = R (.int d) S := by
  rw [k_ix_ref h]; exact propext ⟨fun ⟨z, h1, h2⟩ => by cases h1; exact h2, fun h => ⟨_, rfl, h⟩⟩
theorem HI.i3 (h : HI a cells i d f g S) : kIx (.ref a) (.int 3) S R = R (.int f) S := by
  rw [k_ix_ref h]; exact propext ⟨fun ⟨z, h1, h2⟩ => by cases h1; exact h2, fun h => ⟨_, rfl, h⟩⟩
theorem HI.i4 (h : HI a cells i d f g S) : kIx (.ref a) (.int 4) S R = R (.int g) S := by
  rw [k_ix_ref h]; exact propext ⟨fun ⟨z, h1, h2⟩ => by cases h1; exact h2, fun h => ⟨_, rfl, h⟩⟩
theorem k_put {xs : List PV} {n : Nat} (h : S a = some (.lst xs)) (hn : n < xs.length) : kPut (.ref a) (.int n) v S k = k (updS S a (.lst (xs.set n v))) := by
  have e : ixN xs.length (n : Int) = some n := by
    unfold ixN
    rw [if_pos (by omega), if_pos (by omega), Int.toNat_natCast]
  show (match S a with
    | some (.lst xs) => ∃ m, ixN xs.length (n : Int) = some m ∧ k (updS S a (.lst (xs.set m v)))
    | some (.dct ks) => ks.length < sizeLine ∧ k (updS S a (.dct (dput ks (.inl n) v)))
    | _ => False) = _
  rw [h]
  dsimp only
  rw [e]
  exact propext ⟨fun ⟨z, h1, h2⟩ => by cases h1; exact h2, fun h => ⟨_, rfl, h⟩⟩
theorem HI.p1 (h : HI a cells i d f g S) {j : Nat} : kPut (.ref a) (.int 1) (.int j) S k = k (updS S a (.lst [.lst (cells.map PV.int), .int j, .int d, .int f, .int g])) := k_put (n := 1) h (by show 1 < 5; omega)
theorem HI.p2 (h : HI a cells i d f g S) {j : Int} : kPut (.ref a) (.int 2) (.int j) S k = k (updS S a (.lst [.lst (cells.map PV.int), .int i, .int j, .int f, .int g])) := k_put (n := 2) h (by show 2 < 5; omega)
theorem HI.p3 (h : HI a cells i d f g S) {j : Int} : kPut (.ref a) (.int 3) (.int j) S k = k (updS S a (.lst [.lst (cells.map PV.int), .int i, .int d, .int j, .int g])) := k_put (n := 3) h (by show 3 < 5; omega)
theorem HI.p4 (h : HI a cells i d f g S) {j : Int} : kPut (.ref a) (.int 4) (.int j) S k = k (updS S a (.lst [.lst (cells.map PV.int), .int i, .int d, .int f, .int j])) := k_put (n := 4) h (by show 4 < 5; omega)
theorem Off.upd {S' : Sto} {o : MO} (h : Off a S S') : Off a S (updS S' a o) := fun x hx => by rw [updS_ne hx]; exact h x hx
end
theorem draw_tail (K : PySem.W.Frag) {a : Addr} {cells : List Int} {i : Nat} {d f g m : Int} {S S0 : Sto} {R : RK} {Z : ZK} {x y z : Option PV} (h : HI a cells i d f g S) (ho : Off a S0 S) (m0 : 0 < m) (m1 : m < 100000)
    (hR : ∀ n S', 0 ≤ n → n < m → HandAt a S' → Off a S0 S' → R (.int n) S') : drawTail K (fin R Z) [some (.ref a), some (.int m), x, y, z] S := by
  simp -implicitDefEqProofs only [drawTail, ↓e_ret, ↓e_retN, ↓e_nxt, ↓e_seq, ↓e_nev, ↓e_brk, ↓e_cnt, ↓e_expr, ↓e_ifs, ↓e_set, ↓e_asg, ↓par2_two, ↓e_par, ↓e_for, ↓e_setF, ↓e_put, ↓opt_some, ↓e_var, ↓e_c, ↓e_b, ↓e_1, ↓e_tst, ↓e_kB, ↓e_tru, ↓e_notT, ↓e_andT, ↓e_orT, ↓truK_bl, ↓e_andV, ↓e_orV, ↓e_notV, ↓e_if, ↓chK_bl, ↓e_ch, ↓e_nil, ↓e_cons, ↓e_tup, ↓e_lst, ↓e_lstF, ↓e_call, ↓e_arN, ↓e_p1, ↓e_p2, ↓e_meth, ↓e_bm, ↓e_fld, ↓e_lc, ↓e_dc, ↓e_it, ↓e_rng1, ↓e_rng2, ↓e_intB, ↓e_sl, ↓e_no, ↓e_so, ↓e_yes, ↓e_anm, ↓gs_0, ↓gs_s, ↓dr_int, ↓dr_str, ↓dr_bl, ↓dr_nn, ↓dr_tup, ↓dr_lst, ↓dr_dct, ↓dr_obj, ↓k_lt_int, ↓k_le_int, ↓k_gt_int, ↓k_ge_int, ↓k_lt_str, ↓k_add_int, ↓k_add_str, ↓k_add_tup, ↓k_add_lst, ↓k_sub, ↓k_mul, ↓k_div, ↓k_mod, ↓k_pow, ↓k_neg, ↓k_eq_int, ↓k_eq_str, ↓k_is_nn, ↓k_is_int, ↓k_is_tup, ↓k_is_obj, ↓k_ix_lst, ↓k_ix_tup, ↓k_ix_str, ↓k_ix_dct, ↓k_len_str, ↓k_len_lst, ↓k_len_tup, ↓k_int_int, ↓k_int_bl, ↓k_abs, ↓k_str_int, ↓k_str_str, ↓k_tup_lst, ↓k_it_str, ↓k_it_tup, ↓k_it_lst, ↓k_in_dct, ↓e_enum, ↓k_en_tup, ↓k_en_lst, ↓e_atp, ↓e_lcM, ↓par3_three, ↓e_lits, ↓e_par3, ↓e_rev, ↓e_dct0, ↓e_nevE, ↓e_raise1, ↓e_exF, ↓e_exI, ↓e_tryA, ↓k_rev_lst, ↓k_addM_lst, ↓k_max2, ↓k_min2, List.set_cons_zero, List.set_cons_succ, wipeP, h.i2]
  have cd : CDiv d m := ⟨m0, by omega⟩
  by_cases hd : 0 < d
  · rw [decide_eq_true hd]
    simp -implicitDefEqProofs only [↓e_ret, ↓e_retN, ↓e_nxt, ↓e_seq, ↓e_nev, ↓e_brk, ↓e_cnt, ↓e_expr, ↓e_ifs, ↓e_set, ↓e_asg, ↓par2_two, ↓e_par, ↓e_for, ↓e_setF, ↓e_put, ↓opt_some, ↓e_var, ↓e_c, ↓e_b, ↓e_1, ↓e_tst, ↓e_kB, ↓e_tru, ↓e_notT, ↓e_andT, ↓e_orT, ↓truK_bl, ↓e_andV, ↓e_orV, ↓e_notV, ↓e_if, ↓chK_bl, ↓e_ch, ↓e_nil, ↓e_cons, ↓e_tup, ↓e_lst, ↓e_lstF, ↓e_call, ↓e_arN, ↓e_p1, ↓e_p2, ↓e_meth, ↓e_bm, ↓e_fld, ↓e_lc, ↓e_dc, ↓e_it, ↓e_rng1, ↓e_rng2, ↓e_intB, ↓e_sl, ↓e_no, ↓e_so, ↓e_yes, ↓e_anm, ↓gs_0, ↓gs_s, ↓dr_int, ↓dr_str, ↓dr_bl, ↓dr_nn, ↓dr_tup, ↓dr_lst, ↓dr_dct, ↓dr_obj, ↓k_lt_int, ↓k_le_int, ↓k_gt_int, ↓k_ge_int, ↓k_lt_str, ↓k_add_int, ↓k_add_str, ↓k_add_tup, ↓k_add_lst, ↓k_sub, ↓k_mul, ↓k_div, ↓k_mod, ↓k_pow, ↓k_neg, ↓k_eq_int, ↓k_eq_str, ↓k_is_nn, ↓k_is_int, ↓k_is_tup, ↓k_is_obj, ↓k_ix_lst, ↓k_ix_tup, ↓k_ix_str, ↓k_ix_dct, ↓k_len_str, ↓k_len_lst, ↓k_len_tup, ↓k_int_int, ↓k_int_bl, ↓k_abs, ↓k_str_int, ↓k_str_str, ↓k_tup_lst, ↓k_it_str, ↓k_it_tup, ↓k_it_lst, ↓k_in_dct, ↓e_enum, ↓k_en_tup, ↓k_en_lst, ↓e_atp, ↓e_lcM, ↓par3_three, ↓e_lits, ↓e_par3, ↓e_rev, ↓e_dct0, ↓e_nevE, ↓e_raise1, ↓e_exF, ↓e_exI, ↓e_tryA, ↓k_rev_lst, ↓k_addM_lst, ↓k_max2, ↓k_min2, List.set_cons_zero, List.set_cons_succ, wipeP, if_true, h.i2, h.p2]
    exact ⟨m0, cd, gR_now (hR _ _ (Int.emod_nonneg _ (by omega)) (Int.emod_lt_of_pos _ m0) (HI.at (i := i) updS_same) ho.upd)⟩
  · rw [decide_eq_false hd]
    simp -implicitDefEqProofs only [↓e_ret, ↓e_retN, ↓e_nxt, ↓e_seq, ↓e_nev, ↓e_brk, ↓e_cnt, ↓e_expr, ↓e_ifs, ↓e_set, ↓e_asg, ↓par2_two, ↓e_par, ↓e_for, ↓e_setF, ↓e_put, ↓opt_some, ↓e_var, ↓e_c, ↓e_b, ↓e_1, ↓e_tst, ↓e_kB, ↓e_tru, ↓e_notT, ↓e_andT, ↓e_orT, ↓truK_bl, ↓e_andV, ↓e_orV, ↓e_notV, ↓e_if, ↓chK_bl, ↓e_ch, ↓e_nil, ↓e_cons, ↓e_tup, ↓e_lst, ↓e_lstF, ↓e_call, ↓e_arN, ↓e_p1, ↓e_p2, ↓e_meth, ↓e_bm, ↓e_fld, ↓e_lc, ↓e_dc, ↓e_it, ↓e_rng1, ↓e_rng2, ↓e_intB, ↓e_sl, ↓e_no, ↓e_so, ↓e_yes, ↓e_anm, ↓gs_0, ↓gs_s, ↓dr_int, ↓dr_str, ↓dr_bl, ↓dr_nn, ↓dr_tup, ↓dr_lst, ↓dr_dct, ↓dr_obj, ↓k_lt_int, ↓k_le_int, ↓k_gt_int, ↓k_ge_int, ↓k_lt_str, ↓k_add_int, ↓k_add_str, ↓k_add_tup, ↓k_add_lst, ↓k_sub, ↓k_mul, ↓k_div, ↓k_mod, ↓k_pow, ↓k_neg, ↓k_eq_int, ↓k_eq_str, ↓k_is_nn, ↓k_is_int, ↓k_is_tup, ↓k_is_obj, ↓k_ix_lst, ↓k_ix_tup, ↓k_ix_str, ↓k_ix_dct, ↓k_len_str, ↓k_len_lst, ↓k_len_tup, ↓k_int_int, ↓k_int_bl, ↓k_abs, ↓k_str_int, ↓k_str_str, ↓k_tup_lst, ↓k_it_str, ↓k_it_tup, ↓k_it_lst, ↓k_in_dct, ↓e_enum, ↓k_en_tup, ↓k_en_lst, ↓e_atp, ↓e_lcM, ↓par3_three, ↓e_lits, ↓e_par3, ↓e_rev, ↓e_dct0, ↓e_nevE, ↓e_raise1, ↓e_exF, ↓e_exI, ↓e_tryA, ↓k_rev_lst, ↓k_addM_lst, ↓k_max2, ↓k_min2, List.set_cons_zero, List.set_cons_succ, wipeP, Bool.false_eq_true, if_false, h.i4, h.p4]
    have h2 : HI a cells i d f (g + 1) (updS S a (.lst [.lst (cells.map PV.int), .int i, .int d, .int f, .int (g + 1)])) := updS_same
    have ho2 : Off a S0 (updS S a (.lst [.lst (cells.map PV.int), .int i, .int d, .int f, .int (g + 1)])) := ho.upd
    generalize updS S a (.lst [.lst (cells.map PV.int), .int i, .int d, .int f, .int (g + 1)]) = S2 at h2 ho2 ⊢
    have md : ∀ (n : Int) (R' : RK), kMod (.int n) (.int 2147483647) S2 R' = ((0 : Int) < 2147483647 ∧ R' (.int (n % 2147483647)) S2) := fun n R' => k_mod
    rw [h2.i3, h2.i4, k_mul]
    refine ⟨.inl (by decide), ?_⟩
    rw [k_add_int, k_int_int, k_mul]
    refine ⟨.inr (by decide), ?_⟩
    rw [k_int_int, k_mod]
    refine ⟨by decide, ?_⟩
    have b1 : ∀ n : Int, 0 ≤ n % 2147483647 ∧ n % 2147483647 < 2147483647 := fun n => ⟨Int.emod_nonneg _ (by decide), Int.emod_lt_of_pos _ (by decide)⟩
    have b2 : ∀ n : Int, 0 ≤ n % 2147483563 ∧ n % 2147483563 < 2147483563 := fun n => ⟨Int.emod_nonneg _ (by decide), Int.emod_lt_of_pos _ (by decide)⟩
    generalize hq1 : (f + 7919 * (g + 1)) * 40692 % 2147483647 = q1
    have c1 := b1 ((f + 7919 * (g + 1)) * 40692)
    rw [hq1] at c1
    rw [k_div]
    refine ⟨⟨by decide, by decide⟩, ?_⟩
    rw [k_add_int, k_mul]
    refine ⟨.inl ⟨by omega, by omega⟩, ?_⟩
    rw [k_int_int, k_mod]
    refine ⟨by decide, ?_⟩
    generalize hq2 : q1 * (q1 / 1009 + 69621) % 2147483647 = q2
    have c2 := b1 (q1 * (q1 / 1009 + 69621))
    rw [hq2] at c2
    rw [k_div]
    refine ⟨⟨by decide, by decide⟩, ?_⟩
    rw [k_add_int, k_mul]
    refine ⟨.inl ⟨by omega, by omega⟩, ?_⟩
    rw [k_int_int, k_mod]
    refine ⟨by decide, ?_⟩
    rw [k_div]
    refine ⟨⟨by decide, by decide⟩, ?_⟩
    rw [k_int_int, k_mod]
    exact ⟨m0, gR_now (hR _ _ (Int.emod_nonneg _ (by omega)) (Int.emod_lt_of_pos _ m0) h2.at ho2)⟩
theorem pure__law_draw (K : PySem.W.Frag) : ∀ ps S R Z, ps.length = 2 → sp__law_draw K ps S R Z → w__law_draw K (fin R Z) (startP n__law_draw ps) S := by
  intro ps S R Z hl h
  obtain ⟨a, m, rfl, ⟨cells, i, d, f, g, hS⟩, m0, m1, hR⟩ := h
  have e : startP n__law_draw [.ref a, .int m] = [some (.ref a), some (.int m), none, none, none] := rfl
  rw [e, draw_cut]
  have hI : HI a cells i d f g S := hS
  have o0 : Off a S S := fun _ _ => rfl
  have tail : ∀ cells i d f g S' x y z, HI a cells i d f g S' → Off a S S' → drawTail K (fin R Z) [some (.ref a), some (.int m), x, y, z] S' := fun cells i d f g S' x y z h ho => draw_tail K h ho m0 m1 hR
  rw [e_seq]
  simp -implicitDefEqProofs only [drawHead, ↓e_ret, ↓e_retN, ↓e_nxt, ↓e_seq, ↓e_nev, ↓e_brk, ↓e_cnt, ↓e_expr, ↓e_ifs, ↓e_set, ↓e_asg, ↓par2_two, ↓e_par, ↓e_for, ↓e_setF, ↓e_put, ↓opt_some, ↓e_var, ↓e_c, ↓e_b, ↓e_1, ↓e_tst, ↓e_kB, ↓e_tru, ↓e_notT, ↓e_andT, ↓e_orT, ↓truK_bl, ↓e_andV, ↓e_orV, ↓e_notV, ↓e_if, ↓chK_bl, ↓e_ch, ↓e_nil, ↓e_cons, ↓e_tup, ↓e_lst, ↓e_lstF, ↓e_call, ↓e_arN, ↓e_p1, ↓e_p2, ↓e_meth, ↓e_bm, ↓e_fld, ↓e_lc, ↓e_dc, ↓e_it, ↓e_rng1, ↓e_rng2, ↓e_intB, ↓e_sl, ↓e_no, ↓e_so, ↓e_yes, ↓e_anm, ↓gs_0, ↓gs_s, ↓dr_int, ↓dr_str, ↓dr_bl, ↓dr_nn, ↓dr_tup, ↓dr_lst, ↓dr_dct, ↓dr_obj, ↓k_lt_int, ↓k_le_int, ↓k_gt_int, ↓k_ge_int, ↓k_lt_str, ↓k_add_int, ↓k_add_str, ↓k_add_tup, ↓k_add_lst, ↓k_sub, ↓k_mul, ↓k_div, ↓k_mod, ↓k_pow, ↓k_neg, ↓k_eq_int, ↓k_eq_str, ↓k_is_nn, ↓k_is_int, ↓k_is_tup, ↓k_is_obj, ↓k_ix_lst, ↓k_ix_tup, ↓k_ix_str, ↓k_ix_dct, ↓k_len_str, ↓k_len_lst, ↓k_len_tup, ↓k_int_int, ↓k_int_bl, ↓k_abs, ↓k_str_int, ↓k_str_str, ↓k_tup_lst, ↓k_it_str, ↓k_it_tup, ↓k_it_lst, ↓k_in_dct, ↓e_enum, ↓k_en_tup, ↓k_en_lst, ↓e_atp, ↓e_lcM, ↓par3_three, ↓e_lits, ↓e_par3, ↓e_rev, ↓e_dct0, ↓e_nevE, ↓e_raise1, ↓e_exF, ↓e_exI, ↓e_tryA, ↓k_rev_lst, ↓k_addM_lst, ↓k_max2, ↓k_min2, List.set_cons_zero, List.set_cons_succ, wipeP, hI.i2, hI.i1, hI.i0, List.length_map]
  by_cases h1 : d = 0
  · rw [decide_eq_true h1]
    simp -implicitDefEqProofs only [↓e_ret, ↓e_retN, ↓e_nxt, ↓e_seq, ↓e_nev, ↓e_brk, ↓e_cnt, ↓e_expr, ↓e_ifs, ↓e_set, ↓e_asg, ↓par2_two, ↓e_par, ↓e_for, ↓e_setF, ↓e_put, ↓opt_some, ↓e_var, ↓e_c, ↓e_b, ↓e_1, ↓e_tst, ↓e_kB, ↓e_tru, ↓e_notT, ↓e_andT, ↓e_orT, ↓truK_bl, ↓e_andV, ↓e_orV, ↓e_notV, ↓e_if, ↓chK_bl, ↓e_ch, ↓e_nil, ↓e_cons, ↓e_tup, ↓e_lst, ↓e_lstF, ↓e_call, ↓e_arN, ↓e_p1, ↓e_p2, ↓e_meth, ↓e_bm, ↓e_fld, ↓e_lc, ↓e_dc, ↓e_it, ↓e_rng1, ↓e_rng2, ↓e_intB, ↓e_sl, ↓e_no, ↓e_so, ↓e_yes, ↓e_anm, ↓gs_0, ↓gs_s, ↓dr_int, ↓dr_str, ↓dr_bl, ↓dr_nn, ↓dr_tup, ↓dr_lst, ↓dr_dct, ↓dr_obj, ↓k_lt_int, ↓k_le_int, ↓k_gt_int, ↓k_ge_int, ↓k_lt_str, ↓k_add_int, ↓k_add_str, ↓k_add_tup, ↓k_add_lst, ↓k_sub, ↓k_mul, ↓k_div, ↓k_mod, ↓k_pow, ↓k_neg, ↓k_eq_int, ↓k_eq_str, ↓k_is_nn, ↓k_is_int, ↓k_is_tup, ↓k_is_obj, ↓k_ix_lst, ↓k_ix_tup, ↓k_ix_str, ↓k_ix_dct, ↓k_len_str, ↓k_len_lst, ↓k_len_tup, ↓k_int_int, ↓k_int_bl, ↓k_abs, ↓k_str_int, ↓k_str_str, ↓k_tup_lst, ↓k_it_str, ↓k_it_tup, ↓k_it_lst, ↓k_in_dct, ↓e_enum, ↓k_en_tup, ↓k_en_lst, ↓e_atp, ↓e_lcM, ↓par3_three, ↓e_lits, ↓e_par3, ↓e_rev, ↓e_dct0, ↓e_nevE, ↓e_raise1, ↓e_exF, ↓e_exI, ↓e_tryA, ↓k_rev_lst, ↓k_addM_lst, ↓k_max2, ↓k_min2, List.set_cons_zero, List.set_cons_succ, wipeP, Bool.bne_false, if_true, hI.i1, hI.i0, List.length_map]
    by_cases h2 : (i : Int) < (cells.length : Int)
    · rw [decide_eq_true h2]
      simp -implicitDefEqProofs only [↓e_ret, ↓e_retN, ↓e_nxt, ↓e_seq, ↓e_nev, ↓e_brk, ↓e_cnt, ↓e_expr, ↓e_ifs, ↓e_set, ↓e_asg, ↓par2_two, ↓e_par, ↓e_for, ↓e_setF, ↓e_put, ↓opt_some, ↓e_var, ↓e_c, ↓e_b, ↓e_1, ↓e_tst, ↓e_kB, ↓e_tru, ↓e_notT, ↓e_andT, ↓e_orT, ↓truK_bl, ↓e_andV, ↓e_orV, ↓e_notV, ↓e_if, ↓chK_bl, ↓e_ch, ↓e_nil, ↓e_cons, ↓e_tup, ↓e_lst, ↓e_lstF, ↓e_call, ↓e_arN, ↓e_p1, ↓e_p2, ↓e_meth, ↓e_bm, ↓e_fld, ↓e_lc, ↓e_dc, ↓e_it, ↓e_rng1, ↓e_rng2, ↓e_intB, ↓e_sl, ↓e_no, ↓e_so, ↓e_yes, ↓e_anm, ↓gs_0, ↓gs_s, ↓dr_int, ↓dr_str, ↓dr_bl, ↓dr_nn, ↓dr_tup, ↓dr_lst, ↓dr_dct, ↓dr_obj, ↓k_lt_int, ↓k_le_int, ↓k_gt_int, ↓k_ge_int, ↓k_lt_str, ↓k_add_int, ↓k_add_str, ↓k_add_tup, ↓k_add_lst, ↓k_sub, ↓k_mul, ↓k_div, ↓k_mod, ↓k_pow, ↓k_neg, ↓k_eq_int, ↓k_eq_str, ↓k_is_nn, ↓k_is_int, ↓k_is_tup, ↓k_is_obj, ↓k_ix_lst, ↓k_ix_tup, ↓k_ix_str, ↓k_ix_dct, ↓k_len_str, ↓k_len_lst, ↓k_len_tup, ↓k_int_int, ↓k_int_bl, ↓k_abs, ↓k_str_int, ↓k_str_str, ↓k_tup_lst, ↓k_it_str, ↓k_it_tup, ↓k_it_lst, ↓k_in_dct, ↓e_enum, ↓k_en_tup, ↓k_en_lst, ↓e_atp, ↓e_lcM, ↓par3_three, ↓e_lits, ↓e_par3, ↓e_rev, ↓e_dct0, ↓e_nevE, ↓e_raise1, ↓e_exF, ↓e_exI, ↓e_tryA, ↓k_rev_lst, ↓k_addM_lst, ↓k_max2, ↓k_min2, List.set_cons_zero, List.set_cons_succ, wipeP, if_true, hI.i1, hI.i0]
      have hi : i < cells.length := by omega
      refine ⟨.int cells[i], atI_nn (j := i) rfl (by rw [List.getElem?_map, List.getElem?_eq_getElem hi]; rfl), ?_⟩
      simp -implicitDefEqProofs only [↓e_ret, ↓e_retN, ↓e_nxt, ↓e_seq, ↓e_nev, ↓e_brk, ↓e_cnt, ↓e_expr, ↓e_ifs, ↓e_set, ↓e_asg, ↓par2_two, ↓e_par, ↓e_for, ↓e_setF, ↓e_put, ↓opt_some, ↓e_var, ↓e_c, ↓e_b, ↓e_1, ↓e_tst, ↓e_kB, ↓e_tru, ↓e_notT, ↓e_andT, ↓e_orT, ↓truK_bl, ↓e_andV, ↓e_orV, ↓e_notV, ↓e_if, ↓chK_bl, ↓e_ch, ↓e_nil, ↓e_cons, ↓e_tup, ↓e_lst, ↓e_lstF, ↓e_call, ↓e_arN, ↓e_p1, ↓e_p2, ↓e_meth, ↓e_bm, ↓e_fld, ↓e_lc, ↓e_dc, ↓e_it, ↓e_rng1, ↓e_rng2, ↓e_intB, ↓e_sl, ↓e_no, ↓e_so, ↓e_yes, ↓e_anm, ↓gs_0, ↓gs_s, ↓dr_int, ↓dr_str, ↓dr_bl, ↓dr_nn, ↓dr_tup, ↓dr_lst, ↓dr_dct, ↓dr_obj, ↓k_lt_int, ↓k_le_int, ↓k_gt_int, ↓k_ge_int, ↓k_lt_str, ↓k_add_int, ↓k_add_str, ↓k_add_tup, ↓k_add_lst, ↓k_sub, ↓k_mul, ↓k_div, ↓k_mod, ↓k_pow, ↓k_neg, ↓k_eq_int, ↓k_eq_str, ↓k_is_nn, ↓k_is_int, ↓k_is_tup, ↓k_is_obj, ↓k_ix_lst, ↓k_ix_tup, ↓k_ix_str, ↓k_ix_dct, ↓k_len_str, ↓k_len_lst, ↓k_len_tup, ↓k_int_int, ↓k_int_bl, ↓k_abs, ↓k_str_int, ↓k_str_str, ↓k_tup_lst, ↓k_it_str, ↓k_it_tup, ↓k_it_lst, ↓k_in_dct, ↓e_enum, ↓k_en_tup, ↓k_en_lst, ↓e_atp, ↓e_lcM, ↓par3_three, ↓e_lits, ↓e_par3, ↓e_rev, ↓e_dct0, ↓e_nevE, ↓e_raise1, ↓e_exF, ↓e_exI, ↓e_tryA, ↓k_rev_lst, ↓k_addM_lst, ↓k_max2, ↓k_min2, List.set_cons_zero, List.set_cons_succ, wipeP, hI.i1]
      have ej : ((i : Int) + 1) = ((i + 1 : Nat) : Int) := by omega
      rw [ej, hI.p1]
      have h3 : HI a cells (i + 1) d f g (updS S a (.lst [.lst (cells.map PV.int), .int ((i + 1 : Nat) : Int), .int d, .int f, .int g])) := updS_same
      have o3 : Off a S (updS S a (.lst [.lst (cells.map PV.int), .int ((i + 1 : Nat) : Int), .int d, .int f, .int g])) := o0.upd
      generalize updS S a (.lst [.lst (cells.map PV.int), .int ((i + 1 : Nat) : Int), .int d, .int f, .int g]) = S3 at h3 o3 ⊢
      rw [h3.i3, k_mul]
      refine ⟨.inr (by decide), .inr (by decide), ?_⟩
      rw [k_add_int, k_add_int, k_int_int, k_mod]
      refine ⟨by decide, ?_⟩
      rw [h3.p3]
      refine ⟨⟨by decide, by decide, by decide⟩, ?_⟩
      generalize (f * 69621 + cells[i] * 48271 + 17) % 2147483629 = f2
      have h4 : HI a cells (i + 1) d f2 g (updS S3 a (.lst [.lst (cells.map PV.int), .int ((i + 1 : Nat) : Int), .int d, .int f2, .int g])) := updS_same
      have o4 : Off a S (updS S3 a (.lst [.lst (cells.map PV.int), .int ((i + 1 : Nat) : Int), .int d, .int f2, .int g])) := o3.upd
      generalize updS S3 a (.lst [.lst (cells.map PV.int), .int ((i + 1 : Nat) : Int), .int d, .int f2, .int g]) = S4 at h4 o4 ⊢
      split
      · rw [h4.p2]
        exact tail cells (i + 1) cells[i] f2 g _ _ _ _ updS_same o4.upd
      · exact tail _ _ _ _ _ _ _ _ _ h4 o4
    · rw [decide_eq_false h2]
      simp -implicitDefEqProofs only [↓e_ret, ↓e_retN, ↓e_nxt, ↓e_seq, ↓e_nev, ↓e_brk, ↓e_cnt, ↓e_expr, ↓e_ifs, ↓e_set, ↓e_asg, ↓par2_two, ↓e_par, ↓e_for, ↓e_setF, ↓e_put, ↓opt_some, ↓e_var, ↓e_c, ↓e_b, ↓e_1, ↓e_tst, ↓e_kB, ↓e_tru, ↓e_notT, ↓e_andT, ↓e_orT, ↓truK_bl, ↓e_andV, ↓e_orV, ↓e_notV, ↓e_if, ↓chK_bl, ↓e_ch, ↓e_nil, ↓e_cons, ↓e_tup, ↓e_lst, ↓e_lstF, ↓e_call, ↓e_arN, ↓e_p1, ↓e_p2, ↓e_meth, ↓e_bm, ↓e_fld, ↓e_lc, ↓e_dc, ↓e_it, ↓e_rng1, ↓e_rng2, ↓e_intB, ↓e_sl, ↓e_no, ↓e_so, ↓e_yes, ↓e_anm, ↓gs_0, ↓gs_s, ↓dr_int, ↓dr_str, ↓dr_bl, ↓dr_nn, ↓dr_tup, ↓dr_lst, ↓dr_dct, ↓dr_obj, ↓k_lt_int, ↓k_le_int, ↓k_gt_int, ↓k_ge_int, ↓k_lt_str, ↓k_add_int, ↓k_add_str, ↓k_add_tup, ↓k_add_lst, ↓k_sub, ↓k_mul, ↓k_div, ↓k_mod, ↓k_pow, ↓k_neg, ↓k_eq_int, ↓k_eq_str, ↓k_is_nn, ↓k_is_int, ↓k_is_tup, ↓k_is_obj, ↓k_ix_lst, ↓k_ix_tup, ↓k_ix_str, ↓k_ix_dct, ↓k_len_str, ↓k_len_lst, ↓k_len_tup, ↓k_int_int, ↓k_int_bl, ↓k_abs, ↓k_str_int, ↓k_str_str, ↓k_tup_lst, ↓k_it_str, ↓k_it_tup, ↓k_it_lst, ↓k_in_dct, ↓e_enum, ↓k_en_tup, ↓k_en_lst, ↓e_atp, ↓e_lcM, ↓par3_three, ↓e_lits, ↓e_par3, ↓e_rev, ↓e_dct0, ↓e_nevE, ↓e_raise1, ↓e_exF, ↓e_exI, ↓e_tryA, ↓k_rev_lst, ↓k_addM_lst, ↓k_max2, ↓k_min2, List.set_cons_zero, List.set_cons_succ, wipeP, Bool.false_eq_true, if_false]
      exact tail _ _ _ _ _ _ _ _ _ hI o0
  · rw [decide_eq_false h1]
    simp -implicitDefEqProofs only [↓e_ret, ↓e_retN, ↓e_nxt, ↓e_seq, ↓e_nev, ↓e_brk, ↓e_cnt, ↓e_expr, ↓e_ifs, ↓e_set, ↓e_asg, ↓par2_two, ↓e_par, ↓e_for, ↓e_setF, ↓e_put, ↓opt_some, ↓e_var, ↓e_c, ↓e_b, ↓e_1, ↓e_tst, ↓e_kB, ↓e_tru, ↓e_notT, ↓e_andT, ↓e_orT, ↓truK_bl, ↓e_andV, ↓e_orV, ↓e_notV, ↓e_if, ↓chK_bl, ↓e_ch, ↓e_nil, ↓e_cons, ↓e_tup, ↓e_lst, ↓e_lstF, ↓e_call, ↓e_arN, ↓e_p1, ↓e_p2, ↓e_meth, ↓e_bm, ↓e_fld, ↓e_lc, ↓e_dc, ↓e_it, ↓e_rng1, ↓e_rng2, ↓e_intB, ↓e_sl, ↓e_no, ↓e_so, ↓e_yes, ↓e_anm, ↓gs_0, ↓gs_s, ↓dr_int, ↓dr_str, ↓dr_bl, ↓dr_nn, ↓dr_tup, ↓dr_lst, ↓dr_dct, ↓dr_obj, ↓k_lt_int, ↓k_le_int, ↓k_gt_int, ↓k_ge_int, ↓k_lt_str, ↓k_add_int, ↓k_add_str, ↓k_add_tup, ↓k_add_lst, ↓k_sub, ↓k_mul, ↓k_div, ↓k_mod, ↓k_pow, ↓k_neg, ↓k_eq_int, ↓k_eq_str, ↓k_is_nn, ↓k_is_int, ↓k_is_tup, ↓k_is_obj, ↓k_ix_lst, ↓k_ix_tup, ↓k_ix_str, ↓k_ix_dct, ↓k_len_str, ↓k_len_lst, ↓k_len_tup, ↓k_int_int, ↓k_int_bl, ↓k_abs, ↓k_str_int, ↓k_str_str, ↓k_tup_lst, ↓k_it_str, ↓k_it_tup, ↓k_it_lst, ↓k_in_dct, ↓e_enum, ↓k_en_tup, ↓k_en_lst, ↓e_atp, ↓e_lcM, ↓par3_three, ↓e_lits, ↓e_par3, ↓e_rev, ↓e_dct0, ↓e_nevE, ↓e_raise1, ↓e_exF, ↓e_exI, ↓e_tryA, ↓k_rev_lst, ↓k_addM_lst, ↓k_max2, ↓k_min2, List.set_cons_zero, List.set_cons_succ, wipeP, Bool.bne_false, Bool.false_eq_true, if_false]
    exact tail _ _ _ _ _ _ _ _ _ hI o0

theorem t_draw {K : PySem.W.Frag} {S : Sto} {R : RK} {Z : ZK} {a : Addr} {m : Int} (h : HandAt a S) (m0 : 0 < m) (m1 : m < 100000) (hR : ∀ n S', 0 ≤ n → n < m → HandAt a S' → Off a S S' → R (.int n) S') : sp__law_draw K [.ref a, .int m] S R Z := ⟨a, m, rfl, h, m0, m1, hR⟩
theorem t_any {K : PySem.W.Frag} {S : Sto} {R : RK} {Z : ZK} {a : Addr} {xs : List PV} (h : HandAt a S) (m0 : 0 < xs.length) (m1 : xs.length < 100000) (hR : ∀ x ∈ xs, ∀ S', HandAt a S' → Off a S S' → R x S') : sp__law_any K [.ref a, .lst xs] S R Z := ⟨a, xs, _, rfl, .inl rfl, h, m0, m1, hR⟩
theorem t_anyR {K : PySem.W.Frag} {S : Sto} {R : RK} {Z : ZK} {a r : Addr} {xs : List PV} (hr : r ≠ a) (hs : S r = some (.lst xs)) (h : HandAt a S) (m0 : 0 < xs.length) (m1 : xs.length < 100000) (hR : ∀ x ∈ xs, ∀ S', HandAt a S' → Off a S S' → R x S') : sp__law_any K [.ref a, .ref r] S R Z := ⟨a, xs, _, rfl, .inr ⟨r, rfl, hr, hs⟩, h, m0, m1, hR⟩
theorem Off.tr {a : Addr} {S S1 S2 : Sto} (h : Off a S S1) (h2 : Off a S1 S2) : Off a S S2 := fun x hx => (h2 x hx).trans (h x hx)
theorem atI_pos {α : Type} {xs : List α} {n : Int} (h0 : 0 ≤ n) (h1 : n < xs.length) : ∃ x ∈ xs, atI xs n = some x := by
  have hi : n.toNat < xs.length := by omega
  exact ⟨xs[n.toNat], List.getElem_mem hi, atI_nn (j := n.toNat) (by omega) (List.getElem?_eq_getElem hi)⟩
theorem pure__law_any (K : PySem.W.Frag) : ∀ ps S R Z, ps.length = 2 → sp__law_any K ps S R Z → w__law_any K (fin R Z) (startP n__law_any ps) S := by
  intro ps S R Z hl h
  obtain ⟨a, xs, q, rfl, hq, hS, m0, m1, hR⟩ := h
  have e : startP n__law_any [.ref a, q] = [some (.ref a), some q] := rfl
  rw [e]
  have l2 : ∀ (R' : RK), kLen q S R' = R' (.int xs.length) S := fun R' => by
    rcases hq with rfl | ⟨r, rfl, hr, hs⟩
    · rfl
    · rw [k_len_ref hs]
  have ix : ∀ (i : Int) (S' : Sto) (R' : RK), Off a S S' → kIx q (.int i) S' R' = ∃ z, atI xs i = some z ∧ R' z S' := fun i S' R' o => by
    rcases hq with rfl | ⟨r, rfl, hr, hs⟩
    · rfl
    · rw [k_ix_ref (by rw [o r hr]; exact hs)]
  simp -implicitDefEqProofs only [w__law_any, ↓e_ret, ↓e_retN, ↓e_nxt, ↓e_seq, ↓e_nev, ↓e_brk, ↓e_cnt, ↓e_expr, ↓e_ifs, ↓e_set, ↓e_asg, ↓par2_two, ↓e_par, ↓e_for, ↓e_setF, ↓e_put, ↓opt_some, ↓e_var, ↓e_c, ↓e_b, ↓e_1, ↓e_tst, ↓e_kB, ↓e_tru, ↓e_notT, ↓e_andT, ↓e_orT, ↓truK_bl, ↓e_andV, ↓e_orV, ↓e_notV, ↓e_if, ↓chK_bl, ↓e_ch, ↓e_nil, ↓e_cons, ↓e_tup, ↓e_lst, ↓e_lstF, ↓e_call, ↓e_arN, ↓e_p1, ↓e_p2, ↓e_meth, ↓e_bm, ↓e_fld, ↓e_lc, ↓e_dc, ↓e_it, ↓e_rng1, ↓e_rng2, ↓e_intB, ↓e_sl, ↓e_no, ↓e_so, ↓e_yes, ↓e_anm, ↓gs_0, ↓gs_s, ↓dr_int, ↓dr_str, ↓dr_bl, ↓dr_nn, ↓dr_tup, ↓dr_lst, ↓dr_dct, ↓dr_obj, ↓k_lt_int, ↓k_le_int, ↓k_gt_int, ↓k_ge_int, ↓k_lt_str, ↓k_add_int, ↓k_add_str, ↓k_add_tup, ↓k_add_lst, ↓k_sub, ↓k_mul, ↓k_div, ↓k_mod, ↓k_pow, ↓k_neg, ↓k_eq_int, ↓k_eq_str, ↓k_is_nn, ↓k_is_int, ↓k_is_tup, ↓k_is_obj, ↓k_ix_lst, ↓k_ix_tup, ↓k_ix_str, ↓k_ix_dct, ↓k_len_str, ↓k_len_lst, ↓k_len_tup, ↓k_int_int, ↓k_int_bl, ↓k_abs, ↓k_str_int, ↓k_str_str, ↓k_tup_lst, ↓k_it_str, ↓k_it_tup, ↓k_it_lst, ↓k_in_dct, ↓e_enum, ↓k_en_tup, ↓k_en_lst, ↓e_atp, ↓e_lcM, ↓par3_three, ↓e_lits, ↓e_par3, ↓e_rev, ↓e_dct0, ↓e_nevE, ↓e_raise1, ↓e_exF, ↓e_exI, ↓e_tryA, ↓k_rev_lst, ↓k_addM_lst, ↓k_max2, ↓k_min2, List.set_cons_zero, List.set_cons_succ, wipeP, ↓l2]
  refine ⟨rfl, t_draw hS (by omega) (by omega) fun n S' h0 h1 hh ho => ?_⟩
  obtain ⟨x, hx, h2⟩ := atI_pos h0 h1
  rw [ix n S' _ ho]
  exact ⟨x, h2, gR_now (hR x hx S' hh ho)⟩

/-! ### numbers that words tell -/
theorem canon_num : ∀ (k : Nat) (l : List Nat), l.length = k → l ≠ [] → (∀ c ∈ l, 48 ≤ c ∧ c ≤ 57) → (l = [48] ∨ l.head? ≠ some 48) → ∃ n, l = TL.numL n := by
  intro k
  induction k with
  | zero => intro l h1 h2; exact absurd (List.length_eq_zero_iff.mp h1) h2
  | succ k ih =>
    intro l h1 h2 h3 h4
    rcases List.eq_nil_or_concat l with h | ⟨l', d, h⟩
    · exact absurd h h2
    rw [List.concat_eq_append] at h
    subst h
    have hd := h3 d (by simp)
    by_cases h0 : l' = []
    · subst h0
      refine ⟨d - 48, ?_⟩
      rw [TL.numL_lt (by omega)]
      show [d] = _
      congr 1; omega
    · have h4' : l'.head? ≠ some 48 := by
        rcases h4 with h4 | h4
        · cases l' with
          | nil => exact absurd rfl h0
          | cons a r => simp at h4
        · cases l' with
          | nil => exact absurd rfl h0
          | cons a r => exact h4
      obtain ⟨m, hm⟩ := ih l' (by rw [List.length_append, List.length_singleton] at h1; omega) h0 (fun c hc => h3 c (List.mem_append_left _ hc)) (.inr h4')
      have hm0 : 0 < m := Nat.pos_of_ne_zero fun z => h4' (by rw [hm, z]; rfl)
      refine ⟨10 * m + (d - 48), ?_⟩
      rw [TL.numL_step (by omega), hm]
      have e1 : (10 * m + (d - 48)) / 10 = m := by omega
      have e2 : (10 * m + (d - 48)) % 10 = d - 48 := by omega
      rw [e1, e2]
      congr 2; omega
theorem digB_iff {c : Nat} : digB c = true ↔ 48 ≤ c ∧ c ≤ 57 := by
  unfold digB
  rw [Bool.and_eq_true, decide_eq_true_eq, decide_eq_true_eq]
theorem dig_eq {c : Nat} : digs.contains c = digB c := by
  rw [Bool.eq_iff_iff, digB_iff, digs_eq, List.contains_iff_mem]
  simp only [List.mem_cons, List.not_mem_nil, or_false]
  omega
theorem tl_zero : ("0" : Str).cps.toList = [48] := by decide +kernel
theorem canon_int {w : Str} (h : canonB w = true) : ∃ n : Nat, w = ((toString (n : Int) : String) : Str) ∧ PySem.intText? w = some (n : Int) := by
  unfold canonB at h
  simp only [Bool.and_eq_true, Bool.or_eq_true, decide_eq_true_eq, List.all_eq_true] at h
  obtain ⟨h1, h2, h3, h4⟩ := h
  obtain ⟨n, hn⟩ := canon_num _ w.cps.toList rfl (fun z => by
    have : w.length = w.cps.toList.length := TL.len_tl w
    rw [z] at this; simp at this; omega) (fun c hc => digB_iff.mp (h3 c hc)) (h4.imp (fun z => by rw [z]; exact tl_zero) id)
  have e : w = ((toString (n : Int) : String) : Str) := TL.ext_tl (hn.trans (tl_nat n).symm)
  refine ⟨n, e, ?_⟩
  rw [e]
  exact TL.int_num (by rw [← tl_nat, ← e]; show Str.length _ ≤ _; omega)
theorem pure_number_in (K : PySem.W.Frag) : ∀ ps S R Z, ps.length = 1 → sp_number_in K ps S R Z → w_number_in K (fin R Z) (startP n_number_in ps) S := by
  intro ps S R Z hl h
  obtain ⟨w, rfl, hz, hR⟩ := h
  have hz1 : w.length ≤ sizeLine := by rw [sizeLine_eq]; unfold TxL at hz; omega
  have e : startP n_number_in [.str w] = [some (.str w), none] := rfl
  rw [e]
  have non : numB w = none → gR R .non S := fun z => gR_now (by rw [z] at hR; exact hR)
  have some_ : canonB w = true → kInt (.str w) S (gR R) := fun z => by
    obtain ⟨n, _, h2⟩ := canon_int z
    refine ⟨n, h2, ?_, gR_now ?_⟩
    · unfold canonB at z
      simp only [Bool.and_eq_true, decide_eq_true_eq] at z
      omega
    · unfold numB at hR
      rw [if_pos z, h2] at hR; exact hR
  have nc : canonB w = false → numB w = none := fun z => by unfold numB; rw [z]; rfl
  simp -implicitDefEqProofs only [w_number_in, ↓e_ret, ↓e_retN, ↓e_nxt, ↓e_seq, ↓e_nev, ↓e_brk, ↓e_cnt, ↓e_expr, ↓e_ifs, ↓e_set, ↓e_asg, ↓par2_two, ↓e_par, ↓e_for, ↓e_setF, ↓e_put, ↓opt_some, ↓e_var, ↓e_c, ↓e_b, ↓e_1, ↓e_tst, ↓e_kB, ↓e_tru, ↓e_notT, ↓e_andT, ↓e_orT, ↓truK_bl, ↓e_andV, ↓e_orV, ↓e_notV, ↓e_if, ↓chK_bl, ↓e_ch, ↓e_nil, ↓e_cons, ↓e_tup, ↓e_lst, ↓e_lstF, ↓e_call, ↓e_arN, ↓e_p1, ↓e_p2, ↓e_meth, ↓e_bm, ↓e_fld, ↓e_lc, ↓e_dc, ↓e_it, ↓e_rng1, ↓e_rng2, ↓e_intB, ↓e_sl, ↓e_no, ↓e_so, ↓e_yes, ↓e_anm, ↓gs_0, ↓gs_s, ↓dr_int, ↓dr_str, ↓dr_bl, ↓dr_nn, ↓dr_tup, ↓dr_lst, ↓dr_dct, ↓dr_obj, ↓k_lt_int, ↓k_le_int, ↓k_gt_int, ↓k_ge_int, ↓k_lt_str, ↓k_add_int, ↓k_add_str, ↓k_add_tup, ↓k_add_lst, ↓k_sub, ↓k_mul, ↓k_div, ↓k_mod, ↓k_pow, ↓k_neg, ↓k_eq_int, ↓k_eq_str, ↓k_is_nn, ↓k_is_int, ↓k_is_tup, ↓k_is_obj, ↓k_ix_lst, ↓k_ix_tup, ↓k_ix_str, ↓k_ix_dct, ↓k_len_str, ↓k_len_lst, ↓k_len_tup, ↓k_int_int, ↓k_int_bl, ↓k_abs, ↓k_str_int, ↓k_str_str, ↓k_tup_lst, ↓k_it_str, ↓k_it_tup, ↓k_it_lst, ↓k_in_dct, ↓e_enum, ↓k_en_tup, ↓k_en_lst, ↓e_atp, ↓e_lcM, ↓par3_three, ↓e_lits, ↓e_par3, ↓e_rev, ↓e_dct0, ↓e_nevE, ↓e_raise1, ↓e_exF, ↓e_exI, ↓e_tryA, ↓k_rev_lst, ↓k_addM_lst, ↓k_max2, ↓k_min2, List.set_cons_zero, List.set_cons_succ, wipeP]
  refine ⟨hz1, ?_⟩
  by_cases c1 : (1 : Int) ≤ (w.length : Int)
  · rw [if_pos (decide_eq_true c1)]
    by_cases c2 : (w.length : Int) ≤ 4
    · rw [decide_eq_true c2]
      simp -implicitDefEqProofs only [↓e_ret, ↓e_retN, ↓e_nxt, ↓e_seq, ↓e_nev, ↓e_brk, ↓e_cnt, ↓e_expr, ↓e_ifs, ↓e_set, ↓e_asg, ↓par2_two, ↓e_par, ↓e_for, ↓e_setF, ↓e_put, ↓opt_some, ↓e_var, ↓e_c, ↓e_b, ↓e_1, ↓e_tst, ↓e_kB, ↓e_tru, ↓e_notT, ↓e_andT, ↓e_orT, ↓truK_bl, ↓e_andV, ↓e_orV, ↓e_notV, ↓e_if, ↓chK_bl, ↓e_ch, ↓e_nil, ↓e_cons, ↓e_tup, ↓e_lst, ↓e_lstF, ↓e_call, ↓e_arN, ↓e_p1, ↓e_p2, ↓e_meth, ↓e_bm, ↓e_fld, ↓e_lc, ↓e_dc, ↓e_it, ↓e_rng1, ↓e_rng2, ↓e_intB, ↓e_sl, ↓e_no, ↓e_so, ↓e_yes, ↓e_anm, ↓gs_0, ↓gs_s, ↓dr_int, ↓dr_str, ↓dr_bl, ↓dr_nn, ↓dr_tup, ↓dr_lst, ↓dr_dct, ↓dr_obj, ↓k_lt_int, ↓k_le_int, ↓k_gt_int, ↓k_ge_int, ↓k_lt_str, ↓k_add_int, ↓k_add_str, ↓k_add_tup, ↓k_add_lst, ↓k_sub, ↓k_mul, ↓k_div, ↓k_mod, ↓k_pow, ↓k_neg, ↓k_eq_int, ↓k_eq_str, ↓k_is_nn, ↓k_is_int, ↓k_is_tup, ↓k_is_obj, ↓k_ix_lst, ↓k_ix_tup, ↓k_ix_str, ↓k_ix_dct, ↓k_len_str, ↓k_len_lst, ↓k_len_tup, ↓k_int_int, ↓k_int_bl, ↓k_abs, ↓k_str_int, ↓k_str_str, ↓k_tup_lst, ↓k_it_str, ↓k_it_tup, ↓k_it_lst, ↓k_in_dct, ↓e_enum, ↓k_en_tup, ↓k_en_lst, ↓e_atp, ↓e_lcM, ↓par3_three, ↓e_lits, ↓e_par3, ↓e_rev, ↓e_dct0, ↓e_nevE, ↓e_raise1, ↓e_exF, ↓e_exI, ↓e_tryA, ↓k_rev_lst, ↓k_addM_lst, ↓k_max2, ↓k_min2, List.set_cons_zero, List.set_cons_succ, wipeP, Bool.not_true, Bool.false_eq_true, if_false, k_it_str]
      refine wLcL_allM (fun c => PV.str ⟨#[c]⟩) (fun c => PV.bl (digs.contains c)) trivial _ (fun x hx R' hR' => ?_) hz1 ?_
      · simp -implicitDefEqProofs only [↓e_ret, ↓e_retN, ↓e_nxt, ↓e_seq, ↓e_nev, ↓e_brk, ↓e_cnt, ↓e_expr, ↓e_ifs, ↓e_set, ↓e_asg, ↓par2_two, ↓e_par, ↓e_for, ↓e_setF, ↓e_put, ↓opt_some, ↓e_var, ↓e_c, ↓e_b, ↓e_1, ↓e_tst, ↓e_kB, ↓e_tru, ↓e_notT, ↓e_andT, ↓e_orT, ↓truK_bl, ↓e_andV, ↓e_orV, ↓e_notV, ↓e_if, ↓chK_bl, ↓e_ch, ↓e_nil, ↓e_cons, ↓e_tup, ↓e_lst, ↓e_lstF, ↓e_call, ↓e_arN, ↓e_p1, ↓e_p2, ↓e_meth, ↓e_bm, ↓e_fld, ↓e_lc, ↓e_dc, ↓e_it, ↓e_rng1, ↓e_rng2, ↓e_intB, ↓e_sl, ↓e_no, ↓e_so, ↓e_yes, ↓e_anm, ↓gs_0, ↓gs_s, ↓dr_int, ↓dr_str, ↓dr_bl, ↓dr_nn, ↓dr_tup, ↓dr_lst, ↓dr_dct, ↓dr_obj, ↓k_lt_int, ↓k_le_int, ↓k_gt_int, ↓k_ge_int, ↓k_lt_str, ↓k_add_int, ↓k_add_str, ↓k_add_tup, ↓k_add_lst, ↓k_sub, ↓k_mul, ↓k_div, ↓k_mod, ↓k_pow, ↓k_neg, ↓k_eq_int, ↓k_eq_str, ↓k_is_nn, ↓k_is_int, ↓k_is_tup, ↓k_is_obj, ↓k_ix_lst, ↓k_ix_tup, ↓k_ix_str, ↓k_ix_dct, ↓k_len_str, ↓k_len_lst, ↓k_len_tup, ↓k_int_int, ↓k_int_bl, ↓k_abs, ↓k_str_int, ↓k_str_str, ↓k_tup_lst, ↓k_it_str, ↓k_it_tup, ↓k_it_lst, ↓k_in_dct, ↓e_enum, ↓k_en_tup, ↓k_en_lst, ↓e_atp, ↓e_lcM, ↓par3_three, ↓e_lits, ↓e_par3, ↓e_rev, ↓e_dct0, ↓e_nevE, ↓e_raise1, ↓e_exF, ↓e_exI, ↓e_tryA, ↓k_rev_lst, ↓k_addM_lst, ↓k_max2, ↓k_min2, List.set_cons_zero, List.set_cons_succ, wipeP, w_number_in_1, k_in_str]
        refine ⟨rfl, ?_⟩
        rw [Bool.bne_false]
        exact hR'
      rw [k_allM]
      cases c3 : w.cps.toList.all digs.contains with
      | false =>
        simp -implicitDefEqProofs only [↓e_ret, ↓e_retN, ↓e_nxt, ↓e_seq, ↓e_nev, ↓e_brk, ↓e_cnt, ↓e_expr, ↓e_ifs, ↓e_set, ↓e_asg, ↓par2_two, ↓e_par, ↓e_for, ↓e_setF, ↓e_put, ↓opt_some, ↓e_var, ↓e_c, ↓e_b, ↓e_1, ↓e_tst, ↓e_kB, ↓e_tru, ↓e_notT, ↓e_andT, ↓e_orT, ↓truK_bl, ↓e_andV, ↓e_orV, ↓e_notV, ↓e_if, ↓chK_bl, ↓e_ch, ↓e_nil, ↓e_cons, ↓e_tup, ↓e_lst, ↓e_lstF, ↓e_call, ↓e_arN, ↓e_p1, ↓e_p2, ↓e_meth, ↓e_bm, ↓e_fld, ↓e_lc, ↓e_dc, ↓e_it, ↓e_rng1, ↓e_rng2, ↓e_intB, ↓e_sl, ↓e_no, ↓e_so, ↓e_yes, ↓e_anm, ↓gs_0, ↓gs_s, ↓dr_int, ↓dr_str, ↓dr_bl, ↓dr_nn, ↓dr_tup, ↓dr_lst, ↓dr_dct, ↓dr_obj, ↓k_lt_int, ↓k_le_int, ↓k_gt_int, ↓k_ge_int, ↓k_lt_str, ↓k_add_int, ↓k_add_str, ↓k_add_tup, ↓k_add_lst, ↓k_sub, ↓k_mul, ↓k_div, ↓k_mod, ↓k_pow, ↓k_neg, ↓k_eq_int, ↓k_eq_str, ↓k_is_nn, ↓k_is_int, ↓k_is_tup, ↓k_is_obj, ↓k_ix_lst, ↓k_ix_tup, ↓k_ix_str, ↓k_ix_dct, ↓k_len_str, ↓k_len_lst, ↓k_len_tup, ↓k_int_int, ↓k_int_bl, ↓k_abs, ↓k_str_int, ↓k_str_str, ↓k_tup_lst, ↓k_it_str, ↓k_it_tup, ↓k_it_lst, ↓k_in_dct, ↓e_enum, ↓k_en_tup, ↓k_en_lst, ↓e_atp, ↓e_lcM, ↓par3_three, ↓e_lits, ↓e_par3, ↓e_rev, ↓e_dct0, ↓e_nevE, ↓e_raise1, ↓e_exF, ↓e_exI, ↓e_tryA, ↓k_rev_lst, ↓k_addM_lst, ↓k_max2, ↓k_min2, List.set_cons_zero, List.set_cons_succ, wipeP, Bool.not_false, if_true]
        refine non (nc ?_)
        unfold canonB
        have : w.cps.toList.all digB = false := by
          rw [← c3]; congr 1; exact funext fun c => dig_eq.symm
        rw [this]; simp
      | true =>
        have c3' : w.cps.toList.all digB = true := by
          rw [← c3]; congr 1; exact funext fun c => dig_eq.symm
        simp -implicitDefEqProofs only [↓e_ret, ↓e_retN, ↓e_nxt, ↓e_seq, ↓e_nev, ↓e_brk, ↓e_cnt, ↓e_expr, ↓e_ifs, ↓e_set, ↓e_asg, ↓par2_two, ↓e_par, ↓e_for, ↓e_setF, ↓e_put, ↓opt_some, ↓e_var, ↓e_c, ↓e_b, ↓e_1, ↓e_tst, ↓e_kB, ↓e_tru, ↓e_notT, ↓e_andT, ↓e_orT, ↓truK_bl, ↓e_andV, ↓e_orV, ↓e_notV, ↓e_if, ↓chK_bl, ↓e_ch, ↓e_nil, ↓e_cons, ↓e_tup, ↓e_lst, ↓e_lstF, ↓e_call, ↓e_arN, ↓e_p1, ↓e_p2, ↓e_meth, ↓e_bm, ↓e_fld, ↓e_lc, ↓e_dc, ↓e_it, ↓e_rng1, ↓e_rng2, ↓e_intB, ↓e_sl, ↓e_no, ↓e_so, ↓e_yes, ↓e_anm, ↓gs_0, ↓gs_s, ↓dr_int, ↓dr_str, ↓dr_bl, ↓dr_nn, ↓dr_tup, ↓dr_lst, ↓dr_dct, ↓dr_obj, ↓k_lt_int, ↓k_le_int, ↓k_gt_int, ↓k_ge_int, ↓k_lt_str, ↓k_add_int, ↓k_add_str, ↓k_add_tup, ↓k_add_lst, ↓k_sub, ↓k_mul, ↓k_div, ↓k_mod, ↓k_pow, ↓k_neg, ↓k_eq_int, ↓k_eq_str, ↓k_is_nn, ↓k_is_int, ↓k_is_tup, ↓k_is_obj, ↓k_ix_lst, ↓k_ix_tup, ↓k_ix_str, ↓k_ix_dct, ↓k_len_str, ↓k_len_lst, ↓k_len_tup, ↓k_int_int, ↓k_int_bl, ↓k_abs, ↓k_str_int, ↓k_str_str, ↓k_tup_lst, ↓k_it_str, ↓k_it_tup, ↓k_it_lst, ↓k_in_dct, ↓e_enum, ↓k_en_tup, ↓k_en_lst, ↓e_atp, ↓e_lcM, ↓par3_three, ↓e_lits, ↓e_par3, ↓e_rev, ↓e_dct0, ↓e_nevE, ↓e_raise1, ↓e_exF, ↓e_exI, ↓e_tryA, ↓k_rev_lst, ↓k_addM_lst, ↓k_max2, ↓k_min2, List.set_cons_zero, List.set_cons_succ, wipeP, Bool.not_true, Bool.false_eq_true, if_false, Bool.bne_false]
        have cb : canonB w = (decide (w = "0") || decide (w.cps.toList.head? ≠ some 48)) := by
          unfold canonB
          rw [c3', decide_eq_true (show 1 ≤ w.length by omega), decide_eq_true (show w.length ≤ 4 by omega)]; rfl
        by_cases h0 : w = "0"
        · rw [decide_eq_true h0]
          simp -implicitDefEqProofs only [↓e_ret, ↓e_retN, ↓e_nxt, ↓e_seq, ↓e_nev, ↓e_brk, ↓e_cnt, ↓e_expr, ↓e_ifs, ↓e_set, ↓e_asg, ↓par2_two, ↓e_par, ↓e_for, ↓e_setF, ↓e_put, ↓opt_some, ↓e_var, ↓e_c, ↓e_b, ↓e_1, ↓e_tst, ↓e_kB, ↓e_tru, ↓e_notT, ↓e_andT, ↓e_orT, ↓truK_bl, ↓e_andV, ↓e_orV, ↓e_notV, ↓e_if, ↓chK_bl, ↓e_ch, ↓e_nil, ↓e_cons, ↓e_tup, ↓e_lst, ↓e_lstF, ↓e_call, ↓e_arN, ↓e_p1, ↓e_p2, ↓e_meth, ↓e_bm, ↓e_fld, ↓e_lc, ↓e_dc, ↓e_it, ↓e_rng1, ↓e_rng2, ↓e_intB, ↓e_sl, ↓e_no, ↓e_so, ↓e_yes, ↓e_anm, ↓gs_0, ↓gs_s, ↓dr_int, ↓dr_str, ↓dr_bl, ↓dr_nn, ↓dr_tup, ↓dr_lst, ↓dr_dct, ↓dr_obj, ↓k_lt_int, ↓k_le_int, ↓k_gt_int, ↓k_ge_int, ↓k_lt_str, ↓k_add_int, ↓k_add_str, ↓k_add_tup, ↓k_add_lst, ↓k_sub, ↓k_mul, ↓k_div, ↓k_mod, ↓k_pow, ↓k_neg, ↓k_eq_int, ↓k_eq_str, ↓k_is_nn, ↓k_is_int, ↓k_is_tup, ↓k_is_obj, ↓k_ix_lst, ↓k_ix_tup, ↓k_ix_str, ↓k_ix_dct, ↓k_len_str, ↓k_len_lst, ↓k_len_tup, ↓k_int_int, ↓k_int_bl, ↓k_abs, ↓k_str_int, ↓k_str_str, ↓k_tup_lst, ↓k_it_str, ↓k_it_tup, ↓k_it_lst, ↓k_in_dct, ↓e_enum, ↓k_en_tup, ↓k_en_lst, ↓e_atp, ↓e_lcM, ↓par3_three, ↓e_lits, ↓e_par3, ↓e_rev, ↓e_dct0, ↓e_nevE, ↓e_raise1, ↓e_exF, ↓e_exI, ↓e_tryA, ↓k_rev_lst, ↓k_addM_lst, ↓k_max2, ↓k_min2, List.set_cons_zero, List.set_cons_succ, wipeP, if_true]
          exact some_ (by rw [cb, decide_eq_true h0]; rfl)
        · rw [decide_eq_false h0]
          simp -implicitDefEqProofs only [↓e_ret, ↓e_retN, ↓e_nxt, ↓e_seq, ↓e_nev, ↓e_brk, ↓e_cnt, ↓e_expr, ↓e_ifs, ↓e_set, ↓e_asg, ↓par2_two, ↓e_par, ↓e_for, ↓e_setF, ↓e_put, ↓opt_some, ↓e_var, ↓e_c, ↓e_b, ↓e_1, ↓e_tst, ↓e_kB, ↓e_tru, ↓e_notT, ↓e_andT, ↓e_orT, ↓truK_bl, ↓e_andV, ↓e_orV, ↓e_notV, ↓e_if, ↓chK_bl, ↓e_ch, ↓e_nil, ↓e_cons, ↓e_tup, ↓e_lst, ↓e_lstF, ↓e_call, ↓e_arN, ↓e_p1, ↓e_p2, ↓e_meth, ↓e_bm, ↓e_fld, ↓e_lc, ↓e_dc, ↓e_it, ↓e_rng1, ↓e_rng2, ↓e_intB, ↓e_sl, ↓e_no, ↓e_so, ↓e_yes, ↓e_anm, ↓gs_0, ↓gs_s, ↓dr_int, ↓dr_str, ↓dr_bl, ↓dr_nn, ↓dr_tup, ↓dr_lst, ↓dr_dct, ↓dr_obj, ↓k_lt_int, ↓k_le_int, ↓k_gt_int, ↓k_ge_int, ↓k_lt_str, ↓k_add_int, ↓k_add_str, ↓k_add_tup, ↓k_add_lst, ↓k_sub, ↓k_mul, ↓k_div, ↓k_mod, ↓k_pow, ↓k_neg, ↓k_eq_int, ↓k_eq_str, ↓k_is_nn, ↓k_is_int, ↓k_is_tup, ↓k_is_obj, ↓k_ix_lst, ↓k_ix_tup, ↓k_ix_str, ↓k_ix_dct, ↓k_len_str, ↓k_len_lst, ↓k_len_tup, ↓k_int_int, ↓k_int_bl, ↓k_abs, ↓k_str_int, ↓k_str_str, ↓k_tup_lst, ↓k_it_str, ↓k_it_tup, ↓k_it_lst, ↓k_in_dct, ↓e_enum, ↓k_en_tup, ↓k_en_lst, ↓e_atp, ↓e_lcM, ↓par3_three, ↓e_lits, ↓e_par3, ↓e_rev, ↓e_dct0, ↓e_nevE, ↓e_raise1, ↓e_exF, ↓e_exI, ↓e_tryA, ↓k_rev_lst, ↓k_addM_lst, ↓k_max2, ↓k_min2, List.set_cons_zero, List.set_cons_succ, wipeP, Bool.false_eq_true, if_false]
          refine ⟨hz1, ?_⟩
          have hl : w.cps.toList ≠ [] := fun z => by
            have : w.length = w.cps.toList.length := TL.len_tl w
            rw [z] at this; simp at this; omega
          cases e2 : w.cps.toList with
          | nil => exact absurd e2 hl
          | cons c r =>
            refine ⟨c, atI_nn (j := 0) rfl rfl, ?_⟩
            have hc : decide ((⟨#[c]⟩ : Str) = "0") = decide (c = 48) := by
              rw [Bool.eq_iff_iff, decide_eq_true_eq, decide_eq_true_eq]
              refine ⟨fun z => ?_, fun z => by rw [z]; decide +kernel⟩
              have z2 : [c] = [48] := congrArg (fun x : Str => x.cps.toList) (z.trans (by decide +kernel : ("0" : Str) = ⟨#[48]⟩))
              exact (List.cons.inj z2).1
            rw [hc]
            by_cases c4 : c = 48
            · rw [decide_eq_true c4]
              simp -implicitDefEqProofs only [↓e_ret, ↓e_retN, ↓e_nxt, ↓e_seq, ↓e_nev, ↓e_brk, ↓e_cnt, ↓e_expr, ↓e_ifs, ↓e_set, ↓e_asg, ↓par2_two, ↓e_par, ↓e_for, ↓e_setF, ↓e_put, ↓opt_some, ↓e_var, ↓e_c, ↓e_b, ↓e_1, ↓e_tst, ↓e_kB, ↓e_tru, ↓e_notT, ↓e_andT, ↓e_orT, ↓truK_bl, ↓e_andV, ↓e_orV, ↓e_notV, ↓e_if, ↓chK_bl, ↓e_ch, ↓e_nil, ↓e_cons, ↓e_tup, ↓e_lst, ↓e_lstF, ↓e_call, ↓e_arN, ↓e_p1, ↓e_p2, ↓e_meth, ↓e_bm, ↓e_fld, ↓e_lc, ↓e_dc, ↓e_it, ↓e_rng1, ↓e_rng2, ↓e_intB, ↓e_sl, ↓e_no, ↓e_so, ↓e_yes, ↓e_anm, ↓gs_0, ↓gs_s, ↓dr_int, ↓dr_str, ↓dr_bl, ↓dr_nn, ↓dr_tup, ↓dr_lst, ↓dr_dct, ↓dr_obj, ↓k_lt_int, ↓k_le_int, ↓k_gt_int, ↓k_ge_int, ↓k_lt_str, ↓k_add_int, ↓k_add_str, ↓k_add_tup, ↓k_add_lst, ↓k_sub, ↓k_mul, ↓k_div, ↓k_mod, ↓k_pow, ↓k_neg, ↓k_eq_int, ↓k_eq_str, ↓k_is_nn, ↓k_is_int, ↓k_is_tup, ↓k_is_obj, ↓k_ix_lst, ↓k_ix_tup, ↓k_ix_str, ↓k_ix_dct, ↓k_len_str, ↓k_len_lst, ↓k_len_tup, ↓k_int_int, ↓k_int_bl, ↓k_abs, ↓k_str_int, ↓k_str_str, ↓k_tup_lst, ↓k_it_str, ↓k_it_tup, ↓k_it_lst, ↓k_in_dct, ↓e_enum, ↓k_en_tup, ↓k_en_lst, ↓e_atp, ↓e_lcM, ↓par3_three, ↓e_lits, ↓e_par3, ↓e_rev, ↓e_dct0, ↓e_nevE, ↓e_raise1, ↓e_exF, ↓e_exI, ↓e_tryA, ↓k_rev_lst, ↓k_addM_lst, ↓k_max2, ↓k_min2, List.set_cons_zero, List.set_cons_succ, wipeP, Bool.bne_true, Bool.not_true, Bool.false_eq_true, if_false]
              refine non (nc ?_)
              rw [cb, decide_eq_false h0, e2, c4]; rfl
            · rw [decide_eq_false c4]
              simp -implicitDefEqProofs only [↓e_ret, ↓e_retN, ↓e_nxt, ↓e_seq, ↓e_nev, ↓e_brk, ↓e_cnt, ↓e_expr, ↓e_ifs, ↓e_set, ↓e_asg, ↓par2_two, ↓e_par, ↓e_for, ↓e_setF, ↓e_put, ↓opt_some, ↓e_var, ↓e_c, ↓e_b, ↓e_1, ↓e_tst, ↓e_kB, ↓e_tru, ↓e_notT, ↓e_andT, ↓e_orT, ↓truK_bl, ↓e_andV, ↓e_orV, ↓e_notV, ↓e_if, ↓chK_bl, ↓e_ch, ↓e_nil, ↓e_cons, ↓e_tup, ↓e_lst, ↓e_lstF, ↓e_call, ↓e_arN, ↓e_p1, ↓e_p2, ↓e_meth, ↓e_bm, ↓e_fld, ↓e_lc, ↓e_dc, ↓e_it, ↓e_rng1, ↓e_rng2, ↓e_intB, ↓e_sl, ↓e_no, ↓e_so, ↓e_yes, ↓e_anm, ↓gs_0, ↓gs_s, ↓dr_int, ↓dr_str, ↓dr_bl, ↓dr_nn, ↓dr_tup, ↓dr_lst, ↓dr_dct, ↓dr_obj, ↓k_lt_int, ↓k_le_int, ↓k_gt_int, ↓k_ge_int, ↓k_lt_str, ↓k_add_int, ↓k_add_str, ↓k_add_tup, ↓k_add_lst, ↓k_sub, ↓k_mul, ↓k_div, ↓k_mod, ↓k_pow, ↓k_neg, ↓k_eq_int, ↓k_eq_str, ↓k_is_nn, ↓k_is_int, ↓k_is_tup, ↓k_is_obj, ↓k_ix_lst, ↓k_ix_tup, ↓k_ix_str, ↓k_ix_dct, ↓k_len_str, ↓k_len_lst, ↓k_len_tup, ↓k_int_int, ↓k_int_bl, ↓k_abs, ↓k_str_int, ↓k_str_str, ↓k_tup_lst, ↓k_it_str, ↓k_it_tup, ↓k_it_lst, ↓k_in_dct, ↓e_enum, ↓k_en_tup, ↓k_en_lst, ↓e_atp, ↓e_lcM, ↓par3_three, ↓e_lits, ↓e_par3, ↓e_rev, ↓e_dct0, ↓e_nevE, ↓e_raise1, ↓e_exF, ↓e_exI, ↓e_tryA, ↓k_rev_lst, ↓k_addM_lst, ↓k_max2, ↓k_min2, List.set_cons_zero, List.set_cons_succ, wipeP, Bool.bne_true, Bool.not_false, if_true]
              refine some_ ?_
              rw [cb, e2]
              simp [c4]
    · rw [decide_eq_false c2]
      simp -implicitDefEqProofs only [↓e_ret, ↓e_retN, ↓e_nxt, ↓e_seq, ↓e_nev, ↓e_brk, ↓e_cnt, ↓e_expr, ↓e_ifs, ↓e_set, ↓e_asg, ↓par2_two, ↓e_par, ↓e_for, ↓e_setF, ↓e_put, ↓opt_some, ↓e_var, ↓e_c, ↓e_b, ↓e_1, ↓e_tst, ↓e_kB, ↓e_tru, ↓e_notT, ↓e_andT, ↓e_orT, ↓truK_bl, ↓e_andV, ↓e_orV, ↓e_notV, ↓e_if, ↓chK_bl, ↓e_ch, ↓e_nil, ↓e_cons, ↓e_tup, ↓e_lst, ↓e_lstF, ↓e_call, ↓e_arN, ↓e_p1, ↓e_p2, ↓e_meth, ↓e_bm, ↓e_fld, ↓e_lc, ↓e_dc, ↓e_it, ↓e_rng1, ↓e_rng2, ↓e_intB, ↓e_sl, ↓e_no, ↓e_so, ↓e_yes, ↓e_anm, ↓gs_0, ↓gs_s, ↓dr_int, ↓dr_str, ↓dr_bl, ↓dr_nn, ↓dr_tup, ↓dr_lst, ↓dr_dct, ↓dr_obj, ↓k_lt_int, ↓k_le_int, ↓k_gt_int, ↓k_ge_int, ↓k_lt_str, ↓k_add_int, ↓k_add_str, ↓k_add_tup, ↓k_add_lst, ↓k_sub, ↓k_mul, ↓k_div, ↓k_mod, ↓k_pow, ↓k_neg, ↓k_eq_int, ↓k_eq_str, ↓k_is_nn, ↓k_is_int, ↓k_is_tup, ↓k_is_obj, ↓k_ix_lst, ↓k_ix_tup, ↓k_ix_str, ↓k_ix_dct, ↓k_len_str, ↓k_len_lst, ↓k_len_tup, ↓k_int_int, ↓k_int_bl, ↓k_abs, ↓k_str_int, ↓k_str_str, ↓k_tup_lst, ↓k_it_str, ↓k_it_tup, ↓k_it_lst, ↓k_in_dct, ↓e_enum, ↓k_en_tup, ↓k_en_lst, ↓e_atp, ↓e_lcM, ↓par3_three, ↓e_lits, ↓e_par3, ↓e_rev, ↓e_dct0, ↓e_nevE, ↓e_raise1, ↓e_exF, ↓e_exI, ↓e_tryA, ↓k_rev_lst, ↓k_addM_lst, ↓k_max2, ↓k_min2, List.set_cons_zero, List.set_cons_succ, wipeP, Bool.not_false, if_true]
      refine non (nc ?_)
      unfold canonB
      rw [decide_eq_false (show ¬ w.length ≤ 4 by omega)]; simp
  · rw [if_neg (by simpa using c1)]
    simp -implicitDefEqProofs only [↓e_ret, ↓e_retN, ↓e_nxt, ↓e_seq, ↓e_nev, ↓e_brk, ↓e_cnt, ↓e_expr, ↓e_ifs, ↓e_set, ↓e_asg, ↓par2_two, ↓e_par, ↓e_for, ↓e_setF, ↓e_put, ↓opt_some, ↓e_var, ↓e_c, ↓e_b, ↓e_1, ↓e_tst, ↓e_kB, ↓e_tru, ↓e_notT, ↓e_andT, ↓e_orT, ↓truK_bl, ↓e_andV, ↓e_orV, ↓e_notV, ↓e_if, ↓chK_bl, ↓e_ch, ↓e_nil, ↓e_cons, ↓e_tup, ↓e_lst, ↓e_lstF, ↓e_call, ↓e_arN, ↓e_p1, ↓e_p2, ↓e_meth, ↓e_bm, ↓e_fld, ↓e_lc, ↓e_dc, ↓e_it, ↓e_rng1, ↓e_rng2, ↓e_intB, ↓e_sl, ↓e_no, ↓e_so, ↓e_yes, ↓e_anm, ↓gs_0, ↓gs_s, ↓dr_int, ↓dr_str, ↓dr_bl, ↓dr_nn, ↓dr_tup, ↓dr_lst, ↓dr_dct, ↓dr_obj, ↓k_lt_int, ↓k_le_int, ↓k_gt_int, ↓k_ge_int, ↓k_lt_str, ↓k_add_int, ↓k_add_str, ↓k_add_tup, ↓k_add_lst, ↓k_sub, ↓k_mul, ↓k_div, ↓k_mod, ↓k_pow, ↓k_neg, ↓k_eq_int, ↓k_eq_str, ↓k_is_nn, ↓k_is_int, ↓k_is_tup, ↓k_is_obj, ↓k_ix_lst, ↓k_ix_tup, ↓k_ix_str, ↓k_ix_dct, ↓k_len_str, ↓k_len_lst, ↓k_len_tup, ↓k_int_int, ↓k_int_bl, ↓k_abs, ↓k_str_int, ↓k_str_str, ↓k_tup_lst, ↓k_it_str, ↓k_it_tup, ↓k_it_lst, ↓k_in_dct, ↓e_enum, ↓k_en_tup, ↓k_en_lst, ↓e_atp, ↓e_lcM, ↓par3_three, ↓e_lits, ↓e_par3, ↓e_rev, ↓e_dct0, ↓e_nevE, ↓e_raise1, ↓e_exF, ↓e_exI, ↓e_tryA, ↓k_rev_lst, ↓k_addM_lst, ↓k_max2, ↓k_min2, List.set_cons_zero, List.set_cons_succ, wipeP, Bool.not_false, if_true]
    refine non (nc ?_)
    unfold canonB
    rw [decide_eq_false (show ¬ 1 ≤ w.length by omega)]; rfl
theorem t_number_in {K : PySem.W.Frag} {S : Sto} {R : RK} {Z : ZK} {w : Str} (hn : w.length ≤ TxL) (h : R (optP (numB w)) S) : sp_number_in K [.str w] S R Z := ⟨w, rfl, hn, h⟩
theorem cut_head (w : Str) : cutS w none (some 1) = ⟨(w.cps.toList.take 1).toArray⟩ := by
  rw [C8.cutS_slice]
  conv => lhs; rw [← SX.S_tl w]
  rw [SX.slice_to (by decide)]; rfl
theorem cut_tail (w : Str) : cutS w (some 1) none = tailS w := by
  rw [C8.cutS_slice]
  conv => lhs; rw [← SX.S_tl w]
  rw [SX.slice_from (by decide)]; rfl
theorem tail_len (w : Str) : (tailS w).length ≤ w.length := by
  rw [TL.len_tl, TL.len_tl]
  show (w.cps.toList.drop 1).length ≤ _
  rw [List.length_drop]
  exact Nat.sub_le _ _
theorem head_minus (w : Str) : (cutS w none (some 1) = "-") ↔ w.cps.toList.head? = some 45 := by
  rw [cut_head]
  have minus : ("-" : Str) = ⟨#[45]⟩ := by decide +kernel
  rw [minus]
  constructor
  · intro h
    have h := congrArg (fun x : Str => x.cps.toList) h
    have h : w.cps.toList.take 1 = [45] := h
    cases e : w.cps.toList with
    | nil => rw [e] at h; cases h
    | cons a r => rw [e] at h; simpa using h
  · intro h
    cases e : w.cps.toList with
    | nil => rw [e] at h; cases h
    | cons a r => rw [e] at h; cases h; rfl
theorem k_sl_str {S : Sto} {R : RK} {z : Str} {lo hi : Option Int} : kSl (.str z) lo hi S R = (z.length ≤ sizeLine ∧ R (.str (cutS z lo hi)) S) := rfl
theorem numB_nn {w : Str} {n : Int} (h : numB w = some n) : 0 ≤ n := by
  unfold numB at h
  split at h
  · rename_i c
    obtain ⟨m, _, h2⟩ := canon_int c
    rw [h2] at h; cases h; omega
  · cases h
theorem pure_integer_in (K : PySem.W.Frag) : ∀ ps S R Z, ps.length = 1 → sp_integer_in K ps S R Z → w_integer_in K (fin R Z) (startP n_integer_in ps) S := by
  intro ps S R Z hl h
  obtain ⟨w, rfl, hz, hR⟩ := h
  have hz1 : w.length ≤ sizeLine := by rw [sizeLine_eq]; unfold TxL at hz; omega
  have e : startP n_integer_in [.str w] = [some (.str w), none] := rfl
  rw [e]
  simp -implicitDefEqProofs only [w_integer_in, ↓e_ret, ↓e_retN, ↓e_nxt, ↓e_seq, ↓e_nev, ↓e_brk, ↓e_cnt, ↓e_expr, ↓e_ifs, ↓e_set, ↓e_asg, ↓par2_two, ↓e_par, ↓e_for, ↓e_setF, ↓e_put, ↓opt_some, ↓e_var, ↓e_c, ↓e_b, ↓e_1, ↓e_tst, ↓e_kB, ↓e_tru, ↓e_notT, ↓e_andT, ↓e_orT, ↓truK_bl, ↓e_andV, ↓e_orV, ↓e_notV, ↓e_if, ↓chK_bl, ↓e_ch, ↓e_nil, ↓e_cons, ↓e_tup, ↓e_lst, ↓e_lstF, ↓e_call, ↓e_arN, ↓e_p1, ↓e_p2, ↓e_meth, ↓e_bm, ↓e_fld, ↓e_lc, ↓e_dc, ↓e_it, ↓e_rng1, ↓e_rng2, ↓e_intB, ↓e_sl, ↓e_no, ↓e_so, ↓e_yes, ↓e_anm, ↓gs_0, ↓gs_s, ↓dr_int, ↓dr_str, ↓dr_bl, ↓dr_nn, ↓dr_tup, ↓dr_lst, ↓dr_dct, ↓dr_obj, ↓k_lt_int, ↓k_le_int, ↓k_gt_int, ↓k_ge_int, ↓k_lt_str, ↓k_add_int, ↓k_add_str, ↓k_add_tup, ↓k_add_lst, ↓k_sub, ↓k_mul, ↓k_div, ↓k_mod, ↓k_pow, ↓k_neg, ↓k_eq_int, ↓k_eq_str, ↓k_is_nn, ↓k_is_int, ↓k_is_tup, ↓k_is_obj, ↓k_ix_lst, ↓k_ix_tup, ↓k_ix_str, ↓k_ix_dct, ↓k_len_str, ↓k_len_lst, ↓k_len_tup, ↓k_int_int, ↓k_int_bl, ↓k_abs, ↓k_str_int, ↓k_str_str, ↓k_tup_lst, ↓k_it_str, ↓k_it_tup, ↓k_it_lst, ↓k_in_dct, ↓e_enum, ↓k_en_tup, ↓k_en_lst, ↓e_atp, ↓e_lcM, ↓par3_three, ↓e_lits, ↓e_par3, ↓e_rev, ↓e_dct0, ↓e_nevE, ↓e_raise1, ↓e_exF, ↓e_exI, ↓e_tryA, ↓k_rev_lst, ↓k_addM_lst, ↓k_max2, ↓k_min2, List.set_cons_zero, List.set_cons_succ, wipeP, k_sl_str, cut_tail]
  refine ⟨hz1, ?_⟩
  by_cases h0 : w.cps.toList.head? = some 45
  · rw [decide_eq_true ((head_minus w).mpr h0)]
    simp -implicitDefEqProofs only [↓e_ret, ↓e_retN, ↓e_nxt, ↓e_seq, ↓e_nev, ↓e_brk, ↓e_cnt, ↓e_expr, ↓e_ifs, ↓e_set, ↓e_asg, ↓par2_two, ↓e_par, ↓e_for, ↓e_setF, ↓e_put, ↓opt_some, ↓e_var, ↓e_c, ↓e_b, ↓e_1, ↓e_tst, ↓e_kB, ↓e_tru, ↓e_notT, ↓e_andT, ↓e_orT, ↓truK_bl, ↓e_andV, ↓e_orV, ↓e_notV, ↓e_if, ↓chK_bl, ↓e_ch, ↓e_nil, ↓e_cons, ↓e_tup, ↓e_lst, ↓e_lstF, ↓e_call, ↓e_arN, ↓e_p1, ↓e_p2, ↓e_meth, ↓e_bm, ↓e_fld, ↓e_lc, ↓e_dc, ↓e_it, ↓e_rng1, ↓e_rng2, ↓e_intB, ↓e_sl, ↓e_no, ↓e_so, ↓e_yes, ↓e_anm, ↓gs_0, ↓gs_s, ↓dr_int, ↓dr_str, ↓dr_bl, ↓dr_nn, ↓dr_tup, ↓dr_lst, ↓dr_dct, ↓dr_obj, ↓k_lt_int, ↓k_le_int, ↓k_gt_int, ↓k_ge_int, ↓k_lt_str, ↓k_add_int, ↓k_add_str, ↓k_add_tup, ↓k_add_lst, ↓k_sub, ↓k_mul, ↓k_div, ↓k_mod, ↓k_pow, ↓k_neg, ↓k_eq_int, ↓k_eq_str, ↓k_is_nn, ↓k_is_int, ↓k_is_tup, ↓k_is_obj, ↓k_ix_lst, ↓k_ix_tup, ↓k_ix_str, ↓k_ix_dct, ↓k_len_str, ↓k_len_lst, ↓k_len_tup, ↓k_int_int, ↓k_int_bl, ↓k_abs, ↓k_str_int, ↓k_str_str, ↓k_tup_lst, ↓k_it_str, ↓k_it_tup, ↓k_it_lst, ↓k_in_dct, ↓e_enum, ↓k_en_tup, ↓k_en_lst, ↓e_atp, ↓e_lcM, ↓par3_three, ↓e_lits, ↓e_par3, ↓e_rev, ↓e_dct0, ↓e_nevE, ↓e_raise1, ↓e_exF, ↓e_exI, ↓e_tryA, ↓k_rev_lst, ↓k_addM_lst, ↓k_max2, ↓k_min2, List.set_cons_zero, List.set_cons_succ, wipeP, Bool.bne_true, Bool.not_true, Bool.false_eq_true, if_false]
    refine ⟨hz1, rfl, t_number_in (Nat.le_trans (tail_len w) hz) ?_⟩
    unfold intB' at hR
    rw [if_pos h0] at hR
    cases e : numB (tailS w) with
    | none =>
      rw [e] at hR
      show kIs false .non .non S _
      rw [k_is_nn]
      simp -implicitDefEqProofs only [↓e_ret, ↓e_retN, ↓e_nxt, ↓e_seq, ↓e_nev, ↓e_brk, ↓e_cnt, ↓e_expr, ↓e_ifs, ↓e_set, ↓e_asg, ↓par2_two, ↓e_par, ↓e_for, ↓e_setF, ↓e_put, ↓opt_some, ↓e_var, ↓e_c, ↓e_b, ↓e_1, ↓e_tst, ↓e_kB, ↓e_tru, ↓e_notT, ↓e_andT, ↓e_orT, ↓truK_bl, ↓e_andV, ↓e_orV, ↓e_notV, ↓e_if, ↓chK_bl, ↓e_ch, ↓e_nil, ↓e_cons, ↓e_tup, ↓e_lst, ↓e_lstF, ↓e_call, ↓e_arN, ↓e_p1, ↓e_p2, ↓e_meth, ↓e_bm, ↓e_fld, ↓e_lc, ↓e_dc, ↓e_it, ↓e_rng1, ↓e_rng2, ↓e_intB, ↓e_sl, ↓e_no, ↓e_so, ↓e_yes, ↓e_anm, ↓gs_0, ↓gs_s, ↓dr_int, ↓dr_str, ↓dr_bl, ↓dr_nn, ↓dr_tup, ↓dr_lst, ↓dr_dct, ↓dr_obj, ↓k_lt_int, ↓k_le_int, ↓k_gt_int, ↓k_ge_int, ↓k_lt_str, ↓k_add_int, ↓k_add_str, ↓k_add_tup, ↓k_add_lst, ↓k_sub, ↓k_mul, ↓k_div, ↓k_mod, ↓k_pow, ↓k_neg, ↓k_eq_int, ↓k_eq_str, ↓k_is_nn, ↓k_is_int, ↓k_is_tup, ↓k_is_obj, ↓k_ix_lst, ↓k_ix_tup, ↓k_ix_str, ↓k_ix_dct, ↓k_len_str, ↓k_len_lst, ↓k_len_tup, ↓k_int_int, ↓k_int_bl, ↓k_abs, ↓k_str_int, ↓k_str_str, ↓k_tup_lst, ↓k_it_str, ↓k_it_tup, ↓k_it_lst, ↓k_in_dct, ↓e_enum, ↓k_en_tup, ↓k_en_lst, ↓e_atp, ↓e_lcM, ↓par3_three, ↓e_lits, ↓e_par3, ↓e_rev, ↓e_dct0, ↓e_nevE, ↓e_raise1, ↓e_exF, ↓e_exI, ↓e_tryA, ↓k_rev_lst, ↓k_addM_lst, ↓k_max2, ↓k_min2, List.set_cons_zero, List.set_cons_succ, wipeP, Bool.not_false, if_true]
      exact gR_now hR
    | some n =>
      rw [e] at hR
      show kIs false (.int n) .non S _
      rw [k_is_int]
      simp -implicitDefEqProofs only [↓e_ret, ↓e_retN, ↓e_nxt, ↓e_seq, ↓e_nev, ↓e_brk, ↓e_cnt, ↓e_expr, ↓e_ifs, ↓e_set, ↓e_asg, ↓par2_two, ↓e_par, ↓e_for, ↓e_setF, ↓e_put, ↓opt_some, ↓e_var, ↓e_c, ↓e_b, ↓e_1, ↓e_tst, ↓e_kB, ↓e_tru, ↓e_notT, ↓e_andT, ↓e_orT, ↓truK_bl, ↓e_andV, ↓e_orV, ↓e_notV, ↓e_if, ↓chK_bl, ↓e_ch, ↓e_nil, ↓e_cons, ↓e_tup, ↓e_lst, ↓e_lstF, ↓e_call, ↓e_arN, ↓e_p1, ↓e_p2, ↓e_meth, ↓e_bm, ↓e_fld, ↓e_lc, ↓e_dc, ↓e_it, ↓e_rng1, ↓e_rng2, ↓e_intB, ↓e_sl, ↓e_no, ↓e_so, ↓e_yes, ↓e_anm, ↓gs_0, ↓gs_s, ↓dr_int, ↓dr_str, ↓dr_bl, ↓dr_nn, ↓dr_tup, ↓dr_lst, ↓dr_dct, ↓dr_obj, ↓k_lt_int, ↓k_le_int, ↓k_gt_int, ↓k_ge_int, ↓k_lt_str, ↓k_add_int, ↓k_add_str, ↓k_add_tup, ↓k_add_lst, ↓k_sub, ↓k_mul, ↓k_div, ↓k_mod, ↓k_pow, ↓k_neg, ↓k_eq_int, ↓k_eq_str, ↓k_is_nn, ↓k_is_int, ↓k_is_tup, ↓k_is_obj, ↓k_ix_lst, ↓k_ix_tup, ↓k_ix_str, ↓k_ix_dct, ↓k_len_str, ↓k_len_lst, ↓k_len_tup, ↓k_int_int, ↓k_int_bl, ↓k_abs, ↓k_str_int, ↓k_str_str, ↓k_tup_lst, ↓k_it_str, ↓k_it_tup, ↓k_it_lst, ↓k_in_dct, ↓e_enum, ↓k_en_tup, ↓k_en_lst, ↓e_atp, ↓e_lcM, ↓par3_three, ↓e_lits, ↓e_par3, ↓e_rev, ↓e_dct0, ↓e_nevE, ↓e_raise1, ↓e_exF, ↓e_exI, ↓e_tryA, ↓k_rev_lst, ↓k_addM_lst, ↓k_max2, ↓k_min2, List.set_cons_zero, List.set_cons_succ, wipeP, optP, Bool.false_eq_true, if_false, Bool.bne_false]
      by_cases hn : n = 0
      · rw [decide_eq_true hn]
        dsimp only at hR
        rw [if_pos hn] at hR
        simp only [if_true]
        exact gR_now hR
      · rw [decide_eq_false hn]
        dsimp only at hR
        rw [if_neg hn] at hR
        simp -implicitDefEqProofs only [Bool.false_eq_true, if_false, ↓e_ret, ↓e_retN, ↓e_nxt, ↓e_seq, ↓e_nev, ↓e_brk, ↓e_cnt, ↓e_expr, ↓e_ifs, ↓e_set, ↓e_asg, ↓par2_two, ↓e_par, ↓e_for, ↓e_setF, ↓e_put, ↓opt_some, ↓e_var, ↓e_c, ↓e_b, ↓e_1, ↓e_tst, ↓e_kB, ↓e_tru, ↓e_notT, ↓e_andT, ↓e_orT, ↓truK_bl, ↓e_andV, ↓e_orV, ↓e_notV, ↓e_if, ↓chK_bl, ↓e_ch, ↓e_nil, ↓e_cons, ↓e_tup, ↓e_lst, ↓e_lstF, ↓e_call, ↓e_arN, ↓e_p1, ↓e_p2, ↓e_meth, ↓e_bm, ↓e_fld, ↓e_lc, ↓e_dc, ↓e_it, ↓e_rng1, ↓e_rng2, ↓e_intB, ↓e_sl, ↓e_no, ↓e_so, ↓e_yes, ↓e_anm, ↓gs_0, ↓gs_s, ↓dr_int, ↓dr_str, ↓dr_bl, ↓dr_nn, ↓dr_tup, ↓dr_lst, ↓dr_dct, ↓dr_obj, ↓k_lt_int, ↓k_le_int, ↓k_gt_int, ↓k_ge_int, ↓k_lt_str, ↓k_add_int, ↓k_add_str, ↓k_add_tup, ↓k_add_lst, ↓k_sub, ↓k_mul, ↓k_div, ↓k_mod, ↓k_pow, ↓k_neg, ↓k_eq_int, ↓k_eq_str, ↓k_is_nn, ↓k_is_int, ↓k_is_tup, ↓k_is_obj, ↓k_ix_lst, ↓k_ix_tup, ↓k_ix_str, ↓k_ix_dct, ↓k_len_str, ↓k_len_lst, ↓k_len_tup, ↓k_int_int, ↓k_int_bl, ↓k_abs, ↓k_str_int, ↓k_str_str, ↓k_tup_lst, ↓k_it_str, ↓k_it_tup, ↓k_it_lst, ↓k_in_dct, ↓e_enum, ↓k_en_tup, ↓k_en_lst, ↓e_atp, ↓e_lcM, ↓par3_three, ↓e_lits, ↓e_par3, ↓e_rev, ↓e_dct0, ↓e_nevE, ↓e_raise1, ↓e_exF, ↓e_exI, ↓e_tryA, ↓k_rev_lst, ↓k_addM_lst, ↓k_max2, ↓k_min2, List.set_cons_zero, List.set_cons_succ, wipeP]
        exact gR_now hR
  · rw [decide_eq_false (fun z => h0 ((head_minus w).mp z))]
    simp -implicitDefEqProofs only [↓e_ret, ↓e_retN, ↓e_nxt, ↓e_seq, ↓e_nev, ↓e_brk, ↓e_cnt, ↓e_expr, ↓e_ifs, ↓e_set, ↓e_asg, ↓par2_two, ↓e_par, ↓e_for, ↓e_setF, ↓e_put, ↓opt_some, ↓e_var, ↓e_c, ↓e_b, ↓e_1, ↓e_tst, ↓e_kB, ↓e_tru, ↓e_notT, ↓e_andT, ↓e_orT, ↓truK_bl, ↓e_andV, ↓e_orV, ↓e_notV, ↓e_if, ↓chK_bl, ↓e_ch, ↓e_nil, ↓e_cons, ↓e_tup, ↓e_lst, ↓e_lstF, ↓e_call, ↓e_arN, ↓e_p1, ↓e_p2, ↓e_meth, ↓e_bm, ↓e_fld, ↓e_lc, ↓e_dc, ↓e_it, ↓e_rng1, ↓e_rng2, ↓e_intB, ↓e_sl, ↓e_no, ↓e_so, ↓e_yes, ↓e_anm, ↓gs_0, ↓gs_s, ↓dr_int, ↓dr_str, ↓dr_bl, ↓dr_nn, ↓dr_tup, ↓dr_lst, ↓dr_dct, ↓dr_obj, ↓k_lt_int, ↓k_le_int, ↓k_gt_int, ↓k_ge_int, ↓k_lt_str, ↓k_add_int, ↓k_add_str, ↓k_add_tup, ↓k_add_lst, ↓k_sub, ↓k_mul, ↓k_div, ↓k_mod, ↓k_pow, ↓k_neg, ↓k_eq_int, ↓k_eq_str, ↓k_is_nn, ↓k_is_int, ↓k_is_tup, ↓k_is_obj, ↓k_ix_lst, ↓k_ix_tup, ↓k_ix_str, ↓k_ix_dct, ↓k_len_str, ↓k_len_lst, ↓k_len_tup, ↓k_int_int, ↓k_int_bl, ↓k_abs, ↓k_str_int, ↓k_str_str, ↓k_tup_lst, ↓k_it_str, ↓k_it_tup, ↓k_it_lst, ↓k_in_dct, ↓e_enum, ↓k_en_tup, ↓k_en_lst, ↓e_atp, ↓e_lcM, ↓par3_three, ↓e_lits, ↓e_par3, ↓e_rev, ↓e_dct0, ↓e_nevE, ↓e_raise1, ↓e_exF, ↓e_exI, ↓e_tryA, ↓k_rev_lst, ↓k_addM_lst, ↓k_max2, ↓k_min2, List.set_cons_zero, List.set_cons_succ, wipeP, Bool.bne_true, Bool.not_false, if_true]
    unfold intB' at hR
    rw [if_neg h0] at hR
    exact ⟨rfl, t_number_in hz (gR_now hR)⟩
theorem t_integer_in {K : PySem.W.Frag} {S : Sto} {R : RK} {Z : ZK} {w : Str} (hn : w.length ≤ TxL) (h : R (optP (intB' w)) S) : sp_integer_in K [.str w] S R Z := ⟨w, rfl, hn, h⟩

/-! ### roads that words tell -/
structure SixW (q : PV) (a b c d e f : Str) : Prop where
  i0 : ∀ (S : Sto) (R : RK), kIx q (.int 0) S R = R (.str a) S
  i1 : ∀ (S : Sto) (R : RK), kIx q (.int 1) S R = R (.str b) S
  i2 : ∀ (S : Sto) (R : RK), kIx q (.int 2) S R = R (.str c) S
  i3 : ∀ (S : Sto) (R : RK), kIx q (.int 3) S R = R (.str d) S
  i4 : ∀ (S : Sto) (R : RK), kIx q (.int 4) S R = R (.str e) S
  i5 : ∀ (S : Sto) (R : RK), kIx q (.int 5) S R = R (.str f) S
  l : ∀ (S : Sto) (R : RK), kLen q S R = R (.int 6) S
  sl : ∀ (S : Sto) (R : RK), kSl q (some 1) (some 4) S R = R (.lst ([b, c, d].map PV.str)) S
theorem six_of {a b c d e f : Str} : SixW (.lst [.str a, .str b, .str c, .str d, .str e, .str f]) a b c d e f :=
  ⟨fun S R => propext ⟨fun ⟨z, h1, h2⟩ => by cases h1; exact h2, fun h => ⟨_, rfl, h⟩⟩, fun S R => propext ⟨fun ⟨z, h1, h2⟩ => by cases h1; exact h2, fun h => ⟨_, rfl, h⟩⟩, fun S R => propext ⟨fun ⟨z, h1, h2⟩ => by cases h1; exact h2, fun h => ⟨_, rfl, h⟩⟩,
    fun S R => propext ⟨fun ⟨z, h1, h2⟩ => by cases h1; exact h2, fun h => ⟨_, rfl, h⟩⟩, fun S R => propext ⟨fun ⟨z, h1, h2⟩ => by cases h1; exact h2, fun h => ⟨_, rfl, h⟩⟩, fun S R => propext ⟨fun ⟨z, h1, h2⟩ => by cases h1; exact h2, fun h => ⟨_, rfl, h⟩⟩, fun _ _ => rfl, fun _ _ => rfl⟩
theorem six_list {ws : List Str} (h : ws.length = 6) : ∃ a b c d e f, ws = [a, b, c, d, e, f] := by
  rcases ws with _ | ⟨a, _ | ⟨b, _ | ⟨c, _ | ⟨d, _ | ⟨e, _ | ⟨f, _ | ⟨g, r⟩⟩⟩⟩⟩⟩⟩
  all_goals first | exact ⟨_, _, _, _, _, _, rfl⟩ | (simp at h)
theorem roadW_not {ws : List Str} (h : ws.length ≠ 6) : roadW ws = none := by
  rcases ws with _ | ⟨a, _ | ⟨b, _ | ⟨c, _ | ⟨d, _ | ⟨e, _ | ⟨f, _ | ⟨g, r⟩⟩⟩⟩⟩⟩⟩
  all_goals first | rfl | exact absurd rfl h
theorem txl {n : Nat} (h : n ≤ TxL) : n ≤ sizeLine := by rw [sizeLine_eq]; unfold TxL at h; omega
theorem is_opt {o : Option Int} {S : Sto} {R : RK} : kIs false (optP o) .non S R = R (.bl (decide (o = none))) S := by
  cases o with
  | none => rfl
  | some n => rfl
theorem pure_road_in (K : PySem.W.Frag) : ∀ ps S R Z, ps.length = 1 → sp_road_in K ps S R Z → w_road_in K (fin R Z) (startP n_road_in ps) S := by
  intro ps S R Z hl h
  obtain ⟨ws, rfl, hne, hz, hR⟩ := h
  by_cases h6 : ws.length = 6
  · obtain ⟨a, b, c, d, e, f, rfl⟩ := six_list h6
    have es : startP n_road_in [.lst (([a, b, c, d, e, f] : List Str).map PV.str)] = [some (.lst [.str a, .str b, .str c, .str d, .str e, .str f]), none, none, none] := rfl
    rw [es]
    have q6 := six_of (a := a) (b := b) (c := c) (d := d) (e := e) (f := f)
    clear es
    generalize PV.lst [.str a, .str b, .str c, .str d, .str e, .str f] = q at q6 ⊢
    have d6 : decide ((6 : Int) = 6) = true := rfl
    simp -implicitDefEqProofs only [w_road_in, ↓e_ret, ↓e_retN, ↓e_nxt, ↓e_seq, ↓e_nev, ↓e_brk, ↓e_cnt, ↓e_expr, ↓e_ifs, ↓e_set, ↓e_asg, ↓par2_two, ↓e_par, ↓e_for, ↓e_setF, ↓e_put, ↓opt_some, ↓e_var, ↓e_c, ↓e_b, ↓e_1, ↓e_tst, ↓e_kB, ↓e_tru, ↓e_notT, ↓e_andT, ↓e_orT, ↓truK_bl, ↓e_andV, ↓e_orV, ↓e_notV, ↓e_if, ↓chK_bl, ↓e_ch, ↓e_nil, ↓e_cons, ↓e_tup, ↓e_lst, ↓e_lstF, ↓e_call, ↓e_arN, ↓e_p1, ↓e_p2, ↓e_meth, ↓e_bm, ↓e_fld, ↓e_lc, ↓e_dc, ↓e_it, ↓e_rng1, ↓e_rng2, ↓e_intB, ↓e_sl, ↓e_no, ↓e_so, ↓e_yes, ↓e_anm, ↓gs_0, ↓gs_s, ↓dr_int, ↓dr_str, ↓dr_bl, ↓dr_nn, ↓dr_tup, ↓dr_lst, ↓dr_dct, ↓dr_obj, ↓k_lt_int, ↓k_le_int, ↓k_gt_int, ↓k_ge_int, ↓k_lt_str, ↓k_add_int, ↓k_add_str, ↓k_add_tup, ↓k_add_lst, ↓k_sub, ↓k_mul, ↓k_div, ↓k_mod, ↓k_pow, ↓k_neg, ↓k_eq_int, ↓k_eq_str, ↓k_is_nn, ↓k_is_int, ↓k_is_tup, ↓k_is_obj, ↓k_ix_lst, ↓k_ix_tup, ↓k_ix_str, ↓k_ix_dct, ↓k_len_str, ↓k_len_lst, ↓k_len_tup, ↓k_int_int, ↓k_int_bl, ↓k_abs, ↓k_str_int, ↓k_str_str, ↓k_tup_lst, ↓k_it_str, ↓k_it_tup, ↓k_it_lst, ↓k_in_dct, ↓e_enum, ↓k_en_tup, ↓k_en_lst, ↓e_atp, ↓e_lcM, ↓par3_three, ↓e_lits, ↓e_par3, ↓e_rev, ↓e_dct0, ↓e_nevE, ↓e_raise1, ↓e_exF, ↓e_exI, ↓e_tryA, ↓k_rev_lst, ↓k_addM_lst, ↓k_max2, ↓k_min2, List.set_cons_zero, List.set_cons_succ, wipeP, q6.l, q6.i0, d6, Bool.bne_true, Bool.not_true, Bool.false_eq_true, if_false]
    by_cases ha : a = "road"
    · rw [decide_eq_true ha]
      simp -implicitDefEqProofs only [↓e_ret, ↓e_retN, ↓e_nxt, ↓e_seq, ↓e_nev, ↓e_brk, ↓e_cnt, ↓e_expr, ↓e_ifs, ↓e_set, ↓e_asg, ↓par2_two, ↓e_par, ↓e_for, ↓e_setF, ↓e_put, ↓opt_some, ↓e_var, ↓e_c, ↓e_b, ↓e_1, ↓e_tst, ↓e_kB, ↓e_tru, ↓e_notT, ↓e_andT, ↓e_orT, ↓truK_bl, ↓e_andV, ↓e_orV, ↓e_notV, ↓e_if, ↓chK_bl, ↓e_ch, ↓e_nil, ↓e_cons, ↓e_tup, ↓e_lst, ↓e_lstF, ↓e_call, ↓e_arN, ↓e_p1, ↓e_p2, ↓e_meth, ↓e_bm, ↓e_fld, ↓e_lc, ↓e_dc, ↓e_it, ↓e_rng1, ↓e_rng2, ↓e_intB, ↓e_sl, ↓e_no, ↓e_so, ↓e_yes, ↓e_anm, ↓gs_0, ↓gs_s, ↓dr_int, ↓dr_str, ↓dr_bl, ↓dr_nn, ↓dr_tup, ↓dr_lst, ↓dr_dct, ↓dr_obj, ↓k_lt_int, ↓k_le_int, ↓k_gt_int, ↓k_ge_int, ↓k_lt_str, ↓k_add_int, ↓k_add_str, ↓k_add_tup, ↓k_add_lst, ↓k_sub, ↓k_mul, ↓k_div, ↓k_mod, ↓k_pow, ↓k_neg, ↓k_eq_int, ↓k_eq_str, ↓k_is_nn, ↓k_is_int, ↓k_is_tup, ↓k_is_obj, ↓k_ix_lst, ↓k_ix_tup, ↓k_ix_str, ↓k_ix_dct, ↓k_len_str, ↓k_len_lst, ↓k_len_tup, ↓k_int_int, ↓k_int_bl, ↓k_abs, ↓k_str_int, ↓k_str_str, ↓k_tup_lst, ↓k_it_str, ↓k_it_tup, ↓k_it_lst, ↓k_in_dct, ↓e_enum, ↓k_en_tup, ↓k_en_lst, ↓e_atp, ↓e_lcM, ↓par3_three, ↓e_lits, ↓e_par3, ↓e_rev, ↓e_dct0, ↓e_nevE, ↓e_raise1, ↓e_exF, ↓e_exI, ↓e_tryA, ↓k_rev_lst, ↓k_addM_lst, ↓k_max2, ↓k_min2, List.set_cons_zero, List.set_cons_succ, wipeP, q6.sl, Bool.not_true, Bool.false_eq_true, if_false]
      refine wLcL_allM PV.str (fun x => PV.bl (nameB x)) trivial _ (fun x hx R' hR' => ?_) (sz0 (by simp)) ?_
      · simp -implicitDefEqProofs only [w_road_in_1, ↓e_ret, ↓e_retN, ↓e_nxt, ↓e_seq, ↓e_nev, ↓e_brk, ↓e_cnt, ↓e_expr, ↓e_ifs, ↓e_set, ↓e_asg, ↓par2_two, ↓e_par, ↓e_for, ↓e_setF, ↓e_put, ↓opt_some, ↓e_var, ↓e_c, ↓e_b, ↓e_1, ↓e_tst, ↓e_kB, ↓e_tru, ↓e_notT, ↓e_andT, ↓e_orT, ↓truK_bl, ↓e_andV, ↓e_orV, ↓e_notV, ↓e_if, ↓chK_bl, ↓e_ch, ↓e_nil, ↓e_cons, ↓e_tup, ↓e_lst, ↓e_lstF, ↓e_call, ↓e_arN, ↓e_p1, ↓e_p2, ↓e_meth, ↓e_bm, ↓e_fld, ↓e_lc, ↓e_dc, ↓e_it, ↓e_rng1, ↓e_rng2, ↓e_intB, ↓e_sl, ↓e_no, ↓e_so, ↓e_yes, ↓e_anm, ↓gs_0, ↓gs_s, ↓dr_int, ↓dr_str, ↓dr_bl, ↓dr_nn, ↓dr_tup, ↓dr_lst, ↓dr_dct, ↓dr_obj, ↓k_lt_int, ↓k_le_int, ↓k_gt_int, ↓k_ge_int, ↓k_lt_str, ↓k_add_int, ↓k_add_str, ↓k_add_tup, ↓k_add_lst, ↓k_sub, ↓k_mul, ↓k_div, ↓k_mod, ↓k_pow, ↓k_neg, ↓k_eq_int, ↓k_eq_str, ↓k_is_nn, ↓k_is_int, ↓k_is_tup, ↓k_is_obj, ↓k_ix_lst, ↓k_ix_tup, ↓k_ix_str, ↓k_ix_dct, ↓k_len_str, ↓k_len_lst, ↓k_len_tup, ↓k_int_int, ↓k_int_bl, ↓k_abs, ↓k_str_int, ↓k_str_str, ↓k_tup_lst, ↓k_it_str, ↓k_it_tup, ↓k_it_lst, ↓k_in_dct, ↓e_enum, ↓k_en_tup, ↓k_en_lst, ↓e_atp, ↓e_lcM, ↓par3_three, ↓e_lits, ↓e_par3, ↓e_rev, ↓e_dct0, ↓e_nevE, ↓e_raise1, ↓e_exF, ↓e_exI, ↓e_tryA, ↓k_rev_lst, ↓k_addM_lst, ↓k_max2, ↓k_min2, List.set_cons_zero, List.set_cons_succ, wipeP]
        exact ⟨rfl, txl (hz x (by
          simp only [List.mem_cons, List.not_mem_nil, or_false] at hx ⊢
          rcases hx with rfl | rfl | rfl <;> simp)), hR'⟩
      rw [k_allM]
      cases hn : [b, c, d].all nameB with
      | false =>
        simp -implicitDefEqProofs only [↓e_ret, ↓e_retN, ↓e_nxt, ↓e_seq, ↓e_nev, ↓e_brk, ↓e_cnt, ↓e_expr, ↓e_ifs, ↓e_set, ↓e_asg, ↓par2_two, ↓e_par, ↓e_for, ↓e_setF, ↓e_put, ↓opt_some, ↓e_var, ↓e_c, ↓e_b, ↓e_1, ↓e_tst, ↓e_kB, ↓e_tru, ↓e_notT, ↓e_andT, ↓e_orT, ↓truK_bl, ↓e_andV, ↓e_orV, ↓e_notV, ↓e_if, ↓chK_bl, ↓e_ch, ↓e_nil, ↓e_cons, ↓e_tup, ↓e_lst, ↓e_lstF, ↓e_call, ↓e_arN, ↓e_p1, ↓e_p2, ↓e_meth, ↓e_bm, ↓e_fld, ↓e_lc, ↓e_dc, ↓e_it, ↓e_rng1, ↓e_rng2, ↓e_intB, ↓e_sl, ↓e_no, ↓e_so, ↓e_yes, ↓e_anm, ↓gs_0, ↓gs_s, ↓dr_int, ↓dr_str, ↓dr_bl, ↓dr_nn, ↓dr_tup, ↓dr_lst, ↓dr_dct, ↓dr_obj, ↓k_lt_int, ↓k_le_int, ↓k_gt_int, ↓k_ge_int, ↓k_lt_str, ↓k_add_int, ↓k_add_str, ↓k_add_tup, ↓k_add_lst, ↓k_sub, ↓k_mul, ↓k_div, ↓k_mod, ↓k_pow, ↓k_neg, ↓k_eq_int, ↓k_eq_str, ↓k_is_nn, ↓k_is_int, ↓k_is_tup, ↓k_is_obj, ↓k_ix_lst, ↓k_ix_tup, ↓k_ix_str, ↓k_ix_dct, ↓k_len_str, ↓k_len_lst, ↓k_len_tup, ↓k_int_int, ↓k_int_bl, ↓k_abs, ↓k_str_int, ↓k_str_str, ↓k_tup_lst, ↓k_it_str, ↓k_it_tup, ↓k_it_lst, ↓k_in_dct, ↓e_enum, ↓k_en_tup, ↓k_en_lst, ↓e_atp, ↓e_lcM, ↓par3_three, ↓e_lits, ↓e_par3, ↓e_rev, ↓e_dct0, ↓e_nevE, ↓e_raise1, ↓e_exF, ↓e_exI, ↓e_tryA, ↓k_rev_lst, ↓k_addM_lst, ↓k_max2, ↓k_min2, List.set_cons_zero, List.set_cons_succ, wipeP, Bool.not_false, if_true]
        have : roadW [a, b, c, d, e, f] = none := by
          have : ¬ (a = "road" ∧ nameB b = true ∧ nameB c = true ∧ nameB d = true) := fun z => by
            rw [show [b, c, d].all nameB = true by simp [z.2.1, z.2.2.1, z.2.2.2]] at hn; cases hn
          exact if_neg this
        rw [this] at hR
        exact gR_now hR
      | true =>
        have hn2 : a = "road" ∧ nameB b = true ∧ nameB c = true ∧ nameB d = true := by
          simp only [List.all_cons, List.all_nil, Bool.and_true, Bool.and_eq_true] at hn
          exact ⟨ha, hn.1, hn.2.1, hn.2.2⟩
        have er : roadW [a, b, c, d, e, f] = (match intB' e, numB f with
          | some l, some m => some ⟨b, c, d, l, m⟩
          | _, _ => none) := if_pos hn2
        rw [er] at hR
        simp -implicitDefEqProofs only [↓e_ret, ↓e_retN, ↓e_nxt, ↓e_seq, ↓e_nev, ↓e_brk, ↓e_cnt, ↓e_expr, ↓e_ifs, ↓e_set, ↓e_asg, ↓par2_two, ↓e_par, ↓e_for, ↓e_setF, ↓e_put, ↓opt_some, ↓e_var, ↓e_c, ↓e_b, ↓e_1, ↓e_tst, ↓e_kB, ↓e_tru, ↓e_notT, ↓e_andT, ↓e_orT, ↓truK_bl, ↓e_andV, ↓e_orV, ↓e_notV, ↓e_if, ↓chK_bl, ↓e_ch, ↓e_nil, ↓e_cons, ↓e_tup, ↓e_lst, ↓e_lstF, ↓e_call, ↓e_arN, ↓e_p1, ↓e_p2, ↓e_meth, ↓e_bm, ↓e_fld, ↓e_lc, ↓e_dc, ↓e_it, ↓e_rng1, ↓e_rng2, ↓e_intB, ↓e_sl, ↓e_no, ↓e_so, ↓e_yes, ↓e_anm, ↓gs_0, ↓gs_s, ↓dr_int, ↓dr_str, ↓dr_bl, ↓dr_nn, ↓dr_tup, ↓dr_lst, ↓dr_dct, ↓dr_obj, ↓k_lt_int, ↓k_le_int, ↓k_gt_int, ↓k_ge_int, ↓k_lt_str, ↓k_add_int, ↓k_add_str, ↓k_add_tup, ↓k_add_lst, ↓k_sub, ↓k_mul, ↓k_div, ↓k_mod, ↓k_pow, ↓k_neg, ↓k_eq_int, ↓k_eq_str, ↓k_is_nn, ↓k_is_int, ↓k_is_tup, ↓k_is_obj, ↓k_ix_lst, ↓k_ix_tup, ↓k_ix_str, ↓k_ix_dct, ↓k_len_str, ↓k_len_lst, ↓k_len_tup, ↓k_int_int, ↓k_int_bl, ↓k_abs, ↓k_str_int, ↓k_str_str, ↓k_tup_lst, ↓k_it_str, ↓k_it_tup, ↓k_it_lst, ↓k_in_dct, ↓e_enum, ↓k_en_tup, ↓k_en_lst, ↓e_atp, ↓e_lcM, ↓par3_three, ↓e_lits, ↓e_par3, ↓e_rev, ↓e_dct0, ↓e_nevE, ↓e_raise1, ↓e_exF, ↓e_exI, ↓e_tryA, ↓k_rev_lst, ↓k_addM_lst, ↓k_max2, ↓k_min2, List.set_cons_zero, List.set_cons_succ, wipeP, Bool.not_true, Bool.false_eq_true, if_false, q6.i4, q6.i5]
        refine ⟨rfl, t_integer_in (hz e (by simp)) ⟨rfl, t_number_in (hz f (by simp)) ?_⟩⟩
        simp -implicitDefEqProofs only [↓e_ret, ↓e_retN, ↓e_nxt, ↓e_seq, ↓e_nev, ↓e_brk, ↓e_cnt, ↓e_expr, ↓e_ifs, ↓e_set, ↓e_asg, ↓par2_two, ↓e_par, ↓e_for, ↓e_setF, ↓e_put, ↓opt_some, ↓e_var, ↓e_c, ↓e_b, ↓e_1, ↓e_tst, ↓e_kB, ↓e_tru, ↓e_notT, ↓e_andT, ↓e_orT, ↓truK_bl, ↓e_andV, ↓e_orV, ↓e_notV, ↓e_if, ↓chK_bl, ↓e_ch, ↓e_nil, ↓e_cons, ↓e_tup, ↓e_lst, ↓e_lstF, ↓e_call, ↓e_arN, ↓e_p1, ↓e_p2, ↓e_meth, ↓e_bm, ↓e_fld, ↓e_lc, ↓e_dc, ↓e_it, ↓e_rng1, ↓e_rng2, ↓e_intB, ↓e_sl, ↓e_no, ↓e_so, ↓e_yes, ↓e_anm, ↓gs_0, ↓gs_s, ↓dr_int, ↓dr_str, ↓dr_bl, ↓dr_nn, ↓dr_tup, ↓dr_lst, ↓dr_dct, ↓dr_obj, ↓k_lt_int, ↓k_le_int, ↓k_gt_int, ↓k_ge_int, ↓k_lt_str, ↓k_add_int, ↓k_add_str, ↓k_add_tup, ↓k_add_lst, ↓k_sub, ↓k_mul, ↓k_div, ↓k_mod, ↓k_pow, ↓k_neg, ↓k_eq_int, ↓k_eq_str, ↓k_is_nn, ↓k_is_int, ↓k_is_tup, ↓k_is_obj, ↓k_ix_lst, ↓k_ix_tup, ↓k_ix_str, ↓k_ix_dct, ↓k_len_str, ↓k_len_lst, ↓k_len_tup, ↓k_int_int, ↓k_int_bl, ↓k_abs, ↓k_str_int, ↓k_str_str, ↓k_tup_lst, ↓k_it_str, ↓k_it_tup, ↓k_it_lst, ↓k_in_dct, ↓e_enum, ↓k_en_tup, ↓k_en_lst, ↓e_atp, ↓e_lcM, ↓par3_three, ↓e_lits, ↓e_par3, ↓e_rev, ↓e_dct0, ↓e_nevE, ↓e_raise1, ↓e_exF, ↓e_exI, ↓e_tryA, ↓k_rev_lst, ↓k_addM_lst, ↓k_max2, ↓k_min2, List.set_cons_zero, List.set_cons_succ, wipeP, is_opt]
        cases e1 : intB' e with
        | none =>
          rw [e1] at hR
          simp only [decide_true, if_true]
          exact gR_now hR
        | some l =>
          simp only [reduceCtorEq, decide_false, Bool.false_eq_true, if_false]
          cases e2 : numB f with
          | none =>
            rw [e1, e2] at hR
            simp only [decide_true, if_true]
            exact gR_now hR
          | some m =>
            rw [e1, e2] at hR
            simp -implicitDefEqProofs only [reduceCtorEq, decide_false, Bool.false_eq_true, if_false, ↓e_ret, ↓e_retN, ↓e_nxt, ↓e_seq, ↓e_nev, ↓e_brk, ↓e_cnt, ↓e_expr, ↓e_ifs, ↓e_set, ↓e_asg, ↓par2_two, ↓e_par, ↓e_for, ↓e_setF, ↓e_put, ↓opt_some, ↓e_var, ↓e_c, ↓e_b, ↓e_1, ↓e_tst, ↓e_kB, ↓e_tru, ↓e_notT, ↓e_andT, ↓e_orT, ↓truK_bl, ↓e_andV, ↓e_orV, ↓e_notV, ↓e_if, ↓chK_bl, ↓e_ch, ↓e_nil, ↓e_cons, ↓e_tup, ↓e_lst, ↓e_lstF, ↓e_call, ↓e_arN, ↓e_p1, ↓e_p2, ↓e_meth, ↓e_bm, ↓e_fld, ↓e_lc, ↓e_dc, ↓e_it, ↓e_rng1, ↓e_rng2, ↓e_intB, ↓e_sl, ↓e_no, ↓e_so, ↓e_yes, ↓e_anm, ↓gs_0, ↓gs_s, ↓dr_int, ↓dr_str, ↓dr_bl, ↓dr_nn, ↓dr_tup, ↓dr_lst, ↓dr_dct, ↓dr_obj, ↓k_lt_int, ↓k_le_int, ↓k_gt_int, ↓k_ge_int, ↓k_lt_str, ↓k_add_int, ↓k_add_str, ↓k_add_tup, ↓k_add_lst, ↓k_sub, ↓k_mul, ↓k_div, ↓k_mod, ↓k_pow, ↓k_neg, ↓k_eq_int, ↓k_eq_str, ↓k_is_nn, ↓k_is_int, ↓k_is_tup, ↓k_is_obj, ↓k_ix_lst, ↓k_ix_tup, ↓k_ix_str, ↓k_ix_dct, ↓k_len_str, ↓k_len_lst, ↓k_len_tup, ↓k_int_int, ↓k_int_bl, ↓k_abs, ↓k_str_int, ↓k_str_str, ↓k_tup_lst, ↓k_it_str, ↓k_it_tup, ↓k_it_lst, ↓k_in_dct, ↓e_enum, ↓k_en_tup, ↓k_en_lst, ↓e_atp, ↓e_lcM, ↓par3_three, ↓e_lits, ↓e_par3, ↓e_rev, ↓e_dct0, ↓e_nevE, ↓e_raise1, ↓e_exF, ↓e_exI, ↓e_tryA, ↓k_rev_lst, ↓k_addM_lst, ↓k_max2, ↓k_min2, List.set_cons_zero, List.set_cons_succ, wipeP, q6.i1, q6.i2, q6.i3]
            exact ⟨sz0 (by simp), gR_now hR⟩
    · rw [decide_eq_false ha]
      simp -implicitDefEqProofs only [↓e_ret, ↓e_retN, ↓e_nxt, ↓e_seq, ↓e_nev, ↓e_brk, ↓e_cnt, ↓e_expr, ↓e_ifs, ↓e_set, ↓e_asg, ↓par2_two, ↓e_par, ↓e_for, ↓e_setF, ↓e_put, ↓opt_some, ↓e_var, ↓e_c, ↓e_b, ↓e_1, ↓e_tst, ↓e_kB, ↓e_tru, ↓e_notT, ↓e_andT, ↓e_orT, ↓truK_bl, ↓e_andV, ↓e_orV, ↓e_notV, ↓e_if, ↓chK_bl, ↓e_ch, ↓e_nil, ↓e_cons, ↓e_tup, ↓e_lst, ↓e_lstF, ↓e_call, ↓e_arN, ↓e_p1, ↓e_p2, ↓e_meth, ↓e_bm, ↓e_fld, ↓e_lc, ↓e_dc, ↓e_it, ↓e_rng1, ↓e_rng2, ↓e_intB, ↓e_sl, ↓e_no, ↓e_so, ↓e_yes, ↓e_anm, ↓gs_0, ↓gs_s, ↓dr_int, ↓dr_str, ↓dr_bl, ↓dr_nn, ↓dr_tup, ↓dr_lst, ↓dr_dct, ↓dr_obj, ↓k_lt_int, ↓k_le_int, ↓k_gt_int, ↓k_ge_int, ↓k_lt_str, ↓k_add_int, ↓k_add_str, ↓k_add_tup, ↓k_add_lst, ↓k_sub, ↓k_mul, ↓k_div, ↓k_mod, ↓k_pow, ↓k_neg, ↓k_eq_int, ↓k_eq_str, ↓k_is_nn, ↓k_is_int, ↓k_is_tup, ↓k_is_obj, ↓k_ix_lst, ↓k_ix_tup, ↓k_ix_str, ↓k_ix_dct, ↓k_len_str, ↓k_len_lst, ↓k_len_tup, ↓k_int_int, ↓k_int_bl, ↓k_abs, ↓k_str_int, ↓k_str_str, ↓k_tup_lst, ↓k_it_str, ↓k_it_tup, ↓k_it_lst, ↓k_in_dct, ↓e_enum, ↓k_en_tup, ↓k_en_lst, ↓e_atp, ↓e_lcM, ↓par3_three, ↓e_lits, ↓e_par3, ↓e_rev, ↓e_dct0, ↓e_nevE, ↓e_raise1, ↓e_exF, ↓e_exI, ↓e_tryA, ↓k_rev_lst, ↓k_addM_lst, ↓k_max2, ↓k_min2, List.set_cons_zero, List.set_cons_succ, wipeP, Bool.not_false, if_true]
      have : roadW [a, b, c, d, e, f] = none := if_neg fun z => ha z.1
      rw [this] at hR
      exact gR_now hR
  · have es : startP n_road_in [.lst (ws.map PV.str)] = [some (.lst (ws.map PV.str)), none, none, none] := rfl
    rw [es]
    have d6 : decide (((ws.map PV.str).length : Int) = 6) = false := decide_eq_false (by rw [List.length_map]; omega)
    simp -implicitDefEqProofs only [w_road_in, ↓e_ret, ↓e_retN, ↓e_nxt, ↓e_seq, ↓e_nev, ↓e_brk, ↓e_cnt, ↓e_expr, ↓e_ifs, ↓e_set, ↓e_asg, ↓par2_two, ↓e_par, ↓e_for, ↓e_setF, ↓e_put, ↓opt_some, ↓e_var, ↓e_c, ↓e_b, ↓e_1, ↓e_tst, ↓e_kB, ↓e_tru, ↓e_notT, ↓e_andT, ↓e_orT, ↓truK_bl, ↓e_andV, ↓e_orV, ↓e_notV, ↓e_if, ↓chK_bl, ↓e_ch, ↓e_nil, ↓e_cons, ↓e_tup, ↓e_lst, ↓e_lstF, ↓e_call, ↓e_arN, ↓e_p1, ↓e_p2, ↓e_meth, ↓e_bm, ↓e_fld, ↓e_lc, ↓e_dc, ↓e_it, ↓e_rng1, ↓e_rng2, ↓e_intB, ↓e_sl, ↓e_no, ↓e_so, ↓e_yes, ↓e_anm, ↓gs_0, ↓gs_s, ↓dr_int, ↓dr_str, ↓dr_bl, ↓dr_nn, ↓dr_tup, ↓dr_lst, ↓dr_dct, ↓dr_obj, ↓k_lt_int, ↓k_le_int, ↓k_gt_int, ↓k_ge_int, ↓k_lt_str, ↓k_add_int, ↓k_add_str, ↓k_add_tup, ↓k_add_lst, ↓k_sub, ↓k_mul, ↓k_div, ↓k_mod, ↓k_pow, ↓k_neg, ↓k_eq_int, ↓k_eq_str, ↓k_is_nn, ↓k_is_int, ↓k_is_tup, ↓k_is_obj, ↓k_ix_lst, ↓k_ix_tup, ↓k_ix_str, ↓k_ix_dct, ↓k_len_str, ↓k_len_lst, ↓k_len_tup, ↓k_int_int, ↓k_int_bl, ↓k_abs, ↓k_str_int, ↓k_str_str, ↓k_tup_lst, ↓k_it_str, ↓k_it_tup, ↓k_it_lst, ↓k_in_dct, ↓e_enum, ↓k_en_tup, ↓k_en_lst, ↓e_atp, ↓e_lcM, ↓par3_three, ↓e_lits, ↓e_par3, ↓e_rev, ↓e_dct0, ↓e_nevE, ↓e_raise1, ↓e_exF, ↓e_exI, ↓e_tryA, ↓k_rev_lst, ↓k_addM_lst, ↓k_max2, ↓k_min2, List.set_cons_zero, List.set_cons_succ, wipeP, d6, Bool.bne_true, Bool.not_false, if_true]
    rw [roadW_not h6] at hR
    exact gR_now hR

/-! ### the reader -/
section
variable {C a b c : Addr} {ts : List Str} {rs : List Road} {S : Sto} {R : RK}
theorem Rdr.tw (h : Rdr C a b c ts rs S) {Cs : List Addr} (hc : C ∈ Cs) : fldK "towns" (.ref a) S R (· ∈ Cs) = R (.ref b) S := k_fldI h.ha rfl hc
theorem Rdr.rd (h : Rdr C a b c ts rs S) {Cs : List Addr} (hc : C ∈ Cs) : fldK "roads" (.ref a) S R (· ∈ Cs) = R (.ref c) S := k_fldI h.ha rfl hc
theorem Rdr.lt (h : Rdr C a b c ts rs S) : kLen (.ref b) S R = R (.int ts.length) S := by rw [k_len_ref h.hb, List.length_map]
theorem Rdr.lr (h : Rdr C a b c ts rs S) : kLen (.ref c) S R = R (.int rs.length) S := by rw [k_len_ref h.hc, List.length_map]
theorem atI_last {α : Type} {xs : List α} {x : α} : atI (xs ++ [x]) (-1) = some x := by
  have e : ixN (xs ++ [x]).length (-1) = some xs.length := by
    unfold ixN
    rw [List.length_append, List.length_singleton]
    simp only [Int.natCast_add, Int.natCast_one]
    rw [if_neg (by decide), if_pos (by omega)]
    exact congrArg some (by omega)
  unfold atI
  rw [e]
  show (xs ++ [x])[xs.length]? = some x
  simp
theorem Rdr.it (h : Rdr C a b c ts rs S) {us : List Str} {u : Str} (e : ts = us ++ [u]) : kIx (.ref b) (.int (-1)) S R = R (.str u) S := by
  rw [k_ix_ref h.hb, e, List.map_append, List.map_singleton, atI_last]
  exact propext ⟨fun ⟨z, h1, h2⟩ => by cases h1; exact h2, fun h => ⟨_, rfl, h⟩⟩
theorem Rdr.ir (h : Rdr C a b c ts rs S) {us : List Road} {u : Road} (e : rs = us ++ [u]) : kIx (.ref c) (.int (-1)) S R = R (roadP u) S := by
  rw [k_ix_ref h.hc, e, List.map_append, List.map_singleton, atI_last]
  exact propext ⟨fun ⟨z, h1, h2⟩ => by cases h1; exact h2, fun h => ⟨_, rfl, h⟩⟩
theorem Rdr.addT (h : Rdr C a b c ts rs S) (t : Str) : Rdr C a b c (ts ++ [t]) rs (updS S b (.lst (ts.map PV.str ++ [.str t]))) := ⟨h.ab, h.ac, h.bc, by rw [updS_ne h.ab]; exact h.ha, by rw [updS_same, List.map_append]; rfl, by rw [updS_ne h.bc.symm]; exact h.hc⟩
theorem Rdr.addR (h : Rdr C a b c ts rs S) (t : Road) : Rdr C a b c ts (rs ++ [t]) (updS S c (.lst (rs.map roadP ++ [roadP t]))) := ⟨h.ab, h.ac, h.bc, by rw [updS_ne h.ac]; exact h.ha, by rw [updS_ne h.bc]; exact h.hb, by rw [updS_same, List.map_append]; rfl⟩
end
theorem last_cases {α : Type} (xs : List α) : xs = [] ∨ ∃ ys y, xs = ys ++ [y] ∧ xs.getLast? = some y := by
  rcases List.eq_nil_or_concat xs with h | ⟨ys, y, h⟩
  · exact .inl h
  · exact .inr ⟨ys, y, by rw [h, List.concat_eq_append], by rw [h]; simp⟩
theorem pure_NetReader___init__ (K : PySem.W.Frag) : ∀ ps S R Z, ps.length = 1 → sp_NetReader___init__ K ps S R Z → w_NetReader___init__ K (fin R Z) (startP n_NetReader___init__ ps) S := by
  intro ps S R Z hl h
  obtain ⟨a, rfl, hS, hR⟩ := h
  have e : startP n_NetReader___init__ [.ref a] = [some (.ref a)] := rfl
  rw [e]
  have m1 : He.ga K "NetReader" ∈ [He.ga K "NetReader"] := List.mem_singleton.mpr rfl
  simp -implicitDefEqProofs only [w_NetReader___init__, ↓e_ret, ↓e_retN, ↓e_nxt, ↓e_seq, ↓e_nev, ↓e_brk, ↓e_cnt, ↓e_expr, ↓e_ifs, ↓e_set, ↓e_asg, ↓par2_two, ↓e_par, ↓e_for, ↓e_setF, ↓e_put, ↓opt_some, ↓e_var, ↓e_c, ↓e_b, ↓e_1, ↓e_tst, ↓e_kB, ↓e_tru, ↓e_notT, ↓e_andT, ↓e_orT, ↓truK_bl, ↓e_andV, ↓e_orV, ↓e_notV, ↓e_if, ↓chK_bl, ↓e_ch, ↓e_nil, ↓e_cons, ↓e_tup, ↓e_lst, ↓e_lstF, ↓e_call, ↓e_arN, ↓e_p1, ↓e_p2, ↓e_meth, ↓e_bm, ↓e_fld, ↓e_lc, ↓e_dc, ↓e_it, ↓e_rng1, ↓e_rng2, ↓e_intB, ↓e_sl, ↓e_no, ↓e_so, ↓e_yes, ↓e_anm, ↓gs_0, ↓gs_s, ↓dr_int, ↓dr_str, ↓dr_bl, ↓dr_nn, ↓dr_tup, ↓dr_lst, ↓dr_dct, ↓dr_obj, ↓k_lt_int, ↓k_le_int, ↓k_gt_int, ↓k_ge_int, ↓k_lt_str, ↓k_add_int, ↓k_add_str, ↓k_add_tup, ↓k_add_lst, ↓k_sub, ↓k_mul, ↓k_div, ↓k_mod, ↓k_pow, ↓k_neg, ↓k_eq_int, ↓k_eq_str, ↓k_is_nn, ↓k_is_int, ↓k_is_tup, ↓k_is_obj, ↓k_ix_lst, ↓k_ix_tup, ↓k_ix_str, ↓k_ix_dct, ↓k_len_str, ↓k_len_lst, ↓k_len_tup, ↓k_int_int, ↓k_int_bl, ↓k_abs, ↓k_str_int, ↓k_str_str, ↓k_tup_lst, ↓k_it_str, ↓k_it_tup, ↓k_it_lst, ↓k_in_dct, ↓e_enum, ↓k_en_tup, ↓k_en_lst, ↓e_atp, ↓e_lcM, ↓par3_three, ↓e_lits, ↓e_par3, ↓e_rev, ↓e_dct0, ↓e_nevE, ↓e_raise1, ↓e_exF, ↓e_exI, ↓e_tryA, ↓k_rev_lst, ↓k_addM_lst, ↓k_max2, ↓k_min2, List.set_cons_zero, List.set_cons_succ, wipeP]
  refine ⟨sz0 (by simp), fun b hb => ?_⟩
  have ab : a ≠ b := fun z => by rw [← z, hS] at hb; cases hb
  have h1 : updS S b (.lst []) a = some (.ins (He.ga K "NetReader") []) := by rw [updS_ne ab]; exact hS
  rw [k_setF h1 m1 (by simp)]
  refine ⟨sz0 (by simp), fun c hc => ?_⟩
  have bc : b ≠ c := fun z => by rw [← z, updS_ne ab.symm, updS_same] at hc; cases hc
  have ac : a ≠ c := fun z => by rw [← z, updS_same] at hc; cases hc
  have h2 : updS (updS (updS S b (.lst [])) a (.ins (He.ga K "NetReader") (putP "towns" (.ref b) []))) c (.lst []) a = some (.ins (He.ga K "NetReader") (putP "towns" (.ref b) [])) := by rw [updS_ne ac, updS_same]
  rw [k_setF h2 m1 (by show 1 < 1000; omega)]
  refine wfg_now (hR b c _ hb ?_ ⟨ab, ac, bc, ?_, ?_, ?_⟩ fun x h1 h2 h3 => ?_)
  · rwa [updS_ne ac.symm, updS_ne bc.symm] at hc
  · rw [updS_same]; rfl
  · rw [updS_ne ab.symm, updS_ne bc, updS_ne ab.symm, updS_same]; rfl
  · rw [updS_ne ac.symm, updS_same]; rfl
  · rw [updS_ne h1, updS_ne h3, updS_ne h1, updS_ne h2]
theorem townW_not {ts : List Str} {rs : List Road} {ws : List Str} (h : ws.length ≠ 2) : townW ts rs ws = none := by
  rcases ws with _ | ⟨a, _ | ⟨b, _ | ⟨c, r⟩⟩⟩
  all_goals first | rfl | exact absurd rfl h
theorem two_list {ws : List Str} (h : ws.length = 2) : ∃ a b, ws = [a, b] := by
  rcases ws with _ | ⟨a, _ | ⟨b, _ | ⟨c, r⟩⟩⟩
  all_goals first | exact ⟨_, _, rfl⟩ | (simp at h)
theorem pure_NetReader_is_town_read (K : PySem.W.Frag) : ∀ ps S R Z, ps.length = 2 → sp_NetReader_is_town_read K ps S R Z → w_NetReader_is_town_read K (fin R Z) (startP n_NetReader_is_town_read ps) S := by
  intro ps S R Z hl h
  obtain ⟨a, b, c, ⟨ts, rs⟩, ws, rfl, rd, ok, hz, hwl, hR⟩ := h
  dsimp only at rd ok hR
  have m1 : He.ga K "NetReader" ∈ [He.ga K "NetReader"] := List.mem_singleton.mpr rfl
  have e : startP n_NetReader_is_town_read [.ref a, .lst (ws.map PV.str)] = [some (.ref a), some (.lst (ws.map PV.str))] := rfl
  rw [e]
  by_cases h2 : ws.length = 2
  · obtain ⟨w0, t, rfl⟩ := two_list h2
    have i1 : ∀ (S : Sto) (R' : RK), kIx (.lst (([w0, t] : List Str).map PV.str)) (.int 1) S R' = R' (.str t) S := fun S R' => propext ⟨fun ⟨z, h1, h2⟩ => by cases h1; exact h2, fun h => ⟨_, rfl, h⟩⟩
    have l2 : ∀ (S : Sto) (R' : RK), kLen (.lst (([w0, t] : List Str).map PV.str)) S R' = R' (.int 2) S := fun _ _ => rfl
    clear e
    generalize PV.lst (([w0, t] : List Str).map PV.str) = q at i1 l2 ⊢
    have d0 : decide ((2 : Int) = 2) = true := rfl
    have no : (nameB t = true ∧ rs = [] ∧ ts.length < 40 ∧ lastOk ts t = true → False) → gR R (.bl false) S := fun z => by
      have : townW ts rs [w0, t] = none := if_neg z
      rw [this] at hR; exact gR_now hR
    simp -implicitDefEqProofs only [w_NetReader_is_town_read, ↓e_ret, ↓e_retN, ↓e_nxt, ↓e_seq, ↓e_nev, ↓e_brk, ↓e_cnt, ↓e_expr, ↓e_ifs, ↓e_set, ↓e_asg, ↓par2_two, ↓e_par, ↓e_for, ↓e_setF, ↓e_put, ↓opt_some, ↓e_var, ↓e_c, ↓e_b, ↓e_1, ↓e_tst, ↓e_kB, ↓e_tru, ↓e_notT, ↓e_andT, ↓e_orT, ↓truK_bl, ↓e_andV, ↓e_orV, ↓e_notV, ↓e_if, ↓chK_bl, ↓e_ch, ↓e_nil, ↓e_cons, ↓e_tup, ↓e_lst, ↓e_lstF, ↓e_call, ↓e_arN, ↓e_p1, ↓e_p2, ↓e_meth, ↓e_bm, ↓e_fld, ↓e_lc, ↓e_dc, ↓e_it, ↓e_rng1, ↓e_rng2, ↓e_intB, ↓e_sl, ↓e_no, ↓e_so, ↓e_yes, ↓e_anm, ↓gs_0, ↓gs_s, ↓dr_int, ↓dr_str, ↓dr_bl, ↓dr_nn, ↓dr_tup, ↓dr_lst, ↓dr_dct, ↓dr_obj, ↓k_lt_int, ↓k_le_int, ↓k_gt_int, ↓k_ge_int, ↓k_lt_str, ↓k_add_int, ↓k_add_str, ↓k_add_tup, ↓k_add_lst, ↓k_sub, ↓k_mul, ↓k_div, ↓k_mod, ↓k_pow, ↓k_neg, ↓k_eq_int, ↓k_eq_str, ↓k_is_nn, ↓k_is_int, ↓k_is_tup, ↓k_is_obj, ↓k_ix_lst, ↓k_ix_tup, ↓k_ix_str, ↓k_ix_dct, ↓k_len_str, ↓k_len_lst, ↓k_len_tup, ↓k_int_int, ↓k_int_bl, ↓k_abs, ↓k_str_int, ↓k_str_str, ↓k_tup_lst, ↓k_it_str, ↓k_it_tup, ↓k_it_lst, ↓k_in_dct, ↓e_enum, ↓k_en_tup, ↓k_en_lst, ↓e_atp, ↓e_lcM, ↓par3_three, ↓e_lits, ↓e_par3, ↓e_rev, ↓e_dct0, ↓e_nevE, ↓e_raise1, ↓e_exF, ↓e_exI, ↓e_tryA, ↓k_rev_lst, ↓k_addM_lst, ↓k_max2, ↓k_min2, List.set_cons_zero, List.set_cons_succ, wipeP, i1, l2, d0, rd.tw m1, rd.rd m1, rd.lt, rd.lr, Bool.bne_true, Bool.not_true, Bool.false_eq_true, if_false]
    refine ⟨rfl, txl (hz t (by simp)), ?_⟩
    cases hn : nameB t with
    | false =>
      simp -implicitDefEqProofs only [↓e_ret, ↓e_retN, ↓e_nxt, ↓e_seq, ↓e_nev, ↓e_brk, ↓e_cnt, ↓e_expr, ↓e_ifs, ↓e_set, ↓e_asg, ↓par2_two, ↓e_par, ↓e_for, ↓e_setF, ↓e_put, ↓opt_some, ↓e_var, ↓e_c, ↓e_b, ↓e_1, ↓e_tst, ↓e_kB, ↓e_tru, ↓e_notT, ↓e_andT, ↓e_orT, ↓truK_bl, ↓e_andV, ↓e_orV, ↓e_notV, ↓e_if, ↓chK_bl, ↓e_ch, ↓e_nil, ↓e_cons, ↓e_tup, ↓e_lst, ↓e_lstF, ↓e_call, ↓e_arN, ↓e_p1, ↓e_p2, ↓e_meth, ↓e_bm, ↓e_fld, ↓e_lc, ↓e_dc, ↓e_it, ↓e_rng1, ↓e_rng2, ↓e_intB, ↓e_sl, ↓e_no, ↓e_so, ↓e_yes, ↓e_anm, ↓gs_0, ↓gs_s, ↓dr_int, ↓dr_str, ↓dr_bl, ↓dr_nn, ↓dr_tup, ↓dr_lst, ↓dr_dct, ↓dr_obj, ↓k_lt_int, ↓k_le_int, ↓k_gt_int, ↓k_ge_int, ↓k_lt_str, ↓k_add_int, ↓k_add_str, ↓k_add_tup, ↓k_add_lst, ↓k_sub, ↓k_mul, ↓k_div, ↓k_mod, ↓k_pow, ↓k_neg, ↓k_eq_int, ↓k_eq_str, ↓k_is_nn, ↓k_is_int, ↓k_is_tup, ↓k_is_obj, ↓k_ix_lst, ↓k_ix_tup, ↓k_ix_str, ↓k_ix_dct, ↓k_len_str, ↓k_len_lst, ↓k_len_tup, ↓k_int_int, ↓k_int_bl, ↓k_abs, ↓k_str_int, ↓k_str_str, ↓k_tup_lst, ↓k_it_str, ↓k_it_tup, ↓k_it_lst, ↓k_in_dct, ↓e_enum, ↓k_en_tup, ↓k_en_lst, ↓e_atp, ↓e_lcM, ↓par3_three, ↓e_lits, ↓e_par3, ↓e_rev, ↓e_dct0, ↓e_nevE, ↓e_raise1, ↓e_exF, ↓e_exI, ↓e_tryA, ↓k_rev_lst, ↓k_addM_lst, ↓k_max2, ↓k_min2, List.set_cons_zero, List.set_cons_succ, wipeP, Bool.not_false, if_true]
      exact no fun z => by rw [hn] at z; cases z.1
    | true =>
      simp -implicitDefEqProofs only [↓e_ret, ↓e_retN, ↓e_nxt, ↓e_seq, ↓e_nev, ↓e_brk, ↓e_cnt, ↓e_expr, ↓e_ifs, ↓e_set, ↓e_asg, ↓par2_two, ↓e_par, ↓e_for, ↓e_setF, ↓e_put, ↓opt_some, ↓e_var, ↓e_c, ↓e_b, ↓e_1, ↓e_tst, ↓e_kB, ↓e_tru, ↓e_notT, ↓e_andT, ↓e_orT, ↓truK_bl, ↓e_andV, ↓e_orV, ↓e_notV, ↓e_if, ↓chK_bl, ↓e_ch, ↓e_nil, ↓e_cons, ↓e_tup, ↓e_lst, ↓e_lstF, ↓e_call, ↓e_arN, ↓e_p1, ↓e_p2, ↓e_meth, ↓e_bm, ↓e_fld, ↓e_lc, ↓e_dc, ↓e_it, ↓e_rng1, ↓e_rng2, ↓e_intB, ↓e_sl, ↓e_no, ↓e_so, ↓e_yes, ↓e_anm, ↓gs_0, ↓gs_s, ↓dr_int, ↓dr_str, ↓dr_bl, ↓dr_nn, ↓dr_tup, ↓dr_lst, ↓dr_dct, ↓dr_obj, ↓k_lt_int, ↓k_le_int, ↓k_gt_int, ↓k_ge_int, ↓k_lt_str, ↓k_add_int, ↓k_add_str, ↓k_add_tup, ↓k_add_lst, ↓k_sub, ↓k_mul, ↓k_div, ↓k_mod, ↓k_pow, ↓k_neg, ↓k_eq_int, ↓k_eq_str, ↓k_is_nn, ↓k_is_int, ↓k_is_tup, ↓k_is_obj, ↓k_ix_lst, ↓k_ix_tup, ↓k_ix_str, ↓k_ix_dct, ↓k_len_str, ↓k_len_lst, ↓k_len_tup, ↓k_int_int, ↓k_int_bl, ↓k_abs, ↓k_str_int, ↓k_str_str, ↓k_tup_lst, ↓k_it_str, ↓k_it_tup, ↓k_it_lst, ↓k_in_dct, ↓e_enum, ↓k_en_tup, ↓k_en_lst, ↓e_atp, ↓e_lcM, ↓par3_three, ↓e_lits, ↓e_par3, ↓e_rev, ↓e_dct0, ↓e_nevE, ↓e_raise1, ↓e_exF, ↓e_exI, ↓e_tryA, ↓k_rev_lst, ↓k_addM_lst, ↓k_max2, ↓k_min2, List.set_cons_zero, List.set_cons_succ, wipeP, rd.rd m1, rd.lr, Bool.not_true, Bool.false_eq_true, if_false]
      by_cases h0 : rs = []
      · subst h0
        have d1 : decide ((0 : Int) < (([] : List Road).length : Int)) = false := rfl
        simp -implicitDefEqProofs only [↓e_ret, ↓e_retN, ↓e_nxt, ↓e_seq, ↓e_nev, ↓e_brk, ↓e_cnt, ↓e_expr, ↓e_ifs, ↓e_set, ↓e_asg, ↓par2_two, ↓e_par, ↓e_for, ↓e_setF, ↓e_put, ↓opt_some, ↓e_var, ↓e_c, ↓e_b, ↓e_1, ↓e_tst, ↓e_kB, ↓e_tru, ↓e_notT, ↓e_andT, ↓e_orT, ↓truK_bl, ↓e_andV, ↓e_orV, ↓e_notV, ↓e_if, ↓chK_bl, ↓e_ch, ↓e_nil, ↓e_cons, ↓e_tup, ↓e_lst, ↓e_lstF, ↓e_call, ↓e_arN, ↓e_p1, ↓e_p2, ↓e_meth, ↓e_bm, ↓e_fld, ↓e_lc, ↓e_dc, ↓e_it, ↓e_rng1, ↓e_rng2, ↓e_intB, ↓e_sl, ↓e_no, ↓e_so, ↓e_yes, ↓e_anm, ↓gs_0, ↓gs_s, ↓dr_int, ↓dr_str, ↓dr_bl, ↓dr_nn, ↓dr_tup, ↓dr_lst, ↓dr_dct, ↓dr_obj, ↓k_lt_int, ↓k_le_int, ↓k_gt_int, ↓k_ge_int, ↓k_lt_str, ↓k_add_int, ↓k_add_str, ↓k_add_tup, ↓k_add_lst, ↓k_sub, ↓k_mul, ↓k_div, ↓k_mod, ↓k_pow, ↓k_neg, ↓k_eq_int, ↓k_eq_str, ↓k_is_nn, ↓k_is_int, ↓k_is_tup, ↓k_is_obj, ↓k_ix_lst, ↓k_ix_tup, ↓k_ix_str, ↓k_ix_dct, ↓k_len_str, ↓k_len_lst, ↓k_len_tup, ↓k_int_int, ↓k_int_bl, ↓k_abs, ↓k_str_int, ↓k_str_str, ↓k_tup_lst, ↓k_it_str, ↓k_it_tup, ↓k_it_lst, ↓k_in_dct, ↓e_enum, ↓k_en_tup, ↓k_en_lst, ↓e_atp, ↓e_lcM, ↓par3_three, ↓e_lits, ↓e_par3, ↓e_rev, ↓e_dct0, ↓e_nevE, ↓e_raise1, ↓e_exF, ↓e_exI, ↓e_tryA, ↓k_rev_lst, ↓k_addM_lst, ↓k_max2, ↓k_min2, List.set_cons_zero, List.set_cons_succ, wipeP, d1, rd.tw m1, rd.lt, Bool.false_eq_true, if_false]
        by_cases h40 : ts.length = 40
        · rw [decide_eq_true (show (ts.length : Int) = 40 by omega)]
          simp only [Bool.bne_false, if_true]
          exact no fun z => by have := z.2.2.1; omega
        · rw [decide_eq_false (show ¬ (ts.length : Int) = 40 by omega)]
          have hlt : ts.length < 40 := by have := ok.tl; omega
          simp -implicitDefEqProofs only [↓e_ret, ↓e_retN, ↓e_nxt, ↓e_seq, ↓e_nev, ↓e_brk, ↓e_cnt, ↓e_expr, ↓e_ifs, ↓e_set, ↓e_asg, ↓par2_two, ↓e_par, ↓e_for, ↓e_setF, ↓e_put, ↓opt_some, ↓e_var, ↓e_c, ↓e_b, ↓e_1, ↓e_tst, ↓e_kB, ↓e_tru, ↓e_notT, ↓e_andT, ↓e_orT, ↓truK_bl, ↓e_andV, ↓e_orV, ↓e_notV, ↓e_if, ↓chK_bl, ↓e_ch, ↓e_nil, ↓e_cons, ↓e_tup, ↓e_lst, ↓e_lstF, ↓e_call, ↓e_arN, ↓e_p1, ↓e_p2, ↓e_meth, ↓e_bm, ↓e_fld, ↓e_lc, ↓e_dc, ↓e_it, ↓e_rng1, ↓e_rng2, ↓e_intB, ↓e_sl, ↓e_no, ↓e_so, ↓e_yes, ↓e_anm, ↓gs_0, ↓gs_s, ↓dr_int, ↓dr_str, ↓dr_bl, ↓dr_nn, ↓dr_tup, ↓dr_lst, ↓dr_dct, ↓dr_obj, ↓k_lt_int, ↓k_le_int, ↓k_gt_int, ↓k_ge_int, ↓k_lt_str, ↓k_add_int, ↓k_add_str, ↓k_add_tup, ↓k_add_lst, ↓k_sub, ↓k_mul, ↓k_div, ↓k_mod, ↓k_pow, ↓k_neg, ↓k_eq_int, ↓k_eq_str, ↓k_is_nn, ↓k_is_int, ↓k_is_tup, ↓k_is_obj, ↓k_ix_lst, ↓k_ix_tup, ↓k_ix_str, ↓k_ix_dct, ↓k_len_str, ↓k_len_lst, ↓k_len_tup, ↓k_int_int, ↓k_int_bl, ↓k_abs, ↓k_str_int, ↓k_str_str, ↓k_tup_lst, ↓k_it_str, ↓k_it_tup, ↓k_it_lst, ↓k_in_dct, ↓e_enum, ↓k_en_tup, ↓k_en_lst, ↓e_atp, ↓e_lcM, ↓par3_three, ↓e_lits, ↓e_par3, ↓e_rev, ↓e_dct0, ↓e_nevE, ↓e_raise1, ↓e_exF, ↓e_exI, ↓e_tryA, ↓k_rev_lst, ↓k_addM_lst, ↓k_max2, ↓k_min2, List.set_cons_zero, List.set_cons_succ, wipeP, rd.tw m1, rd.lt, Bool.bne_false, Bool.false_eq_true, if_false]
          have f1 : lastOk ts t = true → tyB "list" (dr S (.ref b)) ∧ kApp (.ref b) [.str t] S fun _ S' => gR R (.bl true) S' := fun hlo => by
            refine ⟨by rw [k_tyB_ref rd.hb]; trivial, ?_⟩
            have : townW ts [] [w0, t] = some t := if_pos ⟨hn, rfl, hlt, hlo⟩
            rw [this] at hR
            rw [k_app rd.hb]
            exact ⟨by rw [List.length_map, sizeLine_eq]; omega, gR_now (hR _ (rd.addT t) fun x h1 h2 h3 => updS_ne h2)⟩
          rcases last_cases ts with h0 | ⟨us, u, h0, h1⟩
          · rw [if_neg (by rw [h0]; simp)]
            exact f1 (by unfold lastOk; rw [h0]; rfl)
          · rw [if_pos (decide_eq_true (by rw [h0]; simp))]
            simp -implicitDefEqProofs only [↓e_ret, ↓e_retN, ↓e_nxt, ↓e_seq, ↓e_nev, ↓e_brk, ↓e_cnt, ↓e_expr, ↓e_ifs, ↓e_set, ↓e_asg, ↓par2_two, ↓e_par, ↓e_for, ↓e_setF, ↓e_put, ↓opt_some, ↓e_var, ↓e_c, ↓e_b, ↓e_1, ↓e_tst, ↓e_kB, ↓e_tru, ↓e_notT, ↓e_andT, ↓e_orT, ↓truK_bl, ↓e_andV, ↓e_orV, ↓e_notV, ↓e_if, ↓chK_bl, ↓e_ch, ↓e_nil, ↓e_cons, ↓e_tup, ↓e_lst, ↓e_lstF, ↓e_call, ↓e_arN, ↓e_p1, ↓e_p2, ↓e_meth, ↓e_bm, ↓e_fld, ↓e_lc, ↓e_dc, ↓e_it, ↓e_rng1, ↓e_rng2, ↓e_intB, ↓e_sl, ↓e_no, ↓e_so, ↓e_yes, ↓e_anm, ↓gs_0, ↓gs_s, ↓dr_int, ↓dr_str, ↓dr_bl, ↓dr_nn, ↓dr_tup, ↓dr_lst, ↓dr_dct, ↓dr_obj, ↓k_lt_int, ↓k_le_int, ↓k_gt_int, ↓k_ge_int, ↓k_lt_str, ↓k_add_int, ↓k_add_str, ↓k_add_tup, ↓k_add_lst, ↓k_sub, ↓k_mul, ↓k_div, ↓k_mod, ↓k_pow, ↓k_neg, ↓k_eq_int, ↓k_eq_str, ↓k_is_nn, ↓k_is_int, ↓k_is_tup, ↓k_is_obj, ↓k_ix_lst, ↓k_ix_tup, ↓k_ix_str, ↓k_ix_dct, ↓k_len_str, ↓k_len_lst, ↓k_len_tup, ↓k_int_int, ↓k_int_bl, ↓k_abs, ↓k_str_int, ↓k_str_str, ↓k_tup_lst, ↓k_it_str, ↓k_it_tup, ↓k_it_lst, ↓k_in_dct, ↓e_enum, ↓k_en_tup, ↓k_en_lst, ↓e_atp, ↓e_lcM, ↓par3_three, ↓e_lits, ↓e_par3, ↓e_rev, ↓e_dct0, ↓e_nevE, ↓e_raise1, ↓e_exF, ↓e_exI, ↓e_tryA, ↓k_rev_lst, ↓k_addM_lst, ↓k_max2, ↓k_min2, List.set_cons_zero, List.set_cons_succ, wipeP, rd.tw m1, rd.it h0, i1]
            have el : lastOk ts t = ltS u t := by unfold lastOk; rw [h1]
            cases hlt2 : ltS u t with
            | true =>
              simp -implicitDefEqProofs only [↓e_ret, ↓e_retN, ↓e_nxt, ↓e_seq, ↓e_nev, ↓e_brk, ↓e_cnt, ↓e_expr, ↓e_ifs, ↓e_set, ↓e_asg, ↓par2_two, ↓e_par, ↓e_for, ↓e_setF, ↓e_put, ↓opt_some, ↓e_var, ↓e_c, ↓e_b, ↓e_1, ↓e_tst, ↓e_kB, ↓e_tru, ↓e_notT, ↓e_andT, ↓e_orT, ↓truK_bl, ↓e_andV, ↓e_orV, ↓e_notV, ↓e_if, ↓chK_bl, ↓e_ch, ↓e_nil, ↓e_cons, ↓e_tup, ↓e_lst, ↓e_lstF, ↓e_call, ↓e_arN, ↓e_p1, ↓e_p2, ↓e_meth, ↓e_bm, ↓e_fld, ↓e_lc, ↓e_dc, ↓e_it, ↓e_rng1, ↓e_rng2, ↓e_intB, ↓e_sl, ↓e_no, ↓e_so, ↓e_yes, ↓e_anm, ↓gs_0, ↓gs_s, ↓dr_int, ↓dr_str, ↓dr_bl, ↓dr_nn, ↓dr_tup, ↓dr_lst, ↓dr_dct, ↓dr_obj, ↓k_lt_int, ↓k_le_int, ↓k_gt_int, ↓k_ge_int, ↓k_lt_str, ↓k_add_int, ↓k_add_str, ↓k_add_tup, ↓k_add_lst, ↓k_sub, ↓k_mul, ↓k_div, ↓k_mod, ↓k_pow, ↓k_neg, ↓k_eq_int, ↓k_eq_str, ↓k_is_nn, ↓k_is_int, ↓k_is_tup, ↓k_is_obj, ↓k_ix_lst, ↓k_ix_tup, ↓k_ix_str, ↓k_ix_dct, ↓k_len_str, ↓k_len_lst, ↓k_len_tup, ↓k_int_int, ↓k_int_bl, ↓k_abs, ↓k_str_int, ↓k_str_str, ↓k_tup_lst, ↓k_it_str, ↓k_it_tup, ↓k_it_lst, ↓k_in_dct, ↓e_enum, ↓k_en_tup, ↓k_en_lst, ↓e_atp, ↓e_lcM, ↓par3_three, ↓e_lits, ↓e_par3, ↓e_rev, ↓e_dct0, ↓e_nevE, ↓e_raise1, ↓e_exF, ↓e_exI, ↓e_tryA, ↓k_rev_lst, ↓k_addM_lst, ↓k_max2, ↓k_min2, List.set_cons_zero, List.set_cons_succ, wipeP, i1, rd.tw m1, Bool.not_true, Bool.false_eq_true, if_false]
              exact f1 (by rw [el]; exact hlt2)
            | false =>
              simp -implicitDefEqProofs only [↓e_ret, ↓e_retN, ↓e_nxt, ↓e_seq, ↓e_nev, ↓e_brk, ↓e_cnt, ↓e_expr, ↓e_ifs, ↓e_set, ↓e_asg, ↓par2_two, ↓e_par, ↓e_for, ↓e_setF, ↓e_put, ↓opt_some, ↓e_var, ↓e_c, ↓e_b, ↓e_1, ↓e_tst, ↓e_kB, ↓e_tru, ↓e_notT, ↓e_andT, ↓e_orT, ↓truK_bl, ↓e_andV, ↓e_orV, ↓e_notV, ↓e_if, ↓chK_bl, ↓e_ch, ↓e_nil, ↓e_cons, ↓e_tup, ↓e_lst, ↓e_lstF, ↓e_call, ↓e_arN, ↓e_p1, ↓e_p2, ↓e_meth, ↓e_bm, ↓e_fld, ↓e_lc, ↓e_dc, ↓e_it, ↓e_rng1, ↓e_rng2, ↓e_intB, ↓e_sl, ↓e_no, ↓e_so, ↓e_yes, ↓e_anm, ↓gs_0, ↓gs_s, ↓dr_int, ↓dr_str, ↓dr_bl, ↓dr_nn, ↓dr_tup, ↓dr_lst, ↓dr_dct, ↓dr_obj, ↓k_lt_int, ↓k_le_int, ↓k_gt_int, ↓k_ge_int, ↓k_lt_str, ↓k_add_int, ↓k_add_str, ↓k_add_tup, ↓k_add_lst, ↓k_sub, ↓k_mul, ↓k_div, ↓k_mod, ↓k_pow, ↓k_neg, ↓k_eq_int, ↓k_eq_str, ↓k_is_nn, ↓k_is_int, ↓k_is_tup, ↓k_is_obj, ↓k_ix_lst, ↓k_ix_tup, ↓k_ix_str, ↓k_ix_dct, ↓k_len_str, ↓k_len_lst, ↓k_len_tup, ↓k_int_int, ↓k_int_bl, ↓k_abs, ↓k_str_int, ↓k_str_str, ↓k_tup_lst, ↓k_it_str, ↓k_it_tup, ↓k_it_lst, ↓k_in_dct, ↓e_enum, ↓k_en_tup, ↓k_en_lst, ↓e_atp, ↓e_lcM, ↓par3_three, ↓e_lits, ↓e_par3, ↓e_rev, ↓e_dct0, ↓e_nevE, ↓e_raise1, ↓e_exF, ↓e_exI, ↓e_tryA, ↓k_rev_lst, ↓k_addM_lst, ↓k_max2, ↓k_min2, List.set_cons_zero, List.set_cons_succ, wipeP, Bool.not_false, if_true]
              exact no fun z => by rw [el, hlt2] at z; exact absurd z.2.2.2 (by simp)
      · have d1 : decide ((0 : Int) < (rs.length : Int)) = true := decide_eq_true (by have := List.length_pos_iff.mpr h0; omega)
        rw [d1]
        simp only [if_true]
        exact no fun z => h0 z.2.1
  · have d2 : decide (((ws.map PV.str).length : Int) = 2) = false := decide_eq_false (by rw [List.length_map]; omega)
    simp -implicitDefEqProofs only [w_NetReader_is_town_read, ↓e_ret, ↓e_retN, ↓e_nxt, ↓e_seq, ↓e_nev, ↓e_brk, ↓e_cnt, ↓e_expr, ↓e_ifs, ↓e_set, ↓e_asg, ↓par2_two, ↓e_par, ↓e_for, ↓e_setF, ↓e_put, ↓opt_some, ↓e_var, ↓e_c, ↓e_b, ↓e_1, ↓e_tst, ↓e_kB, ↓e_tru, ↓e_notT, ↓e_andT, ↓e_orT, ↓truK_bl, ↓e_andV, ↓e_orV, ↓e_notV, ↓e_if, ↓chK_bl, ↓e_ch, ↓e_nil, ↓e_cons, ↓e_tup, ↓e_lst, ↓e_lstF, ↓e_call, ↓e_arN, ↓e_p1, ↓e_p2, ↓e_meth, ↓e_bm, ↓e_fld, ↓e_lc, ↓e_dc, ↓e_it, ↓e_rng1, ↓e_rng2, ↓e_intB, ↓e_sl, ↓e_no, ↓e_so, ↓e_yes, ↓e_anm, ↓gs_0, ↓gs_s, ↓dr_int, ↓dr_str, ↓dr_bl, ↓dr_nn, ↓dr_tup, ↓dr_lst, ↓dr_dct, ↓dr_obj, ↓k_lt_int, ↓k_le_int, ↓k_gt_int, ↓k_ge_int, ↓k_lt_str, ↓k_add_int, ↓k_add_str, ↓k_add_tup, ↓k_add_lst, ↓k_sub, ↓k_mul, ↓k_div, ↓k_mod, ↓k_pow, ↓k_neg, ↓k_eq_int, ↓k_eq_str, ↓k_is_nn, ↓k_is_int, ↓k_is_tup, ↓k_is_obj, ↓k_ix_lst, ↓k_ix_tup, ↓k_ix_str, ↓k_ix_dct, ↓k_len_str, ↓k_len_lst, ↓k_len_tup, ↓k_int_int, ↓k_int_bl, ↓k_abs, ↓k_str_int, ↓k_str_str, ↓k_tup_lst, ↓k_it_str, ↓k_it_tup, ↓k_it_lst, ↓k_in_dct, ↓e_enum, ↓k_en_tup, ↓k_en_lst, ↓e_atp, ↓e_lcM, ↓par3_three, ↓e_lits, ↓e_par3, ↓e_rev, ↓e_dct0, ↓e_nevE, ↓e_raise1, ↓e_exF, ↓e_exI, ↓e_tryA, ↓k_rev_lst, ↓k_addM_lst, ↓k_max2, ↓k_min2, List.set_cons_zero, List.set_cons_succ, wipeP, d2, Bool.bne_true, Bool.not_false, if_true]
    rw [townW_not h2] at hR
    exact gR_now hR

/-! ### cuts -/
theorem spl1_sum (s : Nat) : ∀ (l acc : List Nat), ((TL.spl [s] 0 acc l).map List.length).sum + (TL.spl [s] 0 acc l).length = acc.length + l.length + 1
  | [], acc => by rw [TL.spl_nil]; simp
  | c :: r, acc => by
    by_cases h : TL.pre [s] (c :: r) = true
    · rw [TL.spl_hit h]
      have := spl1_sum s r []
      simp only [List.map_cons, List.sum_cons, List.length_cons, List.length_nil] at this ⊢
      show acc.length + (List.map List.length (TL.spl [s] 0 [] r)).sum + ((TL.spl [s] 0 [] r).length + 1) = _
      omega
    · rw [TL.spl_miss (by simpa using h)]
      have := spl1_sum s r (acc ++ [c])
      simp only [List.length_append, List.length_cons, List.length_nil] at this ⊢
      omega
theorem split_sum {x y : Str} {s : Nat} (ey : TL.tl y = [s]) (hk : y.cps.all (· < 256) = true) : ((Txt.split x y).map Str.length).sum + (Txt.split x y).length = x.length + 1 := by
  have e := TL.split_spl x y (by rw [ey]; simp) (TL.kind_ok hk)
  have h := spl1_sum s (TL.tl x) []
  rw [ey] at e
  rw [← e, List.map_map, List.length_map] at h
  have el : (List.length ∘ TL.tl) = Str.length := funext fun x => (TL.len_tl x).symm
  rw [el, ← TL.len_tl] at h
  simp only [List.length_nil] at h
  omega
theorem le_sum : ∀ {xs : List Nat} {n : Nat}, n ∈ xs → n ≤ xs.sum
  | x :: xs, n, h => by
    rw [List.sum_cons]
    rcases List.mem_cons.mp h with h | h
    · omega
    · have := le_sum h; omega
section
variable {x y : Str} {s : Nat}
theorem split_ne (ey : TL.tl y = [s]) (hk : y.cps.all (· < 256) = true) : Txt.split x y ≠ [] := fun z => by
  have := split_sum (x := x) ey hk
  rw [z] at this; simp at this
theorem split_piece (ey : TL.tl y = [s]) (hk : y.cps.all (· < 256) = true) : ∀ w ∈ Txt.split x y, w.length ≤ x.length := fun w hw => by
  have h := split_sum (x := x) ey hk
  have h1 := le_sum (List.mem_map_of_mem (f := Str.length) hw)
  have h2 := List.length_pos_of_mem hw
  omega
theorem split_num (ey : TL.tl y = [s]) (hk : y.cps.all (· < 256) = true) : (Txt.split x y).length ≤ x.length + 1 := by
  have h := split_sum (x := x) ey hk
  omega
end
theorem sp_k : (" " : Str).cps.all (· < 256) = true := by decide +kernel
theorem nl_k : ("\n" : Str).cps.all (· < 256) = true := by decide +kernel
theorem optR_is {o : Option Road} {S : Sto} {R : RK} : kIs false (optR o) .non S R = R (.bl (decide (o = none))) S := by
  cases o with
  | none => rfl
  | some n => rfl
theorem roadW_some {ws : List Str} {r : Road} (h : roadW ws = some r) : ∃ e f, ws = [("road" : Str), r.name, r.bgn, r.fin, e, f] ∧ nameB r.name = true ∧ nameB r.bgn = true ∧ nameB r.fin = true ∧ intB' e = some r.len ∧ numB f = some r.room := by
  by_cases h6 : ws.length = 6
  · obtain ⟨a, b, c, d, e, f, rfl⟩ := six_list h6
    by_cases hc : a = "road" ∧ nameB b = true ∧ nameB c = true ∧ nameB d = true
    · have er : roadW [a, b, c, d, e, f] = (match intB' e, numB f with
          | some l, some m => some ⟨b, c, d, l, m⟩
          | _, _ => none) := if_pos hc
      rw [er] at h
      cases e1 : intB' e with
      | none => rw [e1] at h; cases h
      | some l =>
        cases e2 : numB f with
        | none => rw [e1, e2] at h; cases h
        | some m =>
          rw [e1, e2] at h
          cases h
          exact ⟨e, f, by rw [hc.1], hc.2.1, hc.2.2.1, hc.2.2.2, e1, e2⟩
    · rw [show roadW [a, b, c, d, e, f] = none from if_neg hc] at h; cases h
  · rw [roadW_not h6] at h; cases h
theorem roadW_sz {ws : List Str} {r : Road} (h : roadW ws = some r) : RoadSz r := by
  obtain ⟨e, f, _, h1, h2, h3, _⟩ := roadW_some h
  exact ⟨name_szL h1, name_szL h2, name_szL h3⟩
theorem pure_NetReader_is_read (K : PySem.W.Frag) : ∀ ps S R Z, ps.length = 2 → sp_NetReader_is_read K ps S R Z → w_NetReader_is_read K (fin R Z) (startP n_NetReader_is_read ps) S := by
  intro ps S R Z hl h
  obtain ⟨a, b, c, ⟨ts, rs⟩, ln, rfl, rd, ok, hz, hR⟩ := h
  dsimp only at rd ok
  have e : startP n_NetReader_is_read [.ref a, .str ln] = [some (.ref a), some (.str ln), none, none] := rfl
  rw [e]
  have m1 : He.ga K "NetReader" ∈ [He.ga K "NetReader"] := List.mem_singleton.mpr rfl
  have ks : ∀ (S : Sto) (R' : RK), kSplit (.str ln) [.str " "] S R' = (((" " : Str).length == 0) = false ∧ ln.length + 2 ≤ sizeLine ∧ R' (.lst ((Txt.split ln " ").map PV.str)) S) := fun _ _ => rfl
  simp -implicitDefEqProofs only [w_NetReader_is_read, ↓e_ret, ↓e_retN, ↓e_nxt, ↓e_seq, ↓e_nev, ↓e_brk, ↓e_cnt, ↓e_expr, ↓e_ifs, ↓e_set, ↓e_asg, ↓par2_two, ↓e_par, ↓e_for, ↓e_setF, ↓e_put, ↓opt_some, ↓e_var, ↓e_c, ↓e_b, ↓e_1, ↓e_tst, ↓e_kB, ↓e_tru, ↓e_notT, ↓e_andT, ↓e_orT, ↓truK_bl, ↓e_andV, ↓e_orV, ↓e_notV, ↓e_if, ↓chK_bl, ↓e_ch, ↓e_nil, ↓e_cons, ↓e_tup, ↓e_lst, ↓e_lstF, ↓e_call, ↓e_arN, ↓e_p1, ↓e_p2, ↓e_meth, ↓e_bm, ↓e_fld, ↓e_lc, ↓e_dc, ↓e_it, ↓e_rng1, ↓e_rng2, ↓e_intB, ↓e_sl, ↓e_no, ↓e_so, ↓e_yes, ↓e_anm, ↓gs_0, ↓gs_s, ↓dr_int, ↓dr_str, ↓dr_bl, ↓dr_nn, ↓dr_tup, ↓dr_lst, ↓dr_dct, ↓dr_obj, ↓k_lt_int, ↓k_le_int, ↓k_gt_int, ↓k_ge_int, ↓k_lt_str, ↓k_add_int, ↓k_add_str, ↓k_add_tup, ↓k_add_lst, ↓k_sub, ↓k_mul, ↓k_div, ↓k_mod, ↓k_pow, ↓k_neg, ↓k_eq_int, ↓k_eq_str, ↓k_is_nn, ↓k_is_int, ↓k_is_tup, ↓k_is_obj, ↓k_ix_lst, ↓k_ix_tup, ↓k_ix_str, ↓k_ix_dct, ↓k_len_str, ↓k_len_lst, ↓k_len_tup, ↓k_int_int, ↓k_int_bl, ↓k_abs, ↓k_str_int, ↓k_str_str, ↓k_tup_lst, ↓k_it_str, ↓k_it_tup, ↓k_it_lst, ↓k_in_dct, ↓e_enum, ↓k_en_tup, ↓k_en_lst, ↓e_atp, ↓e_lcM, ↓par3_three, ↓e_lits, ↓e_par3, ↓e_rev, ↓e_dct0, ↓e_nevE, ↓e_raise1, ↓e_exF, ↓e_exI, ↓e_tryA, ↓k_rev_lst, ↓k_addM_lst, ↓k_max2, ↓k_min2, List.set_cons_zero, List.set_cons_succ, wipeP, ks]
  refine ⟨rfl, by rw [len_sp]; rfl, txl hz, ?_⟩
  unfold stepL at hR
  have wne := split_ne (x := ln) tl_sp sp_k
  have wsz : ∀ w ∈ Txt.split ln " ", w.length ≤ TxL := fun w hw => by have := split_piece tl_sp sp_k w hw; omega
  have wnum : (Txt.split ln " ").length ≤ TxL := by have := split_num (x := ln) tl_sp sp_k; omega
  generalize Txt.split ln " " = ws at wne wsz wnum hR ⊢
  obtain ⟨w0, wr, ew⟩ : ∃ w0 wr, ws = w0 :: wr := by
    cases ws with
    | nil => exact absurd rfl wne
    | cons a r => exact ⟨a, r, rfl⟩
  refine ⟨.str w0, atI_nn (j := 0) rfl (by rw [ew]; rfl), ?_⟩
  unfold stepW at hR
  have eh : ws.head? = some w0 := by rw [ew]; rfl
  by_cases h0 : w0 = "town"
  · rw [k_eq_str, decide_eq_true h0]
    simp -implicitDefEqProofs only [↓e_ret, ↓e_retN, ↓e_nxt, ↓e_seq, ↓e_nev, ↓e_brk, ↓e_cnt, ↓e_expr, ↓e_ifs, ↓e_set, ↓e_asg, ↓par2_two, ↓e_par, ↓e_for, ↓e_setF, ↓e_put, ↓opt_some, ↓e_var, ↓e_c, ↓e_b, ↓e_1, ↓e_tst, ↓e_kB, ↓e_tru, ↓e_notT, ↓e_andT, ↓e_orT, ↓truK_bl, ↓e_andV, ↓e_orV, ↓e_notV, ↓e_if, ↓chK_bl, ↓e_ch, ↓e_nil, ↓e_cons, ↓e_tup, ↓e_lst, ↓e_lstF, ↓e_call, ↓e_arN, ↓e_p1, ↓e_p2, ↓e_meth, ↓e_bm, ↓e_fld, ↓e_lc, ↓e_dc, ↓e_it, ↓e_rng1, ↓e_rng2, ↓e_intB, ↓e_sl, ↓e_no, ↓e_so, ↓e_yes, ↓e_anm, ↓gs_0, ↓gs_s, ↓dr_int, ↓dr_str, ↓dr_bl, ↓dr_nn, ↓dr_tup, ↓dr_lst, ↓dr_dct, ↓dr_obj, ↓k_lt_int, ↓k_le_int, ↓k_gt_int, ↓k_ge_int, ↓k_lt_str, ↓k_add_int, ↓k_add_str, ↓k_add_tup, ↓k_add_lst, ↓k_sub, ↓k_mul, ↓k_div, ↓k_mod, ↓k_pow, ↓k_neg, ↓k_eq_int, ↓k_eq_str, ↓k_is_nn, ↓k_is_int, ↓k_is_tup, ↓k_is_obj, ↓k_ix_lst, ↓k_ix_tup, ↓k_ix_str, ↓k_ix_dct, ↓k_len_str, ↓k_len_lst, ↓k_len_tup, ↓k_int_int, ↓k_int_bl, ↓k_abs, ↓k_str_int, ↓k_str_str, ↓k_tup_lst, ↓k_it_str, ↓k_it_tup, ↓k_it_lst, ↓k_in_dct, ↓e_enum, ↓k_en_tup, ↓k_en_lst, ↓e_atp, ↓e_lcM, ↓par3_three, ↓e_lits, ↓e_par3, ↓e_rev, ↓e_dct0, ↓e_nevE, ↓e_raise1, ↓e_exF, ↓e_exI, ↓e_tryA, ↓k_rev_lst, ↓k_addM_lst, ↓k_max2, ↓k_min2, List.set_cons_zero, List.set_cons_succ, wipeP, Bool.bne_false, if_true]
    rw [k_methI rd.ha rfl]
    rw [if_pos (eh.trans (congrArg some h0))] at hR
    refine ⟨trivial, rfl, a, b, c, (ts, rs), ws, rfl, rd, ok, wsz, wnum, ?_⟩
    dsimp only at hR ⊢
    cases et : townW ts rs ws with
    | none => rw [et] at hR; exact gR_now hR
    | some t =>
      rw [et] at hR
      exact fun S' h1 h2 => gR_now (hR S' h1 h2)
  · rw [k_eq_str, decide_eq_false h0]
    simp -implicitDefEqProofs only [↓e_ret, ↓e_retN, ↓e_nxt, ↓e_seq, ↓e_nev, ↓e_brk, ↓e_cnt, ↓e_expr, ↓e_ifs, ↓e_set, ↓e_asg, ↓par2_two, ↓e_par, ↓e_for, ↓e_setF, ↓e_put, ↓opt_some, ↓e_var, ↓e_c, ↓e_b, ↓e_1, ↓e_tst, ↓e_kB, ↓e_tru, ↓e_notT, ↓e_andT, ↓e_orT, ↓truK_bl, ↓e_andV, ↓e_orV, ↓e_notV, ↓e_if, ↓chK_bl, ↓e_ch, ↓e_nil, ↓e_cons, ↓e_tup, ↓e_lst, ↓e_lstF, ↓e_call, ↓e_arN, ↓e_p1, ↓e_p2, ↓e_meth, ↓e_bm, ↓e_fld, ↓e_lc, ↓e_dc, ↓e_it, ↓e_rng1, ↓e_rng2, ↓e_intB, ↓e_sl, ↓e_no, ↓e_so, ↓e_yes, ↓e_anm, ↓gs_0, ↓gs_s, ↓dr_int, ↓dr_str, ↓dr_bl, ↓dr_nn, ↓dr_tup, ↓dr_lst, ↓dr_dct, ↓dr_obj, ↓k_lt_int, ↓k_le_int, ↓k_gt_int, ↓k_ge_int, ↓k_lt_str, ↓k_add_int, ↓k_add_str, ↓k_add_tup, ↓k_add_lst, ↓k_sub, ↓k_mul, ↓k_div, ↓k_mod, ↓k_pow, ↓k_neg, ↓k_eq_int, ↓k_eq_str, ↓k_is_nn, ↓k_is_int, ↓k_is_tup, ↓k_is_obj, ↓k_ix_lst, ↓k_ix_tup, ↓k_ix_str, ↓k_ix_dct, ↓k_len_str, ↓k_len_lst, ↓k_len_tup, ↓k_int_int, ↓k_int_bl, ↓k_abs, ↓k_str_int, ↓k_str_str, ↓k_tup_lst, ↓k_it_str, ↓k_it_tup, ↓k_it_lst, ↓k_in_dct, ↓e_enum, ↓k_en_tup, ↓k_en_lst, ↓e_atp, ↓e_lcM, ↓par3_three, ↓e_lits, ↓e_par3, ↓e_rev, ↓e_dct0, ↓e_nevE, ↓e_raise1, ↓e_exF, ↓e_exI, ↓e_tryA, ↓k_rev_lst, ↓k_addM_lst, ↓k_max2, ↓k_min2, List.set_cons_zero, List.set_cons_succ, wipeP, Bool.bne_false, Bool.false_eq_true, if_false]
    rw [if_neg (by rw [eh]; exact fun z => h0 (Option.some.inj z))] at hR
    refine ⟨rfl, ws, rfl, wne, wsz, ?_⟩
    simp -implicitDefEqProofs only [↓e_ret, ↓e_retN, ↓e_nxt, ↓e_seq, ↓e_nev, ↓e_brk, ↓e_cnt, ↓e_expr, ↓e_ifs, ↓e_set, ↓e_asg, ↓par2_two, ↓e_par, ↓e_for, ↓e_setF, ↓e_put, ↓opt_some, ↓e_var, ↓e_c, ↓e_b, ↓e_1, ↓e_tst, ↓e_kB, ↓e_tru, ↓e_notT, ↓e_andT, ↓e_orT, ↓truK_bl, ↓e_andV, ↓e_orV, ↓e_notV, ↓e_if, ↓chK_bl, ↓e_ch, ↓e_nil, ↓e_cons, ↓e_tup, ↓e_lst, ↓e_lstF, ↓e_call, ↓e_arN, ↓e_p1, ↓e_p2, ↓e_meth, ↓e_bm, ↓e_fld, ↓e_lc, ↓e_dc, ↓e_it, ↓e_rng1, ↓e_rng2, ↓e_intB, ↓e_sl, ↓e_no, ↓e_so, ↓e_yes, ↓e_anm, ↓gs_0, ↓gs_s, ↓dr_int, ↓dr_str, ↓dr_bl, ↓dr_nn, ↓dr_tup, ↓dr_lst, ↓dr_dct, ↓dr_obj, ↓k_lt_int, ↓k_le_int, ↓k_gt_int, ↓k_ge_int, ↓k_lt_str, ↓k_add_int, ↓k_add_str, ↓k_add_tup, ↓k_add_lst, ↓k_sub, ↓k_mul, ↓k_div, ↓k_mod, ↓k_pow, ↓k_neg, ↓k_eq_int, ↓k_eq_str, ↓k_is_nn, ↓k_is_int, ↓k_is_tup, ↓k_is_obj, ↓k_ix_lst, ↓k_ix_tup, ↓k_ix_str, ↓k_ix_dct, ↓k_len_str, ↓k_len_lst, ↓k_len_tup, ↓k_int_int, ↓k_int_bl, ↓k_abs, ↓k_str_int, ↓k_str_str, ↓k_tup_lst, ↓k_it_str, ↓k_it_tup, ↓k_it_lst, ↓k_in_dct, ↓e_enum, ↓k_en_tup, ↓k_en_lst, ↓e_atp, ↓e_lcM, ↓par3_three, ↓e_lits, ↓e_par3, ↓e_rev, ↓e_dct0, ↓e_nevE, ↓e_raise1, ↓e_exF, ↓e_exI, ↓e_tryA, ↓k_rev_lst, ↓k_addM_lst, ↓k_max2, ↓k_min2, List.set_cons_zero, List.set_cons_succ, wipeP, optR_is]
    cases er : roadW ws with
    | none =>
      rw [er] at hR
      simp only [decide_true, if_true]
      exact gR_now hR
    | some r =>
      rw [er] at hR
      dsimp only at hR
      simp -implicitDefEqProofs only [reduceCtorEq, decide_false, Bool.false_eq_true, if_false, ↓e_ret, ↓e_retN, ↓e_nxt, ↓e_seq, ↓e_nev, ↓e_brk, ↓e_cnt, ↓e_expr, ↓e_ifs, ↓e_set, ↓e_asg, ↓par2_two, ↓e_par, ↓e_for, ↓e_setF, ↓e_put, ↓opt_some, ↓e_var, ↓e_c, ↓e_b, ↓e_1, ↓e_tst, ↓e_kB, ↓e_tru, ↓e_notT, ↓e_andT, ↓e_orT, ↓truK_bl, ↓e_andV, ↓e_orV, ↓e_notV, ↓e_if, ↓chK_bl, ↓e_ch, ↓e_nil, ↓e_cons, ↓e_tup, ↓e_lst, ↓e_lstF, ↓e_call, ↓e_arN, ↓e_p1, ↓e_p2, ↓e_meth, ↓e_bm, ↓e_fld, ↓e_lc, ↓e_dc, ↓e_it, ↓e_rng1, ↓e_rng2, ↓e_intB, ↓e_sl, ↓e_no, ↓e_so, ↓e_yes, ↓e_anm, ↓gs_0, ↓gs_s, ↓dr_int, ↓dr_str, ↓dr_bl, ↓dr_nn, ↓dr_tup, ↓dr_lst, ↓dr_dct, ↓dr_obj, ↓k_lt_int, ↓k_le_int, ↓k_gt_int, ↓k_ge_int, ↓k_lt_str, ↓k_add_int, ↓k_add_str, ↓k_add_tup, ↓k_add_lst, ↓k_sub, ↓k_mul, ↓k_div, ↓k_mod, ↓k_pow, ↓k_neg, ↓k_eq_int, ↓k_eq_str, ↓k_is_nn, ↓k_is_int, ↓k_is_tup, ↓k_is_obj, ↓k_ix_lst, ↓k_ix_tup, ↓k_ix_str, ↓k_ix_dct, ↓k_len_str, ↓k_len_lst, ↓k_len_tup, ↓k_int_int, ↓k_int_bl, ↓k_abs, ↓k_str_int, ↓k_str_str, ↓k_tup_lst, ↓k_it_str, ↓k_it_tup, ↓k_it_lst, ↓k_in_dct, ↓e_enum, ↓k_en_tup, ↓k_en_lst, ↓e_atp, ↓e_lcM, ↓par3_three, ↓e_lits, ↓e_par3, ↓e_rev, ↓e_dct0, ↓e_nevE, ↓e_raise1, ↓e_exF, ↓e_exI, ↓e_tryA, ↓k_rev_lst, ↓k_addM_lst, ↓k_max2, ↓k_min2, List.set_cons_zero, List.set_cons_succ, wipeP, rd.tw m1, optR]
      refine ⟨rfl, t_is_road (ts := ts) (by rw [dr_refL rd.hb]; rfl) ?_ (roadW_sz er)⟩
      have no : roadOkB ts rs r = false → gR R (.bl false) S := fun z => by
        rw [z] at hR
        exact gR_now hR
      cases hb : roadB ts r with
      | false =>
        simp -implicitDefEqProofs only [↓e_ret, ↓e_retN, ↓e_nxt, ↓e_seq, ↓e_nev, ↓e_brk, ↓e_cnt, ↓e_expr, ↓e_ifs, ↓e_set, ↓e_asg, ↓par2_two, ↓e_par, ↓e_for, ↓e_setF, ↓e_put, ↓opt_some, ↓e_var, ↓e_c, ↓e_b, ↓e_1, ↓e_tst, ↓e_kB, ↓e_tru, ↓e_notT, ↓e_andT, ↓e_orT, ↓truK_bl, ↓e_andV, ↓e_orV, ↓e_notV, ↓e_if, ↓chK_bl, ↓e_ch, ↓e_nil, ↓e_cons, ↓e_tup, ↓e_lst, ↓e_lstF, ↓e_call, ↓e_arN, ↓e_p1, ↓e_p2, ↓e_meth, ↓e_bm, ↓e_fld, ↓e_lc, ↓e_dc, ↓e_it, ↓e_rng1, ↓e_rng2, ↓e_intB, ↓e_sl, ↓e_no, ↓e_so, ↓e_yes, ↓e_anm, ↓gs_0, ↓gs_s, ↓dr_int, ↓dr_str, ↓dr_bl, ↓dr_nn, ↓dr_tup, ↓dr_lst, ↓dr_dct, ↓dr_obj, ↓k_lt_int, ↓k_le_int, ↓k_gt_int, ↓k_ge_int, ↓k_lt_str, ↓k_add_int, ↓k_add_str, ↓k_add_tup, ↓k_add_lst, ↓k_sub, ↓k_mul, ↓k_div, ↓k_mod, ↓k_pow, ↓k_neg, ↓k_eq_int, ↓k_eq_str, ↓k_is_nn, ↓k_is_int, ↓k_is_tup, ↓k_is_obj, ↓k_ix_lst, ↓k_ix_tup, ↓k_ix_str, ↓k_ix_dct, ↓k_len_str, ↓k_len_lst, ↓k_len_tup, ↓k_int_int, ↓k_int_bl, ↓k_abs, ↓k_str_int, ↓k_str_str, ↓k_tup_lst, ↓k_it_str, ↓k_it_tup, ↓k_it_lst, ↓k_in_dct, ↓e_enum, ↓k_en_tup, ↓k_en_lst, ↓e_atp, ↓e_lcM, ↓par3_three, ↓e_lits, ↓e_par3, ↓e_rev, ↓e_dct0, ↓e_nevE, ↓e_raise1, ↓e_exF, ↓e_exI, ↓e_tryA, ↓k_rev_lst, ↓k_addM_lst, ↓k_max2, ↓k_min2, List.set_cons_zero, List.set_cons_succ, wipeP, Bool.not_false, if_true]
        exact no (by unfold roadOkB; rw [hb]; rfl)
      | true =>
        simp -implicitDefEqProofs only [↓e_ret, ↓e_retN, ↓e_nxt, ↓e_seq, ↓e_nev, ↓e_brk, ↓e_cnt, ↓e_expr, ↓e_ifs, ↓e_set, ↓e_asg, ↓par2_two, ↓e_par, ↓e_for, ↓e_setF, ↓e_put, ↓opt_some, ↓e_var, ↓e_c, ↓e_b, ↓e_1, ↓e_tst, ↓e_kB, ↓e_tru, ↓e_notT, ↓e_andT, ↓e_orT, ↓truK_bl, ↓e_andV, ↓e_orV, ↓e_notV, ↓e_if, ↓chK_bl, ↓e_ch, ↓e_nil, ↓e_cons, ↓e_tup, ↓e_lst, ↓e_lstF, ↓e_call, ↓e_arN, ↓e_p1, ↓e_p2, ↓e_meth, ↓e_bm, ↓e_fld, ↓e_lc, ↓e_dc, ↓e_it, ↓e_rng1, ↓e_rng2, ↓e_intB, ↓e_sl, ↓e_no, ↓e_so, ↓e_yes, ↓e_anm, ↓gs_0, ↓gs_s, ↓dr_int, ↓dr_str, ↓dr_bl, ↓dr_nn, ↓dr_tup, ↓dr_lst, ↓dr_dct, ↓dr_obj, ↓k_lt_int, ↓k_le_int, ↓k_gt_int, ↓k_ge_int, ↓k_lt_str, ↓k_add_int, ↓k_add_str, ↓k_add_tup, ↓k_add_lst, ↓k_sub, ↓k_mul, ↓k_div, ↓k_mod, ↓k_pow, ↓k_neg, ↓k_eq_int, ↓k_eq_str, ↓k_is_nn, ↓k_is_int, ↓k_is_tup, ↓k_is_obj, ↓k_ix_lst, ↓k_ix_tup, ↓k_ix_str, ↓k_ix_dct, ↓k_len_str, ↓k_len_lst, ↓k_len_tup, ↓k_int_int, ↓k_int_bl, ↓k_abs, ↓k_str_int, ↓k_str_str, ↓k_tup_lst, ↓k_it_str, ↓k_it_tup, ↓k_it_lst, ↓k_in_dct, ↓e_enum, ↓k_en_tup, ↓k_en_lst, ↓e_atp, ↓e_lcM, ↓par3_three, ↓e_lits, ↓e_par3, ↓e_rev, ↓e_dct0, ↓e_nevE, ↓e_raise1, ↓e_exF, ↓e_exI, ↓e_tryA, ↓k_rev_lst, ↓k_addM_lst, ↓k_max2, ↓k_min2, List.set_cons_zero, List.set_cons_succ, wipeP, rd.rd m1, rd.lr, Bool.not_true, Bool.false_eq_true, if_false]
        by_cases h120 : rs.length = 120
        · rw [decide_eq_true (show (rs.length : Int) = 120 by omega)]
          simp only [Bool.bne_false, if_true]
          exact no (by unfold roadOkB; rw [decide_eq_false (show ¬ rs.length < 120 by omega)]; simp)
        · rw [decide_eq_false (show ¬ (rs.length : Int) = 120 by omega)]
          have hlt : rs.length < 120 := by have := ok.rl; omega
          simp -implicitDefEqProofs only [↓e_ret, ↓e_retN, ↓e_nxt, ↓e_seq, ↓e_nev, ↓e_brk, ↓e_cnt, ↓e_expr, ↓e_ifs, ↓e_set, ↓e_asg, ↓par2_two, ↓e_par, ↓e_for, ↓e_setF, ↓e_put, ↓opt_some, ↓e_var, ↓e_c, ↓e_b, ↓e_1, ↓e_tst, ↓e_kB, ↓e_tru, ↓e_notT, ↓e_andT, ↓e_orT, ↓truK_bl, ↓e_andV, ↓e_orV, ↓e_notV, ↓e_if, ↓chK_bl, ↓e_ch, ↓e_nil, ↓e_cons, ↓e_tup, ↓e_lst, ↓e_lstF, ↓e_call, ↓e_arN, ↓e_p1, ↓e_p2, ↓e_meth, ↓e_bm, ↓e_fld, ↓e_lc, ↓e_dc, ↓e_it, ↓e_rng1, ↓e_rng2, ↓e_intB, ↓e_sl, ↓e_no, ↓e_so, ↓e_yes, ↓e_anm, ↓gs_0, ↓gs_s, ↓dr_int, ↓dr_str, ↓dr_bl, ↓dr_nn, ↓dr_tup, ↓dr_lst, ↓dr_dct, ↓dr_obj, ↓k_lt_int, ↓k_le_int, ↓k_gt_int, ↓k_ge_int, ↓k_lt_str, ↓k_add_int, ↓k_add_str, ↓k_add_tup, ↓k_add_lst, ↓k_sub, ↓k_mul, ↓k_div, ↓k_mod, ↓k_pow, ↓k_neg, ↓k_eq_int, ↓k_eq_str, ↓k_is_nn, ↓k_is_int, ↓k_is_tup, ↓k_is_obj, ↓k_ix_lst, ↓k_ix_tup, ↓k_ix_str, ↓k_ix_dct, ↓k_len_str, ↓k_len_lst, ↓k_len_tup, ↓k_int_int, ↓k_int_bl, ↓k_abs, ↓k_str_int, ↓k_str_str, ↓k_tup_lst, ↓k_it_str, ↓k_it_tup, ↓k_it_lst, ↓k_in_dct, ↓e_enum, ↓k_en_tup, ↓k_en_lst, ↓e_atp, ↓e_lcM, ↓par3_three, ↓e_lits, ↓e_par3, ↓e_rev, ↓e_dct0, ↓e_nevE, ↓e_raise1, ↓e_exF, ↓e_exI, ↓e_tryA, ↓k_rev_lst, ↓k_addM_lst, ↓k_max2, ↓k_min2, List.set_cons_zero, List.set_cons_succ, wipeP, rd.rd m1, rd.lr, Bool.bne_false, Bool.false_eq_true, if_false]
          have f1 : lastOk (rs.map Road.name) r.name = true → tyB "list" (dr S (.ref c)) ∧ kApp (.ref c) [roadP r] S fun _ S' => gR R (.bl true) S' := fun hlo => by
            refine ⟨by rw [k_tyB_ref rd.hc]; trivial, ?_⟩
            have : roadOkB ts rs r = true := by unfold roadOkB; rw [hb, hlo, decide_eq_true hlt]; rfl
            rw [this] at hR
            rw [k_app rd.hc]
            exact ⟨by rw [List.length_map, sizeLine_eq]; omega, gR_now (hR _ (rd.addR r) fun x h1 h2 h3 => updS_ne h3)⟩
          have r0 : ∀ (q : Road) (S : Sto) (R' : RK), kIx (roadP q) (.int 0) S R' = R' (.str q.name) S := fun q S R' => propext ⟨fun ⟨z, h1, h2⟩ => by cases h1; exact h2, fun h => ⟨_, rfl, h⟩⟩
          rcases last_cases rs with h0 | ⟨us, u, h0, h1⟩
          · rw [if_neg (by rw [h0]; simp)]
            exact f1 (by unfold lastOk; rw [h0]; rfl)
          · rw [if_pos (decide_eq_true (by rw [h0]; simp))]
            simp -implicitDefEqProofs only [↓e_ret, ↓e_retN, ↓e_nxt, ↓e_seq, ↓e_nev, ↓e_brk, ↓e_cnt, ↓e_expr, ↓e_ifs, ↓e_set, ↓e_asg, ↓par2_two, ↓e_par, ↓e_for, ↓e_setF, ↓e_put, ↓opt_some, ↓e_var, ↓e_c, ↓e_b, ↓e_1, ↓e_tst, ↓e_kB, ↓e_tru, ↓e_notT, ↓e_andT, ↓e_orT, ↓truK_bl, ↓e_andV, ↓e_orV, ↓e_notV, ↓e_if, ↓chK_bl, ↓e_ch, ↓e_nil, ↓e_cons, ↓e_tup, ↓e_lst, ↓e_lstF, ↓e_call, ↓e_arN, ↓e_p1, ↓e_p2, ↓e_meth, ↓e_bm, ↓e_fld, ↓e_lc, ↓e_dc, ↓e_it, ↓e_rng1, ↓e_rng2, ↓e_intB, ↓e_sl, ↓e_no, ↓e_so, ↓e_yes, ↓e_anm, ↓gs_0, ↓gs_s, ↓dr_int, ↓dr_str, ↓dr_bl, ↓dr_nn, ↓dr_tup, ↓dr_lst, ↓dr_dct, ↓dr_obj, ↓k_lt_int, ↓k_le_int, ↓k_gt_int, ↓k_ge_int, ↓k_lt_str, ↓k_add_int, ↓k_add_str, ↓k_add_tup, ↓k_add_lst, ↓k_sub, ↓k_mul, ↓k_div, ↓k_mod, ↓k_pow, ↓k_neg, ↓k_eq_int, ↓k_eq_str, ↓k_is_nn, ↓k_is_int, ↓k_is_tup, ↓k_is_obj, ↓k_ix_lst, ↓k_ix_tup, ↓k_ix_str, ↓k_ix_dct, ↓k_len_str, ↓k_len_lst, ↓k_len_tup, ↓k_int_int, ↓k_int_bl, ↓k_abs, ↓k_str_int, ↓k_str_str, ↓k_tup_lst, ↓k_it_str, ↓k_it_tup, ↓k_it_lst, ↓k_in_dct, ↓e_enum, ↓k_en_tup, ↓k_en_lst, ↓e_atp, ↓e_lcM, ↓par3_three, ↓e_lits, ↓e_par3, ↓e_rev, ↓e_dct0, ↓e_nevE, ↓e_raise1, ↓e_exF, ↓e_exI, ↓e_tryA, ↓k_rev_lst, ↓k_addM_lst, ↓k_max2, ↓k_min2, List.set_cons_zero, List.set_cons_succ, wipeP, rd.rd m1, rd.ir h0, r0]
            have el : lastOk (rs.map Road.name) r.name = ltS u.name r.name := by
              unfold lastOk
              rw [List.getLast?_map, h1]; rfl
            cases hlt2 : ltS u.name r.name with
            | true =>
              simp -implicitDefEqProofs only [↓e_ret, ↓e_retN, ↓e_nxt, ↓e_seq, ↓e_nev, ↓e_brk, ↓e_cnt, ↓e_expr, ↓e_ifs, ↓e_set, ↓e_asg, ↓par2_two, ↓e_par, ↓e_for, ↓e_setF, ↓e_put, ↓opt_some, ↓e_var, ↓e_c, ↓e_b, ↓e_1, ↓e_tst, ↓e_kB, ↓e_tru, ↓e_notT, ↓e_andT, ↓e_orT, ↓truK_bl, ↓e_andV, ↓e_orV, ↓e_notV, ↓e_if, ↓chK_bl, ↓e_ch, ↓e_nil, ↓e_cons, ↓e_tup, ↓e_lst, ↓e_lstF, ↓e_call, ↓e_arN, ↓e_p1, ↓e_p2, ↓e_meth, ↓e_bm, ↓e_fld, ↓e_lc, ↓e_dc, ↓e_it, ↓e_rng1, ↓e_rng2, ↓e_intB, ↓e_sl, ↓e_no, ↓e_so, ↓e_yes, ↓e_anm, ↓gs_0, ↓gs_s, ↓dr_int, ↓dr_str, ↓dr_bl, ↓dr_nn, ↓dr_tup, ↓dr_lst, ↓dr_dct, ↓dr_obj, ↓k_lt_int, ↓k_le_int, ↓k_gt_int, ↓k_ge_int, ↓k_lt_str, ↓k_add_int, ↓k_add_str, ↓k_add_tup, ↓k_add_lst, ↓k_sub, ↓k_mul, ↓k_div, ↓k_mod, ↓k_pow, ↓k_neg, ↓k_eq_int, ↓k_eq_str, ↓k_is_nn, ↓k_is_int, ↓k_is_tup, ↓k_is_obj, ↓k_ix_lst, ↓k_ix_tup, ↓k_ix_str, ↓k_ix_dct, ↓k_len_str, ↓k_len_lst, ↓k_len_tup, ↓k_int_int, ↓k_int_bl, ↓k_abs, ↓k_str_int, ↓k_str_str, ↓k_tup_lst, ↓k_it_str, ↓k_it_tup, ↓k_it_lst, ↓k_in_dct, ↓e_enum, ↓k_en_tup, ↓k_en_lst, ↓e_atp, ↓e_lcM, ↓par3_three, ↓e_lits, ↓e_par3, ↓e_rev, ↓e_dct0, ↓e_nevE, ↓e_raise1, ↓e_exF, ↓e_exI, ↓e_tryA, ↓k_rev_lst, ↓k_addM_lst, ↓k_max2, ↓k_min2, List.set_cons_zero, List.set_cons_succ, wipeP, rd.rd m1, Bool.not_true, Bool.false_eq_true, if_false]
              exact f1 (by rw [el]; exact hlt2)
            | false =>
              simp -implicitDefEqProofs only [↓e_ret, ↓e_retN, ↓e_nxt, ↓e_seq, ↓e_nev, ↓e_brk, ↓e_cnt, ↓e_expr, ↓e_ifs, ↓e_set, ↓e_asg, ↓par2_two, ↓e_par, ↓e_for, ↓e_setF, ↓e_put, ↓opt_some, ↓e_var, ↓e_c, ↓e_b, ↓e_1, ↓e_tst, ↓e_kB, ↓e_tru, ↓e_notT, ↓e_andT, ↓e_orT, ↓truK_bl, ↓e_andV, ↓e_orV, ↓e_notV, ↓e_if, ↓chK_bl, ↓e_ch, ↓e_nil, ↓e_cons, ↓e_tup, ↓e_lst, ↓e_lstF, ↓e_call, ↓e_arN, ↓e_p1, ↓e_p2, ↓e_meth, ↓e_bm, ↓e_fld, ↓e_lc, ↓e_dc, ↓e_it, ↓e_rng1, ↓e_rng2, ↓e_intB, ↓e_sl, ↓e_no, ↓e_so, ↓e_yes, ↓e_anm, ↓gs_0, ↓gs_s, ↓dr_int, ↓dr_str, ↓dr_bl, ↓dr_nn, ↓dr_tup, ↓dr_lst, ↓dr_dct, ↓dr_obj, ↓k_lt_int, ↓k_le_int, ↓k_gt_int, ↓k_ge_int, ↓k_lt_str, ↓k_add_int, ↓k_add_str, ↓k_add_tup, ↓k_add_lst, ↓k_sub, ↓k_mul, ↓k_div, ↓k_mod, ↓k_pow, ↓k_neg, ↓k_eq_int, ↓k_eq_str, ↓k_is_nn, ↓k_is_int, ↓k_is_tup, ↓k_is_obj, ↓k_ix_lst, ↓k_ix_tup, ↓k_ix_str, ↓k_ix_dct, ↓k_len_str, ↓k_len_lst, ↓k_len_tup, ↓k_int_int, ↓k_int_bl, ↓k_abs, ↓k_str_int, ↓k_str_str, ↓k_tup_lst, ↓k_it_str, ↓k_it_tup, ↓k_it_lst, ↓k_in_dct, ↓e_enum, ↓k_en_tup, ↓k_en_lst, ↓e_atp, ↓e_lcM, ↓par3_three, ↓e_lits, ↓e_par3, ↓e_rev, ↓e_dct0, ↓e_nevE, ↓e_raise1, ↓e_exF, ↓e_exI, ↓e_tryA, ↓k_rev_lst, ↓k_addM_lst, ↓k_max2, ↓k_min2, List.set_cons_zero, List.set_cons_succ, wipeP, Bool.not_false, if_true]
              exact no (by unfold roadOkB; rw [el, hlt2]; simp)

/-! ### the net read -/
theorem pw_last {α : Type} {r : α → α → Prop} (tr : ∀ a b c, r a b → r b c → r a c) {xs : List α} {x : α} (h : xs.Pairwise r) (hl : ∀ y ∈ xs.getLast?, r y x) : (xs ++ [x]).Pairwise r := by
  refine List.pairwise_append.mpr ⟨h, List.pairwise_singleton _ _, fun a ha b hb => ?_⟩
  rw [List.mem_singleton.mp hb]
  rcases List.eq_nil_or_concat xs with e | ⟨ys, y, e⟩
  · rw [e] at ha; cases ha
  · rw [List.concat_eq_append] at e
    subst e
    have hy : r y x := hl y (by simp)
    rcases List.mem_append.mp ha with ha | ha
    · exact tr _ _ _ ((List.pairwise_append.mp h).2.2 a ha y (by simp)) hy
    · rw [List.mem_singleton.mp ha]; exact hy
theorem lt_tr (a b c : Str) (h : ltS a b = true) (h' : ltS b c = true) : ltS a c = true := decide_eq_true (List.lt_trans (of_decide_eq_true h) (of_decide_eq_true h'))
theorem lastOk_all {xs : List Str} {x : Str} (h : lastOk xs x = true) : ∀ y ∈ xs.getLast?, ltS y x = true := fun y hy => by
  unfold lastOk at h
  rw [Option.mem_def] at hy
  rw [hy] at h; exact h
theorem step_ok {s s' : Net2} {l : Str} (ok : NetOk s.1 s.2) (h : stepL s l = some s') : NetOk s'.1 s'.2 := by
  obtain ⟨ts, rs⟩ := s
  unfold stepL stepW at h
  split at h
  · obtain ⟨t, ht, rfl⟩ := Option.map_eq_some_iff.mp h
    dsimp only at ok ht ⊢
    by_cases h2 : (Txt.split l " ").length = 2
    · obtain ⟨w0, u, e⟩ := two_list h2
      rw [e] at ht
      by_cases hc : nameB u = true ∧ rs = [] ∧ ts.length < 40 ∧ lastOk ts u = true
      · rw [show townW ts rs [w0, u] = some u from if_pos hc] at ht
        cases ht
        obtain ⟨h1, h2, h3, h4⟩ := hc
        subst h2
        refine ⟨fun x hx => ?_, pw_last lt_tr ok.ta (lastOk_all h4), by rw [List.length_append, List.length_singleton]; omega, fun r hr => (List.not_mem_nil hr).elim, .nil, by simp⟩
        rcases List.mem_append.mp hx with hx | hx
        · exact ok.tn x hx
        · rw [List.mem_singleton.mp hx]; exact h1
      · rw [show townW ts rs [w0, u] = none from if_neg hc] at ht; cases ht
    · rw [townW_not h2] at ht; cases ht
  · cases er : roadW (Txt.split l " ") with
    | none => rw [er] at h; cases h
    | some r =>
      rw [er] at h
      dsimp only at h
      split at h
      · rename_i hr
        cases h
        unfold roadOkB at hr
        simp only [Bool.and_eq_true, decide_eq_true_eq] at hr
        obtain ⟨h1, h2, h3⟩ := hr
        refine ⟨ok.tn, ok.ta, ok.tl, fun q hq => ?_, ?_, by
          rw [List.length_append, List.length_singleton]
          have h2 : rs.length < 120 := h2
          show rs.length + 1 ≤ 120
          omega⟩
        · rcases List.mem_append.mp hq with hq | hq
          · exact ok.rn q hq
          · rw [List.mem_singleton.mp hq]; exact h1
        · refine pw_last (fun (a b c : Road) => lt_tr a.name b.name c.name) ok.ra fun q hq => ?_
          refine lastOk_all h3 q.name ?_
          rw [List.getLast?_map, Option.mem_def]
          rw [Option.mem_def] at hq
          rw [hq]; rfl
      · cases h
theorem readL_ok : ∀ {ls : List Str} {k : Nat} {s s' : Net2}, NetOk s.1 s.2 → readL ls k s = .ok s' → NetOk s'.1 s'.2
  | [], _, _, _, ok, h => by cases h; exact ok
  | l :: ls, k, s, s', ok, h => by
    unfold readL at h
    cases e : stepL s l with
    | none => rw [e] at h; cases h
    | some s2 => rw [e] at h; exact readL_ok (step_ok ok e) h
theorem net0 : NetOk [] [] := ⟨by simp, .nil, by simp, by simp, .nil, by simp⟩
theorem readN_ok {x : Str} {s : Net2} (h : readN x = .ok s) : NetOk s.1 s.2 := by
  unfold readN at h
  split at h
  · cases h
  · rename_i s' e
    split at h
    · cases h; exact readL_ok net0 e
    · cases h
theorem readL_cons {l : Str} {ls : List Str} {k : Nat} {s : Net2} : readL (l :: ls) k s = (match stepL s l with
    | some s' => readL ls (k + 1) s'
    | none => .bad (k + 1)) := rfl
theorem not_str {p : PV} {S : Sto} {R : RK} (h : oddP p) : kIsB p (.ty "str") S R = R (.bl false) S := by
  cases p with
  | non => exact propext ⟨fun z => z.2, fun z => ⟨by decide, z⟩⟩
  | int _ => exact propext ⟨fun z => z.2, fun z => ⟨by decide, z⟩⟩
  | bl _ => exact propext ⟨fun z => z.2, fun z => ⟨by decide, z⟩⟩
  | lst _ => exact propext ⟨fun z => z.2, fun z => ⟨by decide, z⟩⟩
  | tup _ => exact propext ⟨fun z => z.2, fun z => ⟨by decide, z⟩⟩
  | dct _ => exact propext ⟨fun z => z.2, fun z => ⟨by decide, z⟩⟩
  | _ => exact h.elim
theorem zfg_sub {Z : ZK} {e : Exc} {S S' : Sto} (u : Sub S' S) (h : Z e S') : zfg Z e S := ⟨S', u, h⟩
theorem drop_dropLast {α : Type} {xs : List α} {j : Nat} (h : j < xs.length - 1) : ∃ x, xs[j]? = some x ∧ xs.dropLast.drop j = x :: xs.dropLast.drop (j + 1) := by
  have h1 : j < xs.dropLast.length := by rw [List.length_dropLast]; exact h
  refine ⟨xs.dropLast[j], ?_, List.drop_eq_getElem_cons h1⟩
  rw [List.getElem_dropLast, List.getElem?_eq_getElem]
theorem last_at {α : Type} {xs : List α} (h : xs ≠ []) : ∃ x, xs.getLast? = some x ∧ atI xs (-1) = some x := by
  rcases List.eq_nil_or_concat xs with e | ⟨ys, y, e⟩
  · exact absurd e h
  · rw [List.concat_eq_append] at e
    subst e
    exact ⟨y, by simp, atI_last⟩
theorem pure_read_net (K : PySem.W.Frag) : ∀ ps S R Z, ps.length = 1 → sp_read_net K ps S R Z → w_read_net K (fin R Z) (startP n_read_net ps) S := by
  intro ps S R Z hl h
  rcases h with ⟨x, rfl, hz, hR⟩ | ⟨p, rfl, hp, hR⟩
  · have e : startP n_read_net [.str x] = [some (.str x), none, none, none] := rfl
    rw [e]
    have m1 : He.ga K "NetReader" ∈ [He.ga K "NetReader"] := List.mem_singleton.mpr rfl
    have ks : ∀ (S : Sto) (R' : RK), kSplit (.str x) [.str "\n"] S R' = ((("\n" : Str).length == 0) = false ∧ x.length + 2 ≤ sizeLine ∧ R' (.lst ((Txt.split x "\n").map PV.str)) S) := fun _ _ => rfl
    have ib : ∀ (S : Sto) (R' : RK), kIsB (.str x) (.ty "str") S R' = R' (.bl true) S := fun S R' => k_isB_str (by decide)
    simp -implicitDefEqProofs only [w_read_net, ↓e_ret, ↓e_retN, ↓e_nxt, ↓e_seq, ↓e_nev, ↓e_brk, ↓e_cnt, ↓e_expr, ↓e_ifs, ↓e_set, ↓e_asg, ↓par2_two, ↓e_par, ↓e_for, ↓e_setF, ↓e_put, ↓opt_some, ↓e_var, ↓e_c, ↓e_b, ↓e_1, ↓e_tst, ↓e_kB, ↓e_tru, ↓e_notT, ↓e_andT, ↓e_orT, ↓truK_bl, ↓e_andV, ↓e_orV, ↓e_notV, ↓e_if, ↓chK_bl, ↓e_ch, ↓e_nil, ↓e_cons, ↓e_tup, ↓e_lst, ↓e_lstF, ↓e_call, ↓e_arN, ↓e_p1, ↓e_p2, ↓e_meth, ↓e_bm, ↓e_fld, ↓e_lc, ↓e_dc, ↓e_it, ↓e_rng1, ↓e_rng2, ↓e_intB, ↓e_sl, ↓e_no, ↓e_so, ↓e_yes, ↓e_anm, ↓gs_0, ↓gs_s, ↓dr_int, ↓dr_str, ↓dr_bl, ↓dr_nn, ↓dr_tup, ↓dr_lst, ↓dr_dct, ↓dr_obj, ↓k_lt_int, ↓k_le_int, ↓k_gt_int, ↓k_ge_int, ↓k_lt_str, ↓k_add_int, ↓k_add_str, ↓k_add_tup, ↓k_add_lst, ↓k_sub, ↓k_mul, ↓k_div, ↓k_mod, ↓k_pow, ↓k_neg, ↓k_eq_int, ↓k_eq_str, ↓k_is_nn, ↓k_is_int, ↓k_is_tup, ↓k_is_obj, ↓k_ix_lst, ↓k_ix_tup, ↓k_ix_str, ↓k_ix_dct, ↓k_len_str, ↓k_len_lst, ↓k_len_tup, ↓k_int_int, ↓k_int_bl, ↓k_abs, ↓k_str_int, ↓k_str_str, ↓k_tup_lst, ↓k_it_str, ↓k_it_tup, ↓k_it_lst, ↓k_in_dct, ↓e_enum, ↓k_en_tup, ↓k_en_lst, ↓e_atp, ↓e_lcM, ↓par3_three, ↓e_lits, ↓e_par3, ↓e_rev, ↓e_dct0, ↓e_nevE, ↓e_raise1, ↓e_exF, ↓e_exI, ↓e_tryA, ↓k_rev_lst, ↓k_addM_lst, ↓k_max2, ↓k_min2, List.set_cons_zero, List.set_cons_succ, wipeP, ks, ib, Bool.not_true, Bool.false_eq_true, if_false]
    unfold readN at hR
    have wne := split_ne (x := x) tl_nl nl_k
    have wsz : ∀ w ∈ Txt.split x "\n", w.length + 2 ≤ TxL := fun w hw => by have := split_piece tl_nl nl_k w hw; omega
    have wnum : (Txt.split x "\n").length ≤ TxL := by have := split_num (x := x) tl_nl nl_k; omega
    generalize Txt.split x "\n" = ws at wne wsz wnum hR ⊢
    have wpos := List.length_pos_iff.mpr wne
    refine ⟨rfl, by rw [len_nl]; rfl, txl hz, rfl, fun a ha => ?_⟩
    refine ⟨a, rfl, updS_same, fun b c S1 hb hc rd off => ⟨rfl, gR_now ?_⟩⟩
    have nb : S b = none := by
      by_cases h : b = a
      · rw [h]; exact ha
      · rwa [updS_ne h] at hb
    have nc : S c = none := by
      by_cases h : c = a
      · rw [h]; exact ha
      · rwa [updS_ne h] at hc
    have off' : ∀ x, x ≠ a → x ≠ b → x ≠ c → S1 x = S x := fun x h1 h2 h3 => by rw [off x h1 h2 h3, updS_ne h1]
    have sub : ∀ S', (∀ x, x ≠ a → x ≠ b → x ≠ c → S' x = S x) → Sub S S' := fun S' h3 x o e => by
      rw [h3 x (fun z => by rw [z, ha] at e; cases e) (fun z => by rw [z, nb] at e; cases e) (fun z => by rw [z, nc] at e; cases e)]
      exact e
    have len1 : (((ws.map PV.str).length : Int) - 1) = ((ws.length - 1 : Nat) : Int) := by
      rw [List.length_map]; omega
    rw [len1]
    refine ⟨by unfold TxL at wnum; omega, ?_⟩
    rw [Int.toNat_natCast]
    refine wForL_inv (fun (k : Nat) => PV.int (0 + k)) (fun rest ρ S' => (∃ j s, rest = (List.range (ws.length - 1)).drop j ∧ readL (ws.dropLast.drop j) j s = readL ws.dropLast 0 ([], []) ∧ NetOk s.1 s.2 ∧ Rdr (He.ga K "NetReader") a b c s.1 s.2 S') ∧ (∀ x, x ≠ a → x ≠ b → x ≠ c → S' x = S x) ∧ ∃ y, ρ = [some (.str x), some (.lst (ws.map PV.str)), some (.ref a), y])
      (fun k rest ρ S' ⟨⟨j, s, h1, hr, ok, h2⟩, h3, y, h4⟩ => ?_) (fun ρ S' ⟨⟨j, s, h1, hr, ok, h2⟩, h3, y, h4⟩ => ?_) (List.range (ws.length - 1)) _ S1 ⟨⟨0, ([], []), rfl, rfl, net0, rd⟩, off', none, rfl⟩
    · subst h4
      refine ⟨trivial, fun N hN => ?_⟩
      have hj : j < ws.length - 1 := Classical.byContradiction fun n => by
        rw [List.drop_eq_nil_of_le (by rw [List.length_range]; omega)] at h1; cases h1
      rw [List.drop_eq_getElem_cons (by rw [List.length_range]; exact hj), List.getElem_range] at h1
      obtain ⟨rfl, h1⟩ := List.cons.inj h1
      obtain ⟨l, hl1, hl2⟩ := drop_dropLast (xs := ws) hj
      simp -implicitDefEqProofs only [↓e_ret, ↓e_retN, ↓e_nxt, ↓e_seq, ↓e_nev, ↓e_brk, ↓e_cnt, ↓e_expr, ↓e_ifs, ↓e_set, ↓e_asg, ↓par2_two, ↓e_par, ↓e_for, ↓e_setF, ↓e_put, ↓opt_some, ↓e_var, ↓e_c, ↓e_b, ↓e_1, ↓e_tst, ↓e_kB, ↓e_tru, ↓e_notT, ↓e_andT, ↓e_orT, ↓truK_bl, ↓e_andV, ↓e_orV, ↓e_notV, ↓e_if, ↓chK_bl, ↓e_ch, ↓e_nil, ↓e_cons, ↓e_tup, ↓e_lst, ↓e_lstF, ↓e_call, ↓e_arN, ↓e_p1, ↓e_p2, ↓e_meth, ↓e_bm, ↓e_fld, ↓e_lc, ↓e_dc, ↓e_it, ↓e_rng1, ↓e_rng2, ↓e_intB, ↓e_sl, ↓e_no, ↓e_so, ↓e_yes, ↓e_anm, ↓gs_0, ↓gs_s, ↓dr_int, ↓dr_str, ↓dr_bl, ↓dr_nn, ↓dr_tup, ↓dr_lst, ↓dr_dct, ↓dr_obj, ↓k_lt_int, ↓k_le_int, ↓k_gt_int, ↓k_ge_int, ↓k_lt_str, ↓k_add_int, ↓k_add_str, ↓k_add_tup, ↓k_add_lst, ↓k_sub, ↓k_mul, ↓k_div, ↓k_mod, ↓k_pow, ↓k_neg, ↓k_eq_int, ↓k_eq_str, ↓k_is_nn, ↓k_is_int, ↓k_is_tup, ↓k_is_obj, ↓k_ix_lst, ↓k_ix_tup, ↓k_ix_str, ↓k_ix_dct, ↓k_len_str, ↓k_len_lst, ↓k_len_tup, ↓k_int_int, ↓k_int_bl, ↓k_abs, ↓k_str_int, ↓k_str_str, ↓k_tup_lst, ↓k_it_str, ↓k_it_tup, ↓k_it_lst, ↓k_in_dct, ↓e_enum, ↓k_en_tup, ↓k_en_lst, ↓e_atp, ↓e_lcM, ↓par3_three, ↓e_lits, ↓e_par3, ↓e_rev, ↓e_dct0, ↓e_nevE, ↓e_raise1, ↓e_exF, ↓e_exI, ↓e_tryA, ↓k_rev_lst, ↓k_addM_lst, ↓k_max2, ↓k_min2, List.set_cons_zero, List.set_cons_succ, wipeP, w_read_net_1]
      rw [k_methI h2.ha rfl]
      refine ⟨trivial, .str l, atI_nn (j := k) (by omega) (by rw [List.getElem?_map, hl1]; rfl), rfl, a, b, c, s, l, rfl, h2, ok, wsz l (List.mem_of_getElem? hl1), ?_⟩
      rw [hl2, readL_cons] at hr
      cases es : stepL s l with
      | some s' =>
        rw [es] at hr
        intro S2 h5 h6
        simp -implicitDefEqProofs only [↓e_ret, ↓e_retN, ↓e_nxt, ↓e_seq, ↓e_nev, ↓e_brk, ↓e_cnt, ↓e_expr, ↓e_ifs, ↓e_set, ↓e_asg, ↓par2_two, ↓e_par, ↓e_for, ↓e_setF, ↓e_put, ↓opt_some, ↓e_var, ↓e_c, ↓e_b, ↓e_1, ↓e_tst, ↓e_kB, ↓e_tru, ↓e_notT, ↓e_andT, ↓e_orT, ↓truK_bl, ↓e_andV, ↓e_orV, ↓e_notV, ↓e_if, ↓chK_bl, ↓e_ch, ↓e_nil, ↓e_cons, ↓e_tup, ↓e_lst, ↓e_lstF, ↓e_call, ↓e_arN, ↓e_p1, ↓e_p2, ↓e_meth, ↓e_bm, ↓e_fld, ↓e_lc, ↓e_dc, ↓e_it, ↓e_rng1, ↓e_rng2, ↓e_intB, ↓e_sl, ↓e_no, ↓e_so, ↓e_yes, ↓e_anm, ↓gs_0, ↓gs_s, ↓dr_int, ↓dr_str, ↓dr_bl, ↓dr_nn, ↓dr_tup, ↓dr_lst, ↓dr_dct, ↓dr_obj, ↓k_lt_int, ↓k_le_int, ↓k_gt_int, ↓k_ge_int, ↓k_lt_str, ↓k_add_int, ↓k_add_str, ↓k_add_tup, ↓k_add_lst, ↓k_sub, ↓k_mul, ↓k_div, ↓k_mod, ↓k_pow, ↓k_neg, ↓k_eq_int, ↓k_eq_str, ↓k_is_nn, ↓k_is_int, ↓k_is_tup, ↓k_is_obj, ↓k_ix_lst, ↓k_ix_tup, ↓k_ix_str, ↓k_ix_dct, ↓k_len_str, ↓k_len_lst, ↓k_len_tup, ↓k_int_int, ↓k_int_bl, ↓k_abs, ↓k_str_int, ↓k_str_str, ↓k_tup_lst, ↓k_it_str, ↓k_it_tup, ↓k_it_lst, ↓k_in_dct, ↓e_enum, ↓k_en_tup, ↓k_en_lst, ↓e_atp, ↓e_lcM, ↓par3_three, ↓e_lits, ↓e_par3, ↓e_rev, ↓e_dct0, ↓e_nevE, ↓e_raise1, ↓e_exF, ↓e_exI, ↓e_tryA, ↓k_rev_lst, ↓k_addM_lst, ↓k_max2, ↓k_min2, List.set_cons_zero, List.set_cons_succ, wipeP, Bool.not_true, Bool.false_eq_true, if_false]
        exact hN _ _ ⟨⟨k + 1, s', h1, hr, step_ok ok es, h5⟩, fun x g1 g2 g3 => (h6 x g1 g2 g3).trans (h3 x g1 g2 g3), _, rfl⟩
      | none =>
        rw [es] at hr
        simp -implicitDefEqProofs only [↓e_ret, ↓e_retN, ↓e_nxt, ↓e_seq, ↓e_nev, ↓e_brk, ↓e_cnt, ↓e_expr, ↓e_ifs, ↓e_set, ↓e_asg, ↓par2_two, ↓e_par, ↓e_for, ↓e_setF, ↓e_put, ↓opt_some, ↓e_var, ↓e_c, ↓e_b, ↓e_1, ↓e_tst, ↓e_kB, ↓e_tru, ↓e_notT, ↓e_andT, ↓e_orT, ↓truK_bl, ↓e_andV, ↓e_orV, ↓e_notV, ↓e_if, ↓chK_bl, ↓e_ch, ↓e_nil, ↓e_cons, ↓e_tup, ↓e_lst, ↓e_lstF, ↓e_call, ↓e_arN, ↓e_p1, ↓e_p2, ↓e_meth, ↓e_bm, ↓e_fld, ↓e_lc, ↓e_dc, ↓e_it, ↓e_rng1, ↓e_rng2, ↓e_intB, ↓e_sl, ↓e_no, ↓e_so, ↓e_yes, ↓e_anm, ↓gs_0, ↓gs_s, ↓dr_int, ↓dr_str, ↓dr_bl, ↓dr_nn, ↓dr_tup, ↓dr_lst, ↓dr_dct, ↓dr_obj, ↓k_lt_int, ↓k_le_int, ↓k_gt_int, ↓k_ge_int, ↓k_lt_str, ↓k_add_int, ↓k_add_str, ↓k_add_tup, ↓k_add_lst, ↓k_sub, ↓k_mul, ↓k_div, ↓k_mod, ↓k_pow, ↓k_neg, ↓k_eq_int, ↓k_eq_str, ↓k_is_nn, ↓k_is_int, ↓k_is_tup, ↓k_is_obj, ↓k_ix_lst, ↓k_ix_tup, ↓k_ix_str, ↓k_ix_dct, ↓k_len_str, ↓k_len_lst, ↓k_len_tup, ↓k_int_int, ↓k_int_bl, ↓k_abs, ↓k_str_int, ↓k_str_str, ↓k_tup_lst, ↓k_it_str, ↓k_it_tup, ↓k_it_lst, ↓k_in_dct, ↓e_enum, ↓k_en_tup, ↓k_en_lst, ↓e_atp, ↓e_lcM, ↓par3_three, ↓e_lits, ↓e_par3, ↓e_rev, ↓e_dct0, ↓e_nevE, ↓e_raise1, ↓e_exF, ↓e_exI, ↓e_tryA, ↓k_rev_lst, ↓k_addM_lst, ↓k_max2, ↓k_min2, List.set_cons_zero, List.set_cons_succ, wipeP, Bool.not_false, if_true]
        rw [← hr] at hR
        refine zfg_sub (sub S' h3) ?_
        have ek : (0 : Int) + (k : Int) + 1 = ((k + 1 : Nat) : Int) := by omega
        rw [ek]
        exact hR
    · subst h4
      have hj : ws.length - 1 ≤ j := by
        have := congrArg List.length h1
        rw [List.length_drop, List.length_range, List.length_nil] at this
        omega
      rw [List.drop_eq_nil_of_le (by rw [List.length_dropLast]; omega)] at hr
      have hr : Out.ok s = readL ws.dropLast 0 ([], []) := hr
      rw [← hr] at hR
      dsimp only at hR
      obtain ⟨l, hl1, hl2⟩ := last_at wne
      obtain ⟨q, hq1, hq2⟩ := last_at (xs := ws.map PV.str) (fun z => wne (List.map_eq_nil_iff.mp z))
      have eq : q = .str l := by
        rw [List.getLast?_map, hl1] at hq1
        exact (Option.some.inj hq1).symm
      subst eq
      refine ⟨trivial, ?_⟩
      simp -implicitDefEqProofs only [↓e_ret, ↓e_retN, ↓e_nxt, ↓e_seq, ↓e_nev, ↓e_brk, ↓e_cnt, ↓e_expr, ↓e_ifs, ↓e_set, ↓e_asg, ↓par2_two, ↓e_par, ↓e_for, ↓e_setF, ↓e_put, ↓opt_some, ↓e_var, ↓e_c, ↓e_b, ↓e_1, ↓e_tst, ↓e_kB, ↓e_tru, ↓e_notT, ↓e_andT, ↓e_orT, ↓truK_bl, ↓e_andV, ↓e_orV, ↓e_notV, ↓e_if, ↓chK_bl, ↓e_ch, ↓e_nil, ↓e_cons, ↓e_tup, ↓e_lst, ↓e_lstF, ↓e_call, ↓e_arN, ↓e_p1, ↓e_p2, ↓e_meth, ↓e_bm, ↓e_fld, ↓e_lc, ↓e_dc, ↓e_it, ↓e_rng1, ↓e_rng2, ↓e_intB, ↓e_sl, ↓e_no, ↓e_so, ↓e_yes, ↓e_anm, ↓gs_0, ↓gs_s, ↓dr_int, ↓dr_str, ↓dr_bl, ↓dr_nn, ↓dr_tup, ↓dr_lst, ↓dr_dct, ↓dr_obj, ↓k_lt_int, ↓k_le_int, ↓k_gt_int, ↓k_ge_int, ↓k_lt_str, ↓k_add_int, ↓k_add_str, ↓k_add_tup, ↓k_add_lst, ↓k_sub, ↓k_mul, ↓k_div, ↓k_mod, ↓k_pow, ↓k_neg, ↓k_eq_int, ↓k_eq_str, ↓k_is_nn, ↓k_is_int, ↓k_is_tup, ↓k_is_obj, ↓k_ix_lst, ↓k_ix_tup, ↓k_ix_str, ↓k_ix_dct, ↓k_len_str, ↓k_len_lst, ↓k_len_tup, ↓k_int_int, ↓k_int_bl, ↓k_abs, ↓k_str_int, ↓k_str_str, ↓k_tup_lst, ↓k_it_str, ↓k_it_tup, ↓k_it_lst, ↓k_in_dct, ↓e_enum, ↓k_en_tup, ↓k_en_lst, ↓e_atp, ↓e_lcM, ↓par3_three, ↓e_lits, ↓e_par3, ↓e_rev, ↓e_dct0, ↓e_nevE, ↓e_raise1, ↓e_exF, ↓e_exI, ↓e_tryA, ↓k_rev_lst, ↓k_addM_lst, ↓k_max2, ↓k_min2, List.set_cons_zero, List.set_cons_succ, wipeP]
      refine ⟨.str l, hq2, ?_⟩
      rw [k_eq_str]
      by_cases h0 : l = ""
      · rw [decide_eq_true h0]
        rw [if_pos (by rw [hl1, h0])] at hR
        simp -implicitDefEqProofs only [↓e_ret, ↓e_retN, ↓e_nxt, ↓e_seq, ↓e_nev, ↓e_brk, ↓e_cnt, ↓e_expr, ↓e_ifs, ↓e_set, ↓e_asg, ↓par2_two, ↓e_par, ↓e_for, ↓e_setF, ↓e_put, ↓opt_some, ↓e_var, ↓e_c, ↓e_b, ↓e_1, ↓e_tst, ↓e_kB, ↓e_tru, ↓e_notT, ↓e_andT, ↓e_orT, ↓truK_bl, ↓e_andV, ↓e_orV, ↓e_notV, ↓e_if, ↓chK_bl, ↓e_ch, ↓e_nil, ↓e_cons, ↓e_tup, ↓e_lst, ↓e_lstF, ↓e_call, ↓e_arN, ↓e_p1, ↓e_p2, ↓e_meth, ↓e_bm, ↓e_fld, ↓e_lc, ↓e_dc, ↓e_it, ↓e_rng1, ↓e_rng2, ↓e_intB, ↓e_sl, ↓e_no, ↓e_so, ↓e_yes, ↓e_anm, ↓gs_0, ↓gs_s, ↓dr_int, ↓dr_str, ↓dr_bl, ↓dr_nn, ↓dr_tup, ↓dr_lst, ↓dr_dct, ↓dr_obj, ↓k_lt_int, ↓k_le_int, ↓k_gt_int, ↓k_ge_int, ↓k_lt_str, ↓k_add_int, ↓k_add_str, ↓k_add_tup, ↓k_add_lst, ↓k_sub, ↓k_mul, ↓k_div, ↓k_mod, ↓k_pow, ↓k_neg, ↓k_eq_int, ↓k_eq_str, ↓k_is_nn, ↓k_is_int, ↓k_is_tup, ↓k_is_obj, ↓k_ix_lst, ↓k_ix_tup, ↓k_ix_str, ↓k_ix_dct, ↓k_len_str, ↓k_len_lst, ↓k_len_tup, ↓k_int_int, ↓k_int_bl, ↓k_abs, ↓k_str_int, ↓k_str_str, ↓k_tup_lst, ↓k_it_str, ↓k_it_tup, ↓k_it_lst, ↓k_in_dct, ↓e_enum, ↓k_en_tup, ↓k_en_lst, ↓e_atp, ↓e_lcM, ↓par3_three, ↓e_lits, ↓e_par3, ↓e_rev, ↓e_dct0, ↓e_nevE, ↓e_raise1, ↓e_exF, ↓e_exI, ↓e_tryA, ↓k_rev_lst, ↓k_addM_lst, ↓k_max2, ↓k_min2, List.set_cons_zero, List.set_cons_succ, wipeP, Bool.bne_true, Bool.not_true, Bool.false_eq_true, if_false, h2.tw m1, h2.rd m1, k_tup_ref h2.hb, k_tup_ref h2.hc]
        exact ⟨rfl, net_make ok (gR_sub (sub S' h3) hR)⟩
      · rw [decide_eq_false h0]
        rw [if_neg (by rw [hl1]; exact fun z => h0 (Option.some.inj z))] at hR
        simp -implicitDefEqProofs only [↓e_ret, ↓e_retN, ↓e_nxt, ↓e_seq, ↓e_nev, ↓e_brk, ↓e_cnt, ↓e_expr, ↓e_ifs, ↓e_set, ↓e_asg, ↓par2_two, ↓e_par, ↓e_for, ↓e_setF, ↓e_put, ↓opt_some, ↓e_var, ↓e_c, ↓e_b, ↓e_1, ↓e_tst, ↓e_kB, ↓e_tru, ↓e_notT, ↓e_andT, ↓e_orT, ↓truK_bl, ↓e_andV, ↓e_orV, ↓e_notV, ↓e_if, ↓chK_bl, ↓e_ch, ↓e_nil, ↓e_cons, ↓e_tup, ↓e_lst, ↓e_lstF, ↓e_call, ↓e_arN, ↓e_p1, ↓e_p2, ↓e_meth, ↓e_bm, ↓e_fld, ↓e_lc, ↓e_dc, ↓e_it, ↓e_rng1, ↓e_rng2, ↓e_intB, ↓e_sl, ↓e_no, ↓e_so, ↓e_yes, ↓e_anm, ↓gs_0, ↓gs_s, ↓dr_int, ↓dr_str, ↓dr_bl, ↓dr_nn, ↓dr_tup, ↓dr_lst, ↓dr_dct, ↓dr_obj, ↓k_lt_int, ↓k_le_int, ↓k_gt_int, ↓k_ge_int, ↓k_lt_str, ↓k_add_int, ↓k_add_str, ↓k_add_tup, ↓k_add_lst, ↓k_sub, ↓k_mul, ↓k_div, ↓k_mod, ↓k_pow, ↓k_neg, ↓k_eq_int, ↓k_eq_str, ↓k_is_nn, ↓k_is_int, ↓k_is_tup, ↓k_is_obj, ↓k_ix_lst, ↓k_ix_tup, ↓k_ix_str, ↓k_ix_dct, ↓k_len_str, ↓k_len_lst, ↓k_len_tup, ↓k_int_int, ↓k_int_bl, ↓k_abs, ↓k_str_int, ↓k_str_str, ↓k_tup_lst, ↓k_it_str, ↓k_it_tup, ↓k_it_lst, ↓k_in_dct, ↓e_enum, ↓k_en_tup, ↓k_en_lst, ↓e_atp, ↓e_lcM, ↓par3_three, ↓e_lits, ↓e_par3, ↓e_rev, ↓e_dct0, ↓e_nevE, ↓e_raise1, ↓e_exF, ↓e_exI, ↓e_tryA, ↓k_rev_lst, ↓k_addM_lst, ↓k_max2, ↓k_min2, List.set_cons_zero, List.set_cons_succ, wipeP, Bool.bne_true, Bool.not_false, if_true, List.length_map]
        exact zfg_sub (sub S' h3) hR
  · have e : startP n_read_net [p] = [some p, none, none, none] := rfl
    rw [e]
    simp -implicitDefEqProofs only [w_read_net, ↓e_ret, ↓e_retN, ↓e_nxt, ↓e_seq, ↓e_nev, ↓e_brk, ↓e_cnt, ↓e_expr, ↓e_ifs, ↓e_set, ↓e_asg, ↓par2_two, ↓e_par, ↓e_for, ↓e_setF, ↓e_put, ↓opt_some, ↓e_var, ↓e_c, ↓e_b, ↓e_1, ↓e_tst, ↓e_kB, ↓e_tru, ↓e_notT, ↓e_andT, ↓e_orT, ↓truK_bl, ↓e_andV, ↓e_orV, ↓e_notV, ↓e_if, ↓chK_bl, ↓e_ch, ↓e_nil, ↓e_cons, ↓e_tup, ↓e_lst, ↓e_lstF, ↓e_call, ↓e_arN, ↓e_p1, ↓e_p2, ↓e_meth, ↓e_bm, ↓e_fld, ↓e_lc, ↓e_dc, ↓e_it, ↓e_rng1, ↓e_rng2, ↓e_intB, ↓e_sl, ↓e_no, ↓e_so, ↓e_yes, ↓e_anm, ↓gs_0, ↓gs_s, ↓dr_int, ↓dr_str, ↓dr_bl, ↓dr_nn, ↓dr_tup, ↓dr_lst, ↓dr_dct, ↓dr_obj, ↓k_lt_int, ↓k_le_int, ↓k_gt_int, ↓k_ge_int, ↓k_lt_str, ↓k_add_int, ↓k_add_str, ↓k_add_tup, ↓k_add_lst, ↓k_sub, ↓k_mul, ↓k_div, ↓k_mod, ↓k_pow, ↓k_neg, ↓k_eq_int, ↓k_eq_str, ↓k_is_nn, ↓k_is_int, ↓k_is_tup, ↓k_is_obj, ↓k_ix_lst, ↓k_ix_tup, ↓k_ix_str, ↓k_ix_dct, ↓k_len_str, ↓k_len_lst, ↓k_len_tup, ↓k_int_int, ↓k_int_bl, ↓k_abs, ↓k_str_int, ↓k_str_str, ↓k_tup_lst, ↓k_it_str, ↓k_it_tup, ↓k_it_lst, ↓k_in_dct, ↓e_enum, ↓k_en_tup, ↓k_en_lst, ↓e_atp, ↓e_lcM, ↓par3_three, ↓e_lits, ↓e_par3, ↓e_rev, ↓e_dct0, ↓e_nevE, ↓e_raise1, ↓e_exF, ↓e_exI, ↓e_tryA, ↓k_rev_lst, ↓k_addM_lst, ↓k_max2, ↓k_min2, List.set_cons_zero, List.set_cons_succ, wipeP, not_str hp, Bool.not_false, if_true]
    exact zfg_sub (fun _ _ e => e) hR

/-! ### the law's own look at words -/
theorem pure__law_is_name (K : PySem.W.Frag) : ∀ ps S R Z, ps.length = 1 → sp__law_is_name K ps S R Z → w__law_is_name K (fin R Z) (startP n__law_is_name ps) S := by
  intro ps S R Z hl h
  obtain ⟨x, rfl, hz, h⟩ := h
  have hz := txl hz
  have e : startP n__law_is_name [.str x] = [some (.str x), none] := rfl
  rw [e]
  simp -implicitDefEqProofs only [w__law_is_name, ↓e_ret, ↓e_retN, ↓e_nxt, ↓e_seq, ↓e_nev, ↓e_brk, ↓e_cnt, ↓e_expr, ↓e_ifs, ↓e_set, ↓e_asg, ↓par2_two, ↓e_par, ↓e_for, ↓e_setF, ↓e_put, ↓opt_some, ↓e_var, ↓e_c, ↓e_b, ↓e_1, ↓e_tst, ↓e_kB, ↓e_tru, ↓e_notT, ↓e_andT, ↓e_orT, ↓truK_bl, ↓e_andV, ↓e_orV, ↓e_notV, ↓e_if, ↓chK_bl, ↓e_ch, ↓e_nil, ↓e_cons, ↓e_tup, ↓e_lst, ↓e_lstF, ↓e_call, ↓e_arN, ↓e_p1, ↓e_p2, ↓e_meth, ↓e_bm, ↓e_fld, ↓e_lc, ↓e_dc, ↓e_it, ↓e_rng1, ↓e_rng2, ↓e_intB, ↓e_sl, ↓e_no, ↓e_so, ↓e_yes, ↓e_anm, ↓gs_0, ↓gs_s, ↓dr_int, ↓dr_str, ↓dr_bl, ↓dr_nn, ↓dr_tup, ↓dr_lst, ↓dr_dct, ↓dr_obj, ↓k_lt_int, ↓k_le_int, ↓k_gt_int, ↓k_ge_int, ↓k_lt_str, ↓k_add_int, ↓k_add_str, ↓k_add_tup, ↓k_add_lst, ↓k_sub, ↓k_mul, ↓k_div, ↓k_mod, ↓k_pow, ↓k_neg, ↓k_eq_int, ↓k_eq_str, ↓k_is_nn, ↓k_is_int, ↓k_is_tup, ↓k_is_obj, ↓k_ix_lst, ↓k_ix_tup, ↓k_ix_str, ↓k_ix_dct, ↓k_len_str, ↓k_len_lst, ↓k_len_tup, ↓k_int_int, ↓k_int_bl, ↓k_abs, ↓k_str_int, ↓k_str_str, ↓k_tup_lst, ↓k_it_str, ↓k_it_tup, ↓k_it_lst, ↓k_in_dct, ↓e_enum, ↓k_en_tup, ↓k_en_lst, ↓e_atp, ↓e_lcM, ↓par3_three, ↓e_lits, ↓e_par3, ↓e_rev, ↓e_dct0, ↓e_nevE, ↓e_raise1, ↓e_exF, ↓e_exI, ↓e_tryA, ↓k_rev_lst, ↓k_addM_lst, ↓k_max2, ↓k_min2, List.set_cons_zero, List.set_cons_succ, wipeP]
  refine ⟨hz, ?_⟩
  have c1 : decide ((1 : Int) ≤ (x.length : Int)) = decide (1 ≤ x.length) := by rw [Bool.eq_iff_iff, decide_eq_true_iff, decide_eq_true_iff]; omega
  have c2 : decide ((x.length : Int) ≤ 8) = decide (x.length ≤ 8) := by rw [Bool.eq_iff_iff, decide_eq_true_iff, decide_eq_true_iff]; omega
  rw [c1, c2]
  unfold nameB at h
  by_cases q1 : 1 ≤ x.length
  · rw [decide_eq_true q1] at h ⊢
    rw [Bool.true_and] at h
    simp -implicitDefEqProofs only [↓e_ret, ↓e_retN, ↓e_nxt, ↓e_seq, ↓e_nev, ↓e_brk, ↓e_cnt, ↓e_expr, ↓e_ifs, ↓e_set, ↓e_asg, ↓par2_two, ↓e_par, ↓e_for, ↓e_setF, ↓e_put, ↓opt_some, ↓e_var, ↓e_c, ↓e_b, ↓e_1, ↓e_tst, ↓e_kB, ↓e_tru, ↓e_notT, ↓e_andT, ↓e_orT, ↓truK_bl, ↓e_andV, ↓e_orV, ↓e_notV, ↓e_if, ↓chK_bl, ↓e_ch, ↓e_nil, ↓e_cons, ↓e_tup, ↓e_lst, ↓e_lstF, ↓e_call, ↓e_arN, ↓e_p1, ↓e_p2, ↓e_meth, ↓e_bm, ↓e_fld, ↓e_lc, ↓e_dc, ↓e_it, ↓e_rng1, ↓e_rng2, ↓e_intB, ↓e_sl, ↓e_no, ↓e_so, ↓e_yes, ↓e_anm, ↓gs_0, ↓gs_s, ↓dr_int, ↓dr_str, ↓dr_bl, ↓dr_nn, ↓dr_tup, ↓dr_lst, ↓dr_dct, ↓dr_obj, ↓k_lt_int, ↓k_le_int, ↓k_gt_int, ↓k_ge_int, ↓k_lt_str, ↓k_add_int, ↓k_add_str, ↓k_add_tup, ↓k_add_lst, ↓k_sub, ↓k_mul, ↓k_div, ↓k_mod, ↓k_pow, ↓k_neg, ↓k_eq_int, ↓k_eq_str, ↓k_is_nn, ↓k_is_int, ↓k_is_tup, ↓k_is_obj, ↓k_ix_lst, ↓k_ix_tup, ↓k_ix_str, ↓k_ix_dct, ↓k_len_str, ↓k_len_lst, ↓k_len_tup, ↓k_int_int, ↓k_int_bl, ↓k_abs, ↓k_str_int, ↓k_str_str, ↓k_tup_lst, ↓k_it_str, ↓k_it_tup, ↓k_it_lst, ↓k_in_dct, ↓e_enum, ↓k_en_tup, ↓k_en_lst, ↓e_atp, ↓e_lcM, ↓par3_three, ↓e_lits, ↓e_par3, ↓e_rev, ↓e_dct0, ↓e_nevE, ↓e_raise1, ↓e_exF, ↓e_exI, ↓e_tryA, ↓k_rev_lst, ↓k_addM_lst, ↓k_max2, ↓k_min2, List.set_cons_zero, List.set_cons_succ, wipeP, if_true]
    by_cases q2 : x.length ≤ 8
    · rw [decide_eq_true q2] at h ⊢
      rw [Bool.true_and] at h
      simp -implicitDefEqProofs only [↓e_ret, ↓e_retN, ↓e_nxt, ↓e_seq, ↓e_nev, ↓e_brk, ↓e_cnt, ↓e_expr, ↓e_ifs, ↓e_set, ↓e_asg, ↓par2_two, ↓e_par, ↓e_for, ↓e_setF, ↓e_put, ↓opt_some, ↓e_var, ↓e_c, ↓e_b, ↓e_1, ↓e_tst, ↓e_kB, ↓e_tru, ↓e_notT, ↓e_andT, ↓e_orT, ↓truK_bl, ↓e_andV, ↓e_orV, ↓e_notV, ↓e_if, ↓chK_bl, ↓e_ch, ↓e_nil, ↓e_cons, ↓e_tup, ↓e_lst, ↓e_lstF, ↓e_call, ↓e_arN, ↓e_p1, ↓e_p2, ↓e_meth, ↓e_bm, ↓e_fld, ↓e_lc, ↓e_dc, ↓e_it, ↓e_rng1, ↓e_rng2, ↓e_intB, ↓e_sl, ↓e_no, ↓e_so, ↓e_yes, ↓e_anm, ↓gs_0, ↓gs_s, ↓dr_int, ↓dr_str, ↓dr_bl, ↓dr_nn, ↓dr_tup, ↓dr_lst, ↓dr_dct, ↓dr_obj, ↓k_lt_int, ↓k_le_int, ↓k_gt_int, ↓k_ge_int, ↓k_lt_str, ↓k_add_int, ↓k_add_str, ↓k_add_tup, ↓k_add_lst, ↓k_sub, ↓k_mul, ↓k_div, ↓k_mod, ↓k_pow, ↓k_neg, ↓k_eq_int, ↓k_eq_str, ↓k_is_nn, ↓k_is_int, ↓k_is_tup, ↓k_is_obj, ↓k_ix_lst, ↓k_ix_tup, ↓k_ix_str, ↓k_ix_dct, ↓k_len_str, ↓k_len_lst, ↓k_len_tup, ↓k_int_int, ↓k_int_bl, ↓k_abs, ↓k_str_int, ↓k_str_str, ↓k_tup_lst, ↓k_it_str, ↓k_it_tup, ↓k_it_lst, ↓k_in_dct, ↓e_enum, ↓k_en_tup, ↓k_en_lst, ↓e_atp, ↓e_lcM, ↓par3_three, ↓e_lits, ↓e_par3, ↓e_rev, ↓e_dct0, ↓e_nevE, ↓e_raise1, ↓e_exF, ↓e_exI, ↓e_tryA, ↓k_rev_lst, ↓k_addM_lst, ↓k_max2, ↓k_min2, List.set_cons_zero, List.set_cons_succ, wipeP, if_true, k_it_str]
      refine wLcL_allM (fun c => PV.str ⟨#[c]⟩) (fun c => PV.bl (small.contains c)) trivial _ (fun c hc R' hR => ?_) ?_ ?_
      · simp -implicitDefEqProofs only [w__law_is_name_1, ↓e_ret, ↓e_retN, ↓e_nxt, ↓e_seq, ↓e_nev, ↓e_brk, ↓e_cnt, ↓e_expr, ↓e_ifs, ↓e_set, ↓e_asg, ↓par2_two, ↓e_par, ↓e_for, ↓e_setF, ↓e_put, ↓opt_some, ↓e_var, ↓e_c, ↓e_b, ↓e_1, ↓e_tst, ↓e_kB, ↓e_tru, ↓e_notT, ↓e_andT, ↓e_orT, ↓truK_bl, ↓e_andV, ↓e_orV, ↓e_notV, ↓e_if, ↓chK_bl, ↓e_ch, ↓e_nil, ↓e_cons, ↓e_tup, ↓e_lst, ↓e_lstF, ↓e_call, ↓e_arN, ↓e_p1, ↓e_p2, ↓e_meth, ↓e_bm, ↓e_fld, ↓e_lc, ↓e_dc, ↓e_it, ↓e_rng1, ↓e_rng2, ↓e_intB, ↓e_sl, ↓e_no, ↓e_so, ↓e_yes, ↓e_anm, ↓gs_0, ↓gs_s, ↓dr_int, ↓dr_str, ↓dr_bl, ↓dr_nn, ↓dr_tup, ↓dr_lst, ↓dr_dct, ↓dr_obj, ↓k_lt_int, ↓k_le_int, ↓k_gt_int, ↓k_ge_int, ↓k_lt_str, ↓k_add_int, ↓k_add_str, ↓k_add_tup, ↓k_add_lst, ↓k_sub, ↓k_mul, ↓k_div, ↓k_mod, ↓k_pow, ↓k_neg, ↓k_eq_int, ↓k_eq_str, ↓k_is_nn, ↓k_is_int, ↓k_is_tup, ↓k_is_obj, ↓k_ix_lst, ↓k_ix_tup, ↓k_ix_str, ↓k_ix_dct, ↓k_len_str, ↓k_len_lst, ↓k_len_tup, ↓k_int_int, ↓k_int_bl, ↓k_abs, ↓k_str_int, ↓k_str_str, ↓k_tup_lst, ↓k_it_str, ↓k_it_tup, ↓k_it_lst, ↓k_in_dct, ↓e_enum, ↓k_en_tup, ↓k_en_lst, ↓e_atp, ↓e_lcM, ↓par3_three, ↓e_lits, ↓e_par3, ↓e_rev, ↓e_dct0, ↓e_nevE, ↓e_raise1, ↓e_exF, ↓e_exI, ↓e_tryA, ↓k_rev_lst, ↓k_addM_lst, ↓k_max2, ↓k_min2, List.set_cons_zero, List.set_cons_succ, wipeP, k_in_str]
        refine ⟨rfl, ?_⟩
        rw [Bool.bne_false]
        exact hR
      · have : x.cps.toList.length = x.length := by simp [Str.length]
        omega
      · rw [k_allM]
        exact gR_now h
    · rw [decide_eq_false q2] at h ⊢
      simp -implicitDefEqProofs only [↓e_ret, ↓e_retN, ↓e_nxt, ↓e_seq, ↓e_nev, ↓e_brk, ↓e_cnt, ↓e_expr, ↓e_ifs, ↓e_set, ↓e_asg, ↓par2_two, ↓e_par, ↓e_for, ↓e_setF, ↓e_put, ↓opt_some, ↓e_var, ↓e_c, ↓e_b, ↓e_1, ↓e_tst, ↓e_kB, ↓e_tru, ↓e_notT, ↓e_andT, ↓e_orT, ↓truK_bl, ↓e_andV, ↓e_orV, ↓e_notV, ↓e_if, ↓chK_bl, ↓e_ch, ↓e_nil, ↓e_cons, ↓e_tup, ↓e_lst, ↓e_lstF, ↓e_call, ↓e_arN, ↓e_p1, ↓e_p2, ↓e_meth, ↓e_bm, ↓e_fld, ↓e_lc, ↓e_dc, ↓e_it, ↓e_rng1, ↓e_rng2, ↓e_intB, ↓e_sl, ↓e_no, ↓e_so, ↓e_yes, ↓e_anm, ↓gs_0, ↓gs_s, ↓dr_int, ↓dr_str, ↓dr_bl, ↓dr_nn, ↓dr_tup, ↓dr_lst, ↓dr_dct, ↓dr_obj, ↓k_lt_int, ↓k_le_int, ↓k_gt_int, ↓k_ge_int, ↓k_lt_str, ↓k_add_int, ↓k_add_str, ↓k_add_tup, ↓k_add_lst, ↓k_sub, ↓k_mul, ↓k_div, ↓k_mod, ↓k_pow, ↓k_neg, ↓k_eq_int, ↓k_eq_str, ↓k_is_nn, ↓k_is_int, ↓k_is_tup, ↓k_is_obj, ↓k_ix_lst, ↓k_ix_tup, ↓k_ix_str, ↓k_ix_dct, ↓k_len_str, ↓k_len_lst, ↓k_len_tup, ↓k_int_int, ↓k_int_bl, ↓k_abs, ↓k_str_int, ↓k_str_str, ↓k_tup_lst, ↓k_it_str, ↓k_it_tup, ↓k_it_lst, ↓k_in_dct, ↓e_enum, ↓k_en_tup, ↓k_en_lst, ↓e_atp, ↓e_lcM, ↓par3_three, ↓e_lits, ↓e_par3, ↓e_rev, ↓e_dct0, ↓e_nevE, ↓e_raise1, ↓e_exF, ↓e_exI, ↓e_tryA, ↓k_rev_lst, ↓k_addM_lst, ↓k_max2, ↓k_min2, List.set_cons_zero, List.set_cons_succ, wipeP, Bool.false_and] at h ⊢
      rw [if_neg (by decide)]
      exact gR_now h
  · rw [decide_eq_false q1] at h ⊢
    simp -implicitDefEqProofs only [↓e_ret, ↓e_retN, ↓e_nxt, ↓e_seq, ↓e_nev, ↓e_brk, ↓e_cnt, ↓e_expr, ↓e_ifs, ↓e_set, ↓e_asg, ↓par2_two, ↓e_par, ↓e_for, ↓e_setF, ↓e_put, ↓opt_some, ↓e_var, ↓e_c, ↓e_b, ↓e_1, ↓e_tst, ↓e_kB, ↓e_tru, ↓e_notT, ↓e_andT, ↓e_orT, ↓truK_bl, ↓e_andV, ↓e_orV, ↓e_notV, ↓e_if, ↓chK_bl, ↓e_ch, ↓e_nil, ↓e_cons, ↓e_tup, ↓e_lst, ↓e_lstF, ↓e_call, ↓e_arN, ↓e_p1, ↓e_p2, ↓e_meth, ↓e_bm, ↓e_fld, ↓e_lc, ↓e_dc, ↓e_it, ↓e_rng1, ↓e_rng2, ↓e_intB, ↓e_sl, ↓e_no, ↓e_so, ↓e_yes, ↓e_anm, ↓gs_0, ↓gs_s, ↓dr_int, ↓dr_str, ↓dr_bl, ↓dr_nn, ↓dr_tup, ↓dr_lst, ↓dr_dct, ↓dr_obj, ↓k_lt_int, ↓k_le_int, ↓k_gt_int, ↓k_ge_int, ↓k_lt_str, ↓k_add_int, ↓k_add_str, ↓k_add_tup, ↓k_add_lst, ↓k_sub, ↓k_mul, ↓k_div, ↓k_mod, ↓k_pow, ↓k_neg, ↓k_eq_int, ↓k_eq_str, ↓k_is_nn, ↓k_is_int, ↓k_is_tup, ↓k_is_obj, ↓k_ix_lst, ↓k_ix_tup, ↓k_ix_str, ↓k_ix_dct, ↓k_len_str, ↓k_len_lst, ↓k_len_tup, ↓k_int_int, ↓k_int_bl, ↓k_abs, ↓k_str_int, ↓k_str_str, ↓k_tup_lst, ↓k_it_str, ↓k_it_tup, ↓k_it_lst, ↓k_in_dct, ↓e_enum, ↓k_en_tup, ↓k_en_lst, ↓e_atp, ↓e_lcM, ↓par3_three, ↓e_lits, ↓e_par3, ↓e_rev, ↓e_dct0, ↓e_nevE, ↓e_raise1, ↓e_exF, ↓e_exI, ↓e_tryA, ↓k_rev_lst, ↓k_addM_lst, ↓k_max2, ↓k_min2, List.set_cons_zero, List.set_cons_succ, wipeP, Bool.false_and] at h ⊢
    rw [if_neg (by decide)]
    exact gR_now h
theorem numB_zero : numB "0" = some 0 := by decide +kernel
theorem numB_of {f : Str} (h : canonB f = true) : ∃ n : Nat, numB f = some (n : Int) ∧ PySem.intText? f = some (n : Int) ∧ (n = 0 → f = "0") := by
  obtain ⟨n, h1, h2⟩ := canon_int h
  refine ⟨n, by unfold numB; rw [if_pos h, h2], h2, fun z => ?_⟩
  rw [h1, z]; decide +kernel
theorem numB_no {f : Str} (h : canonB f = false) : numB f = none := by unfold numB; rw [h]; rfl
theorem canon_eq {f : Str} (h1 : 1 ≤ f.length) (h2 : f.length ≤ 4) (h3 : f.cps.toList.all digB = true) : canonB f = (decide (f = "0") || decide (f.cps.toList.head? ≠ some 48)) := by
  unfold canonB
  rw [h3, decide_eq_true h1, decide_eq_true h2]; rfl
theorem opt_inB {lo hi : Int} {o : Option Int} {S : Sto} {R : RK} (h : R (optP (inB lo hi o)) S) : (o = none → R .non S) ∧ (∀ n, o = some n → (if lo ≤ n ∧ n ≤ hi then R (.int n) S else R .non S)) := by
  refine ⟨fun e => by rw [e] at h; exact h, fun n e => ?_⟩
  rw [e] at h
  unfold inB at h
  dsimp only at h
  split
  · rename_i c; rw [if_pos c] at h; exact h
  · rename_i c; rw [if_neg c] at h; exact h
def numK (R : RK) (lo hi : Int) : PV → Sto → Prop := fun p S' => kLe (.int lo) p S' fun z S3 => chK z (kLe p (.int hi) S3 (kB fun b S1 => if b = true then gR R p S1 else gR R .non S1)) (gR R .non S3)
theorem pure__law_number (K : PySem.W.Frag) : ∀ ps S R Z, ps.length = 3 → sp__law_number K ps S R Z → w__law_number K (fin R Z) (startP n__law_number ps) S := by
  intro ps S R Z hl h
  obtain ⟨w, lo, hi, rfl, hz, hR⟩ := h
  obtain ⟨hnone, hsome⟩ := opt_inB hR
  clear hR
  have hz1 := txl hz
  have e : startP n__law_number [.str w, .int lo, .int hi] = [some (.str w), some (.int lo), some (.int hi), none, none, none] := rfl
  rw [e]
  -- behind the sign
  have core : ∀ f : Str, f.length ≤ sizeLine → (w = f → intB' w = numB f) → (w ≠ f → intB' w = (match numB f with
      | some n => if n = 0 then none else some (-n)
      | none => none)) → ∀ (P : PEnds), P = { nx := wSeq (wIfS (wOrT (tst (wB (kEqA false) (wVar 3) (wC (.str "")))) (wOrT (tst (wB (kGt) (wCall (p1 kLen) (wCons (wVar 3) (wNil))) (wC (.int 4)))) (wNotT (tst (wCall (p1 kAll) (wCons (wLc (wIt (wVar 3)) (.nm 5) (wYes) (w__law_number_1 K) [5]) (wNil))))))) (wRet (wC .non)) (wNext)) (wSeq (wIfS (wAndT (tst (wB (kEqA false) (wB kIx (wVar 3) (wC (.int 0))) (wC (.str "0")))) (wOrT (tst (wB (kGt) (wCall (p1 kLen) (wCons (wVar 3) (wNil))) (wC (.int 1)))) (tst (wB (kEqA true) (wVar 0) (wVar 3))))) (wRet (wC .non)) (wNext)) (wSeq (wSet 4 (wIf (tst (wB (kEqA false) (wVar 0) (wVar 3))) (wCall (p1 kInt) (wCons (wVar 3) (wNil))) (wB kSub (wC (.int 0)) (wCall (p1 kInt) (wCons (wVar 3) (wNil)))))) (wRet (wIf (tst (wCh (kLe) (kLe) (wVar 1) (wVar 4) (wVar 2))) (wVar 4) (wC .non))))) (fin R Z), rt := gR R, ex := fun e _ S' => zfg Z e S' } →
      P.nx [some (.str w), some (.int lo), some (.int hi), some (.str f), none, none] S := by
    intro f fz e1 e2 P eP
    subst eP
    have non : numB f = none → gR R .non S := fun z => gR_now (hnone (by
      by_cases hw : w = f
      · rw [e1 hw, z]
      · rw [e2 hw, z]))
    simp -implicitDefEqProofs only [↓e_ret, ↓e_retN, ↓e_nxt, ↓e_seq, ↓e_nev, ↓e_brk, ↓e_cnt, ↓e_expr, ↓e_ifs, ↓e_set, ↓e_asg, ↓par2_two, ↓e_par, ↓e_for, ↓e_setF, ↓e_put, ↓opt_some, ↓e_var, ↓e_c, ↓e_b, ↓e_1, ↓e_tst, ↓e_kB, ↓e_tru, ↓e_notT, ↓e_andT, ↓e_orT, ↓truK_bl, ↓e_andV, ↓e_orV, ↓e_notV, ↓e_if, ↓chK_bl, ↓e_ch, ↓e_nil, ↓e_cons, ↓e_tup, ↓e_lst, ↓e_lstF, ↓e_call, ↓e_arN, ↓e_p1, ↓e_p2, ↓e_meth, ↓e_bm, ↓e_fld, ↓e_lc, ↓e_dc, ↓e_it, ↓e_rng1, ↓e_rng2, ↓e_intB, ↓e_sl, ↓e_no, ↓e_so, ↓e_yes, ↓e_anm, ↓gs_0, ↓gs_s, ↓dr_int, ↓dr_str, ↓dr_bl, ↓dr_nn, ↓dr_tup, ↓dr_lst, ↓dr_dct, ↓dr_obj, ↓k_lt_int, ↓k_le_int, ↓k_gt_int, ↓k_ge_int, ↓k_lt_str, ↓k_add_int, ↓k_add_str, ↓k_add_tup, ↓k_add_lst, ↓k_sub, ↓k_mul, ↓k_div, ↓k_mod, ↓k_pow, ↓k_neg, ↓k_eq_int, ↓k_eq_str, ↓k_is_nn, ↓k_is_int, ↓k_is_tup, ↓k_is_obj, ↓k_ix_lst, ↓k_ix_tup, ↓k_ix_str, ↓k_ix_dct, ↓k_len_str, ↓k_len_lst, ↓k_len_tup, ↓k_int_int, ↓k_int_bl, ↓k_abs, ↓k_str_int, ↓k_str_str, ↓k_tup_lst, ↓k_it_str, ↓k_it_tup, ↓k_it_lst, ↓k_in_dct, ↓e_enum, ↓k_en_tup, ↓k_en_lst, ↓e_atp, ↓e_lcM, ↓par3_three, ↓e_lits, ↓e_par3, ↓e_rev, ↓e_dct0, ↓e_nevE, ↓e_raise1, ↓e_exF, ↓e_exI, ↓e_tryA, ↓k_rev_lst, ↓k_addM_lst, ↓k_max2, ↓k_min2, List.set_cons_zero, List.set_cons_succ, wipeP]
    by_cases h0 : f = ""
    · rw [decide_eq_true h0]
      simp -implicitDefEqProofs only [↓e_ret, ↓e_retN, ↓e_nxt, ↓e_seq, ↓e_nev, ↓e_brk, ↓e_cnt, ↓e_expr, ↓e_ifs, ↓e_set, ↓e_asg, ↓par2_two, ↓e_par, ↓e_for, ↓e_setF, ↓e_put, ↓opt_some, ↓e_var, ↓e_c, ↓e_b, ↓e_1, ↓e_tst, ↓e_kB, ↓e_tru, ↓e_notT, ↓e_andT, ↓e_orT, ↓truK_bl, ↓e_andV, ↓e_orV, ↓e_notV, ↓e_if, ↓chK_bl, ↓e_ch, ↓e_nil, ↓e_cons, ↓e_tup, ↓e_lst, ↓e_lstF, ↓e_call, ↓e_arN, ↓e_p1, ↓e_p2, ↓e_meth, ↓e_bm, ↓e_fld, ↓e_lc, ↓e_dc, ↓e_it, ↓e_rng1, ↓e_rng2, ↓e_intB, ↓e_sl, ↓e_no, ↓e_so, ↓e_yes, ↓e_anm, ↓gs_0, ↓gs_s, ↓dr_int, ↓dr_str, ↓dr_bl, ↓dr_nn, ↓dr_tup, ↓dr_lst, ↓dr_dct, ↓dr_obj, ↓k_lt_int, ↓k_le_int, ↓k_gt_int, ↓k_ge_int, ↓k_lt_str, ↓k_add_int, ↓k_add_str, ↓k_add_tup, ↓k_add_lst, ↓k_sub, ↓k_mul, ↓k_div, ↓k_mod, ↓k_pow, ↓k_neg, ↓k_eq_int, ↓k_eq_str, ↓k_is_nn, ↓k_is_int, ↓k_is_tup, ↓k_is_obj, ↓k_ix_lst, ↓k_ix_tup, ↓k_ix_str, ↓k_ix_dct, ↓k_len_str, ↓k_len_lst, ↓k_len_tup, ↓k_int_int, ↓k_int_bl, ↓k_abs, ↓k_str_int, ↓k_str_str, ↓k_tup_lst, ↓k_it_str, ↓k_it_tup, ↓k_it_lst, ↓k_in_dct, ↓e_enum, ↓k_en_tup, ↓k_en_lst, ↓e_atp, ↓e_lcM, ↓par3_three, ↓e_lits, ↓e_par3, ↓e_rev, ↓e_dct0, ↓e_nevE, ↓e_raise1, ↓e_exF, ↓e_exI, ↓e_tryA, ↓k_rev_lst, ↓k_addM_lst, ↓k_max2, ↓k_min2, List.set_cons_zero, List.set_cons_succ, wipeP, Bool.bne_false, if_true]
      exact non (by rw [h0]; decide +kernel)
    rw [decide_eq_false h0]
    have hl : f.cps.toList ≠ [] := fun z => h0 (TL.ext_tl (by rw [show TL.tl ("" : Str) = [] from by decide +kernel]; exact z))
    have hl1 : 1 ≤ f.length := by
      have : f.length = f.cps.toList.length := TL.len_tl f
      have := List.length_pos_iff.mpr hl
      omega
    simp -implicitDefEqProofs only [↓e_ret, ↓e_retN, ↓e_nxt, ↓e_seq, ↓e_nev, ↓e_brk, ↓e_cnt, ↓e_expr, ↓e_ifs, ↓e_set, ↓e_asg, ↓par2_two, ↓e_par, ↓e_for, ↓e_setF, ↓e_put, ↓opt_some, ↓e_var, ↓e_c, ↓e_b, ↓e_1, ↓e_tst, ↓e_kB, ↓e_tru, ↓e_notT, ↓e_andT, ↓e_orT, ↓truK_bl, ↓e_andV, ↓e_orV, ↓e_notV, ↓e_if, ↓chK_bl, ↓e_ch, ↓e_nil, ↓e_cons, ↓e_tup, ↓e_lst, ↓e_lstF, ↓e_call, ↓e_arN, ↓e_p1, ↓e_p2, ↓e_meth, ↓e_bm, ↓e_fld, ↓e_lc, ↓e_dc, ↓e_it, ↓e_rng1, ↓e_rng2, ↓e_intB, ↓e_sl, ↓e_no, ↓e_so, ↓e_yes, ↓e_anm, ↓gs_0, ↓gs_s, ↓dr_int, ↓dr_str, ↓dr_bl, ↓dr_nn, ↓dr_tup, ↓dr_lst, ↓dr_dct, ↓dr_obj, ↓k_lt_int, ↓k_le_int, ↓k_gt_int, ↓k_ge_int, ↓k_lt_str, ↓k_add_int, ↓k_add_str, ↓k_add_tup, ↓k_add_lst, ↓k_sub, ↓k_mul, ↓k_div, ↓k_mod, ↓k_pow, ↓k_neg, ↓k_eq_int, ↓k_eq_str, ↓k_is_nn, ↓k_is_int, ↓k_is_tup, ↓k_is_obj, ↓k_ix_lst, ↓k_ix_tup, ↓k_ix_str, ↓k_ix_dct, ↓k_len_str, ↓k_len_lst, ↓k_len_tup, ↓k_int_int, ↓k_int_bl, ↓k_abs, ↓k_str_int, ↓k_str_str, ↓k_tup_lst, ↓k_it_str, ↓k_it_tup, ↓k_it_lst, ↓k_in_dct, ↓e_enum, ↓k_en_tup, ↓k_en_lst, ↓e_atp, ↓e_lcM, ↓par3_three, ↓e_lits, ↓e_par3, ↓e_rev, ↓e_dct0, ↓e_nevE, ↓e_raise1, ↓e_exF, ↓e_exI, ↓e_tryA, ↓k_rev_lst, ↓k_addM_lst, ↓k_max2, ↓k_min2, List.set_cons_zero, List.set_cons_succ, wipeP, Bool.bne_false, Bool.false_eq_true, if_false]
    refine ⟨fz, ?_⟩
    by_cases h4 : (4 : Int) < (f.length : Int)
    · rw [decide_eq_true h4]
      simp only [if_true]
      refine non (numB_no ?_)
      unfold canonB
      rw [decide_eq_false (show ¬ f.length ≤ 4 by omega)]; simp
    rw [decide_eq_false h4]
    simp -implicitDefEqProofs only [↓e_ret, ↓e_retN, ↓e_nxt, ↓e_seq, ↓e_nev, ↓e_brk, ↓e_cnt, ↓e_expr, ↓e_ifs, ↓e_set, ↓e_asg, ↓par2_two, ↓e_par, ↓e_for, ↓e_setF, ↓e_put, ↓opt_some, ↓e_var, ↓e_c, ↓e_b, ↓e_1, ↓e_tst, ↓e_kB, ↓e_tru, ↓e_notT, ↓e_andT, ↓e_orT, ↓truK_bl, ↓e_andV, ↓e_orV, ↓e_notV, ↓e_if, ↓chK_bl, ↓e_ch, ↓e_nil, ↓e_cons, ↓e_tup, ↓e_lst, ↓e_lstF, ↓e_call, ↓e_arN, ↓e_p1, ↓e_p2, ↓e_meth, ↓e_bm, ↓e_fld, ↓e_lc, ↓e_dc, ↓e_it, ↓e_rng1, ↓e_rng2, ↓e_intB, ↓e_sl, ↓e_no, ↓e_so, ↓e_yes, ↓e_anm, ↓gs_0, ↓gs_s, ↓dr_int, ↓dr_str, ↓dr_bl, ↓dr_nn, ↓dr_tup, ↓dr_lst, ↓dr_dct, ↓dr_obj, ↓k_lt_int, ↓k_le_int, ↓k_gt_int, ↓k_ge_int, ↓k_lt_str, ↓k_add_int, ↓k_add_str, ↓k_add_tup, ↓k_add_lst, ↓k_sub, ↓k_mul, ↓k_div, ↓k_mod, ↓k_pow, ↓k_neg, ↓k_eq_int, ↓k_eq_str, ↓k_is_nn, ↓k_is_int, ↓k_is_tup, ↓k_is_obj, ↓k_ix_lst, ↓k_ix_tup, ↓k_ix_str, ↓k_ix_dct, ↓k_len_str, ↓k_len_lst, ↓k_len_tup, ↓k_int_int, ↓k_int_bl, ↓k_abs, ↓k_str_int, ↓k_str_str, ↓k_tup_lst, ↓k_it_str, ↓k_it_tup, ↓k_it_lst, ↓k_in_dct, ↓e_enum, ↓k_en_tup, ↓k_en_lst, ↓e_atp, ↓e_lcM, ↓par3_three, ↓e_lits, ↓e_par3, ↓e_rev, ↓e_dct0, ↓e_nevE, ↓e_raise1, ↓e_exF, ↓e_exI, ↓e_tryA, ↓k_rev_lst, ↓k_addM_lst, ↓k_max2, ↓k_min2, List.set_cons_zero, List.set_cons_succ, wipeP, Bool.false_eq_true, if_false, k_it_str]
    refine wLcL_allM (fun c => PV.str ⟨#[c]⟩) (fun c => PV.bl (digs.contains c)) trivial _ (fun x hx R' hR' => ?_) fz ?_
    · simp -implicitDefEqProofs only [↓e_ret, ↓e_retN, ↓e_nxt, ↓e_seq, ↓e_nev, ↓e_brk, ↓e_cnt, ↓e_expr, ↓e_ifs, ↓e_set, ↓e_asg, ↓par2_two, ↓e_par, ↓e_for, ↓e_setF, ↓e_put, ↓opt_some, ↓e_var, ↓e_c, ↓e_b, ↓e_1, ↓e_tst, ↓e_kB, ↓e_tru, ↓e_notT, ↓e_andT, ↓e_orT, ↓truK_bl, ↓e_andV, ↓e_orV, ↓e_notV, ↓e_if, ↓chK_bl, ↓e_ch, ↓e_nil, ↓e_cons, ↓e_tup, ↓e_lst, ↓e_lstF, ↓e_call, ↓e_arN, ↓e_p1, ↓e_p2, ↓e_meth, ↓e_bm, ↓e_fld, ↓e_lc, ↓e_dc, ↓e_it, ↓e_rng1, ↓e_rng2, ↓e_intB, ↓e_sl, ↓e_no, ↓e_so, ↓e_yes, ↓e_anm, ↓gs_0, ↓gs_s, ↓dr_int, ↓dr_str, ↓dr_bl, ↓dr_nn, ↓dr_tup, ↓dr_lst, ↓dr_dct, ↓dr_obj, ↓k_lt_int, ↓k_le_int, ↓k_gt_int, ↓k_ge_int, ↓k_lt_str, ↓k_add_int, ↓k_add_str, ↓k_add_tup, ↓k_add_lst, ↓k_sub, ↓k_mul, ↓k_div, ↓k_mod, ↓k_pow, ↓k_neg, ↓k_eq_int, ↓k_eq_str, ↓k_is_nn, ↓k_is_int, ↓k_is_tup, ↓k_is_obj, ↓k_ix_lst, ↓k_ix_tup, ↓k_ix_str, ↓k_ix_dct, ↓k_len_str, ↓k_len_lst, ↓k_len_tup, ↓k_int_int, ↓k_int_bl, ↓k_abs, ↓k_str_int, ↓k_str_str, ↓k_tup_lst, ↓k_it_str, ↓k_it_tup, ↓k_it_lst, ↓k_in_dct, ↓e_enum, ↓k_en_tup, ↓k_en_lst, ↓e_atp, ↓e_lcM, ↓par3_three, ↓e_lits, ↓e_par3, ↓e_rev, ↓e_dct0, ↓e_nevE, ↓e_raise1, ↓e_exF, ↓e_exI, ↓e_tryA, ↓k_rev_lst, ↓k_addM_lst, ↓k_max2, ↓k_min2, List.set_cons_zero, List.set_cons_succ, wipeP, w__law_number_1, k_in_str]
      refine ⟨rfl, ?_⟩
      rw [Bool.bne_false]
      exact hR'
    rw [k_allM]
    have ed : f.cps.toList.all digs.contains = f.cps.toList.all digB := by congr 1; exact funext fun c => dig_eq
    rw [ed]
    cases h3 : f.cps.toList.all digB with
    | false =>
      simp -implicitDefEqProofs only [↓e_ret, ↓e_retN, ↓e_nxt, ↓e_seq, ↓e_nev, ↓e_brk, ↓e_cnt, ↓e_expr, ↓e_ifs, ↓e_set, ↓e_asg, ↓par2_two, ↓e_par, ↓e_for, ↓e_setF, ↓e_put, ↓opt_some, ↓e_var, ↓e_c, ↓e_b, ↓e_1, ↓e_tst, ↓e_kB, ↓e_tru, ↓e_notT, ↓e_andT, ↓e_orT, ↓truK_bl, ↓e_andV, ↓e_orV, ↓e_notV, ↓e_if, ↓chK_bl, ↓e_ch, ↓e_nil, ↓e_cons, ↓e_tup, ↓e_lst, ↓e_lstF, ↓e_call, ↓e_arN, ↓e_p1, ↓e_p2, ↓e_meth, ↓e_bm, ↓e_fld, ↓e_lc, ↓e_dc, ↓e_it, ↓e_rng1, ↓e_rng2, ↓e_intB, ↓e_sl, ↓e_no, ↓e_so, ↓e_yes, ↓e_anm, ↓gs_0, ↓gs_s, ↓dr_int, ↓dr_str, ↓dr_bl, ↓dr_nn, ↓dr_tup, ↓dr_lst, ↓dr_dct, ↓dr_obj, ↓k_lt_int, ↓k_le_int, ↓k_gt_int, ↓k_ge_int, ↓k_lt_str, ↓k_add_int, ↓k_add_str, ↓k_add_tup, ↓k_add_lst, ↓k_sub, ↓k_mul, ↓k_div, ↓k_mod, ↓k_pow, ↓k_neg, ↓k_eq_int, ↓k_eq_str, ↓k_is_nn, ↓k_is_int, ↓k_is_tup, ↓k_is_obj, ↓k_ix_lst, ↓k_ix_tup, ↓k_ix_str, ↓k_ix_dct, ↓k_len_str, ↓k_len_lst, ↓k_len_tup, ↓k_int_int, ↓k_int_bl, ↓k_abs, ↓k_str_int, ↓k_str_str, ↓k_tup_lst, ↓k_it_str, ↓k_it_tup, ↓k_it_lst, ↓k_in_dct, ↓e_enum, ↓k_en_tup, ↓k_en_lst, ↓e_atp, ↓e_lcM, ↓par3_three, ↓e_lits, ↓e_par3, ↓e_rev, ↓e_dct0, ↓e_nevE, ↓e_raise1, ↓e_exF, ↓e_exI, ↓e_tryA, ↓k_rev_lst, ↓k_addM_lst, ↓k_max2, ↓k_min2, List.set_cons_zero, List.set_cons_succ, wipeP, Bool.not_false, if_true]
      refine non (numB_no ?_)
      unfold canonB
      rw [h3]; simp
    | true =>
      have cb := canon_eq hl1 (by omega) h3
      simp -implicitDefEqProofs only [↓e_ret, ↓e_retN, ↓e_nxt, ↓e_seq, ↓e_nev, ↓e_brk, ↓e_cnt, ↓e_expr, ↓e_ifs, ↓e_set, ↓e_asg, ↓par2_two, ↓e_par, ↓e_for, ↓e_setF, ↓e_put, ↓opt_some, ↓e_var, ↓e_c, ↓e_b, ↓e_1, ↓e_tst, ↓e_kB, ↓e_tru, ↓e_notT, ↓e_andT, ↓e_orT, ↓truK_bl, ↓e_andV, ↓e_orV, ↓e_notV, ↓e_if, ↓chK_bl, ↓e_ch, ↓e_nil, ↓e_cons, ↓e_tup, ↓e_lst, ↓e_lstF, ↓e_call, ↓e_arN, ↓e_p1, ↓e_p2, ↓e_meth, ↓e_bm, ↓e_fld, ↓e_lc, ↓e_dc, ↓e_it, ↓e_rng1, ↓e_rng2, ↓e_intB, ↓e_sl, ↓e_no, ↓e_so, ↓e_yes, ↓e_anm, ↓gs_0, ↓gs_s, ↓dr_int, ↓dr_str, ↓dr_bl, ↓dr_nn, ↓dr_tup, ↓dr_lst, ↓dr_dct, ↓dr_obj, ↓k_lt_int, ↓k_le_int, ↓k_gt_int, ↓k_ge_int, ↓k_lt_str, ↓k_add_int, ↓k_add_str, ↓k_add_tup, ↓k_add_lst, ↓k_sub, ↓k_mul, ↓k_div, ↓k_mod, ↓k_pow, ↓k_neg, ↓k_eq_int, ↓k_eq_str, ↓k_is_nn, ↓k_is_int, ↓k_is_tup, ↓k_is_obj, ↓k_ix_lst, ↓k_ix_tup, ↓k_ix_str, ↓k_ix_dct, ↓k_len_str, ↓k_len_lst, ↓k_len_tup, ↓k_int_int, ↓k_int_bl, ↓k_abs, ↓k_str_int, ↓k_str_str, ↓k_tup_lst, ↓k_it_str, ↓k_it_tup, ↓k_it_lst, ↓k_in_dct, ↓e_enum, ↓k_en_tup, ↓k_en_lst, ↓e_atp, ↓e_lcM, ↓par3_three, ↓e_lits, ↓e_par3, ↓e_rev, ↓e_dct0, ↓e_nevE, ↓e_raise1, ↓e_exF, ↓e_exI, ↓e_tryA, ↓k_rev_lst, ↓k_addM_lst, ↓k_max2, ↓k_min2, List.set_cons_zero, List.set_cons_succ, wipeP, Bool.not_true, Bool.false_eq_true, if_false]
      refine ⟨fz, ?_⟩
      cases e2' : f.cps.toList with
      | nil => exact absurd e2' hl
      | cons c r =>
        refine ⟨c, atI_nn (j := 0) rfl rfl, ?_⟩
        have hc : decide ((⟨#[c]⟩ : Str) = "0") = decide (c = 48) := by
          rw [Bool.eq_iff_iff, decide_eq_true_eq, decide_eq_true_eq]
          refine ⟨fun z => ?_, fun z => by rw [z]; decide +kernel⟩
          have z2 : [c] = [48] := congrArg (fun x : Str => x.cps.toList) (z.trans (by decide +kernel : ("0" : Str) = ⟨#[48]⟩))
          exact (List.cons.inj z2).1
        rw [hc]
        -- the number is told
        have tell : canonB f = true → (w ≠ f → f ≠ "0") → (if decide (w = f) = true then kInt (.str f) S (numK R lo hi) else kInt (.str f) S fun q S2 => kSub (.int 0) q S2 (numK R lo hi)) := by
          intro hcan hne
          obtain ⟨n, hn, hi', hn0⟩ := numB_of hcan
          have fin2 : ∀ m : Int, intB' w = some m → numK R lo hi (.int m) S := by
            intro m em
            have hs := hsome m em
            unfold numK
            rw [k_le_int]
            by_cases a1 : lo ≤ m
            · rw [decide_eq_true a1]
              simp -implicitDefEqProofs only [↓e_ret, ↓e_retN, ↓e_nxt, ↓e_seq, ↓e_nev, ↓e_brk, ↓e_cnt, ↓e_expr, ↓e_ifs, ↓e_set, ↓e_asg, ↓par2_two, ↓e_par, ↓e_for, ↓e_setF, ↓e_put, ↓opt_some, ↓e_var, ↓e_c, ↓e_b, ↓e_1, ↓e_tst, ↓e_kB, ↓e_tru, ↓e_notT, ↓e_andT, ↓e_orT, ↓truK_bl, ↓e_andV, ↓e_orV, ↓e_notV, ↓e_if, ↓chK_bl, ↓e_ch, ↓e_nil, ↓e_cons, ↓e_tup, ↓e_lst, ↓e_lstF, ↓e_call, ↓e_arN, ↓e_p1, ↓e_p2, ↓e_meth, ↓e_bm, ↓e_fld, ↓e_lc, ↓e_dc, ↓e_it, ↓e_rng1, ↓e_rng2, ↓e_intB, ↓e_sl, ↓e_no, ↓e_so, ↓e_yes, ↓e_anm, ↓gs_0, ↓gs_s, ↓dr_int, ↓dr_str, ↓dr_bl, ↓dr_nn, ↓dr_tup, ↓dr_lst, ↓dr_dct, ↓dr_obj, ↓k_lt_int, ↓k_le_int, ↓k_gt_int, ↓k_ge_int, ↓k_lt_str, ↓k_add_int, ↓k_add_str, ↓k_add_tup, ↓k_add_lst, ↓k_sub, ↓k_mul, ↓k_div, ↓k_mod, ↓k_pow, ↓k_neg, ↓k_eq_int, ↓k_eq_str, ↓k_is_nn, ↓k_is_int, ↓k_is_tup, ↓k_is_obj, ↓k_ix_lst, ↓k_ix_tup, ↓k_ix_str, ↓k_ix_dct, ↓k_len_str, ↓k_len_lst, ↓k_len_tup, ↓k_int_int, ↓k_int_bl, ↓k_abs, ↓k_str_int, ↓k_str_str, ↓k_tup_lst, ↓k_it_str, ↓k_it_tup, ↓k_it_lst, ↓k_in_dct, ↓e_enum, ↓k_en_tup, ↓k_en_lst, ↓e_atp, ↓e_lcM, ↓par3_three, ↓e_lits, ↓e_par3, ↓e_rev, ↓e_dct0, ↓e_nevE, ↓e_raise1, ↓e_exF, ↓e_exI, ↓e_tryA, ↓k_rev_lst, ↓k_addM_lst, ↓k_max2, ↓k_min2, List.set_cons_zero, List.set_cons_succ, wipeP, if_true]
              by_cases a2 : m ≤ hi
              · rw [decide_eq_true a2]
                rw [if_pos ⟨a1, a2⟩] at hs
                exact gR_now hs
              · rw [decide_eq_false a2]
                rw [if_neg (fun z => a2 z.2)] at hs
                exact gR_now hs
            · rw [decide_eq_false a1]
              rw [if_neg (fun z => a1 z.1)] at hs
              exact gR_now hs
          by_cases hw : w = f
          · rw [if_pos (decide_eq_true hw)]
            exact ⟨n, hi', by omega, fin2 n (by rw [e1 hw, hn])⟩
          · rw [if_neg (by simpa using hw)]
            refine ⟨n, hi', by omega, ?_⟩
            show kSub (.int 0) (.int n) S (numK R lo hi)
            rw [k_sub]
            have hn1 : (n : Int) ≠ 0 := fun z => hne hw (hn0 (by omega))
            refine fin2 (0 - n) ?_
            rw [e2 hw, hn]
            dsimp only
            rw [if_neg hn1]
            congr 1; omega
        by_cases h48 : c = 48
        · rw [decide_eq_true h48]
          simp -implicitDefEqProofs only [↓e_ret, ↓e_retN, ↓e_nxt, ↓e_seq, ↓e_nev, ↓e_brk, ↓e_cnt, ↓e_expr, ↓e_ifs, ↓e_set, ↓e_asg, ↓par2_two, ↓e_par, ↓e_for, ↓e_setF, ↓e_put, ↓opt_some, ↓e_var, ↓e_c, ↓e_b, ↓e_1, ↓e_tst, ↓e_kB, ↓e_tru, ↓e_notT, ↓e_andT, ↓e_orT, ↓truK_bl, ↓e_andV, ↓e_orV, ↓e_notV, ↓e_if, ↓chK_bl, ↓e_ch, ↓e_nil, ↓e_cons, ↓e_tup, ↓e_lst, ↓e_lstF, ↓e_call, ↓e_arN, ↓e_p1, ↓e_p2, ↓e_meth, ↓e_bm, ↓e_fld, ↓e_lc, ↓e_dc, ↓e_it, ↓e_rng1, ↓e_rng2, ↓e_intB, ↓e_sl, ↓e_no, ↓e_so, ↓e_yes, ↓e_anm, ↓gs_0, ↓gs_s, ↓dr_int, ↓dr_str, ↓dr_bl, ↓dr_nn, ↓dr_tup, ↓dr_lst, ↓dr_dct, ↓dr_obj, ↓k_lt_int, ↓k_le_int, ↓k_gt_int, ↓k_ge_int, ↓k_lt_str, ↓k_add_int, ↓k_add_str, ↓k_add_tup, ↓k_add_lst, ↓k_sub, ↓k_mul, ↓k_div, ↓k_mod, ↓k_pow, ↓k_neg, ↓k_eq_int, ↓k_eq_str, ↓k_is_nn, ↓k_is_int, ↓k_is_tup, ↓k_is_obj, ↓k_ix_lst, ↓k_ix_tup, ↓k_ix_str, ↓k_ix_dct, ↓k_len_str, ↓k_len_lst, ↓k_len_tup, ↓k_int_int, ↓k_int_bl, ↓k_abs, ↓k_str_int, ↓k_str_str, ↓k_tup_lst, ↓k_it_str, ↓k_it_tup, ↓k_it_lst, ↓k_in_dct, ↓e_enum, ↓k_en_tup, ↓k_en_lst, ↓e_atp, ↓e_lcM, ↓par3_three, ↓e_lits, ↓e_par3, ↓e_rev, ↓e_dct0, ↓e_nevE, ↓e_raise1, ↓e_exF, ↓e_exI, ↓e_tryA, ↓k_rev_lst, ↓k_addM_lst, ↓k_max2, ↓k_min2, List.set_cons_zero, List.set_cons_succ, wipeP, Bool.bne_false, if_true]
          refine ⟨fz, ?_⟩
          by_cases hlen : (1 : Int) < (f.length : Int)
          · rw [decide_eq_true hlen]
            simp only [if_true]
            refine non (numB_no ?_)
            rw [cb, e2', h48, decide_eq_false fun z => by rw [z] at hlen; exact absurd hlen (by decide +kernel)]
            rfl
          · rw [decide_eq_false hlen]
            have f0 : f = "0" := by
              refine TL.ext_tl ?_
              show f.cps.toList = _
              have hfl : f.length = f.cps.toList.length := TL.len_tl f
              rw [e2', List.length_cons] at hfl
              have : r = [] := List.length_eq_zero_iff.mp (by omega)
              rw [e2', this, h48]; exact tl_zero.symm
            simp -implicitDefEqProofs only [↓e_ret, ↓e_retN, ↓e_nxt, ↓e_seq, ↓e_nev, ↓e_brk, ↓e_cnt, ↓e_expr, ↓e_ifs, ↓e_set, ↓e_asg, ↓par2_two, ↓e_par, ↓e_for, ↓e_setF, ↓e_put, ↓opt_some, ↓e_var, ↓e_c, ↓e_b, ↓e_1, ↓e_tst, ↓e_kB, ↓e_tru, ↓e_notT, ↓e_andT, ↓e_orT, ↓truK_bl, ↓e_andV, ↓e_orV, ↓e_notV, ↓e_if, ↓chK_bl, ↓e_ch, ↓e_nil, ↓e_cons, ↓e_tup, ↓e_lst, ↓e_lstF, ↓e_call, ↓e_arN, ↓e_p1, ↓e_p2, ↓e_meth, ↓e_bm, ↓e_fld, ↓e_lc, ↓e_dc, ↓e_it, ↓e_rng1, ↓e_rng2, ↓e_intB, ↓e_sl, ↓e_no, ↓e_so, ↓e_yes, ↓e_anm, ↓gs_0, ↓gs_s, ↓dr_int, ↓dr_str, ↓dr_bl, ↓dr_nn, ↓dr_tup, ↓dr_lst, ↓dr_dct, ↓dr_obj, ↓k_lt_int, ↓k_le_int, ↓k_gt_int, ↓k_ge_int, ↓k_lt_str, ↓k_add_int, ↓k_add_str, ↓k_add_tup, ↓k_add_lst, ↓k_sub, ↓k_mul, ↓k_div, ↓k_mod, ↓k_pow, ↓k_neg, ↓k_eq_int, ↓k_eq_str, ↓k_is_nn, ↓k_is_int, ↓k_is_tup, ↓k_is_obj, ↓k_ix_lst, ↓k_ix_tup, ↓k_ix_str, ↓k_ix_dct, ↓k_len_str, ↓k_len_lst, ↓k_len_tup, ↓k_int_int, ↓k_int_bl, ↓k_abs, ↓k_str_int, ↓k_str_str, ↓k_tup_lst, ↓k_it_str, ↓k_it_tup, ↓k_it_lst, ↓k_in_dct, ↓e_enum, ↓k_en_tup, ↓k_en_lst, ↓e_atp, ↓e_lcM, ↓par3_three, ↓e_lits, ↓e_par3, ↓e_rev, ↓e_dct0, ↓e_nevE, ↓e_raise1, ↓e_exF, ↓e_exI, ↓e_tryA, ↓k_rev_lst, ↓k_addM_lst, ↓k_max2, ↓k_min2, List.set_cons_zero, List.set_cons_succ, wipeP, Bool.false_eq_true, if_false]
            by_cases hw : w = f
            · rw [decide_eq_true hw]
              simp -implicitDefEqProofs only [↓e_ret, ↓e_retN, ↓e_nxt, ↓e_seq, ↓e_nev, ↓e_brk, ↓e_cnt, ↓e_expr, ↓e_ifs, ↓e_set, ↓e_asg, ↓par2_two, ↓e_par, ↓e_for, ↓e_setF, ↓e_put, ↓opt_some, ↓e_var, ↓e_c, ↓e_b, ↓e_1, ↓e_tst, ↓e_kB, ↓e_tru, ↓e_notT, ↓e_andT, ↓e_orT, ↓truK_bl, ↓e_andV, ↓e_orV, ↓e_notV, ↓e_if, ↓chK_bl, ↓e_ch, ↓e_nil, ↓e_cons, ↓e_tup, ↓e_lst, ↓e_lstF, ↓e_call, ↓e_arN, ↓e_p1, ↓e_p2, ↓e_meth, ↓e_bm, ↓e_fld, ↓e_lc, ↓e_dc, ↓e_it, ↓e_rng1, ↓e_rng2, ↓e_intB, ↓e_sl, ↓e_no, ↓e_so, ↓e_yes, ↓e_anm, ↓gs_0, ↓gs_s, ↓dr_int, ↓dr_str, ↓dr_bl, ↓dr_nn, ↓dr_tup, ↓dr_lst, ↓dr_dct, ↓dr_obj, ↓k_lt_int, ↓k_le_int, ↓k_gt_int, ↓k_ge_int, ↓k_lt_str, ↓k_add_int, ↓k_add_str, ↓k_add_tup, ↓k_add_lst, ↓k_sub, ↓k_mul, ↓k_div, ↓k_mod, ↓k_pow, ↓k_neg, ↓k_eq_int, ↓k_eq_str, ↓k_is_nn, ↓k_is_int, ↓k_is_tup, ↓k_is_obj, ↓k_ix_lst, ↓k_ix_tup, ↓k_ix_str, ↓k_ix_dct, ↓k_len_str, ↓k_len_lst, ↓k_len_tup, ↓k_int_int, ↓k_int_bl, ↓k_abs, ↓k_str_int, ↓k_str_str, ↓k_tup_lst, ↓k_it_str, ↓k_it_tup, ↓k_it_lst, ↓k_in_dct, ↓e_enum, ↓k_en_tup, ↓k_en_lst, ↓e_atp, ↓e_lcM, ↓par3_three, ↓e_lits, ↓e_par3, ↓e_rev, ↓e_dct0, ↓e_nevE, ↓e_raise1, ↓e_exF, ↓e_exI, ↓e_tryA, ↓k_rev_lst, ↓k_addM_lst, ↓k_max2, ↓k_min2, List.set_cons_zero, List.set_cons_succ, wipeP, Bool.bne_true, Bool.not_true, Bool.false_eq_true, if_false]
              have := tell (by rw [f0]; decide +kernel) (fun z => absurd hw z)
              rw [if_pos (decide_eq_true hw)] at this
              exact this
            · rw [decide_eq_false hw]
              simp only [Bool.bne_true, Bool.not_false, if_true]
              refine gR_now (hnone ?_)
              rw [e2 hw, f0, numB_zero]; rfl
        · rw [decide_eq_false h48]
          simp -implicitDefEqProofs only [↓e_ret, ↓e_retN, ↓e_nxt, ↓e_seq, ↓e_nev, ↓e_brk, ↓e_cnt, ↓e_expr, ↓e_ifs, ↓e_set, ↓e_asg, ↓par2_two, ↓e_par, ↓e_for, ↓e_setF, ↓e_put, ↓opt_some, ↓e_var, ↓e_c, ↓e_b, ↓e_1, ↓e_tst, ↓e_kB, ↓e_tru, ↓e_notT, ↓e_andT, ↓e_orT, ↓truK_bl, ↓e_andV, ↓e_orV, ↓e_notV, ↓e_if, ↓chK_bl, ↓e_ch, ↓e_nil, ↓e_cons, ↓e_tup, ↓e_lst, ↓e_lstF, ↓e_call, ↓e_arN, ↓e_p1, ↓e_p2, ↓e_meth, ↓e_bm, ↓e_fld, ↓e_lc, ↓e_dc, ↓e_it, ↓e_rng1, ↓e_rng2, ↓e_intB, ↓e_sl, ↓e_no, ↓e_so, ↓e_yes, ↓e_anm, ↓gs_0, ↓gs_s, ↓dr_int, ↓dr_str, ↓dr_bl, ↓dr_nn, ↓dr_tup, ↓dr_lst, ↓dr_dct, ↓dr_obj, ↓k_lt_int, ↓k_le_int, ↓k_gt_int, ↓k_ge_int, ↓k_lt_str, ↓k_add_int, ↓k_add_str, ↓k_add_tup, ↓k_add_lst, ↓k_sub, ↓k_mul, ↓k_div, ↓k_mod, ↓k_pow, ↓k_neg, ↓k_eq_int, ↓k_eq_str, ↓k_is_nn, ↓k_is_int, ↓k_is_tup, ↓k_is_obj, ↓k_ix_lst, ↓k_ix_tup, ↓k_ix_str, ↓k_ix_dct, ↓k_len_str, ↓k_len_lst, ↓k_len_tup, ↓k_int_int, ↓k_int_bl, ↓k_abs, ↓k_str_int, ↓k_str_str, ↓k_tup_lst, ↓k_it_str, ↓k_it_tup, ↓k_it_lst, ↓k_in_dct, ↓e_enum, ↓k_en_tup, ↓k_en_lst, ↓e_atp, ↓e_lcM, ↓par3_three, ↓e_lits, ↓e_par3, ↓e_rev, ↓e_dct0, ↓e_nevE, ↓e_raise1, ↓e_exF, ↓e_exI, ↓e_tryA, ↓k_rev_lst, ↓k_addM_lst, ↓k_max2, ↓k_min2, List.set_cons_zero, List.set_cons_succ, wipeP, Bool.bne_false, Bool.false_eq_true, if_false]
          have := tell (by rw [cb, e2']; simp [h48]) (fun _ z => by
            rw [z, tl_zero] at e2'
            cases e2'; exact h48 rfl)
          exact this
  have hw : w__law_number K = wSeq (wSet 3 (wIf (tst (wB (kEqA false) (wSl (wVar 0) (wNo) (wSo (wC (.int 1)))) (wC (.str "-")))) (wSl (wVar 0) (wSo (wC (.int 1))) (wNo)) (wVar 0))) (wSeq (wIfS (wOrT (tst (wB (kEqA false) (wVar 3) (wC (.str "")))) (wOrT (tst (wB (kGt) (wCall (p1 kLen) (wCons (wVar 3) (wNil))) (wC (.int 4)))) (wNotT (tst (wCall (p1 kAll) (wCons (wLc (wIt (wVar 3)) (.nm 5) (wYes) (w__law_number_1 K) [5]) (wNil))))))) (wRet (wC .non)) (wNext)) (wSeq (wIfS (wAndT (tst (wB (kEqA false) (wB kIx (wVar 3) (wC (.int 0))) (wC (.str "0")))) (wOrT (tst (wB (kGt) (wCall (p1 kLen) (wCons (wVar 3) (wNil))) (wC (.int 1)))) (tst (wB (kEqA true) (wVar 0) (wVar 3))))) (wRet (wC .non)) (wNext)) (wSeq (wSet 4 (wIf (tst (wB (kEqA false) (wVar 0) (wVar 3))) (wCall (p1 kInt) (wCons (wVar 3) (wNil))) (wB kSub (wC (.int 0)) (wCall (p1 kInt) (wCons (wVar 3) (wNil)))))) (wRet (wIf (tst (wCh (kLe) (kLe) (wVar 1) (wVar 4) (wVar 2))) (wVar 4) (wC .non)))))) := rfl
  rw [hw, e_seq]
  generalize hP : ({ nx := _, rt := _, ex := _ } : PEnds) = P
  simp -implicitDefEqProofs only [↓e_ret, ↓e_retN, ↓e_nxt, ↓e_seq, ↓e_nev, ↓e_brk, ↓e_cnt, ↓e_expr, ↓e_ifs, ↓e_set, ↓e_asg, ↓par2_two, ↓e_par, ↓e_for, ↓e_setF, ↓e_put, ↓opt_some, ↓e_var, ↓e_c, ↓e_b, ↓e_1, ↓e_tst, ↓e_kB, ↓e_tru, ↓e_notT, ↓e_andT, ↓e_orT, ↓truK_bl, ↓e_andV, ↓e_orV, ↓e_notV, ↓e_if, ↓chK_bl, ↓e_ch, ↓e_nil, ↓e_cons, ↓e_tup, ↓e_lst, ↓e_lstF, ↓e_call, ↓e_arN, ↓e_p1, ↓e_p2, ↓e_meth, ↓e_bm, ↓e_fld, ↓e_lc, ↓e_dc, ↓e_it, ↓e_rng1, ↓e_rng2, ↓e_intB, ↓e_sl, ↓e_no, ↓e_so, ↓e_yes, ↓e_anm, ↓gs_0, ↓gs_s, ↓dr_int, ↓dr_str, ↓dr_bl, ↓dr_nn, ↓dr_tup, ↓dr_lst, ↓dr_dct, ↓dr_obj, ↓k_lt_int, ↓k_le_int, ↓k_gt_int, ↓k_ge_int, ↓k_lt_str, ↓k_add_int, ↓k_add_str, ↓k_add_tup, ↓k_add_lst, ↓k_sub, ↓k_mul, ↓k_div, ↓k_mod, ↓k_pow, ↓k_neg, ↓k_eq_int, ↓k_eq_str, ↓k_is_nn, ↓k_is_int, ↓k_is_tup, ↓k_is_obj, ↓k_ix_lst, ↓k_ix_tup, ↓k_ix_str, ↓k_ix_dct, ↓k_len_str, ↓k_len_lst, ↓k_len_tup, ↓k_int_int, ↓k_int_bl, ↓k_abs, ↓k_str_int, ↓k_str_str, ↓k_tup_lst, ↓k_it_str, ↓k_it_tup, ↓k_it_lst, ↓k_in_dct, ↓e_enum, ↓k_en_tup, ↓k_en_lst, ↓e_atp, ↓e_lcM, ↓par3_three, ↓e_lits, ↓e_par3, ↓e_rev, ↓e_dct0, ↓e_nevE, ↓e_raise1, ↓e_exF, ↓e_exI, ↓e_tryA, ↓k_rev_lst, ↓k_addM_lst, ↓k_max2, ↓k_min2, List.set_cons_zero, List.set_cons_succ, wipeP, k_sl_str, cut_tail]
  refine ⟨hz1, ?_⟩
  by_cases h0 : w.cps.toList.head? = some 45
  · rw [decide_eq_true ((head_minus w).mpr h0)]
    simp only [Bool.bne_false, if_true]
    refine ⟨hz1, core _ (Nat.le_trans (tail_len w) hz1) (fun e => ?_) (fun _ => if_pos h0) P hP.symm⟩
    exfalso
    have e2 := congrArg (fun x : Str => x.cps.toList.length) e
    have e2 : w.cps.toList.length = (w.cps.toList.drop 1).length := e2
    rw [List.length_drop] at e2
    have : 0 < w.cps.toList.length := by
      cases h : w.cps.toList with
      | nil => rw [h] at h0; cases h0
      | cons a r => simp
    omega
  · rw [decide_eq_false (fun z => h0 ((head_minus w).mp z))]
    simp only [Bool.bne_false, Bool.false_eq_true, if_false]
    exact core _ hz1 (fun _ => if_neg h0) (fun z => absurd rfl z) P hP.symm

/-! ### the law's own roads -/
theorem shaped_listR {rs : List Road} (h : ∀ r ∈ rs, RdOk r) : SeqAt.shaped (.list (rs.map roadD)) = true := by
  obtain ⟨a, b⟩ := lay_roads rs h
  show (PyData.canLayAll0 (rs.map roadD) && decide (PyData.depthAll (rs.map roadD) + 1 ≤ 64)) = true
  rw [a, decide_eq_true (by omega)]; rfl
theorem shaped_listT {ts : List Str} (h : ∀ t ∈ ts, nameB t = true) : SeqAt.shaped (.list (ts.map PyData.str)) = true := by
  obtain ⟨a, b⟩ := lay_strs ts h
  show (PyData.canLayAll0 (ts.map PyData.str) && decide (PyData.depthAll (ts.map PyData.str) + 1 ≤ 64)) = true
  rw [a, b]; rfl
theorem k_eq_nilR {S : Sto} {R : RK} {c : Addr} {rs : List Road} {neg : Bool} (hc : S c = some (.lst (rs.map roadP))) (h : ∀ r ∈ rs, RdOk r) : kEqA neg (.ref c) (.lst []) S R = R (.bl (decide (rs = []) != neg)) S := by
  have e : toD (dr S (.ref c)) = some (.list (rs.map roadD)) := by
    rw [dr_refL hc]
    show (toDs (rs.map roadP)).map PyData.list = _
    rw [toDs_roads]; rfl
  have es : eqS (dr S (.ref c)) (dr S (.lst [])) = none := by rw [dr_refL hc]; rfl
  show (match eqS (dr S (.ref c)) (dr S (.lst [])) with
    | some b => R (.bl (b != neg)) S
    | none => kEqD neg (.ref c) (.lst []) S R) = _
  rw [es]
  show (match toD (dr S (.ref c)), toD (dr S (.lst [])) with
    | some d, some e => SeqAt.shaped d = true ∧ SeqAt.shaped e = true ∧ R (.bl (PyData.eqv d e != neg)) S
    | _, _ => False) = _
  rw [e]
  show (SeqAt.shaped _ = true ∧ SeqAt.shaped (.list []) = true ∧ R (.bl (PyData.eqvAll (rs.map roadD) [] != neg)) S) = _
  rw [shaped_listR h]
  have : PyData.eqvAll (rs.map roadD) [] = decide (rs = []) := by cases rs <;> rfl
  rw [this]
  exact propext ⟨fun z => z.2.2, fun z => ⟨rfl, rfl, z⟩⟩
theorem k_eq_nilT {S : Sto} {R : RK} {c : Addr} {ts : List Str} {neg : Bool} (hc : S c = some (.lst (ts.map PV.str))) (h : ∀ t ∈ ts, nameB t = true) : kEqA neg (.ref c) (.lst []) S R = R (.bl (decide (ts = []) != neg)) S := by
  have e : toD (dr S (.ref c)) = some (.list (ts.map PyData.str)) := by
    rw [dr_refL hc]
    show (toDs (ts.map PV.str)).map PyData.list = _
    rw [toDs_strs]; rfl
  have es : eqS (dr S (.ref c)) (dr S (.lst [])) = none := by rw [dr_refL hc]; rfl
  show (match eqS (dr S (.ref c)) (dr S (.lst [])) with
    | some b => R (.bl (b != neg)) S
    | none => kEqD neg (.ref c) (.lst []) S R) = _
  rw [es]
  show (match toD (dr S (.ref c)), toD (dr S (.lst [])) with
    | some d, some e => SeqAt.shaped d = true ∧ SeqAt.shaped e = true ∧ R (.bl (PyData.eqv d e != neg)) S
    | _, _ => False) = _
  rw [e]
  show (SeqAt.shaped _ = true ∧ SeqAt.shaped (.list []) = true ∧ R (.bl (PyData.eqvAll (ts.map PyData.str) [] != neg)) S) = _
  rw [shaped_listT h]
  have : PyData.eqvAll (ts.map PyData.str) [] = decide (ts = []) := by cases ts <;> rfl
  rw [this]
  exact propext ⟨fun z => z.2.2, fun z => ⟨rfl, rfl, z⟩⟩
theorem numB_minus {f : Str} (h : f.cps.toList.head? = some 45) : numB f = none := by
  refine numB_no ?_
  have : f.cps.toList.all digB = false := by
    cases e : f.cps.toList with
    | nil => rw [e] at h; cases h
    | cons a r => rw [e] at h; cases h; rfl
  unfold canonB
  rw [this]; simp
theorem room_eq (f : Str) : inB 0 1000 (intB' f) = inB 0 1000 (numB f) := by
  by_cases h : f.cps.toList.head? = some 45
  · rw [numB_minus h]
    have e : intB' f = (match numB (tailS f) with
      | some n => if n = 0 then none else some (-n)
      | none => none) := if_pos h
    rw [e]
    cases en : numB (tailS f) with
    | none => rfl
    | some n =>
      have := numB_nn en
      dsimp only
      split
      · rfl
      · exact if_neg (by omega)
  · have e : intB' f = numB f := if_neg h
    rw [e]
theorem inB_some {lo hi : Int} {o : Option Int} {n : Int} (h : inB lo hi o = some n) : o = some n ∧ lo ≤ n ∧ n ≤ hi := by
  cases o with
  | none => cases h
  | some m =>
    unfold inB at h
    dsimp only at h
    split at h
    · cases h; rename_i c; exact ⟨rfl, c⟩
    · cases h
theorem inB_none {lo hi : Int} {o : Option Int} (h : inB lo hi o = none) : ∀ n, o = some n → ¬ (lo ≤ n ∧ n ≤ hi) := fun n e c => by
  rw [e] at h
  have : inB lo hi (some n) = some n := if_pos c
  rw [this] at h; cases h
theorem okR_not {ts : List Str} {rs : List Road} {o : Option Road} (h : ∀ r, o = some r → roadOkB ts rs r = false) : okR ts rs o = none := by
  cases o with
  | none => rfl
  | some r =>
    unfold okR
    dsimp only
    rw [h r rfl]; rfl
theorem okR_yes {ts : List Str} {rs : List Road} {r : Road} (h : roadOkB ts rs r = true) : okR ts rs (some r) = some r := if_pos h
theorem roadB_all {ts : List Str} {r : Road} : roadB ts r = true ↔ nameB r.name = true ∧ nameB r.bgn = true ∧ nameB r.fin = true ∧ r.bgn ≠ r.fin ∧ r.bgn ∈ ts ∧ r.fin ∈ ts ∧ (-1000 ≤ r.len ∧ r.len ≤ 1000) ∧ 0 ≤ r.room ∧ r.room ≤ 1000 := by
  unfold roadB
  simp only [Bool.and_eq_true, decide_eq_true_eq]
  constructor
  · rintro ⟨⟨⟨⟨⟨⟨⟨⟨⟨h1, h2⟩, h3⟩, h4⟩, h5⟩, h6⟩, h7⟩, h8⟩, h9⟩, h10⟩
    exact ⟨h1, h2, h3, h4, h5, h6, ⟨h7, h8⟩, h9, h10⟩
  · rintro ⟨h1, h2, h3, h4, h5, h6, ⟨h7, h8⟩, h9, h10⟩
    exact ⟨⟨⟨⟨⟨⟨⟨⟨⟨h1, h2⟩, h3⟩, h4⟩, h5⟩, h6⟩, h7⟩, h8⟩, h9⟩, h10⟩
theorem roadOk_all {ts : List Str} {rs : List Road} {r : Road} : roadOkB ts rs r = true ↔ roadB ts r = true ∧ rs.length < 120 ∧ lastOk (rs.map Road.name) r.name = true := by
  unfold roadOkB
  simp only [Bool.and_eq_true, decide_eq_true_eq]
section
variable {K : PySem.W.Frag} {S : Sto} {R : RK} {Z : ZK}
theorem t_law_number {w : Str} {lo hi : Int} (hn : w.length ≤ TxL) (h : R (optP (inB lo hi (intB' w))) S) : sp__law_number K [.str w, .int lo, .int hi] S R Z := ⟨w, lo, hi, rfl, hn, h⟩
end
theorem pure__law_road (K : PySem.W.Frag) : ∀ ps S R Z, ps.length = 3 → sp__law_road K ps S R Z → w__law_road K (fin R Z) (startP n__law_road ps) S := by
  intro ps S R Z hl h
  obtain ⟨ws, ts, rs, b', c', rfl, hne, hz, hb, hc, hrd, hrl, hR⟩ := h
  have no : okR ts rs (roadW ws) = none → gR R .non S := fun z => gR_now (by rw [z] at hR; exact hR)
  by_cases h6 : ws.length = 6
  · obtain ⟨a, b, c, d, e, f, rfl⟩ := six_list h6
    have es : startP n__law_road [.lst (([a, b, c, d, e, f] : List Str).map PV.str), .ref b', .ref c'] = [some (.lst [.str a, .str b, .str c, .str d, .str e, .str f]), some (.ref b'), some (.ref c'), none, none, none] := rfl
    rw [es]
    have q6 := six_of (a := a) (b := b) (c := c) (d := d) (e := e) (f := f)
    clear es
    generalize PV.lst [.str a, .str b, .str c, .str d, .str e, .str f] = q at q6 ⊢
    have d6 : decide ((6 : Int) = 6) = true := rfl
    simp -implicitDefEqProofs only [w__law_road, ↓e_ret, ↓e_retN, ↓e_nxt, ↓e_seq, ↓e_nev, ↓e_brk, ↓e_cnt, ↓e_expr, ↓e_ifs, ↓e_set, ↓e_asg, ↓par2_two, ↓e_par, ↓e_for, ↓e_setF, ↓e_put, ↓opt_some, ↓e_var, ↓e_c, ↓e_b, ↓e_1, ↓e_tst, ↓e_kB, ↓e_tru, ↓e_notT, ↓e_andT, ↓e_orT, ↓truK_bl, ↓e_andV, ↓e_orV, ↓e_notV, ↓e_if, ↓chK_bl, ↓e_ch, ↓e_nil, ↓e_cons, ↓e_tup, ↓e_lst, ↓e_lstF, ↓e_call, ↓e_arN, ↓e_p1, ↓e_p2, ↓e_meth, ↓e_bm, ↓e_fld, ↓e_lc, ↓e_dc, ↓e_it, ↓e_rng1, ↓e_rng2, ↓e_intB, ↓e_sl, ↓e_no, ↓e_so, ↓e_yes, ↓e_anm, ↓gs_0, ↓gs_s, ↓dr_int, ↓dr_str, ↓dr_bl, ↓dr_nn, ↓dr_tup, ↓dr_lst, ↓dr_dct, ↓dr_obj, ↓k_lt_int, ↓k_le_int, ↓k_gt_int, ↓k_ge_int, ↓k_lt_str, ↓k_add_int, ↓k_add_str, ↓k_add_tup, ↓k_add_lst, ↓k_sub, ↓k_mul, ↓k_div, ↓k_mod, ↓k_pow, ↓k_neg, ↓k_eq_int, ↓k_eq_str, ↓k_is_nn, ↓k_is_int, ↓k_is_tup, ↓k_is_obj, ↓k_ix_lst, ↓k_ix_tup, ↓k_ix_str, ↓k_ix_dct, ↓k_len_str, ↓k_len_lst, ↓k_len_tup, ↓k_int_int, ↓k_int_bl, ↓k_abs, ↓k_str_int, ↓k_str_str, ↓k_tup_lst, ↓k_it_str, ↓k_it_tup, ↓k_it_lst, ↓k_in_dct, ↓e_enum, ↓k_en_tup, ↓k_en_lst, ↓e_atp, ↓e_lcM, ↓par3_three, ↓e_lits, ↓e_par3, ↓e_rev, ↓e_dct0, ↓e_nevE, ↓e_raise1, ↓e_exF, ↓e_exI, ↓e_tryA, ↓k_rev_lst, ↓k_addM_lst, ↓k_max2, ↓k_min2, List.set_cons_zero, List.set_cons_succ, wipeP, q6.l, q6.i0, d6, Bool.bne_true, Bool.not_true, Bool.false_eq_true, if_false]
    by_cases ha : a = "road"
    · rw [decide_eq_true ha]
      simp -implicitDefEqProofs only [↓e_ret, ↓e_retN, ↓e_nxt, ↓e_seq, ↓e_nev, ↓e_brk, ↓e_cnt, ↓e_expr, ↓e_ifs, ↓e_set, ↓e_asg, ↓par2_two, ↓e_par, ↓e_for, ↓e_setF, ↓e_put, ↓opt_some, ↓e_var, ↓e_c, ↓e_b, ↓e_1, ↓e_tst, ↓e_kB, ↓e_tru, ↓e_notT, ↓e_andT, ↓e_orT, ↓truK_bl, ↓e_andV, ↓e_orV, ↓e_notV, ↓e_if, ↓chK_bl, ↓e_ch, ↓e_nil, ↓e_cons, ↓e_tup, ↓e_lst, ↓e_lstF, ↓e_call, ↓e_arN, ↓e_p1, ↓e_p2, ↓e_meth, ↓e_bm, ↓e_fld, ↓e_lc, ↓e_dc, ↓e_it, ↓e_rng1, ↓e_rng2, ↓e_intB, ↓e_sl, ↓e_no, ↓e_so, ↓e_yes, ↓e_anm, ↓gs_0, ↓gs_s, ↓dr_int, ↓dr_str, ↓dr_bl, ↓dr_nn, ↓dr_tup, ↓dr_lst, ↓dr_dct, ↓dr_obj, ↓k_lt_int, ↓k_le_int, ↓k_gt_int, ↓k_ge_int, ↓k_lt_str, ↓k_add_int, ↓k_add_str, ↓k_add_tup, ↓k_add_lst, ↓k_sub, ↓k_mul, ↓k_div, ↓k_mod, ↓k_pow, ↓k_neg, ↓k_eq_int, ↓k_eq_str, ↓k_is_nn, ↓k_is_int, ↓k_is_tup, ↓k_is_obj, ↓k_ix_lst, ↓k_ix_tup, ↓k_ix_str, ↓k_ix_dct, ↓k_len_str, ↓k_len_lst, ↓k_len_tup, ↓k_int_int, ↓k_int_bl, ↓k_abs, ↓k_str_int, ↓k_str_str, ↓k_tup_lst, ↓k_it_str, ↓k_it_tup, ↓k_it_lst, ↓k_in_dct, ↓e_enum, ↓k_en_tup, ↓k_en_lst, ↓e_atp, ↓e_lcM, ↓par3_three, ↓e_lits, ↓e_par3, ↓e_rev, ↓e_dct0, ↓e_nevE, ↓e_raise1, ↓e_exF, ↓e_exI, ↓e_tryA, ↓k_rev_lst, ↓k_addM_lst, ↓k_max2, ↓k_min2, List.set_cons_zero, List.set_cons_succ, wipeP, q6.sl, Bool.not_true, Bool.false_eq_true, if_false]
      refine wLcL_allM PV.str (fun x => PV.bl (nameB x)) trivial _ (fun x hx R' hR' => ?_) (sz0 (by simp)) ?_
      · simp -implicitDefEqProofs only [w__law_road_1, ↓e_ret, ↓e_retN, ↓e_nxt, ↓e_seq, ↓e_nev, ↓e_brk, ↓e_cnt, ↓e_expr, ↓e_ifs, ↓e_set, ↓e_asg, ↓par2_two, ↓e_par, ↓e_for, ↓e_setF, ↓e_put, ↓opt_some, ↓e_var, ↓e_c, ↓e_b, ↓e_1, ↓e_tst, ↓e_kB, ↓e_tru, ↓e_notT, ↓e_andT, ↓e_orT, ↓truK_bl, ↓e_andV, ↓e_orV, ↓e_notV, ↓e_if, ↓chK_bl, ↓e_ch, ↓e_nil, ↓e_cons, ↓e_tup, ↓e_lst, ↓e_lstF, ↓e_call, ↓e_arN, ↓e_p1, ↓e_p2, ↓e_meth, ↓e_bm, ↓e_fld, ↓e_lc, ↓e_dc, ↓e_it, ↓e_rng1, ↓e_rng2, ↓e_intB, ↓e_sl, ↓e_no, ↓e_so, ↓e_yes, ↓e_anm, ↓gs_0, ↓gs_s, ↓dr_int, ↓dr_str, ↓dr_bl, ↓dr_nn, ↓dr_tup, ↓dr_lst, ↓dr_dct, ↓dr_obj, ↓k_lt_int, ↓k_le_int, ↓k_gt_int, ↓k_ge_int, ↓k_lt_str, ↓k_add_int, ↓k_add_str, ↓k_add_tup, ↓k_add_lst, ↓k_sub, ↓k_mul, ↓k_div, ↓k_mod, ↓k_pow, ↓k_neg, ↓k_eq_int, ↓k_eq_str, ↓k_is_nn, ↓k_is_int, ↓k_is_tup, ↓k_is_obj, ↓k_ix_lst, ↓k_ix_tup, ↓k_ix_str, ↓k_ix_dct, ↓k_len_str, ↓k_len_lst, ↓k_len_tup, ↓k_int_int, ↓k_int_bl, ↓k_abs, ↓k_str_int, ↓k_str_str, ↓k_tup_lst, ↓k_it_str, ↓k_it_tup, ↓k_it_lst, ↓k_in_dct, ↓e_enum, ↓k_en_tup, ↓k_en_lst, ↓e_atp, ↓e_lcM, ↓par3_three, ↓e_lits, ↓e_par3, ↓e_rev, ↓e_dct0, ↓e_nevE, ↓e_raise1, ↓e_exF, ↓e_exI, ↓e_tryA, ↓k_rev_lst, ↓k_addM_lst, ↓k_max2, ↓k_min2, List.set_cons_zero, List.set_cons_succ, wipeP]
        exact ⟨rfl, x, rfl, hz x (by
          simp only [List.mem_cons, List.not_mem_nil, or_false] at hx ⊢
          rcases hx with rfl | rfl | rfl <;> simp), hR'⟩
      rw [k_allM]
      cases hn : [b, c, d].all nameB with
      | false =>
        simp -implicitDefEqProofs only [↓e_ret, ↓e_retN, ↓e_nxt, ↓e_seq, ↓e_nev, ↓e_brk, ↓e_cnt, ↓e_expr, ↓e_ifs, ↓e_set, ↓e_asg, ↓par2_two, ↓e_par, ↓e_for, ↓e_setF, ↓e_put, ↓opt_some, ↓e_var, ↓e_c, ↓e_b, ↓e_1, ↓e_tst, ↓e_kB, ↓e_tru, ↓e_notT, ↓e_andT, ↓e_orT, ↓truK_bl, ↓e_andV, ↓e_orV, ↓e_notV, ↓e_if, ↓chK_bl, ↓e_ch, ↓e_nil, ↓e_cons, ↓e_tup, ↓e_lst, ↓e_lstF, ↓e_call, ↓e_arN, ↓e_p1, ↓e_p2, ↓e_meth, ↓e_bm, ↓e_fld, ↓e_lc, ↓e_dc, ↓e_it, ↓e_rng1, ↓e_rng2, ↓e_intB, ↓e_sl, ↓e_no, ↓e_so, ↓e_yes, ↓e_anm, ↓gs_0, ↓gs_s, ↓dr_int, ↓dr_str, ↓dr_bl, ↓dr_nn, ↓dr_tup, ↓dr_lst, ↓dr_dct, ↓dr_obj, ↓k_lt_int, ↓k_le_int, ↓k_gt_int, ↓k_ge_int, ↓k_lt_str, ↓k_add_int, ↓k_add_str, ↓k_add_tup, ↓k_add_lst, ↓k_sub, ↓k_mul, ↓k_div, ↓k_mod, ↓k_pow, ↓k_neg, ↓k_eq_int, ↓k_eq_str, ↓k_is_nn, ↓k_is_int, ↓k_is_tup, ↓k_is_obj, ↓k_ix_lst, ↓k_ix_tup, ↓k_ix_str, ↓k_ix_dct, ↓k_len_str, ↓k_len_lst, ↓k_len_tup, ↓k_int_int, ↓k_int_bl, ↓k_abs, ↓k_str_int, ↓k_str_str, ↓k_tup_lst, ↓k_it_str, ↓k_it_tup, ↓k_it_lst, ↓k_in_dct, ↓e_enum, ↓k_en_tup, ↓k_en_lst, ↓e_atp, ↓e_lcM, ↓par3_three, ↓e_lits, ↓e_par3, ↓e_rev, ↓e_dct0, ↓e_nevE, ↓e_raise1, ↓e_exF, ↓e_exI, ↓e_tryA, ↓k_rev_lst, ↓k_addM_lst, ↓k_max2, ↓k_min2, List.set_cons_zero, List.set_cons_succ, wipeP, Bool.not_false, if_true]
        refine no ?_
        have : ¬ (a = "road" ∧ nameB b = true ∧ nameB c = true ∧ nameB d = true) := fun z => by
          rw [show [b, c, d].all nameB = true by simp [z.2.1, z.2.2.1, z.2.2.2]] at hn; cases hn
        rw [show roadW [a, b, c, d, e, f] = none from if_neg this]; rfl
      | true =>
        have hn2 : a = "road" ∧ nameB b = true ∧ nameB c = true ∧ nameB d = true := by
          simp only [List.all_cons, List.all_nil, Bool.and_true, Bool.and_eq_true] at hn
          exact ⟨ha, hn.1, hn.2.1, hn.2.2⟩
        have er : roadW [a, b, c, d, e, f] = (match intB' e, numB f with
          | some l, some m => some ⟨b, c, d, l, m⟩
          | _, _ => none) := if_pos hn2
        have isr : ∀ r, roadW [a, b, c, d, e, f] = some r → r.name = b ∧ r.bgn = c ∧ r.fin = d ∧ intB' e = some r.len ∧ numB f = some r.room := fun r z => by
          rw [er] at z
          cases e1 : intB' e with
          | none => rw [e1] at z; cases z
          | some l =>
            cases e2 : numB f with
            | none => rw [e1, e2] at z; cases z
            | some m => rw [e1, e2] at z; cases z; exact ⟨rfl, rfl, rfl, rfl, rfl⟩
        have nb : ∀ P : Road → Prop, (∀ r, roadB ts r = true → rs.length < 120 → lastOk (rs.map Road.name) r.name = true → P r) → (∀ r, roadW [a, b, c, d, e, f] = some r → ¬ P r) → gR R .non S := fun P h1 h2 => no (okR_not fun r z => by
          cases q : roadOkB ts rs r with
          | false => rfl
          | true =>
            obtain ⟨q1, q2, q3⟩ := roadOk_all.mp q
            exact absurd (h1 r q1 q2 q3) (h2 r z))
        simp -implicitDefEqProofs only [↓e_ret, ↓e_retN, ↓e_nxt, ↓e_seq, ↓e_nev, ↓e_brk, ↓e_cnt, ↓e_expr, ↓e_ifs, ↓e_set, ↓e_asg, ↓par2_two, ↓e_par, ↓e_for, ↓e_setF, ↓e_put, ↓opt_some, ↓e_var, ↓e_c, ↓e_b, ↓e_1, ↓e_tst, ↓e_kB, ↓e_tru, ↓e_notT, ↓e_andT, ↓e_orT, ↓truK_bl, ↓e_andV, ↓e_orV, ↓e_notV, ↓e_if, ↓chK_bl, ↓e_ch, ↓e_nil, ↓e_cons, ↓e_tup, ↓e_lst, ↓e_lstF, ↓e_call, ↓e_arN, ↓e_p1, ↓e_p2, ↓e_meth, ↓e_bm, ↓e_fld, ↓e_lc, ↓e_dc, ↓e_it, ↓e_rng1, ↓e_rng2, ↓e_intB, ↓e_sl, ↓e_no, ↓e_so, ↓e_yes, ↓e_anm, ↓gs_0, ↓gs_s, ↓dr_int, ↓dr_str, ↓dr_bl, ↓dr_nn, ↓dr_tup, ↓dr_lst, ↓dr_dct, ↓dr_obj, ↓k_lt_int, ↓k_le_int, ↓k_gt_int, ↓k_ge_int, ↓k_lt_str, ↓k_add_int, ↓k_add_str, ↓k_add_tup, ↓k_add_lst, ↓k_sub, ↓k_mul, ↓k_div, ↓k_mod, ↓k_pow, ↓k_neg, ↓k_eq_int, ↓k_eq_str, ↓k_is_nn, ↓k_is_int, ↓k_is_tup, ↓k_is_obj, ↓k_ix_lst, ↓k_ix_tup, ↓k_ix_str, ↓k_ix_dct, ↓k_len_str, ↓k_len_lst, ↓k_len_tup, ↓k_int_int, ↓k_int_bl, ↓k_abs, ↓k_str_int, ↓k_str_str, ↓k_tup_lst, ↓k_it_str, ↓k_it_tup, ↓k_it_lst, ↓k_in_dct, ↓e_enum, ↓k_en_tup, ↓k_en_lst, ↓e_atp, ↓e_lcM, ↓par3_three, ↓e_lits, ↓e_par3, ↓e_rev, ↓e_dct0, ↓e_nevE, ↓e_raise1, ↓e_exF, ↓e_exI, ↓e_tryA, ↓k_rev_lst, ↓k_addM_lst, ↓k_max2, ↓k_min2, List.set_cons_zero, List.set_cons_succ, wipeP, Bool.not_true, Bool.false_eq_true, if_false, q6.i4, q6.i5]
        refine ⟨rfl, t_law_number (hz e (by simp)) ⟨rfl, t_law_number (hz f (by simp)) ?_⟩⟩
        simp -implicitDefEqProofs only [↓e_ret, ↓e_retN, ↓e_nxt, ↓e_seq, ↓e_nev, ↓e_brk, ↓e_cnt, ↓e_expr, ↓e_ifs, ↓e_set, ↓e_asg, ↓par2_two, ↓e_par, ↓e_for, ↓e_setF, ↓e_put, ↓opt_some, ↓e_var, ↓e_c, ↓e_b, ↓e_1, ↓e_tst, ↓e_kB, ↓e_tru, ↓e_notT, ↓e_andT, ↓e_orT, ↓truK_bl, ↓e_andV, ↓e_orV, ↓e_notV, ↓e_if, ↓chK_bl, ↓e_ch, ↓e_nil, ↓e_cons, ↓e_tup, ↓e_lst, ↓e_lstF, ↓e_call, ↓e_arN, ↓e_p1, ↓e_p2, ↓e_meth, ↓e_bm, ↓e_fld, ↓e_lc, ↓e_dc, ↓e_it, ↓e_rng1, ↓e_rng2, ↓e_intB, ↓e_sl, ↓e_no, ↓e_so, ↓e_yes, ↓e_anm, ↓gs_0, ↓gs_s, ↓dr_int, ↓dr_str, ↓dr_bl, ↓dr_nn, ↓dr_tup, ↓dr_lst, ↓dr_dct, ↓dr_obj, ↓k_lt_int, ↓k_le_int, ↓k_gt_int, ↓k_ge_int, ↓k_lt_str, ↓k_add_int, ↓k_add_str, ↓k_add_tup, ↓k_add_lst, ↓k_sub, ↓k_mul, ↓k_div, ↓k_mod, ↓k_pow, ↓k_neg, ↓k_eq_int, ↓k_eq_str, ↓k_is_nn, ↓k_is_int, ↓k_is_tup, ↓k_is_obj, ↓k_ix_lst, ↓k_ix_tup, ↓k_ix_str, ↓k_ix_dct, ↓k_len_str, ↓k_len_lst, ↓k_len_tup, ↓k_int_int, ↓k_int_bl, ↓k_abs, ↓k_str_int, ↓k_str_str, ↓k_tup_lst, ↓k_it_str, ↓k_it_tup, ↓k_it_lst, ↓k_in_dct, ↓e_enum, ↓k_en_tup, ↓k_en_lst, ↓e_atp, ↓e_lcM, ↓par3_three, ↓e_lits, ↓e_par3, ↓e_rev, ↓e_dct0, ↓e_nevE, ↓e_raise1, ↓e_exF, ↓e_exI, ↓e_tryA, ↓k_rev_lst, ↓k_addM_lst, ↓k_max2, ↓k_min2, List.set_cons_zero, List.set_cons_succ, wipeP, is_opt]
        cases e1 : inB (-1000) 1000 (intB' e) with
        | none =>
          simp only [decide_true, if_true]
          exact nb (fun r => -1000 ≤ r.len ∧ r.len ≤ 1000) (fun r h _ _ => (roadB_all.mp h).2.2.2.2.2.2.1) fun r z => inB_none e1 _ (isr r z).2.2.2.1
        | some l =>
          simp only [reduceCtorEq, decide_false, Bool.false_eq_true, if_false]
          rw [room_eq]
          cases e2 : inB 0 1000 (numB f) with
          | none =>
            simp only [decide_true, if_true]
            exact nb (fun r => 0 ≤ r.room ∧ r.room ≤ 1000) (fun r h _ _ => (roadB_all.mp h).2.2.2.2.2.2.2) fun r z => inB_none e2 _ (isr r z).2.2.2.2
          | some m =>
            obtain ⟨f1, l0, l1⟩ := inB_some e1
            obtain ⟨f2, m0, m1⟩ := inB_some e2
            have erd : roadW [a, b, c, d, e, f] = some ⟨b, c, d, l, m⟩ := by rw [er, f1, f2]
            have hin : ∀ (x : Str) (neg : Bool) (R' : RK), kIn neg (.str x) (.ref b') S R' = R' (.bl (decide (x ∈ ts) != neg)) S := fun x neg R' => k_in_strs (by rw [dr_refL hb]; rfl)
            simp -implicitDefEqProofs only [reduceCtorEq, decide_false, Bool.false_eq_true, if_false, ↓e_ret, ↓e_retN, ↓e_nxt, ↓e_seq, ↓e_nev, ↓e_brk, ↓e_cnt, ↓e_expr, ↓e_ifs, ↓e_set, ↓e_asg, ↓par2_two, ↓e_par, ↓e_for, ↓e_setF, ↓e_put, ↓opt_some, ↓e_var, ↓e_c, ↓e_b, ↓e_1, ↓e_tst, ↓e_kB, ↓e_tru, ↓e_notT, ↓e_andT, ↓e_orT, ↓truK_bl, ↓e_andV, ↓e_orV, ↓e_notV, ↓e_if, ↓chK_bl, ↓e_ch, ↓e_nil, ↓e_cons, ↓e_tup, ↓e_lst, ↓e_lstF, ↓e_call, ↓e_arN, ↓e_p1, ↓e_p2, ↓e_meth, ↓e_bm, ↓e_fld, ↓e_lc, ↓e_dc, ↓e_it, ↓e_rng1, ↓e_rng2, ↓e_intB, ↓e_sl, ↓e_no, ↓e_so, ↓e_yes, ↓e_anm, ↓gs_0, ↓gs_s, ↓dr_int, ↓dr_str, ↓dr_bl, ↓dr_nn, ↓dr_tup, ↓dr_lst, ↓dr_dct, ↓dr_obj, ↓k_lt_int, ↓k_le_int, ↓k_gt_int, ↓k_ge_int, ↓k_lt_str, ↓k_add_int, ↓k_add_str, ↓k_add_tup, ↓k_add_lst, ↓k_sub, ↓k_mul, ↓k_div, ↓k_mod, ↓k_pow, ↓k_neg, ↓k_eq_int, ↓k_eq_str, ↓k_is_nn, ↓k_is_int, ↓k_is_tup, ↓k_is_obj, ↓k_ix_lst, ↓k_ix_tup, ↓k_ix_str, ↓k_ix_dct, ↓k_len_str, ↓k_len_lst, ↓k_len_tup, ↓k_int_int, ↓k_int_bl, ↓k_abs, ↓k_str_int, ↓k_str_str, ↓k_tup_lst, ↓k_it_str, ↓k_it_tup, ↓k_it_lst, ↓k_in_dct, ↓e_enum, ↓k_en_tup, ↓k_en_lst, ↓e_atp, ↓e_lcM, ↓par3_three, ↓e_lits, ↓e_par3, ↓e_rev, ↓e_dct0, ↓e_nevE, ↓e_raise1, ↓e_exF, ↓e_exI, ↓e_tryA, ↓k_rev_lst, ↓k_addM_lst, ↓k_max2, ↓k_min2, List.set_cons_zero, List.set_cons_succ, wipeP, q6.i2, q6.i3, hin]
            by_cases c1 : c ∈ ts
            · rw [decide_eq_true c1]
              simp -implicitDefEqProofs only [Bool.bne_true, Bool.not_true, Bool.false_eq_true, if_false, ↓e_ret, ↓e_retN, ↓e_nxt, ↓e_seq, ↓e_nev, ↓e_brk, ↓e_cnt, ↓e_expr, ↓e_ifs, ↓e_set, ↓e_asg, ↓par2_two, ↓e_par, ↓e_for, ↓e_setF, ↓e_put, ↓opt_some, ↓e_var, ↓e_c, ↓e_b, ↓e_1, ↓e_tst, ↓e_kB, ↓e_tru, ↓e_notT, ↓e_andT, ↓e_orT, ↓truK_bl, ↓e_andV, ↓e_orV, ↓e_notV, ↓e_if, ↓chK_bl, ↓e_ch, ↓e_nil, ↓e_cons, ↓e_tup, ↓e_lst, ↓e_lstF, ↓e_call, ↓e_arN, ↓e_p1, ↓e_p2, ↓e_meth, ↓e_bm, ↓e_fld, ↓e_lc, ↓e_dc, ↓e_it, ↓e_rng1, ↓e_rng2, ↓e_intB, ↓e_sl, ↓e_no, ↓e_so, ↓e_yes, ↓e_anm, ↓gs_0, ↓gs_s, ↓dr_int, ↓dr_str, ↓dr_bl, ↓dr_nn, ↓dr_tup, ↓dr_lst, ↓dr_dct, ↓dr_obj, ↓k_lt_int, ↓k_le_int, ↓k_gt_int, ↓k_ge_int, ↓k_lt_str, ↓k_add_int, ↓k_add_str, ↓k_add_tup, ↓k_add_lst, ↓k_sub, ↓k_mul, ↓k_div, ↓k_mod, ↓k_pow, ↓k_neg, ↓k_eq_int, ↓k_eq_str, ↓k_is_nn, ↓k_is_int, ↓k_is_tup, ↓k_is_obj, ↓k_ix_lst, ↓k_ix_tup, ↓k_ix_str, ↓k_ix_dct, ↓k_len_str, ↓k_len_lst, ↓k_len_tup, ↓k_int_int, ↓k_int_bl, ↓k_abs, ↓k_str_int, ↓k_str_str, ↓k_tup_lst, ↓k_it_str, ↓k_it_tup, ↓k_it_lst, ↓k_in_dct, ↓e_enum, ↓k_en_tup, ↓k_en_lst, ↓e_atp, ↓e_lcM, ↓par3_three, ↓e_lits, ↓e_par3, ↓e_rev, ↓e_dct0, ↓e_nevE, ↓e_raise1, ↓e_exF, ↓e_exI, ↓e_tryA, ↓k_rev_lst, ↓k_addM_lst, ↓k_max2, ↓k_min2, List.set_cons_zero, List.set_cons_succ, wipeP, q6.i2, q6.i3, hin]
              by_cases c2 : d ∈ ts
              · rw [decide_eq_true c2]
                simp -implicitDefEqProofs only [Bool.bne_true, Bool.not_true, Bool.false_eq_true, if_false, ↓e_ret, ↓e_retN, ↓e_nxt, ↓e_seq, ↓e_nev, ↓e_brk, ↓e_cnt, ↓e_expr, ↓e_ifs, ↓e_set, ↓e_asg, ↓par2_two, ↓e_par, ↓e_for, ↓e_setF, ↓e_put, ↓opt_some, ↓e_var, ↓e_c, ↓e_b, ↓e_1, ↓e_tst, ↓e_kB, ↓e_tru, ↓e_notT, ↓e_andT, ↓e_orT, ↓truK_bl, ↓e_andV, ↓e_orV, ↓e_notV, ↓e_if, ↓chK_bl, ↓e_ch, ↓e_nil, ↓e_cons, ↓e_tup, ↓e_lst, ↓e_lstF, ↓e_call, ↓e_arN, ↓e_p1, ↓e_p2, ↓e_meth, ↓e_bm, ↓e_fld, ↓e_lc, ↓e_dc, ↓e_it, ↓e_rng1, ↓e_rng2, ↓e_intB, ↓e_sl, ↓e_no, ↓e_so, ↓e_yes, ↓e_anm, ↓gs_0, ↓gs_s, ↓dr_int, ↓dr_str, ↓dr_bl, ↓dr_nn, ↓dr_tup, ↓dr_lst, ↓dr_dct, ↓dr_obj, ↓k_lt_int, ↓k_le_int, ↓k_gt_int, ↓k_ge_int, ↓k_lt_str, ↓k_add_int, ↓k_add_str, ↓k_add_tup, ↓k_add_lst, ↓k_sub, ↓k_mul, ↓k_div, ↓k_mod, ↓k_pow, ↓k_neg, ↓k_eq_int, ↓k_eq_str, ↓k_is_nn, ↓k_is_int, ↓k_is_tup, ↓k_is_obj, ↓k_ix_lst, ↓k_ix_tup, ↓k_ix_str, ↓k_ix_dct, ↓k_len_str, ↓k_len_lst, ↓k_len_tup, ↓k_int_int, ↓k_int_bl, ↓k_abs, ↓k_str_int, ↓k_str_str, ↓k_tup_lst, ↓k_it_str, ↓k_it_tup, ↓k_it_lst, ↓k_in_dct, ↓e_enum, ↓k_en_tup, ↓k_en_lst, ↓e_atp, ↓e_lcM, ↓par3_three, ↓e_lits, ↓e_par3, ↓e_rev, ↓e_dct0, ↓e_nevE, ↓e_raise1, ↓e_exF, ↓e_exI, ↓e_tryA, ↓k_rev_lst, ↓k_addM_lst, ↓k_max2, ↓k_min2, List.set_cons_zero, List.set_cons_succ, wipeP, q6.i2, q6.i3]
                by_cases c3 : c = d
                · rw [decide_eq_true c3]
                  simp only [Bool.bne_false, if_true]
                  exact nb (fun r => r.bgn ≠ r.fin) (fun r h _ _ => (roadB_all.mp h).2.2.2.1) fun r z => by
                    obtain ⟨_, z2, z3, _⟩ := isr r z
                    rw [z2, z3]; exact fun q => q c3
                · rw [decide_eq_false c3]
                  simp -implicitDefEqProofs only [Bool.bne_false, Bool.false_eq_true, if_false, ↓e_ret, ↓e_retN, ↓e_nxt, ↓e_seq, ↓e_nev, ↓e_brk, ↓e_cnt, ↓e_expr, ↓e_ifs, ↓e_set, ↓e_asg, ↓par2_two, ↓e_par, ↓e_for, ↓e_setF, ↓e_put, ↓opt_some, ↓e_var, ↓e_c, ↓e_b, ↓e_1, ↓e_tst, ↓e_kB, ↓e_tru, ↓e_notT, ↓e_andT, ↓e_orT, ↓truK_bl, ↓e_andV, ↓e_orV, ↓e_notV, ↓e_if, ↓chK_bl, ↓e_ch, ↓e_nil, ↓e_cons, ↓e_tup, ↓e_lst, ↓e_lstF, ↓e_call, ↓e_arN, ↓e_p1, ↓e_p2, ↓e_meth, ↓e_bm, ↓e_fld, ↓e_lc, ↓e_dc, ↓e_it, ↓e_rng1, ↓e_rng2, ↓e_intB, ↓e_sl, ↓e_no, ↓e_so, ↓e_yes, ↓e_anm, ↓gs_0, ↓gs_s, ↓dr_int, ↓dr_str, ↓dr_bl, ↓dr_nn, ↓dr_tup, ↓dr_lst, ↓dr_dct, ↓dr_obj, ↓k_lt_int, ↓k_le_int, ↓k_gt_int, ↓k_ge_int, ↓k_lt_str, ↓k_add_int, ↓k_add_str, ↓k_add_tup, ↓k_add_lst, ↓k_sub, ↓k_mul, ↓k_div, ↓k_mod, ↓k_pow, ↓k_neg, ↓k_eq_int, ↓k_eq_str, ↓k_is_nn, ↓k_is_int, ↓k_is_tup, ↓k_is_obj, ↓k_ix_lst, ↓k_ix_tup, ↓k_ix_str, ↓k_ix_dct, ↓k_len_str, ↓k_len_lst, ↓k_len_tup, ↓k_int_int, ↓k_int_bl, ↓k_abs, ↓k_str_int, ↓k_str_str, ↓k_tup_lst, ↓k_it_str, ↓k_it_tup, ↓k_it_lst, ↓k_in_dct, ↓e_enum, ↓k_en_tup, ↓k_en_lst, ↓e_atp, ↓e_lcM, ↓par3_three, ↓e_lits, ↓e_par3, ↓e_rev, ↓e_dct0, ↓e_nevE, ↓e_raise1, ↓e_exF, ↓e_exI, ↓e_tryA, ↓k_rev_lst, ↓k_addM_lst, ↓k_max2, ↓k_min2, List.set_cons_zero, List.set_cons_succ, wipeP, k_eq_nilR hc hrd]
                  have rb : roadB ts ⟨b, c, d, l, m⟩ = true := roadB_all.mpr ⟨hn2.2.1, hn2.2.2.1, hn2.2.2.2, c3, c1, c2, ⟨l0, l1⟩, m0, m1⟩
                  refine ⟨sz0 (by simp), ?_⟩
                  have fin1 : lastOk (rs.map Road.name) b = true → (if (decide ((rs.length : Int) = 120) != false) = true then gR R .non S else [PV.str b, .str c, .str d, optP (some l), optP (some m)].length ≤ sizeLine ∧ gR R (.tup [PV.str b, .str c, .str d, optP (some l), optP (some m)]) S) := fun hlo => by
                    by_cases h120 : rs.length = 120
                    · rw [decide_eq_true (show (rs.length : Int) = 120 by omega)]
                      simp only [Bool.bne_false, if_true]
                      exact nb (fun r => rs.length < 120) (fun r _ h _ => h) fun r z => by omega
                    · rw [decide_eq_false (show ¬ (rs.length : Int) = 120 by omega)]
                      simp only [Bool.bne_false, Bool.false_eq_true, if_false]
                      have hlt : rs.length < 120 := by omega
                      refine ⟨sz0 (by simp), gR_now ?_⟩
                      rw [erd, okR_yes (roadOk_all.mpr ⟨rb, hlt, hlo⟩)] at hR
                      exact hR
                  rcases last_cases rs with h0 | ⟨us, u, h0, h1⟩
                  · rw [if_neg (by rw [h0]; simp)]
                    simp -implicitDefEqProofs only [↓e_ret, ↓e_retN, ↓e_nxt, ↓e_seq, ↓e_nev, ↓e_brk, ↓e_cnt, ↓e_expr, ↓e_ifs, ↓e_set, ↓e_asg, ↓par2_two, ↓e_par, ↓e_for, ↓e_setF, ↓e_put, ↓opt_some, ↓e_var, ↓e_c, ↓e_b, ↓e_1, ↓e_tst, ↓e_kB, ↓e_tru, ↓e_notT, ↓e_andT, ↓e_orT, ↓truK_bl, ↓e_andV, ↓e_orV, ↓e_notV, ↓e_if, ↓chK_bl, ↓e_ch, ↓e_nil, ↓e_cons, ↓e_tup, ↓e_lst, ↓e_lstF, ↓e_call, ↓e_arN, ↓e_p1, ↓e_p2, ↓e_meth, ↓e_bm, ↓e_fld, ↓e_lc, ↓e_dc, ↓e_it, ↓e_rng1, ↓e_rng2, ↓e_intB, ↓e_sl, ↓e_no, ↓e_so, ↓e_yes, ↓e_anm, ↓gs_0, ↓gs_s, ↓dr_int, ↓dr_str, ↓dr_bl, ↓dr_nn, ↓dr_tup, ↓dr_lst, ↓dr_dct, ↓dr_obj, ↓k_lt_int, ↓k_le_int, ↓k_gt_int, ↓k_ge_int, ↓k_lt_str, ↓k_add_int, ↓k_add_str, ↓k_add_tup, ↓k_add_lst, ↓k_sub, ↓k_mul, ↓k_div, ↓k_mod, ↓k_pow, ↓k_neg, ↓k_eq_int, ↓k_eq_str, ↓k_is_nn, ↓k_is_int, ↓k_is_tup, ↓k_is_obj, ↓k_ix_lst, ↓k_ix_tup, ↓k_ix_str, ↓k_ix_dct, ↓k_len_str, ↓k_len_lst, ↓k_len_tup, ↓k_int_int, ↓k_int_bl, ↓k_abs, ↓k_str_int, ↓k_str_str, ↓k_tup_lst, ↓k_it_str, ↓k_it_tup, ↓k_it_lst, ↓k_in_dct, ↓e_enum, ↓k_en_tup, ↓k_en_lst, ↓e_atp, ↓e_lcM, ↓par3_three, ↓e_lits, ↓e_par3, ↓e_rev, ↓e_dct0, ↓e_nevE, ↓e_raise1, ↓e_exF, ↓e_exI, ↓e_tryA, ↓k_rev_lst, ↓k_addM_lst, ↓k_max2, ↓k_min2, List.set_cons_zero, List.set_cons_succ, wipeP, k_len_ref hc, List.length_map, q6.i1]
                    exact fin1 (by unfold lastOk; rw [h0]; rfl)
                  · rw [if_pos (by rw [decide_eq_false (show ¬ rs = [] by rw [h0]; simp)]; rfl)]
                    have ix : ∀ R', kIx (.ref c') (.int (-1)) S R' = R' (roadP u) S := fun R' => by
                      rw [k_ix_ref hc, h0, List.map_append, List.map_singleton, atI_last]
                      exact propext ⟨fun ⟨z, h1, h2⟩ => by cases h1; exact h2, fun h => ⟨_, rfl, h⟩⟩
                    have r0 : ∀ (q : Road) (S : Sto) (R' : RK), kIx (roadP q) (.int 0) S R' = R' (.str q.name) S := fun q S R' => propext ⟨fun ⟨z, h1, h2⟩ => by cases h1; exact h2, fun h => ⟨_, rfl, h⟩⟩
                    simp -implicitDefEqProofs only [↓e_ret, ↓e_retN, ↓e_nxt, ↓e_seq, ↓e_nev, ↓e_brk, ↓e_cnt, ↓e_expr, ↓e_ifs, ↓e_set, ↓e_asg, ↓par2_two, ↓e_par, ↓e_for, ↓e_setF, ↓e_put, ↓opt_some, ↓e_var, ↓e_c, ↓e_b, ↓e_1, ↓e_tst, ↓e_kB, ↓e_tru, ↓e_notT, ↓e_andT, ↓e_orT, ↓truK_bl, ↓e_andV, ↓e_orV, ↓e_notV, ↓e_if, ↓chK_bl, ↓e_ch, ↓e_nil, ↓e_cons, ↓e_tup, ↓e_lst, ↓e_lstF, ↓e_call, ↓e_arN, ↓e_p1, ↓e_p2, ↓e_meth, ↓e_bm, ↓e_fld, ↓e_lc, ↓e_dc, ↓e_it, ↓e_rng1, ↓e_rng2, ↓e_intB, ↓e_sl, ↓e_no, ↓e_so, ↓e_yes, ↓e_anm, ↓gs_0, ↓gs_s, ↓dr_int, ↓dr_str, ↓dr_bl, ↓dr_nn, ↓dr_tup, ↓dr_lst, ↓dr_dct, ↓dr_obj, ↓k_lt_int, ↓k_le_int, ↓k_gt_int, ↓k_ge_int, ↓k_lt_str, ↓k_add_int, ↓k_add_str, ↓k_add_tup, ↓k_add_lst, ↓k_sub, ↓k_mul, ↓k_div, ↓k_mod, ↓k_pow, ↓k_neg, ↓k_eq_int, ↓k_eq_str, ↓k_is_nn, ↓k_is_int, ↓k_is_tup, ↓k_is_obj, ↓k_ix_lst, ↓k_ix_tup, ↓k_ix_str, ↓k_ix_dct, ↓k_len_str, ↓k_len_lst, ↓k_len_tup, ↓k_int_int, ↓k_int_bl, ↓k_abs, ↓k_str_int, ↓k_str_str, ↓k_tup_lst, ↓k_it_str, ↓k_it_tup, ↓k_it_lst, ↓k_in_dct, ↓e_enum, ↓k_en_tup, ↓k_en_lst, ↓e_atp, ↓e_lcM, ↓par3_three, ↓e_lits, ↓e_par3, ↓e_rev, ↓e_dct0, ↓e_nevE, ↓e_raise1, ↓e_exF, ↓e_exI, ↓e_tryA, ↓k_rev_lst, ↓k_addM_lst, ↓k_max2, ↓k_min2, List.set_cons_zero, List.set_cons_succ, wipeP, ix, r0, q6.i1, k_len_ref hc, List.length_map]
                    have el : lastOk (rs.map Road.name) b = ltS u.name b := by
                      unfold lastOk
                      rw [List.getLast?_map, h1]; rfl
                    cases hlt2 : ltS u.name b with
                    | true =>
                      simp only [Bool.not_true, Bool.false_eq_true, if_false]
                      exact fin1 (by rw [el]; exact hlt2)
                    | false =>
                      simp only [Bool.not_false, if_true]
                      exact nb (fun r => lastOk (rs.map Road.name) r.name = true) (fun r _ _ h => h) fun r z => by
                        rw [(isr r z).1, el, hlt2]; simp
              · rw [decide_eq_false c2]
                simp only [Bool.bne_true, Bool.not_false, if_true]
                exact nb (fun r => r.fin ∈ ts) (fun r h _ _ => (roadB_all.mp h).2.2.2.2.2.1) fun r z => by
                  obtain ⟨_, z2, z3, _⟩ := isr r z
                  rw [z3]; exact c2
            · rw [decide_eq_false c1]
              simp only [Bool.bne_true, Bool.not_false, if_true]
              exact nb (fun r => r.bgn ∈ ts) (fun r h _ _ => (roadB_all.mp h).2.2.2.2.1) fun r z => by
                obtain ⟨_, z2, z3, _⟩ := isr r z
                rw [z2]; exact c1
    · rw [decide_eq_false ha]
      simp -implicitDefEqProofs only [↓e_ret, ↓e_retN, ↓e_nxt, ↓e_seq, ↓e_nev, ↓e_brk, ↓e_cnt, ↓e_expr, ↓e_ifs, ↓e_set, ↓e_asg, ↓par2_two, ↓e_par, ↓e_for, ↓e_setF, ↓e_put, ↓opt_some, ↓e_var, ↓e_c, ↓e_b, ↓e_1, ↓e_tst, ↓e_kB, ↓e_tru, ↓e_notT, ↓e_andT, ↓e_orT, ↓truK_bl, ↓e_andV, ↓e_orV, ↓e_notV, ↓e_if, ↓chK_bl, ↓e_ch, ↓e_nil, ↓e_cons, ↓e_tup, ↓e_lst, ↓e_lstF, ↓e_call, ↓e_arN, ↓e_p1, ↓e_p2, ↓e_meth, ↓e_bm, ↓e_fld, ↓e_lc, ↓e_dc, ↓e_it, ↓e_rng1, ↓e_rng2, ↓e_intB, ↓e_sl, ↓e_no, ↓e_so, ↓e_yes, ↓e_anm, ↓gs_0, ↓gs_s, ↓dr_int, ↓dr_str, ↓dr_bl, ↓dr_nn, ↓dr_tup, ↓dr_lst, ↓dr_dct, ↓dr_obj, ↓k_lt_int, ↓k_le_int, ↓k_gt_int, ↓k_ge_int, ↓k_lt_str, ↓k_add_int, ↓k_add_str, ↓k_add_tup, ↓k_add_lst, ↓k_sub, ↓k_mul, ↓k_div, ↓k_mod, ↓k_pow, ↓k_neg, ↓k_eq_int, ↓k_eq_str, ↓k_is_nn, ↓k_is_int, ↓k_is_tup, ↓k_is_obj, ↓k_ix_lst, ↓k_ix_tup, ↓k_ix_str, ↓k_ix_dct, ↓k_len_str, ↓k_len_lst, ↓k_len_tup, ↓k_int_int, ↓k_int_bl, ↓k_abs, ↓k_str_int, ↓k_str_str, ↓k_tup_lst, ↓k_it_str, ↓k_it_tup, ↓k_it_lst, ↓k_in_dct, ↓e_enum, ↓k_en_tup, ↓k_en_lst, ↓e_atp, ↓e_lcM, ↓par3_three, ↓e_lits, ↓e_par3, ↓e_rev, ↓e_dct0, ↓e_nevE, ↓e_raise1, ↓e_exF, ↓e_exI, ↓e_tryA, ↓k_rev_lst, ↓k_addM_lst, ↓k_max2, ↓k_min2, List.set_cons_zero, List.set_cons_succ, wipeP, Bool.not_false, if_true]
      refine no ?_
      rw [show roadW [a, b, c, d, e, f] = none from if_neg fun z => ha z.1]; rfl
  · have es : startP n__law_road [.lst (ws.map PV.str), .ref b', .ref c'] = [some (.lst (ws.map PV.str)), some (.ref b'), some (.ref c'), none, none, none] := rfl
    rw [es]
    have d6 : decide (((ws.map PV.str).length : Int) = 6) = false := decide_eq_false (by rw [List.length_map]; omega)
    simp -implicitDefEqProofs only [w__law_road, ↓e_ret, ↓e_retN, ↓e_nxt, ↓e_seq, ↓e_nev, ↓e_brk, ↓e_cnt, ↓e_expr, ↓e_ifs, ↓e_set, ↓e_asg, ↓par2_two, ↓e_par, ↓e_for, ↓e_setF, ↓e_put, ↓opt_some, ↓e_var, ↓e_c, ↓e_b, ↓e_1, ↓e_tst, ↓e_kB, ↓e_tru, ↓e_notT, ↓e_andT, ↓e_orT, ↓truK_bl, ↓e_andV, ↓e_orV, ↓e_notV, ↓e_if, ↓chK_bl, ↓e_ch, ↓e_nil, ↓e_cons, ↓e_tup, ↓e_lst, ↓e_lstF, ↓e_call, ↓e_arN, ↓e_p1, ↓e_p2, ↓e_meth, ↓e_bm, ↓e_fld, ↓e_lc, ↓e_dc, ↓e_it, ↓e_rng1, ↓e_rng2, ↓e_intB, ↓e_sl, ↓e_no, ↓e_so, ↓e_yes, ↓e_anm, ↓gs_0, ↓gs_s, ↓dr_int, ↓dr_str, ↓dr_bl, ↓dr_nn, ↓dr_tup, ↓dr_lst, ↓dr_dct, ↓dr_obj, ↓k_lt_int, ↓k_le_int, ↓k_gt_int, ↓k_ge_int, ↓k_lt_str, ↓k_add_int, ↓k_add_str, ↓k_add_tup, ↓k_add_lst, ↓k_sub, ↓k_mul, ↓k_div, ↓k_mod, ↓k_pow, ↓k_neg, ↓k_eq_int, ↓k_eq_str, ↓k_is_nn, ↓k_is_int, ↓k_is_tup, ↓k_is_obj, ↓k_ix_lst, ↓k_ix_tup, ↓k_ix_str, ↓k_ix_dct, ↓k_len_str, ↓k_len_lst, ↓k_len_tup, ↓k_int_int, ↓k_int_bl, ↓k_abs, ↓k_str_int, ↓k_str_str, ↓k_tup_lst, ↓k_it_str, ↓k_it_tup, ↓k_it_lst, ↓k_in_dct, ↓e_enum, ↓k_en_tup, ↓k_en_lst, ↓e_atp, ↓e_lcM, ↓par3_three, ↓e_lits, ↓e_par3, ↓e_rev, ↓e_dct0, ↓e_nevE, ↓e_raise1, ↓e_exF, ↓e_exI, ↓e_tryA, ↓k_rev_lst, ↓k_addM_lst, ↓k_max2, ↓k_min2, List.set_cons_zero, List.set_cons_succ, wipeP, d6, Bool.bne_true, Bool.not_false, if_true]
    exact no (by rw [roadW_not h6]; rfl)

/-! ### the law's own reading -/
theorem cut_last (xs : List PV) : cutP xs none (some (-1)) = xs.dropLast := by
  have e : HT.sIx xs.length xs.length (some (-1)) = xs.length - 1 := by
    show (if (-1 : Int) < 0 then ((-1 : Int) + (xs.length : Int)).toNat else min (-1 : Int).toNat xs.length) = _
    rw [if_pos (by omega)]; omega
  unfold cutP
  rw [e, List.dropLast_eq_take]; rfl
section
variable {K : PySem.W.Frag} {S : Sto} {R : RK} {Z : ZK}
theorem t_law_road {ws ts : List Str} {rs : List Road} {b c : Addr} (hne : ws ≠ []) (hz : ∀ w ∈ ws, w.length ≤ TxL) (hb : S b = some (.lst (ts.map PV.str))) (hc : S c = some (.lst (rs.map roadP))) (hr : ∀ r ∈ rs, RdOk r) (hl : rs.length ≤ 120) (h : R (optR (okR ts rs (roadW ws))) S) :
    sp__law_road K [.lst (ws.map PV.str), .ref b, .ref c] S R Z := ⟨ws, ts, rs, b, c, rfl, hne, hz, hb, hc, hr, hl, h⟩
theorem t_law_is_name {w : Str} (hz : w.length ≤ TxL) (h : R (.bl (nameB w)) S) : sp__law_is_name K [.str w] S R Z := ⟨w, rfl, hz, h⟩
end
theorem step_town {ts : List Str} {rs : List Road} {ws : List Str} (h : ws.head? = some ("town" : Str)) : stepW (ts, rs) ws = (townW ts rs ws).map fun t => (ts ++ [t], rs) := if_pos h
theorem step_road {ts : List Str} {rs : List Road} {ws : List Str} (h : ws.head? ≠ some ("town" : Str)) : stepW (ts, rs) ws = (okR ts rs (roadW ws)).map fun r => (ts, rs ++ [r]) := by
  have e : stepW (ts, rs) ws = (match roadW ws with
    | some r => if roadOkB ts rs r = true then some (ts, rs ++ [r]) else none
    | none => none) := if_neg h
  rw [e]
  cases roadW ws with
  | none => rfl
  | some r =>
    dsimp only [okR]
    split <;> rfl
/-- one line -/
theorem read_step {K : PySem.W.Frag} {R : RK} {N : Slots → Sto → Prop} {P : PEnds} {S : Sto} {b c : Addr} {ts : List Str} {rs : List Road} {x0 l0 : PV} {l : Str} {k : Nat} {y6 y7 y8 : Option PV} (hbc : b ≠ c) (hb : S b = some (.lst (ts.map PV.str))) (hc : S c = some (.lst (rs.map roadP))) (ok : NetOk ts rs) (hz : l.length + 2 ≤ TxL)
    (hN : P.nx = N) (hrt : P.rt = gR R) (hno : stepL (ts, rs) l = none → gR R (.int ((k : Int) + 1)) S)
    (hyes : ∀ s' S' z6 z7 z8, stepL (ts, rs) l = some s' → S' b = some (.lst (s'.1.map PV.str)) → S' c = some (.lst (s'.2.map roadP)) → (∀ y, y ≠ b → y ≠ c → S' y = S y) → N [some x0, some l0, some (.ref b), some (.ref c), some (.int k), some (.str l), z6, z7, z8] S') :
    w__law_read_1 K P [some x0, some l0, some (.ref b), some (.ref c), some (.int k), some (.str l), y6, y7, y8] S := by
  obtain ⟨nx, rt, bk, ct, ex⟩ := P
  dsimp only at hN hrt
  subst hN hrt
  obtain ⟨q, hq⟩ : ∃ q, q = PV.lst ((Txt.split l " ").map PV.str) := ⟨_, rfl⟩
  have ks : ∀ (S : Sto) (R' : RK), kSplit (.str l) [.str " "] S R' = (((" " : Str).length == 0) = false ∧ l.length + 2 ≤ sizeLine ∧ R' q S) := fun _ _ => by rw [hq]; rfl
  simp -implicitDefEqProofs only [w__law_read_1, ↓e_ret, ↓e_retN, ↓e_nxt, ↓e_seq, ↓e_nev, ↓e_brk, ↓e_cnt, ↓e_expr, ↓e_ifs, ↓e_set, ↓e_asg, ↓par2_two, ↓e_par, ↓e_for, ↓e_setF, ↓e_put, ↓opt_some, ↓e_var, ↓e_c, ↓e_b, ↓e_1, ↓e_tst, ↓e_kB, ↓e_tru, ↓e_notT, ↓e_andT, ↓e_orT, ↓truK_bl, ↓e_andV, ↓e_orV, ↓e_notV, ↓e_if, ↓chK_bl, ↓e_ch, ↓e_nil, ↓e_cons, ↓e_tup, ↓e_lst, ↓e_lstF, ↓e_call, ↓e_arN, ↓e_p1, ↓e_p2, ↓e_meth, ↓e_bm, ↓e_fld, ↓e_lc, ↓e_dc, ↓e_it, ↓e_rng1, ↓e_rng2, ↓e_intB, ↓e_sl, ↓e_no, ↓e_so, ↓e_yes, ↓e_anm, ↓gs_0, ↓gs_s, ↓dr_int, ↓dr_str, ↓dr_bl, ↓dr_nn, ↓dr_tup, ↓dr_lst, ↓dr_dct, ↓dr_obj, ↓k_lt_int, ↓k_le_int, ↓k_gt_int, ↓k_ge_int, ↓k_lt_str, ↓k_add_int, ↓k_add_str, ↓k_add_tup, ↓k_add_lst, ↓k_sub, ↓k_mul, ↓k_div, ↓k_mod, ↓k_pow, ↓k_neg, ↓k_eq_int, ↓k_eq_str, ↓k_is_nn, ↓k_is_int, ↓k_is_tup, ↓k_is_obj, ↓k_ix_lst, ↓k_ix_tup, ↓k_ix_str, ↓k_ix_dct, ↓k_len_str, ↓k_len_lst, ↓k_len_tup, ↓k_int_int, ↓k_int_bl, ↓k_abs, ↓k_str_int, ↓k_str_str, ↓k_tup_lst, ↓k_it_str, ↓k_it_tup, ↓k_it_lst, ↓k_in_dct, ↓e_enum, ↓k_en_tup, ↓k_en_lst, ↓e_atp, ↓e_lcM, ↓par3_three, ↓e_lits, ↓e_par3, ↓e_rev, ↓e_dct0, ↓e_nevE, ↓e_raise1, ↓e_exF, ↓e_exI, ↓e_tryA, ↓k_rev_lst, ↓k_addM_lst, ↓k_max2, ↓k_min2, List.set_cons_zero, List.set_cons_succ, wipeP, ks]
  refine ⟨rfl, by rw [len_sp]; rfl, txl hz, ?_⟩
  have wne := split_ne (x := l) tl_sp sp_k
  have wsz : ∀ w ∈ Txt.split l " ", w.length ≤ TxL := fun w hw => by have := split_piece tl_sp sp_k w hw; omega
  unfold stepL at hno hyes
  generalize Txt.split l " " = ws at wne wsz hno hyes hq
  obtain ⟨w0, wr, ew⟩ : ∃ w0 wr, ws = w0 :: wr := by
    cases ws with
    | nil => exact absurd rfl wne
    | cons a r => exact ⟨a, r, rfl⟩
  have eh : ws.head? = some w0 := by rw [ew]; rfl
  have l2 : ∀ (S : Sto) (R' : RK), kLen q S R' = R' (.int ws.length) S := fun S R' => by rw [hq, k_len_lst, List.length_map]
  have ix' : ∀ (j : Nat) t, ws[j]? = some t → ∀ (S : Sto) (R' : RK), kIx q (.int j) S R' = R' (.str t) S := fun j t ht S R' => by
    rw [hq, k_ix_lst, atI_nn (i := (j : Int)) (j := j) rfl (show (ws.map PV.str)[j]? = some (.str t) by rw [List.getElem?_map, ht]; rfl)]
    exact propext ⟨fun ⟨z, h1, h2⟩ => by cases h1; exact h2, fun h => ⟨_, rfl, h⟩⟩
  have i0 : ∀ (S : Sto) (R' : RK), kIx q (.int 0) S R' = R' (.str w0) S := ix' 0 w0 (by rw [ew]; rfl)
  rw [i0]
  by_cases h0 : w0 = "town"
  · rw [k_eq_str, decide_eq_true h0]
    have est := step_town (ts := ts) (rs := rs) (eh.trans (congrArg some h0))
    rw [est] at hno
    have no : townW ts rs ws = none → gR R (.int ((k : Int) + 1)) S := fun z => hno (by rw [z]; rfl)
    simp -implicitDefEqProofs only [↓e_ret, ↓e_retN, ↓e_nxt, ↓e_seq, ↓e_nev, ↓e_brk, ↓e_cnt, ↓e_expr, ↓e_ifs, ↓e_set, ↓e_asg, ↓par2_two, ↓e_par, ↓e_for, ↓e_setF, ↓e_put, ↓opt_some, ↓e_var, ↓e_c, ↓e_b, ↓e_1, ↓e_tst, ↓e_kB, ↓e_tru, ↓e_notT, ↓e_andT, ↓e_orT, ↓truK_bl, ↓e_andV, ↓e_orV, ↓e_notV, ↓e_if, ↓chK_bl, ↓e_ch, ↓e_nil, ↓e_cons, ↓e_tup, ↓e_lst, ↓e_lstF, ↓e_call, ↓e_arN, ↓e_p1, ↓e_p2, ↓e_meth, ↓e_bm, ↓e_fld, ↓e_lc, ↓e_dc, ↓e_it, ↓e_rng1, ↓e_rng2, ↓e_intB, ↓e_sl, ↓e_no, ↓e_so, ↓e_yes, ↓e_anm, ↓gs_0, ↓gs_s, ↓dr_int, ↓dr_str, ↓dr_bl, ↓dr_nn, ↓dr_tup, ↓dr_lst, ↓dr_dct, ↓dr_obj, ↓k_lt_int, ↓k_le_int, ↓k_gt_int, ↓k_ge_int, ↓k_lt_str, ↓k_add_int, ↓k_add_str, ↓k_add_tup, ↓k_add_lst, ↓k_sub, ↓k_mul, ↓k_div, ↓k_mod, ↓k_pow, ↓k_neg, ↓k_eq_int, ↓k_eq_str, ↓k_is_nn, ↓k_is_int, ↓k_is_tup, ↓k_is_obj, ↓k_ix_lst, ↓k_ix_tup, ↓k_ix_str, ↓k_ix_dct, ↓k_len_str, ↓k_len_lst, ↓k_len_tup, ↓k_int_int, ↓k_int_bl, ↓k_abs, ↓k_str_int, ↓k_str_str, ↓k_tup_lst, ↓k_it_str, ↓k_it_tup, ↓k_it_lst, ↓k_in_dct, ↓e_enum, ↓k_en_tup, ↓k_en_lst, ↓e_atp, ↓e_lcM, ↓par3_three, ↓e_lits, ↓e_par3, ↓e_rev, ↓e_dct0, ↓e_nevE, ↓e_raise1, ↓e_exF, ↓e_exI, ↓e_tryA, ↓k_rev_lst, ↓k_addM_lst, ↓k_max2, ↓k_min2, List.set_cons_zero, List.set_cons_succ, wipeP, l2, Bool.bne_false, if_true]
    by_cases h2 : ws.length = 2
    · obtain ⟨u0, t, e2⟩ := two_list h2
      rw [decide_eq_true (show (ws.length : Int) = 2 by omega)]
      have i1 : ∀ (S : Sto) (R' : RK), kIx q (.int 1) S R' = R' (.str t) S := ix' 1 t (by rw [e2]; rfl)
      have tw : townW ts rs ws = if nameB t = true ∧ rs = [] ∧ ts.length < 40 ∧ lastOk ts t = true then some t else none := by rw [e2]; rfl
      have no2 : ¬ (nameB t = true ∧ rs = [] ∧ ts.length < 40 ∧ lastOk ts t = true) → gR R (.int ((k : Int) + 1)) S := fun z => no (by rw [tw, if_neg z])
      simp -implicitDefEqProofs only [↓e_ret, ↓e_retN, ↓e_nxt, ↓e_seq, ↓e_nev, ↓e_brk, ↓e_cnt, ↓e_expr, ↓e_ifs, ↓e_set, ↓e_asg, ↓par2_two, ↓e_par, ↓e_for, ↓e_setF, ↓e_put, ↓opt_some, ↓e_var, ↓e_c, ↓e_b, ↓e_1, ↓e_tst, ↓e_kB, ↓e_tru, ↓e_notT, ↓e_andT, ↓e_orT, ↓truK_bl, ↓e_andV, ↓e_orV, ↓e_notV, ↓e_if, ↓chK_bl, ↓e_ch, ↓e_nil, ↓e_cons, ↓e_tup, ↓e_lst, ↓e_lstF, ↓e_call, ↓e_arN, ↓e_p1, ↓e_p2, ↓e_meth, ↓e_bm, ↓e_fld, ↓e_lc, ↓e_dc, ↓e_it, ↓e_rng1, ↓e_rng2, ↓e_intB, ↓e_sl, ↓e_no, ↓e_so, ↓e_yes, ↓e_anm, ↓gs_0, ↓gs_s, ↓dr_int, ↓dr_str, ↓dr_bl, ↓dr_nn, ↓dr_tup, ↓dr_lst, ↓dr_dct, ↓dr_obj, ↓k_lt_int, ↓k_le_int, ↓k_gt_int, ↓k_ge_int, ↓k_lt_str, ↓k_add_int, ↓k_add_str, ↓k_add_tup, ↓k_add_lst, ↓k_sub, ↓k_mul, ↓k_div, ↓k_mod, ↓k_pow, ↓k_neg, ↓k_eq_int, ↓k_eq_str, ↓k_is_nn, ↓k_is_int, ↓k_is_tup, ↓k_is_obj, ↓k_ix_lst, ↓k_ix_tup, ↓k_ix_str, ↓k_ix_dct, ↓k_len_str, ↓k_len_lst, ↓k_len_tup, ↓k_int_int, ↓k_int_bl, ↓k_abs, ↓k_str_int, ↓k_str_str, ↓k_tup_lst, ↓k_it_str, ↓k_it_tup, ↓k_it_lst, ↓k_in_dct, ↓e_enum, ↓k_en_tup, ↓k_en_lst, ↓e_atp, ↓e_lcM, ↓par3_three, ↓e_lits, ↓e_par3, ↓e_rev, ↓e_dct0, ↓e_nevE, ↓e_raise1, ↓e_exF, ↓e_exI, ↓e_tryA, ↓k_rev_lst, ↓k_addM_lst, ↓k_max2, ↓k_min2, List.set_cons_zero, List.set_cons_succ, wipeP, i1, if_true]
      refine ⟨rfl, t_law_is_name (wsz t (by rw [e2]; simp)) ?_⟩
      have tl1 : ∀ S, TruP S (.bl true) true := fun _ => rfl
      have fl1 : ∀ S, TruP S (.bl false) false := fun _ => rfl
      cases hn : nameB t with
      | false =>
        simp -implicitDefEqProofs only [↓e_ret, ↓e_retN, ↓e_nxt, ↓e_seq, ↓e_nev, ↓e_brk, ↓e_cnt, ↓e_expr, ↓e_ifs, ↓e_set, ↓e_asg, ↓par2_two, ↓e_par, ↓e_for, ↓e_setF, ↓e_put, ↓opt_some, ↓e_var, ↓e_c, ↓e_b, ↓e_1, ↓e_tst, ↓e_kB, ↓e_tru, ↓e_notT, ↓e_andT, ↓e_orT, ↓truK_bl, ↓e_andV, ↓e_orV, ↓e_notV, ↓e_if, ↓chK_bl, ↓e_ch, ↓e_nil, ↓e_cons, ↓e_tup, ↓e_lst, ↓e_lstF, ↓e_call, ↓e_arN, ↓e_p1, ↓e_p2, ↓e_meth, ↓e_bm, ↓e_fld, ↓e_lc, ↓e_dc, ↓e_it, ↓e_rng1, ↓e_rng2, ↓e_intB, ↓e_sl, ↓e_no, ↓e_so, ↓e_yes, ↓e_anm, ↓gs_0, ↓gs_s, ↓dr_int, ↓dr_str, ↓dr_bl, ↓dr_nn, ↓dr_tup, ↓dr_lst, ↓dr_dct, ↓dr_obj, ↓k_lt_int, ↓k_le_int, ↓k_gt_int, ↓k_ge_int, ↓k_lt_str, ↓k_add_int, ↓k_add_str, ↓k_add_tup, ↓k_add_lst, ↓k_sub, ↓k_mul, ↓k_div, ↓k_mod, ↓k_pow, ↓k_neg, ↓k_eq_int, ↓k_eq_str, ↓k_is_nn, ↓k_is_int, ↓k_is_tup, ↓k_is_obj, ↓k_ix_lst, ↓k_ix_tup, ↓k_ix_str, ↓k_ix_dct, ↓k_len_str, ↓k_len_lst, ↓k_len_tup, ↓k_int_int, ↓k_int_bl, ↓k_abs, ↓k_str_int, ↓k_str_str, ↓k_tup_lst, ↓k_it_str, ↓k_it_tup, ↓k_it_lst, ↓k_in_dct, ↓e_enum, ↓k_en_tup, ↓k_en_lst, ↓e_atp, ↓e_lcM, ↓par3_three, ↓e_lits, ↓e_par3, ↓e_rev, ↓e_dct0, ↓e_nevE, ↓e_raise1, ↓e_exF, ↓e_exI, ↓e_tryA, ↓k_rev_lst, ↓k_addM_lst, ↓k_max2, ↓k_min2, List.set_cons_zero, List.set_cons_succ, wipeP, Bool.false_eq_true, if_false]
        refine ⟨false, rfl, ?_⟩
        simp only [Bool.not_false, if_true]
        exact no2 fun z => by rw [hn] at z; exact absurd z.1 (by simp)
      | true =>
        simp -implicitDefEqProofs only [↓e_ret, ↓e_retN, ↓e_nxt, ↓e_seq, ↓e_nev, ↓e_brk, ↓e_cnt, ↓e_expr, ↓e_ifs, ↓e_set, ↓e_asg, ↓par2_two, ↓e_par, ↓e_for, ↓e_setF, ↓e_put, ↓opt_some, ↓e_var, ↓e_c, ↓e_b, ↓e_1, ↓e_tst, ↓e_kB, ↓e_tru, ↓e_notT, ↓e_andT, ↓e_orT, ↓truK_bl, ↓e_andV, ↓e_orV, ↓e_notV, ↓e_if, ↓chK_bl, ↓e_ch, ↓e_nil, ↓e_cons, ↓e_tup, ↓e_lst, ↓e_lstF, ↓e_call, ↓e_arN, ↓e_p1, ↓e_p2, ↓e_meth, ↓e_bm, ↓e_fld, ↓e_lc, ↓e_dc, ↓e_it, ↓e_rng1, ↓e_rng2, ↓e_intB, ↓e_sl, ↓e_no, ↓e_so, ↓e_yes, ↓e_anm, ↓gs_0, ↓gs_s, ↓dr_int, ↓dr_str, ↓dr_bl, ↓dr_nn, ↓dr_tup, ↓dr_lst, ↓dr_dct, ↓dr_obj, ↓k_lt_int, ↓k_le_int, ↓k_gt_int, ↓k_ge_int, ↓k_lt_str, ↓k_add_int, ↓k_add_str, ↓k_add_tup, ↓k_add_lst, ↓k_sub, ↓k_mul, ↓k_div, ↓k_mod, ↓k_pow, ↓k_neg, ↓k_eq_int, ↓k_eq_str, ↓k_is_nn, ↓k_is_int, ↓k_is_tup, ↓k_is_obj, ↓k_ix_lst, ↓k_ix_tup, ↓k_ix_str, ↓k_ix_dct, ↓k_len_str, ↓k_len_lst, ↓k_len_tup, ↓k_int_int, ↓k_int_bl, ↓k_abs, ↓k_str_int, ↓k_str_str, ↓k_tup_lst, ↓k_it_str, ↓k_it_tup, ↓k_it_lst, ↓k_in_dct, ↓e_enum, ↓k_en_tup, ↓k_en_lst, ↓e_atp, ↓e_lcM, ↓par3_three, ↓e_lits, ↓e_par3, ↓e_rev, ↓e_dct0, ↓e_nevE, ↓e_raise1, ↓e_exF, ↓e_exI, ↓e_tryA, ↓k_rev_lst, ↓k_addM_lst, ↓k_max2, ↓k_min2, List.set_cons_zero, List.set_cons_succ, wipeP, if_true]
        refine ⟨sz0 (by simp), ?_⟩
        rw [k_eq_nilR hc ok.rd]
        by_cases hr : rs = []
        · rw [decide_eq_true hr]
          simp -implicitDefEqProofs only [↓e_ret, ↓e_retN, ↓e_nxt, ↓e_seq, ↓e_nev, ↓e_brk, ↓e_cnt, ↓e_expr, ↓e_ifs, ↓e_set, ↓e_asg, ↓par2_two, ↓e_par, ↓e_for, ↓e_setF, ↓e_put, ↓opt_some, ↓e_var, ↓e_c, ↓e_b, ↓e_1, ↓e_tst, ↓e_kB, ↓e_tru, ↓e_notT, ↓e_andT, ↓e_orT, ↓truK_bl, ↓e_andV, ↓e_orV, ↓e_notV, ↓e_if, ↓chK_bl, ↓e_ch, ↓e_nil, ↓e_cons, ↓e_tup, ↓e_lst, ↓e_lstF, ↓e_call, ↓e_arN, ↓e_p1, ↓e_p2, ↓e_meth, ↓e_bm, ↓e_fld, ↓e_lc, ↓e_dc, ↓e_it, ↓e_rng1, ↓e_rng2, ↓e_intB, ↓e_sl, ↓e_no, ↓e_so, ↓e_yes, ↓e_anm, ↓gs_0, ↓gs_s, ↓dr_int, ↓dr_str, ↓dr_bl, ↓dr_nn, ↓dr_tup, ↓dr_lst, ↓dr_dct, ↓dr_obj, ↓k_lt_int, ↓k_le_int, ↓k_gt_int, ↓k_ge_int, ↓k_lt_str, ↓k_add_int, ↓k_add_str, ↓k_add_tup, ↓k_add_lst, ↓k_sub, ↓k_mul, ↓k_div, ↓k_mod, ↓k_pow, ↓k_neg, ↓k_eq_int, ↓k_eq_str, ↓k_is_nn, ↓k_is_int, ↓k_is_tup, ↓k_is_obj, ↓k_ix_lst, ↓k_ix_tup, ↓k_ix_str, ↓k_ix_dct, ↓k_len_str, ↓k_len_lst, ↓k_len_tup, ↓k_int_int, ↓k_int_bl, ↓k_abs, ↓k_str_int, ↓k_str_str, ↓k_tup_lst, ↓k_it_str, ↓k_it_tup, ↓k_it_lst, ↓k_in_dct, ↓e_enum, ↓k_en_tup, ↓k_en_lst, ↓e_atp, ↓e_lcM, ↓par3_three, ↓e_lits, ↓e_par3, ↓e_rev, ↓e_dct0, ↓e_nevE, ↓e_raise1, ↓e_exF, ↓e_exI, ↓e_tryA, ↓k_rev_lst, ↓k_addM_lst, ↓k_max2, ↓k_min2, List.set_cons_zero, List.set_cons_succ, wipeP, Bool.bne_false, if_true, k_len_ref hb, List.length_map]
          by_cases h40 : ts.length < 40
          · rw [decide_eq_true (show (ts.length : Int) < 40 by omega)]
            refine ⟨true, rfl, ?_⟩
            simp only [Bool.not_true, Bool.false_eq_true, if_false]
            refine ⟨sz0 (by simp), ?_⟩
            rw [k_eq_nilT hb ok.tn]
            have fin1 : lastOk ts t = true → tyB "list" (dr S (.ref b)) ∧ kApp (.ref b) [.str t] S fun _ S' => nx [some x0, some l0, some (.ref b), some (.ref c), some (.int k), some (.str l), some q, some (.bl true), y8] S' := fun hlo => by
              refine ⟨by rw [k_tyB_ref hb]; trivial, ?_⟩
              rw [k_app hb]
              refine ⟨sz0 (by rw [List.length_map]; omega), hyes (ts ++ [t], rs) _ _ _ _ (by rw [est, tw, if_pos ⟨hn, hr, h40, hlo⟩]; rfl) (by rw [updS_same, List.map_append]; rfl) (by rw [updS_ne hbc.symm]; exact hc) fun y h1 h2 => updS_ne h1⟩
            rcases last_cases ts with h0 | ⟨us, u, h0, h1⟩
            · rw [decide_eq_true h0]
              simp only [Bool.bne_true, Bool.not_true, Bool.false_eq_true, if_false]
              exact fin1 (by unfold lastOk; rw [h0]; rfl)
            · rw [decide_eq_false (show ¬ ts = [] by rw [h0]; simp)]
              have ix : ∀ R', kIx (.ref b) (.int (-1)) S R' = R' (.str u) S := fun R' => by
                rw [k_ix_ref hb, h0, List.map_append, List.map_singleton, atI_last]
                exact propext ⟨fun ⟨z, h1, h2⟩ => by cases h1; exact h2, fun h => ⟨_, rfl, h⟩⟩
              have el : lastOk ts t = ltS u t := by unfold lastOk; rw [h1]
              simp -implicitDefEqProofs only [Bool.bne_true, Bool.not_false, if_true, ↓e_ret, ↓e_retN, ↓e_nxt, ↓e_seq, ↓e_nev, ↓e_brk, ↓e_cnt, ↓e_expr, ↓e_ifs, ↓e_set, ↓e_asg, ↓par2_two, ↓e_par, ↓e_for, ↓e_setF, ↓e_put, ↓opt_some, ↓e_var, ↓e_c, ↓e_b, ↓e_1, ↓e_tst, ↓e_kB, ↓e_tru, ↓e_notT, ↓e_andT, ↓e_orT, ↓truK_bl, ↓e_andV, ↓e_orV, ↓e_notV, ↓e_if, ↓chK_bl, ↓e_ch, ↓e_nil, ↓e_cons, ↓e_tup, ↓e_lst, ↓e_lstF, ↓e_call, ↓e_arN, ↓e_p1, ↓e_p2, ↓e_meth, ↓e_bm, ↓e_fld, ↓e_lc, ↓e_dc, ↓e_it, ↓e_rng1, ↓e_rng2, ↓e_intB, ↓e_sl, ↓e_no, ↓e_so, ↓e_yes, ↓e_anm, ↓gs_0, ↓gs_s, ↓dr_int, ↓dr_str, ↓dr_bl, ↓dr_nn, ↓dr_tup, ↓dr_lst, ↓dr_dct, ↓dr_obj, ↓k_lt_int, ↓k_le_int, ↓k_gt_int, ↓k_ge_int, ↓k_lt_str, ↓k_add_int, ↓k_add_str, ↓k_add_tup, ↓k_add_lst, ↓k_sub, ↓k_mul, ↓k_div, ↓k_mod, ↓k_pow, ↓k_neg, ↓k_eq_int, ↓k_eq_str, ↓k_is_nn, ↓k_is_int, ↓k_is_tup, ↓k_is_obj, ↓k_ix_lst, ↓k_ix_tup, ↓k_ix_str, ↓k_ix_dct, ↓k_len_str, ↓k_len_lst, ↓k_len_tup, ↓k_int_int, ↓k_int_bl, ↓k_abs, ↓k_str_int, ↓k_str_str, ↓k_tup_lst, ↓k_it_str, ↓k_it_tup, ↓k_it_lst, ↓k_in_dct, ↓e_enum, ↓k_en_tup, ↓k_en_lst, ↓e_atp, ↓e_lcM, ↓par3_three, ↓e_lits, ↓e_par3, ↓e_rev, ↓e_dct0, ↓e_nevE, ↓e_raise1, ↓e_exF, ↓e_exI, ↓e_tryA, ↓k_rev_lst, ↓k_addM_lst, ↓k_max2, ↓k_min2, List.set_cons_zero, List.set_cons_succ, wipeP, ix, i1]
              cases hlt2 : ltS u t with
              | true =>
                simp only [Bool.not_true, Bool.false_eq_true, if_false]
                exact fin1 (by rw [el]; exact hlt2)
              | false =>
                simp only [Bool.not_false, if_true]
                exact no2 fun z => by rw [el, hlt2] at z; exact absurd z.2.2.2 (by simp)
          · rw [decide_eq_false (show ¬ (ts.length : Int) < 40 by omega)]
            refine ⟨false, rfl, ?_⟩
            simp only [Bool.not_false, if_true]
            exact no2 fun z => h40 z.2.2.1
        · rw [decide_eq_false hr]
          simp -implicitDefEqProofs only [↓e_ret, ↓e_retN, ↓e_nxt, ↓e_seq, ↓e_nev, ↓e_brk, ↓e_cnt, ↓e_expr, ↓e_ifs, ↓e_set, ↓e_asg, ↓par2_two, ↓e_par, ↓e_for, ↓e_setF, ↓e_put, ↓opt_some, ↓e_var, ↓e_c, ↓e_b, ↓e_1, ↓e_tst, ↓e_kB, ↓e_tru, ↓e_notT, ↓e_andT, ↓e_orT, ↓truK_bl, ↓e_andV, ↓e_orV, ↓e_notV, ↓e_if, ↓chK_bl, ↓e_ch, ↓e_nil, ↓e_cons, ↓e_tup, ↓e_lst, ↓e_lstF, ↓e_call, ↓e_arN, ↓e_p1, ↓e_p2, ↓e_meth, ↓e_bm, ↓e_fld, ↓e_lc, ↓e_dc, ↓e_it, ↓e_rng1, ↓e_rng2, ↓e_intB, ↓e_sl, ↓e_no, ↓e_so, ↓e_yes, ↓e_anm, ↓gs_0, ↓gs_s, ↓dr_int, ↓dr_str, ↓dr_bl, ↓dr_nn, ↓dr_tup, ↓dr_lst, ↓dr_dct, ↓dr_obj, ↓k_lt_int, ↓k_le_int, ↓k_gt_int, ↓k_ge_int, ↓k_lt_str, ↓k_add_int, ↓k_add_str, ↓k_add_tup, ↓k_add_lst, ↓k_sub, ↓k_mul, ↓k_div, ↓k_mod, ↓k_pow, ↓k_neg, ↓k_eq_int, ↓k_eq_str, ↓k_is_nn, ↓k_is_int, ↓k_is_tup, ↓k_is_obj, ↓k_ix_lst, ↓k_ix_tup, ↓k_ix_str, ↓k_ix_dct, ↓k_len_str, ↓k_len_lst, ↓k_len_tup, ↓k_int_int, ↓k_int_bl, ↓k_abs, ↓k_str_int, ↓k_str_str, ↓k_tup_lst, ↓k_it_str, ↓k_it_tup, ↓k_it_lst, ↓k_in_dct, ↓e_enum, ↓k_en_tup, ↓k_en_lst, ↓e_atp, ↓e_lcM, ↓par3_three, ↓e_lits, ↓e_par3, ↓e_rev, ↓e_dct0, ↓e_nevE, ↓e_raise1, ↓e_exF, ↓e_exI, ↓e_tryA, ↓k_rev_lst, ↓k_addM_lst, ↓k_max2, ↓k_min2, List.set_cons_zero, List.set_cons_succ, wipeP, Bool.bne_false, Bool.false_eq_true, if_false]
          refine ⟨false, rfl, ?_⟩
          simp only [Bool.not_false, if_true]
          exact no2 fun z => hr z.2.1
    · rw [decide_eq_false (show ¬ (ws.length : Int) = 2 by omega)]
      simp -implicitDefEqProofs only [↓e_ret, ↓e_retN, ↓e_nxt, ↓e_seq, ↓e_nev, ↓e_brk, ↓e_cnt, ↓e_expr, ↓e_ifs, ↓e_set, ↓e_asg, ↓par2_two, ↓e_par, ↓e_for, ↓e_setF, ↓e_put, ↓opt_some, ↓e_var, ↓e_c, ↓e_b, ↓e_1, ↓e_tst, ↓e_kB, ↓e_tru, ↓e_notT, ↓e_andT, ↓e_orT, ↓truK_bl, ↓e_andV, ↓e_orV, ↓e_notV, ↓e_if, ↓chK_bl, ↓e_ch, ↓e_nil, ↓e_cons, ↓e_tup, ↓e_lst, ↓e_lstF, ↓e_call, ↓e_arN, ↓e_p1, ↓e_p2, ↓e_meth, ↓e_bm, ↓e_fld, ↓e_lc, ↓e_dc, ↓e_it, ↓e_rng1, ↓e_rng2, ↓e_intB, ↓e_sl, ↓e_no, ↓e_so, ↓e_yes, ↓e_anm, ↓gs_0, ↓gs_s, ↓dr_int, ↓dr_str, ↓dr_bl, ↓dr_nn, ↓dr_tup, ↓dr_lst, ↓dr_dct, ↓dr_obj, ↓k_lt_int, ↓k_le_int, ↓k_gt_int, ↓k_ge_int, ↓k_lt_str, ↓k_add_int, ↓k_add_str, ↓k_add_tup, ↓k_add_lst, ↓k_sub, ↓k_mul, ↓k_div, ↓k_mod, ↓k_pow, ↓k_neg, ↓k_eq_int, ↓k_eq_str, ↓k_is_nn, ↓k_is_int, ↓k_is_tup, ↓k_is_obj, ↓k_ix_lst, ↓k_ix_tup, ↓k_ix_str, ↓k_ix_dct, ↓k_len_str, ↓k_len_lst, ↓k_len_tup, ↓k_int_int, ↓k_int_bl, ↓k_abs, ↓k_str_int, ↓k_str_str, ↓k_tup_lst, ↓k_it_str, ↓k_it_tup, ↓k_it_lst, ↓k_in_dct, ↓e_enum, ↓k_en_tup, ↓k_en_lst, ↓e_atp, ↓e_lcM, ↓par3_three, ↓e_lits, ↓e_par3, ↓e_rev, ↓e_dct0, ↓e_nevE, ↓e_raise1, ↓e_exF, ↓e_exI, ↓e_tryA, ↓k_rev_lst, ↓k_addM_lst, ↓k_max2, ↓k_min2, List.set_cons_zero, List.set_cons_succ, wipeP, Bool.false_eq_true, if_false]
      refine ⟨false, rfl, ?_⟩
      simp only [Bool.not_false, if_true]
      exact no (townW_not h2)
  · rw [k_eq_str, decide_eq_false h0]
    have est := step_road (ts := ts) (rs := rs) (ws := ws) (by rw [eh]; exact fun z => h0 (Option.some.inj z))
    rw [est] at hno
    simp -implicitDefEqProofs only [↓e_ret, ↓e_retN, ↓e_nxt, ↓e_seq, ↓e_nev, ↓e_brk, ↓e_cnt, ↓e_expr, ↓e_ifs, ↓e_set, ↓e_asg, ↓par2_two, ↓e_par, ↓e_for, ↓e_setF, ↓e_put, ↓opt_some, ↓e_var, ↓e_c, ↓e_b, ↓e_1, ↓e_tst, ↓e_kB, ↓e_tru, ↓e_notT, ↓e_andT, ↓e_orT, ↓truK_bl, ↓e_andV, ↓e_orV, ↓e_notV, ↓e_if, ↓chK_bl, ↓e_ch, ↓e_nil, ↓e_cons, ↓e_tup, ↓e_lst, ↓e_lstF, ↓e_call, ↓e_arN, ↓e_p1, ↓e_p2, ↓e_meth, ↓e_bm, ↓e_fld, ↓e_lc, ↓e_dc, ↓e_it, ↓e_rng1, ↓e_rng2, ↓e_intB, ↓e_sl, ↓e_no, ↓e_so, ↓e_yes, ↓e_anm, ↓gs_0, ↓gs_s, ↓dr_int, ↓dr_str, ↓dr_bl, ↓dr_nn, ↓dr_tup, ↓dr_lst, ↓dr_dct, ↓dr_obj, ↓k_lt_int, ↓k_le_int, ↓k_gt_int, ↓k_ge_int, ↓k_lt_str, ↓k_add_int, ↓k_add_str, ↓k_add_tup, ↓k_add_lst, ↓k_sub, ↓k_mul, ↓k_div, ↓k_mod, ↓k_pow, ↓k_neg, ↓k_eq_int, ↓k_eq_str, ↓k_is_nn, ↓k_is_int, ↓k_is_tup, ↓k_is_obj, ↓k_ix_lst, ↓k_ix_tup, ↓k_ix_str, ↓k_ix_dct, ↓k_len_str, ↓k_len_lst, ↓k_len_tup, ↓k_int_int, ↓k_int_bl, ↓k_abs, ↓k_str_int, ↓k_str_str, ↓k_tup_lst, ↓k_it_str, ↓k_it_tup, ↓k_it_lst, ↓k_in_dct, ↓e_enum, ↓k_en_tup, ↓k_en_lst, ↓e_atp, ↓e_lcM, ↓par3_three, ↓e_lits, ↓e_par3, ↓e_rev, ↓e_dct0, ↓e_nevE, ↓e_raise1, ↓e_exF, ↓e_exI, ↓e_tryA, ↓k_rev_lst, ↓k_addM_lst, ↓k_max2, ↓k_min2, List.set_cons_zero, List.set_cons_succ, wipeP, Bool.bne_false, Bool.false_eq_true, if_false]
    rw [hq]
    refine ⟨rfl, t_law_road wne wsz hb hc ok.rd ok.rl ?_⟩
    simp -implicitDefEqProofs only [↓e_ret, ↓e_retN, ↓e_nxt, ↓e_seq, ↓e_nev, ↓e_brk, ↓e_cnt, ↓e_expr, ↓e_ifs, ↓e_set, ↓e_asg, ↓par2_two, ↓e_par, ↓e_for, ↓e_setF, ↓e_put, ↓opt_some, ↓e_var, ↓e_c, ↓e_b, ↓e_1, ↓e_tst, ↓e_kB, ↓e_tru, ↓e_notT, ↓e_andT, ↓e_orT, ↓truK_bl, ↓e_andV, ↓e_orV, ↓e_notV, ↓e_if, ↓chK_bl, ↓e_ch, ↓e_nil, ↓e_cons, ↓e_tup, ↓e_lst, ↓e_lstF, ↓e_call, ↓e_arN, ↓e_p1, ↓e_p2, ↓e_meth, ↓e_bm, ↓e_fld, ↓e_lc, ↓e_dc, ↓e_it, ↓e_rng1, ↓e_rng2, ↓e_intB, ↓e_sl, ↓e_no, ↓e_so, ↓e_yes, ↓e_anm, ↓gs_0, ↓gs_s, ↓dr_int, ↓dr_str, ↓dr_bl, ↓dr_nn, ↓dr_tup, ↓dr_lst, ↓dr_dct, ↓dr_obj, ↓k_lt_int, ↓k_le_int, ↓k_gt_int, ↓k_ge_int, ↓k_lt_str, ↓k_add_int, ↓k_add_str, ↓k_add_tup, ↓k_add_lst, ↓k_sub, ↓k_mul, ↓k_div, ↓k_mod, ↓k_pow, ↓k_neg, ↓k_eq_int, ↓k_eq_str, ↓k_is_nn, ↓k_is_int, ↓k_is_tup, ↓k_is_obj, ↓k_ix_lst, ↓k_ix_tup, ↓k_ix_str, ↓k_ix_dct, ↓k_len_str, ↓k_len_lst, ↓k_len_tup, ↓k_int_int, ↓k_int_bl, ↓k_abs, ↓k_str_int, ↓k_str_str, ↓k_tup_lst, ↓k_it_str, ↓k_it_tup, ↓k_it_lst, ↓k_in_dct, ↓e_enum, ↓k_en_tup, ↓k_en_lst, ↓e_atp, ↓e_lcM, ↓par3_three, ↓e_lits, ↓e_par3, ↓e_rev, ↓e_dct0, ↓e_nevE, ↓e_raise1, ↓e_exF, ↓e_exI, ↓e_tryA, ↓k_rev_lst, ↓k_addM_lst, ↓k_max2, ↓k_min2, List.set_cons_zero, List.set_cons_succ, wipeP, optR_is]
    cases er : okR ts rs (roadW ws) with
    | none =>
      simp only [decide_true, if_true]
      exact hno (by rw [er]; rfl)
    | some r =>
      simp only [reduceCtorEq, decide_false, Bool.false_eq_true, if_false]
      have hrl : rs.length < 120 := by
        cases eo : roadW ws with
        | none => rw [eo] at er; cases er
        | some r2 =>
          rw [eo] at er
          unfold okR at er
          dsimp only at er
          split at er
          · rename_i q; exact (roadOk_all.mp q).2.1
          · cases er
      refine ⟨by rw [k_tyB_ref hc]; trivial, ?_⟩
      rw [k_app hc]
      refine ⟨sz0 (by rw [List.length_map]; omega), hyes (ts, rs ++ [r]) _ _ _ _ (by rw [est, er]; rfl) (by rw [updS_ne hbc]; exact hb) (by rw [updS_same, List.map_append]; rfl) fun y h1 h2 => updS_ne h2⟩

theorem k_sl_lst {S : Sto} {R : RK} {xs : List PV} {lo hi : Option Int} : kSl (.lst xs) lo hi S R = R (.lst (cutP xs lo hi)) S := rfl
theorem pure__law_read (K : PySem.W.Frag) : ∀ ps S R Z, ps.length = 1 → sp__law_read K ps S R Z → w__law_read K (fin R Z) (startP n__law_read ps) S := by
  intro ps S R Z hl h
  obtain ⟨x, rfl, hz, hR⟩ := h
  have e : startP n__law_read [.str x] = [some (.str x), none, none, none, none, none, none, none, none] := rfl
  rw [e]
  unfold readN at hR
  have wne := split_ne (x := x) tl_nl nl_k
  have wsz : ∀ w ∈ Txt.split x "\n", w.length + 2 ≤ TxL := fun w hw => by have := split_piece tl_nl nl_k w hw; omega
  have wnum : (Txt.split x "\n").length ≤ TxL := by have := split_num (x := x) tl_nl nl_k; omega
  obtain ⟨q, hq⟩ : ∃ q, q = PV.lst ((Txt.split x "\n").map PV.str) := ⟨_, rfl⟩
  have ks : ∀ (S : Sto) (R' : RK), kSplit (.str x) [.str "\n"] S R' = ((("\n" : Str).length == 0) = false ∧ x.length + 2 ≤ sizeLine ∧ R' q S) := fun _ _ => by rw [hq]; rfl
  generalize Txt.split x "\n" = ws at wne wsz wnum hR hq
  have l2 : ∀ (S : Sto) (R' : RK), kLen q S R' = R' (.int ws.length) S := fun S R' => by rw [hq, k_len_lst, List.length_map]
  have sl : ∀ (S : Sto) (R' : RK), kSl q none (some (-1)) S R' = R' (.lst (ws.dropLast.map PV.str)) S := fun S R' => by rw [hq, k_sl_lst, cut_last, List.map_dropLast]
  obtain ⟨l, hl1, hl2⟩ := last_at wne
  have il : ∀ (S : Sto) (R' : RK), kIx q (.int (-1)) S R' = R' (.str l) S := fun S R' => by
    obtain ⟨q', hq1, hq2⟩ := last_at (xs := ws.map PV.str) (fun z => wne (List.map_eq_nil_iff.mp z))
    have eq : q' = .str l := by
      rw [List.getLast?_map, hl1] at hq1
      exact (Option.some.inj hq1).symm
    rw [hq, k_ix_lst, hq2, eq]
    exact propext ⟨fun ⟨z, h1, h2⟩ => by cases h1; exact h2, fun h => ⟨_, rfl, h⟩⟩
  simp -implicitDefEqProofs only [w__law_read, ↓e_ret, ↓e_retN, ↓e_nxt, ↓e_seq, ↓e_nev, ↓e_brk, ↓e_cnt, ↓e_expr, ↓e_ifs, ↓e_set, ↓e_asg, ↓par2_two, ↓e_par, ↓e_for, ↓e_setF, ↓e_put, ↓opt_some, ↓e_var, ↓e_c, ↓e_b, ↓e_1, ↓e_tst, ↓e_kB, ↓e_tru, ↓e_notT, ↓e_andT, ↓e_orT, ↓truK_bl, ↓e_andV, ↓e_orV, ↓e_notV, ↓e_if, ↓chK_bl, ↓e_ch, ↓e_nil, ↓e_cons, ↓e_tup, ↓e_lst, ↓e_lstF, ↓e_call, ↓e_arN, ↓e_p1, ↓e_p2, ↓e_meth, ↓e_bm, ↓e_fld, ↓e_lc, ↓e_dc, ↓e_it, ↓e_rng1, ↓e_rng2, ↓e_intB, ↓e_sl, ↓e_no, ↓e_so, ↓e_yes, ↓e_anm, ↓gs_0, ↓gs_s, ↓dr_int, ↓dr_str, ↓dr_bl, ↓dr_nn, ↓dr_tup, ↓dr_lst, ↓dr_dct, ↓dr_obj, ↓k_lt_int, ↓k_le_int, ↓k_gt_int, ↓k_ge_int, ↓k_lt_str, ↓k_add_int, ↓k_add_str, ↓k_add_tup, ↓k_add_lst, ↓k_sub, ↓k_mul, ↓k_div, ↓k_mod, ↓k_pow, ↓k_neg, ↓k_eq_int, ↓k_eq_str, ↓k_is_nn, ↓k_is_int, ↓k_is_tup, ↓k_is_obj, ↓k_ix_lst, ↓k_ix_tup, ↓k_ix_str, ↓k_ix_dct, ↓k_len_str, ↓k_len_lst, ↓k_len_tup, ↓k_int_int, ↓k_int_bl, ↓k_abs, ↓k_str_int, ↓k_str_str, ↓k_tup_lst, ↓k_it_str, ↓k_it_tup, ↓k_it_lst, ↓k_in_dct, ↓e_enum, ↓k_en_tup, ↓k_en_lst, ↓e_atp, ↓e_lcM, ↓par3_three, ↓e_lits, ↓e_par3, ↓e_rev, ↓e_dct0, ↓e_nevE, ↓e_raise1, ↓e_exF, ↓e_exI, ↓e_tryA, ↓k_rev_lst, ↓k_addM_lst, ↓k_max2, ↓k_min2, List.set_cons_zero, List.set_cons_succ, wipeP, ks, sl]
  refine ⟨rfl, by rw [len_nl]; rfl, txl hz, sz0 (by simp), fun b hb => ⟨sz0 (by simp), fun c hc => ?_⟩⟩
  have hbc : b ≠ c := fun z => by rw [← z, updS_same] at hc; cases hc
  have hc0 : S c = none := by rwa [updS_ne hbc.symm] at hc
  have sub : ∀ S', (∀ y, y ≠ b → y ≠ c → S' y = S y) → Sub S S' := fun S' h x o e => by
    rw [h x (fun z => by rw [z, hb] at e; cases e) (fun z => by rw [z, hc0] at e; cases e)]; exact e
  unfold enumP
  rw [List.length_map]
  refine wForL_inv (fun (i : Nat) => PV.tup [.int i, (ws.dropLast.map PV.str).getD i .non]) (fun rest ρ S' => (∃ j s, rest = (List.range ws.dropLast.length).drop j ∧ readL (ws.dropLast.drop j) j s = readL ws.dropLast 0 ([], []) ∧ NetOk s.1 s.2 ∧ S' b = some (.lst (s.1.map PV.str)) ∧ S' c = some (.lst (s.2.map roadP))) ∧ (∀ y, y ≠ b → y ≠ c → S' y = S y) ∧
      ∃ y4 y5 y6 y7 y8, ρ = [some (.str x), some q, some (.ref b), some (.ref c), y4, y5, y6, y7, y8])
    (fun k rest ρ S' ⟨⟨j, s, h1, hr, ok, h2, h2c⟩, h3, y4, y5, y6, y7, y8, h4⟩ => ?_) (fun ρ S' ⟨⟨j, s, h1, hr, ok, h2, h2c⟩, h3, y4, y5, y6, y7, y8, h4⟩ => ?_) (List.range ws.dropLast.length) _ _
    ⟨⟨0, ([], []), rfl, rfl, net0, by rw [updS_ne hbc, updS_same]; rfl, updS_same⟩, fun y h1 h2 => by rw [updS_ne h2, updS_ne h1], none, none, none, none, none, rfl⟩
  · subst h4
    refine ⟨trivial, fun N hN => ?_⟩
    have hj : j < ws.dropLast.length := Classical.byContradiction fun n => by
      rw [List.drop_eq_nil_of_le (by rw [List.length_range]; omega)] at h1; cases h1
    rw [List.drop_eq_getElem_cons (by rw [List.length_range]; exact hj), List.getElem_range] at h1
    obtain ⟨rfl, h1⟩ := List.cons.inj h1
    obtain ⟨l, hl1, hl2⟩ := drop_dropLast (xs := ws) (by rw [List.length_dropLast] at hj; exact hj)
    have hg : (ws.dropLast.map PV.str).getD k .non = .str l := by
      have : ws.dropLast[k]? = some l := by
        have := congrArg List.head? hl2
        rw [List.head?_drop] at this
        exact this
      rw [List.getD_eq_getElem?_getD, List.getElem?_map, this]; rfl
    rw [hl2, readL_cons] at hr
    rw [hg, e_atp]
    refine ⟨rfl, ?_⟩
    simp only [setM_cons, setM_nil, List.set_cons_zero, List.set_cons_succ]
    obtain ⟨ts, rs⟩ := s
    refine read_step hbc h2 h2c ok (wsz l (List.mem_of_getElem? hl1)) rfl rfl (fun es => ?_) fun s' S2 z6 z7 z8 es g1 g2 g3 => ?_
    · rw [es] at hr
      rw [← hr] at hR
      exact gR_sub (sub S' h3) hR
    · rw [es] at hr
      exact hN _ _ ⟨⟨k + 1, s', h1, hr, step_ok (s := (ts, rs)) ok es, g1, g2⟩, fun y f1 f2 => (g3 y f1 f2).trans (h3 y f1 f2), _, _, _, _, _, rfl⟩
  · subst h4
    have hj : ws.dropLast.length ≤ j := by
      have := congrArg List.length h1
      rw [List.length_drop, List.length_range, List.length_nil] at this
      omega
    rw [List.drop_eq_nil_of_le hj] at hr
    have hr : Out.ok s = readL ws.dropLast 0 ([], []) := hr
    rw [← hr] at hR
    dsimp only at hR
    refine ⟨trivial, ?_⟩
    simp -implicitDefEqProofs only [↓e_ret, ↓e_retN, ↓e_nxt, ↓e_seq, ↓e_nev, ↓e_brk, ↓e_cnt, ↓e_expr, ↓e_ifs, ↓e_set, ↓e_asg, ↓par2_two, ↓e_par, ↓e_for, ↓e_setF, ↓e_put, ↓opt_some, ↓e_var, ↓e_c, ↓e_b, ↓e_1, ↓e_tst, ↓e_kB, ↓e_tru, ↓e_notT, ↓e_andT, ↓e_orT, ↓truK_bl, ↓e_andV, ↓e_orV, ↓e_notV, ↓e_if, ↓chK_bl, ↓e_ch, ↓e_nil, ↓e_cons, ↓e_tup, ↓e_lst, ↓e_lstF, ↓e_call, ↓e_arN, ↓e_p1, ↓e_p2, ↓e_meth, ↓e_bm, ↓e_fld, ↓e_lc, ↓e_dc, ↓e_it, ↓e_rng1, ↓e_rng2, ↓e_intB, ↓e_sl, ↓e_no, ↓e_so, ↓e_yes, ↓e_anm, ↓gs_0, ↓gs_s, ↓dr_int, ↓dr_str, ↓dr_bl, ↓dr_nn, ↓dr_tup, ↓dr_lst, ↓dr_dct, ↓dr_obj, ↓k_lt_int, ↓k_le_int, ↓k_gt_int, ↓k_ge_int, ↓k_lt_str, ↓k_add_int, ↓k_add_str, ↓k_add_tup, ↓k_add_lst, ↓k_sub, ↓k_mul, ↓k_div, ↓k_mod, ↓k_pow, ↓k_neg, ↓k_eq_int, ↓k_eq_str, ↓k_is_nn, ↓k_is_int, ↓k_is_tup, ↓k_is_obj, ↓k_ix_lst, ↓k_ix_tup, ↓k_ix_str, ↓k_ix_dct, ↓k_len_str, ↓k_len_lst, ↓k_len_tup, ↓k_int_int, ↓k_int_bl, ↓k_abs, ↓k_str_int, ↓k_str_str, ↓k_tup_lst, ↓k_it_str, ↓k_it_tup, ↓k_it_lst, ↓k_in_dct, ↓e_enum, ↓k_en_tup, ↓k_en_lst, ↓e_atp, ↓e_lcM, ↓par3_three, ↓e_lits, ↓e_par3, ↓e_rev, ↓e_dct0, ↓e_nevE, ↓e_raise1, ↓e_exF, ↓e_exI, ↓e_tryA, ↓k_rev_lst, ↓k_addM_lst, ↓k_max2, ↓k_min2, List.set_cons_zero, List.set_cons_succ, wipeP, il]
    by_cases h0 : l = ""
    · rw [decide_eq_true h0]
      rw [if_pos (by rw [hl1, h0])] at hR
      simp -implicitDefEqProofs only [↓e_ret, ↓e_retN, ↓e_nxt, ↓e_seq, ↓e_nev, ↓e_brk, ↓e_cnt, ↓e_expr, ↓e_ifs, ↓e_set, ↓e_asg, ↓par2_two, ↓e_par, ↓e_for, ↓e_setF, ↓e_put, ↓opt_some, ↓e_var, ↓e_c, ↓e_b, ↓e_1, ↓e_tst, ↓e_kB, ↓e_tru, ↓e_notT, ↓e_andT, ↓e_orT, ↓truK_bl, ↓e_andV, ↓e_orV, ↓e_notV, ↓e_if, ↓chK_bl, ↓e_ch, ↓e_nil, ↓e_cons, ↓e_tup, ↓e_lst, ↓e_lstF, ↓e_call, ↓e_arN, ↓e_p1, ↓e_p2, ↓e_meth, ↓e_bm, ↓e_fld, ↓e_lc, ↓e_dc, ↓e_it, ↓e_rng1, ↓e_rng2, ↓e_intB, ↓e_sl, ↓e_no, ↓e_so, ↓e_yes, ↓e_anm, ↓gs_0, ↓gs_s, ↓dr_int, ↓dr_str, ↓dr_bl, ↓dr_nn, ↓dr_tup, ↓dr_lst, ↓dr_dct, ↓dr_obj, ↓k_lt_int, ↓k_le_int, ↓k_gt_int, ↓k_ge_int, ↓k_lt_str, ↓k_add_int, ↓k_add_str, ↓k_add_tup, ↓k_add_lst, ↓k_sub, ↓k_mul, ↓k_div, ↓k_mod, ↓k_pow, ↓k_neg, ↓k_eq_int, ↓k_eq_str, ↓k_is_nn, ↓k_is_int, ↓k_is_tup, ↓k_is_obj, ↓k_ix_lst, ↓k_ix_tup, ↓k_ix_str, ↓k_ix_dct, ↓k_len_str, ↓k_len_lst, ↓k_len_tup, ↓k_int_int, ↓k_int_bl, ↓k_abs, ↓k_str_int, ↓k_str_str, ↓k_tup_lst, ↓k_it_str, ↓k_it_tup, ↓k_it_lst, ↓k_in_dct, ↓e_enum, ↓k_en_tup, ↓k_en_lst, ↓e_atp, ↓e_lcM, ↓par3_three, ↓e_lits, ↓e_par3, ↓e_rev, ↓e_dct0, ↓e_nevE, ↓e_raise1, ↓e_exF, ↓e_exI, ↓e_tryA, ↓k_rev_lst, ↓k_addM_lst, ↓k_max2, ↓k_min2, List.set_cons_zero, List.set_cons_succ, wipeP, Bool.bne_true, Bool.not_true, Bool.false_eq_true, if_false, k_tup_ref h2, k_tup_ref h2c]
      exact ⟨sz0 (by simp), gR_sub (sub S' h3) hR⟩
    · rw [decide_eq_false h0]
      rw [if_neg (by rw [hl1]; exact fun z => h0 (Option.some.inj z))] at hR
      simp -implicitDefEqProofs only [↓e_ret, ↓e_retN, ↓e_nxt, ↓e_seq, ↓e_nev, ↓e_brk, ↓e_cnt, ↓e_expr, ↓e_ifs, ↓e_set, ↓e_asg, ↓par2_two, ↓e_par, ↓e_for, ↓e_setF, ↓e_put, ↓opt_some, ↓e_var, ↓e_c, ↓e_b, ↓e_1, ↓e_tst, ↓e_kB, ↓e_tru, ↓e_notT, ↓e_andT, ↓e_orT, ↓truK_bl, ↓e_andV, ↓e_orV, ↓e_notV, ↓e_if, ↓chK_bl, ↓e_ch, ↓e_nil, ↓e_cons, ↓e_tup, ↓e_lst, ↓e_lstF, ↓e_call, ↓e_arN, ↓e_p1, ↓e_p2, ↓e_meth, ↓e_bm, ↓e_fld, ↓e_lc, ↓e_dc, ↓e_it, ↓e_rng1, ↓e_rng2, ↓e_intB, ↓e_sl, ↓e_no, ↓e_so, ↓e_yes, ↓e_anm, ↓gs_0, ↓gs_s, ↓dr_int, ↓dr_str, ↓dr_bl, ↓dr_nn, ↓dr_tup, ↓dr_lst, ↓dr_dct, ↓dr_obj, ↓k_lt_int, ↓k_le_int, ↓k_gt_int, ↓k_ge_int, ↓k_lt_str, ↓k_add_int, ↓k_add_str, ↓k_add_tup, ↓k_add_lst, ↓k_sub, ↓k_mul, ↓k_div, ↓k_mod, ↓k_pow, ↓k_neg, ↓k_eq_int, ↓k_eq_str, ↓k_is_nn, ↓k_is_int, ↓k_is_tup, ↓k_is_obj, ↓k_ix_lst, ↓k_ix_tup, ↓k_ix_str, ↓k_ix_dct, ↓k_len_str, ↓k_len_lst, ↓k_len_tup, ↓k_int_int, ↓k_int_bl, ↓k_abs, ↓k_str_int, ↓k_str_str, ↓k_tup_lst, ↓k_it_str, ↓k_it_tup, ↓k_it_lst, ↓k_in_dct, ↓e_enum, ↓k_en_tup, ↓k_en_lst, ↓e_atp, ↓e_lcM, ↓par3_three, ↓e_lits, ↓e_par3, ↓e_rev, ↓e_dct0, ↓e_nevE, ↓e_raise1, ↓e_exF, ↓e_exI, ↓e_tryA, ↓k_rev_lst, ↓k_addM_lst, ↓k_max2, ↓k_min2, List.set_cons_zero, List.set_cons_succ, wipeP, Bool.bne_true, Bool.not_false, if_true, l2]
      exact gR_sub (sub S' h3) hR

/-! ### a drawn net -/
def pool7 : List Str := ("a" : Str) :: ("b" : Str) :: ("c" : Str) :: ("dd" : Str) :: ("e" : Str) :: ("fog" : Str) :: ("g" : Str) :: []
def names8 : List Str := ("p" : Str) :: ("q" : Str) :: ("r" : Str) :: ("s" : Str) :: ("t" : Str) :: ("u" : Str) :: ("vv" : Str) :: ("w" : Str) :: []
theorem pool7_ok : (∀ t ∈ pool7, nameB t = true) ∧ pool7.Nodup := by
  refine ⟨fun t ht => ?_, by decide +kernel⟩
  have : pool7.all nameB = true := by decide +kernel
  exact List.all_eq_true.mp this t ht
theorem names8_ok : (∀ t ∈ names8, nameB t = true) ∧ names8.Pairwise (fun a b => ltS a b = true) := by
  refine ⟨fun t ht => ?_, by decide +kernel⟩
  have : names8.all nameB = true := by decide +kernel
  exact List.all_eq_true.mp this t ht
theorem pop_perm {α : Type} : ∀ (l : List α) (j : Nat) (y : α), l[j]? = some y → (y :: l.eraseIdx j).Perm l
  | [], _, _, h => by simp at h
  | x :: l, 0, y, h => by
    cases h; exact .refl _
  | x :: l, j + 1, y, h => by
    have h : l[j]? = some y := by simpa using h
    exact (List.Perm.swap x y _).trans ((pop_perm l j y h).cons x)
theorem road_mk {ts : List Str} {z : Str} {i j ln rm : Int} (tn : ∀ t ∈ ts, nameB t = true) (nd : ts.Nodup) (hz : nameB z = true) (i0 : 0 ≤ i) (i1 : i < (ts.length : Int)) (j0 : 0 ≤ j) (j1 : j < (ts.length : Int)) (hij : i ≠ j) (l0 : -1000 ≤ ln) (l1 : ln ≤ 1000) (m0 : 0 ≤ rm) (m1 : rm ≤ 1000) :
    ∃ b f : Str, atI (ts.map PV.str) i = some (.str b) ∧ atI (ts.map PV.str) j = some (.str f) ∧ roadB ts ⟨z, b, f, ln, rm⟩ = true := by
  have hi : i.toNat < ts.length := by omega
  have hj : j.toNat < ts.length := by omega
  refine ⟨ts[i.toNat], ts[j.toNat], atI_nn (j := i.toNat) (by omega) (by rw [List.getElem?_map, List.getElem?_eq_getElem hi]; rfl), atI_nn (j := j.toNat) (by omega) (by rw [List.getElem?_map, List.getElem?_eq_getElem hj]; rfl), ?_⟩
  have nee : ts[i.toNat] ≠ ts[j.toNat] := fun e => by
    rcases Nat.lt_or_gt_of_ne (show i.toNat ≠ j.toNat by omega) with q | q
    · exact List.pairwise_iff_getElem.mp nd _ _ hi hj q e
    · exact List.pairwise_iff_getElem.mp nd _ _ hj hi q e.symm
  exact roadB_all.mpr ⟨hz, tn _ (List.getElem_mem hi), tn _ (List.getElem_mem hj), nee, List.getElem_mem hi, List.getElem_mem hj, ⟨l0, l1⟩, m0, m1⟩
theorem HandAt.upd {a r : Addr} {S : Sto} {o : MO} (h : HandAt a S) (n : r ≠ a) : HandAt a (updS S r o) := by
  obtain ⟨c1, c2, c3, c4, c5, c6⟩ := h
  exact ⟨c1, c2, c3, c4, c5, by rw [updS_ne (Ne.symm n)]; exact c6⟩
theorem HandAt.ne {a r : Addr} {S : Sto} (h : HandAt a S) (n : S r = none) : r ≠ a := fun z => by
  obtain ⟨c1, c2, c3, c4, c5, c6⟩ := h
  rw [z, c6] at n; cases n
theorem map_erase {α β : Type} (f : α → β) : ∀ (xs : List α) (j : Nat), (xs.map f).eraseIdx j = (xs.eraseIdx j).map f
  | [], _ => rfl
  | _ :: _, 0 => rfl
  | x :: xs, j + 1 => congrArg (f x :: ·) (map_erase f xs j)
theorem towns_loop {K : PySem.W.Frag} {a p t : Addr} {m f : Int} {S1 : Sto} {P : PEnds} (n : Nat) (hn : n ≤ 7) (hpa : p ≠ a) (hta : t ≠ a) (hpt : p ≠ t) (h1 : HandAt a S1) (hp : S1 p = some (.lst (pool7.map PV.str))) (ht : S1 t = some (.lst []))
    (hP : ∀ (ts : List Str) x5 S', ts.Nodup → (∀ x ∈ ts, nameB x = true) → ts.length ≤ 7 → HandAt a S' → S' t = some (.lst (ts.map PV.str)) → (∀ x, x ≠ a → x ≠ p → x ≠ t → S' x = S1 x) → P.nx [some (.ref a), some (.int m), some (.int f), some (.ref p), some (.ref t), x5, none, none, none, none, none, none] S') :
    wForL (fun _ => True) (.nm 5) (w__law_parts_1 K) P ((List.range n).map fun (k : Nat) => PV.int (0 + k)) [some (.ref a), some (.int m), some (.int f), some (.ref p), some (.ref t), none, none, none, none, none, none, none] S1 := by
  refine wForL_inv (fun (k : Nat) => PV.int (0 + k)) (fun rest ρ S' => ∃ ts ps : List Str, (ts ++ ps).Perm pool7 ∧ ts.length + rest.length = n ∧ HandAt a S' ∧ S' p = some (.lst (ps.map PV.str)) ∧ S' t = some (.lst (ts.map PV.str)) ∧ (∀ x, x ≠ a → x ≠ p → x ≠ t → S' x = S1 x) ∧
      ∃ x5, ρ = [some (.ref a), some (.int m), some (.int f), some (.ref p), some (.ref t), x5, none, none, none, none, none, none])
    (fun k rest ρ S' ⟨ts, ps, pm, hl, hh, gp, gt, off, x5, er⟩ => ⟨trivial, fun N hN => ?_⟩) (fun ρ S' ⟨ts, ps, pm, hl, hh, gp, gt, off, x5, er⟩ => ⟨trivial, ?_⟩) (List.range n) _ S1
    ⟨[], pool7, .refl _, by rw [List.length_range]; simp, h1, hp, ht, fun _ _ _ _ => rfl, none, rfl⟩
  · subst er
    rw [List.length_cons] at hl
    have hpl : ts.length + ps.length = 7 := by
      have := pm.length_eq
      rw [List.length_append] at this; exact this
    simp -implicitDefEqProofs only [w__law_parts_1, ↓e_ret, ↓e_retN, ↓e_nxt, ↓e_seq, ↓e_nev, ↓e_brk, ↓e_cnt, ↓e_expr, ↓e_ifs, ↓e_set, ↓e_asg, ↓par2_two, ↓e_par, ↓e_for, ↓e_setF, ↓e_put, ↓opt_some, ↓e_var, ↓e_c, ↓e_b, ↓e_1, ↓e_tst, ↓e_kB, ↓e_tru, ↓e_notT, ↓e_andT, ↓e_orT, ↓truK_bl, ↓e_andV, ↓e_orV, ↓e_notV, ↓e_if, ↓chK_bl, ↓e_ch, ↓e_nil, ↓e_cons, ↓e_tup, ↓e_lst, ↓e_lstF, ↓e_call, ↓e_arN, ↓e_p1, ↓e_p2, ↓e_meth, ↓e_bm, ↓e_fld, ↓e_lc, ↓e_dc, ↓e_it, ↓e_rng1, ↓e_rng2, ↓e_intB, ↓e_sl, ↓e_no, ↓e_so, ↓e_yes, ↓e_anm, ↓gs_0, ↓gs_s, ↓dr_int, ↓dr_str, ↓dr_bl, ↓dr_nn, ↓dr_tup, ↓dr_lst, ↓dr_dct, ↓dr_obj, ↓k_lt_int, ↓k_le_int, ↓k_gt_int, ↓k_ge_int, ↓k_lt_str, ↓k_add_int, ↓k_add_str, ↓k_add_tup, ↓k_add_lst, ↓k_sub, ↓k_mul, ↓k_div, ↓k_mod, ↓k_pow, ↓k_neg, ↓k_eq_int, ↓k_eq_str, ↓k_is_nn, ↓k_is_int, ↓k_is_tup, ↓k_is_obj, ↓k_ix_lst, ↓k_ix_tup, ↓k_ix_str, ↓k_ix_dct, ↓k_len_str, ↓k_len_lst, ↓k_len_tup, ↓k_int_int, ↓k_int_bl, ↓k_abs, ↓k_str_int, ↓k_str_str, ↓k_tup_lst, ↓k_it_str, ↓k_it_tup, ↓k_it_lst, ↓k_in_dct, ↓e_enum, ↓k_en_tup, ↓k_en_lst, ↓e_atp, ↓e_lcM, ↓par3_three, ↓e_lits, ↓e_par3, ↓e_rev, ↓e_dct0, ↓e_nevE, ↓e_raise1, ↓e_exF, ↓e_exI, ↓e_tryA, ↓k_rev_lst, ↓k_addM_lst, ↓k_max2, ↓k_min2, List.set_cons_zero, List.set_cons_succ, wipeP, k_len_ref gp, List.length_map]
    refine ⟨by rw [k_tyB_ref gt]; trivial, by rw [k_tyB_ref gp]; trivial, rfl, t_draw hh (by omega) (by omega) fun i S2 i0 i1 h2 o2 => ?_⟩
    have gp2 : S2 p = some (.lst (ps.map PV.str)) := by rw [o2 p hpa]; exact gp
    have gt2 : S2 t = some (.lst (ts.map PV.str)) := by rw [o2 t hta]; exact gt
    obtain ⟨j, rfl⟩ : ∃ j : Nat, i = j := ⟨i.toNat, by omega⟩
    have hj : j < ps.length := by omega
    rw [k_pop gp2 (show (ps.map PV.str)[j]? = some (.str ps[j]) by rw [List.getElem?_map, List.getElem?_eq_getElem hj]; rfl) (sz0 (by rw [List.length_map]; omega))]
    have gt3 : updS S2 p (.lst ((ps.map PV.str).eraseIdx j)) t = some (.lst (ts.map PV.str)) := by rw [updS_ne hpt.symm]; exact gt2
    rw [k_app gt3]
    refine ⟨sz0 (by rw [List.length_map]; omega), hN _ _ ⟨ts ++ [ps[j]], ps.eraseIdx j, ?_, by rw [List.length_append, List.length_singleton]; omega, (h2.upd hpa).upd hta, ?_, ?_, fun x g1 g2 g3 => ?_, _, rfl⟩⟩
    · have := pop_perm ps j ps[j] (List.getElem?_eq_getElem hj)
      rw [List.append_assoc]
      exact (List.Perm.append_left ts this).trans pm
    · rw [updS_ne hpt, updS_same]
      congr 2
      rw [map_erase]
    · rw [updS_same, List.map_append]; rfl
    · rw [updS_ne g3, updS_ne g2, o2 x g1]; exact off x g1 g2 g3
  · subst er
    have nd : (ts ++ ps).Nodup := pm.nodup_iff.mpr pool7_ok.2
    refine hP ts _ S' (List.nodup_append.mp nd).1 (fun x hx => pool7_ok.1 x (pm.mem_iff.mp (List.mem_append_left _ hx))) ?_ hh gt off
    have := pm.length_eq
    rw [List.length_append] at this
    have e7 : pool7.length = 7 := rfl
    omega
theorem roads_loop {K : PySem.W.Frag} {a r : Addr} {m f : Int} {bb : Bool} {low : Int} {x3 x5 : Option PV} {S1 : Sto} {ts zs : List Str} {P : PEnds} (har : r ≠ a) (h1 : HandAt a S1) (hr : S1 r = some (.lst [])) (tn : ∀ t ∈ ts, nameB t = true) (ta : ts.Pairwise fun a b => ltS a b = true) (tl : ts.length ≤ 7)
    (zn : ∀ t ∈ zs, nameB t = true) (za : zs.Pairwise fun a b => ltS a b = true) (zl : zs.length ≤ 8) (n2 : zs ≠ [] → 2 ≤ ts.length) (lo : -2 ≤ low ∧ low ≤ 0)
    (hP : ∀ (rs : List Road) x9 x10 x11 S', NetOk ts rs → rs.length ≤ 8 → HandAt a S' → S' r = some (.lst (rs.map roadP)) → (∀ x, x ≠ a → x ≠ r → S' x = S1 x) → P.nx [some (.ref a), some (.int m), some (.int f), x3, some (.lst (ts.map PV.str)), x5, some (.ref r), some (.bl bb), some (.int low), x9, x10, x11] S') :
    wForL (fun _ => True) (.nm 9) (w__law_parts_2 K) P (zs.map PV.str) [some (.ref a), some (.int m), some (.int f), x3, some (.lst (ts.map PV.str)), x5, some (.ref r), some (.bl bb), some (.int low), none, none, none] S1 := by
  refine wForL_inv PV.str (fun rest ρ S' => ∃ done : List Road, zs = done.map Road.name ++ rest ∧ (∀ q ∈ done, roadB ts q = true) ∧ HandAt a S' ∧ S' r = some (.lst (done.map roadP)) ∧ (∀ x, x ≠ a → x ≠ r → S' x = S1 x) ∧
      ∃ x9 x10 x11, ρ = [some (.ref a), some (.int m), some (.int f), x3, some (.lst (ts.map PV.str)), x5, some (.ref r), some (.bl bb), some (.int low), x9, x10, x11])
    (fun z rest ρ S' ⟨done, e, hd, hh, gr, off, x9, x10, x11, er⟩ => ⟨trivial, fun N hN => ?_⟩) (fun ρ S' ⟨done, e, hd, hh, gr, off, x9, x10, x11, er⟩ => ⟨trivial, ?_⟩) zs _ S1
    ⟨[], rfl, by simp, h1, hr, fun _ _ _ => rfl, none, none, none, rfl⟩
  · subst er
    have t2 := n2 (by rw [e]; simp)
    have hl : ((ts.map PV.str).length : Int) = (ts.length : Int) := by rw [List.length_map]
    obtain ⟨q, hq⟩ : ∃ q, q = PV.lst (ts.map PV.str) := ⟨_, rfl⟩
    have l2 : ∀ (S : Sto) (R' : RK), kLen q S R' = R' (.int ts.length) S := fun S R' => by rw [hq, k_len_lst, hl]
    have ix : ∀ (i : Int) (S : Sto) (R' : RK), kIx q (.int i) S R' = ∃ z, atI (ts.map PV.str) i = some z ∧ R' z S := fun i S R' => by rw [hq]; rfl
    have hN : ∀ S'' x9 x10 x11, (∃ done : List Road, zs = done.map Road.name ++ rest ∧ (∀ q ∈ done, roadB ts q = true) ∧ HandAt a S'' ∧ S'' r = some (.lst (done.map roadP)) ∧ (∀ x, x ≠ a → x ≠ r → S'' x = S1 x)) → N [some (.ref a), some (.int m), some (.int f), x3, some q, x5, some (.ref r), some (.bl bb), some (.int low), x9, x10, x11] S'' := fun S'' x9 x10 x11 ⟨done, g1, g2, g3, g4, g5⟩ => hN _ _ ⟨done, g1, g2, g3, g4, g5, x9, x10, x11, by rw [hq]⟩
    rw [← hq]
    have zz : nameB z = true := zn z (by rw [e]; simp)
    have dl : done.length ≤ 8 := by
      have := congrArg List.length e
      rw [List.length_append, List.length_map] at this; omega
    -- the road put in
    have core : ∀ (i j : Int) (S3 : Sto), 0 ≤ i → i < ts.length → 0 ≤ j → j < ts.length → i ≠ j → HandAt a S3 → Off a S' S3 → ∀ (P' : PEnds), P'.nx = N → wExpr (wBM "list" kApp (wVar 6) (wCons (wTup (wCons (wVar 9) (wCons (wB kIx (wVar 4) (wVar 10)) (wCons (wB kIx (wVar 4) (wVar 11)) (wCons (wB kAdd (wVar 8) (wCall (arN 2 (sp__law_draw K)) (wCons (wVar 0) (wCons (wC (.int 6)) (wNil))))) (wCons (wCall (arN 2 (sp__law_draw K)) (wCons (wVar 0) (wCons (wC (.int 4)) (wNil)))) (wNil))))))) (wNil))) P'
        [some (.ref a), some (.int m), some (.int f), x3, some q, x5, some (.ref r), some (.bl bb), some (.int low), some (.str z), some (.int i), some (.int j)] S3 := by
      intro i j S3 i0 i1 j0 j1 hij h3 o3 P' eP
      have gr3 : S3 r = some (.lst (done.map roadP)) := by rw [o3 r har]; exact gr
      simp -implicitDefEqProofs only [↓e_ret, ↓e_retN, ↓e_nxt, ↓e_seq, ↓e_nev, ↓e_brk, ↓e_cnt, ↓e_expr, ↓e_ifs, ↓e_set, ↓e_asg, ↓par2_two, ↓e_par, ↓e_for, ↓e_setF, ↓e_put, ↓opt_some, ↓e_var, ↓e_c, ↓e_b, ↓e_1, ↓e_tst, ↓e_kB, ↓e_tru, ↓e_notT, ↓e_andT, ↓e_orT, ↓truK_bl, ↓e_andV, ↓e_orV, ↓e_notV, ↓e_if, ↓chK_bl, ↓e_ch, ↓e_nil, ↓e_cons, ↓e_tup, ↓e_lst, ↓e_lstF, ↓e_call, ↓e_arN, ↓e_p1, ↓e_p2, ↓e_meth, ↓e_bm, ↓e_fld, ↓e_lc, ↓e_dc, ↓e_it, ↓e_rng1, ↓e_rng2, ↓e_intB, ↓e_sl, ↓e_no, ↓e_so, ↓e_yes, ↓e_anm, ↓gs_0, ↓gs_s, ↓dr_int, ↓dr_str, ↓dr_bl, ↓dr_nn, ↓dr_tup, ↓dr_lst, ↓dr_dct, ↓dr_obj, ↓k_lt_int, ↓k_le_int, ↓k_gt_int, ↓k_ge_int, ↓k_lt_str, ↓k_add_int, ↓k_add_str, ↓k_add_tup, ↓k_add_lst, ↓k_sub, ↓k_mul, ↓k_div, ↓k_mod, ↓k_pow, ↓k_neg, ↓k_eq_int, ↓k_eq_str, ↓k_is_nn, ↓k_is_int, ↓k_is_tup, ↓k_is_obj, ↓k_ix_lst, ↓k_ix_tup, ↓k_ix_str, ↓k_ix_dct, ↓k_len_str, ↓k_len_lst, ↓k_len_tup, ↓k_int_int, ↓k_int_bl, ↓k_abs, ↓k_str_int, ↓k_str_str, ↓k_tup_lst, ↓k_it_str, ↓k_it_tup, ↓k_it_lst, ↓k_in_dct, ↓e_enum, ↓k_en_tup, ↓k_en_lst, ↓e_atp, ↓e_lcM, ↓par3_three, ↓e_lits, ↓e_par3, ↓e_rev, ↓e_dct0, ↓e_nevE, ↓e_raise1, ↓e_exF, ↓e_exI, ↓e_tryA, ↓k_rev_lst, ↓k_addM_lst, ↓k_max2, ↓k_min2, List.set_cons_zero, List.set_cons_succ, wipeP, ↓ix]
      refine ⟨by rw [k_tyB_ref gr3]; trivial, ?_⟩
      obtain ⟨b0, f0, eb, ef, _⟩ := road_mk (z := z) (ln := 0) (rm := 0) tn (pw_nodup ta) zz i0 i1 j0 j1 hij (by omega) (by omega) (by omega) (by omega)
      refine ⟨_, eb, _, ef, rfl, t_draw h3 (by omega) (by omega) fun d1 S4 d10 d11 h4 o4 => ⟨rfl, t_draw h4 (by omega) (by omega) fun d2 S5 d20 d21 h5 o5 => ?_⟩⟩
      obtain ⟨b, g, eb', ef', hrd⟩ := road_mk (z := z) (ln := low + d1) (rm := d2) tn (pw_nodup ta) zz i0 i1 j0 j1 hij (by omega) (by omega) (by omega) (by omega)
      rw [eb] at eb'; cases eb'
      rw [ef] at ef'; cases ef'
      have gr5 : S5 r = some (.lst (done.map roadP)) := by rw [o5 r har, o4 r har]; exact gr3
      refine ⟨sz0 (by simp), ?_⟩
      rw [k_app gr5, eP]
      refine ⟨sz0 (by rw [List.length_map]; omega), hN _ _ _ _ ⟨done ++ [⟨z, b0, f0, low + d1, d2⟩], ?_, fun q hq => ?_, h5.upd har, ?_, fun x hx hx' => ?_⟩⟩
      · rw [e, List.map_append, List.append_assoc]; rfl
      · rcases List.mem_append.mp hq with hq | hq
        · exact hd q hq
        · rw [List.mem_singleton.mp hq]; exact hrd
      · rw [updS_same, List.map_append]; rfl
      · rw [updS_ne hx', o5 x hx, o4 x hx, o3 x hx]; exact off x hx hx'
    have hw : w__law_parts_2 K = wSeq (wPar 10 11 (wCons (wCall (arN 2 (sp__law_draw K)) (wCons (wVar 0) (wCons (wCall (p1 kLen) (wCons (wVar 4) (wNil))) (wNil)))) (wCons (wCall (arN 2 (sp__law_draw K)) (wCons (wVar 0) (wCons (wB kSub (wCall (p1 kLen) (wCons (wVar 4) (wNil))) (wC (.int 1))) (wNil)))) (wNil)))) (wSeq (wSet 11 (wB kAdd (wVar 11) (wCall (p1 kInt) (wCons (wB (kGe) (wVar 11) (wVar 10)) (wNil))))) (wSeq (wIfS (wTru (wVar 7)) (wPar 10 11 (wCons (wCall (p2 kMin2) (wCons (wVar 10) (wCons (wVar 11) (wNil)))) (wCons (wCall (p2 kMax2) (wCons (wVar 10) (wCons (wVar 11) (wNil)))) (wNil)))) (wNext)) (wExpr (wBM "list" kApp (wVar 6) (wCons (wTup (wCons (wVar 9) (wCons (wB kIx (wVar 4) (wVar 10)) (wCons (wB kIx (wVar 4) (wVar 11)) (wCons (wB kAdd (wVar 8) (wCall (arN 2 (sp__law_draw K)) (wCons (wVar 0) (wCons (wC (.int 6)) (wNil))))) (wCons (wCall (arN 2 (sp__law_draw K)) (wCons (wVar 0) (wCons (wC (.int 4)) (wNil)))) (wNil))))))) (wNil)))))) := rfl
    rw [hw]
    generalize hex : wExpr (wBM "list" kApp (wVar 6) (wCons (wTup (wCons (wVar 9) (wCons (wB kIx (wVar 4) (wVar 10)) (wCons (wB kIx (wVar 4) (wVar 11)) (wCons (wB kAdd (wVar 8) (wCall (arN 2 (sp__law_draw K)) (wCons (wVar 0) (wCons (wC (.int 6)) (wNil))))) (wCons (wCall (arN 2 (sp__law_draw K)) (wCons (wVar 0) (wCons (wC (.int 4)) (wNil)))) (wNil))))))) (wNil))) = we at core ⊢
    simp -implicitDefEqProofs only [↓e_ret, ↓e_retN, ↓e_nxt, ↓e_seq, ↓e_nev, ↓e_brk, ↓e_cnt, ↓e_expr, ↓e_ifs, ↓e_set, ↓e_asg, ↓par2_two, ↓e_par, ↓e_for, ↓e_setF, ↓e_put, ↓opt_some, ↓e_var, ↓e_c, ↓e_b, ↓e_1, ↓e_tst, ↓e_kB, ↓e_tru, ↓e_notT, ↓e_andT, ↓e_orT, ↓truK_bl, ↓e_andV, ↓e_orV, ↓e_notV, ↓e_if, ↓chK_bl, ↓e_ch, ↓e_nil, ↓e_cons, ↓e_tup, ↓e_lst, ↓e_lstF, ↓e_call, ↓e_arN, ↓e_p1, ↓e_p2, ↓e_meth, ↓e_bm, ↓e_fld, ↓e_lc, ↓e_dc, ↓e_it, ↓e_rng1, ↓e_rng2, ↓e_intB, ↓e_sl, ↓e_no, ↓e_so, ↓e_yes, ↓e_anm, ↓gs_0, ↓gs_s, ↓dr_int, ↓dr_str, ↓dr_bl, ↓dr_nn, ↓dr_tup, ↓dr_lst, ↓dr_dct, ↓dr_obj, ↓k_lt_int, ↓k_le_int, ↓k_gt_int, ↓k_ge_int, ↓k_lt_str, ↓k_add_int, ↓k_add_str, ↓k_add_tup, ↓k_add_lst, ↓k_sub, ↓k_mul, ↓k_div, ↓k_mod, ↓k_pow, ↓k_neg, ↓k_eq_int, ↓k_eq_str, ↓k_is_nn, ↓k_is_int, ↓k_is_tup, ↓k_is_obj, ↓k_ix_lst, ↓k_ix_tup, ↓k_ix_str, ↓k_ix_dct, ↓k_len_str, ↓k_len_lst, ↓k_len_tup, ↓k_int_int, ↓k_int_bl, ↓k_abs, ↓k_str_int, ↓k_str_str, ↓k_tup_lst, ↓k_it_str, ↓k_it_tup, ↓k_it_lst, ↓k_in_dct, ↓e_enum, ↓k_en_tup, ↓k_en_lst, ↓e_atp, ↓e_lcM, ↓par3_three, ↓e_lits, ↓e_par3, ↓e_rev, ↓e_dct0, ↓e_nevE, ↓e_raise1, ↓e_exF, ↓e_exI, ↓e_tryA, ↓k_rev_lst, ↓k_addM_lst, ↓k_max2, ↓k_min2, List.set_cons_zero, List.set_cons_succ, wipeP, l2]
    refine ⟨rfl, t_draw hh (by omega) (by omega) fun i S2 i0 i1 h2 o2 => ?_⟩
    refine ⟨rfl, t_draw h2 (by omega) (by omega) fun j S3 j0 j1 h3 o3 => ?_⟩
    simp -implicitDefEqProofs only [↓e_ret, ↓e_retN, ↓e_nxt, ↓e_seq, ↓e_nev, ↓e_brk, ↓e_cnt, ↓e_expr, ↓e_ifs, ↓e_set, ↓e_asg, ↓par2_two, ↓e_par, ↓e_for, ↓e_setF, ↓e_put, ↓opt_some, ↓e_var, ↓e_c, ↓e_b, ↓e_1, ↓e_tst, ↓e_kB, ↓e_tru, ↓e_notT, ↓e_andT, ↓e_orT, ↓truK_bl, ↓e_andV, ↓e_orV, ↓e_notV, ↓e_if, ↓chK_bl, ↓e_ch, ↓e_nil, ↓e_cons, ↓e_tup, ↓e_lst, ↓e_lstF, ↓e_call, ↓e_arN, ↓e_p1, ↓e_p2, ↓e_meth, ↓e_bm, ↓e_fld, ↓e_lc, ↓e_dc, ↓e_it, ↓e_rng1, ↓e_rng2, ↓e_intB, ↓e_sl, ↓e_no, ↓e_so, ↓e_yes, ↓e_anm, ↓gs_0, ↓gs_s, ↓dr_int, ↓dr_str, ↓dr_bl, ↓dr_nn, ↓dr_tup, ↓dr_lst, ↓dr_dct, ↓dr_obj, ↓k_lt_int, ↓k_le_int, ↓k_gt_int, ↓k_ge_int, ↓k_lt_str, ↓k_add_int, ↓k_add_str, ↓k_add_tup, ↓k_add_lst, ↓k_sub, ↓k_mul, ↓k_div, ↓k_mod, ↓k_pow, ↓k_neg, ↓k_eq_int, ↓k_eq_str, ↓k_is_nn, ↓k_is_int, ↓k_is_tup, ↓k_is_obj, ↓k_ix_lst, ↓k_ix_tup, ↓k_ix_str, ↓k_ix_dct, ↓k_len_str, ↓k_len_lst, ↓k_len_tup, ↓k_int_int, ↓k_int_bl, ↓k_abs, ↓k_str_int, ↓k_str_str, ↓k_tup_lst, ↓k_it_str, ↓k_it_tup, ↓k_it_lst, ↓k_in_dct, ↓e_enum, ↓k_en_tup, ↓k_en_lst, ↓e_atp, ↓e_lcM, ↓par3_three, ↓e_lits, ↓e_par3, ↓e_rev, ↓e_dct0, ↓e_nevE, ↓e_raise1, ↓e_exF, ↓e_exI, ↓e_tryA, ↓k_rev_lst, ↓k_addM_lst, ↓k_max2, ↓k_min2, List.set_cons_zero, List.set_cons_succ, wipeP]
    obtain ⟨j', ej⟩ : ∃ j', j' = (j + if decide (i ≤ j) = true then 1 else 0) := ⟨_, rfl⟩
    have hj' : 0 ≤ j' ∧ j' < ts.length ∧ i ≠ j' := by
      rw [ej]
      by_cases hij : i ≤ j
      · rw [if_pos (decide_eq_true hij)]; omega
      · rw [if_neg (by simpa using hij)]; omega
    rw [← ej]
    refine ⟨bb, rfl, ?_⟩
    cases bb with
    | false =>
      simp only [Bool.false_eq_true, if_false]
      exact core i j' S3 i0 i1 hj'.1 hj'.2.1 hj'.2.2 h3 (o2.tr o3) _ rfl
    | true =>
      simp -implicitDefEqProofs only [↓e_ret, ↓e_retN, ↓e_nxt, ↓e_seq, ↓e_nev, ↓e_brk, ↓e_cnt, ↓e_expr, ↓e_ifs, ↓e_set, ↓e_asg, ↓par2_two, ↓e_par, ↓e_for, ↓e_setF, ↓e_put, ↓opt_some, ↓e_var, ↓e_c, ↓e_b, ↓e_1, ↓e_tst, ↓e_kB, ↓e_tru, ↓e_notT, ↓e_andT, ↓e_orT, ↓truK_bl, ↓e_andV, ↓e_orV, ↓e_notV, ↓e_if, ↓chK_bl, ↓e_ch, ↓e_nil, ↓e_cons, ↓e_tup, ↓e_lst, ↓e_lstF, ↓e_call, ↓e_arN, ↓e_p1, ↓e_p2, ↓e_meth, ↓e_bm, ↓e_fld, ↓e_lc, ↓e_dc, ↓e_it, ↓e_rng1, ↓e_rng2, ↓e_intB, ↓e_sl, ↓e_no, ↓e_so, ↓e_yes, ↓e_anm, ↓gs_0, ↓gs_s, ↓dr_int, ↓dr_str, ↓dr_bl, ↓dr_nn, ↓dr_tup, ↓dr_lst, ↓dr_dct, ↓dr_obj, ↓k_lt_int, ↓k_le_int, ↓k_gt_int, ↓k_ge_int, ↓k_lt_str, ↓k_add_int, ↓k_add_str, ↓k_add_tup, ↓k_add_lst, ↓k_sub, ↓k_mul, ↓k_div, ↓k_mod, ↓k_pow, ↓k_neg, ↓k_eq_int, ↓k_eq_str, ↓k_is_nn, ↓k_is_int, ↓k_is_tup, ↓k_is_obj, ↓k_ix_lst, ↓k_ix_tup, ↓k_ix_str, ↓k_ix_dct, ↓k_len_str, ↓k_len_lst, ↓k_len_tup, ↓k_int_int, ↓k_int_bl, ↓k_abs, ↓k_str_int, ↓k_str_str, ↓k_tup_lst, ↓k_it_str, ↓k_it_tup, ↓k_it_lst, ↓k_in_dct, ↓e_enum, ↓k_en_tup, ↓k_en_lst, ↓e_atp, ↓e_lcM, ↓par3_three, ↓e_lits, ↓e_par3, ↓e_rev, ↓e_dct0, ↓e_nevE, ↓e_raise1, ↓e_exF, ↓e_exI, ↓e_tryA, ↓k_rev_lst, ↓k_addM_lst, ↓k_max2, ↓k_min2, List.set_cons_zero, List.set_cons_succ, wipeP, if_true, k_min2, k_max2]
      refine core _ _ S3 ?_ ?_ ?_ ?_ ?_ h3 (o2.tr o3) _ rfl
      all_goals (split <;> first | omega | (split <;> omega))
  · subst er
    rw [List.append_nil] at e
    have hdl : done.length ≤ 8 := by
      have := congrArg List.length e
      rw [List.length_map] at this; omega
    refine hP done _ _ _ S' ⟨tn, ta, by omega, hd, ?_, by omega⟩ hdl hh gr off
    rw [e] at za; exact List.pairwise_map.mp za

theorem pure__law_parts (K : PySem.W.Frag) : ∀ ps S R Z, ps.length = 3 → sp__law_parts K ps S R Z → w__law_parts K (fin R Z) (startP n__law_parts ps) S := by
  intro ps S R Z hl h
  obtain ⟨a, m, f, rfl, hS, ⟨m0, m1⟩, ⟨f0, f1⟩, hR⟩ := h
  have e : startP n__law_parts [.ref a, .int m, .int f] = [some (.ref a), some (.int m), some (.int f), none, none, none, none, none, none, none, none, none] := rfl
  rw [e]
  simp -implicitDefEqProofs only [w__law_parts, ↓e_ret, ↓e_retN, ↓e_nxt, ↓e_seq, ↓e_nev, ↓e_brk, ↓e_cnt, ↓e_expr, ↓e_ifs, ↓e_set, ↓e_asg, ↓par2_two, ↓e_par, ↓e_for, ↓e_setF, ↓e_put, ↓opt_some, ↓e_var, ↓e_c, ↓e_b, ↓e_1, ↓e_tst, ↓e_kB, ↓e_tru, ↓e_notT, ↓e_andT, ↓e_orT, ↓truK_bl, ↓e_andV, ↓e_orV, ↓e_notV, ↓e_if, ↓chK_bl, ↓e_ch, ↓e_nil, ↓e_cons, ↓e_tup, ↓e_lst, ↓e_lstF, ↓e_call, ↓e_arN, ↓e_p1, ↓e_p2, ↓e_meth, ↓e_bm, ↓e_fld, ↓e_lc, ↓e_dc, ↓e_it, ↓e_rng1, ↓e_rng2, ↓e_intB, ↓e_sl, ↓e_no, ↓e_so, ↓e_yes, ↓e_anm, ↓gs_0, ↓gs_s, ↓dr_int, ↓dr_str, ↓dr_bl, ↓dr_nn, ↓dr_tup, ↓dr_lst, ↓dr_dct, ↓dr_obj, ↓k_lt_int, ↓k_le_int, ↓k_gt_int, ↓k_ge_int, ↓k_lt_str, ↓k_add_int, ↓k_add_str, ↓k_add_tup, ↓k_add_lst, ↓k_sub, ↓k_mul, ↓k_div, ↓k_mod, ↓k_pow, ↓k_neg, ↓k_eq_int, ↓k_eq_str, ↓k_is_nn, ↓k_is_int, ↓k_is_tup, ↓k_is_obj, ↓k_ix_lst, ↓k_ix_tup, ↓k_ix_str, ↓k_ix_dct, ↓k_len_str, ↓k_len_lst, ↓k_len_tup, ↓k_int_int, ↓k_int_bl, ↓k_abs, ↓k_str_int, ↓k_str_str, ↓k_tup_lst, ↓k_it_str, ↓k_it_tup, ↓k_it_lst, ↓k_in_dct, ↓e_enum, ↓k_en_tup, ↓k_en_lst, ↓e_atp, ↓e_lcM, ↓par3_three, ↓e_lits, ↓e_par3, ↓e_rev, ↓e_dct0, ↓e_nevE, ↓e_raise1, ↓e_exF, ↓e_exI, ↓e_tryA, ↓k_rev_lst, ↓k_addM_lst, ↓k_max2, ↓k_min2, List.set_cons_zero, List.set_cons_succ, wipeP]
  refine ⟨sz0 (by simp), fun p hp => ⟨sz0 (by simp), fun t ht => ?_⟩⟩
  have hpa := hS.ne hp
  have hpt : p ≠ t := fun z => by rw [← z, updS_same] at ht; cases ht
  have ht0 : S t = none := by rwa [updS_ne hpt.symm] at ht
  have hta := hS.ne ht0
  refine ⟨rfl, t_draw ((hS.upd hpa).upd hta) (by omega) (by omega) fun n S1 n0 n1 h1 o1 => ?_⟩
  simp -implicitDefEqProofs only [↓e_ret, ↓e_retN, ↓e_nxt, ↓e_seq, ↓e_nev, ↓e_brk, ↓e_cnt, ↓e_expr, ↓e_ifs, ↓e_set, ↓e_asg, ↓par2_two, ↓e_par, ↓e_for, ↓e_setF, ↓e_put, ↓opt_some, ↓e_var, ↓e_c, ↓e_b, ↓e_1, ↓e_tst, ↓e_kB, ↓e_tru, ↓e_notT, ↓e_andT, ↓e_orT, ↓truK_bl, ↓e_andV, ↓e_orV, ↓e_notV, ↓e_if, ↓chK_bl, ↓e_ch, ↓e_nil, ↓e_cons, ↓e_tup, ↓e_lst, ↓e_lstF, ↓e_call, ↓e_arN, ↓e_p1, ↓e_p2, ↓e_meth, ↓e_bm, ↓e_fld, ↓e_lc, ↓e_dc, ↓e_it, ↓e_rng1, ↓e_rng2, ↓e_intB, ↓e_sl, ↓e_no, ↓e_so, ↓e_yes, ↓e_anm, ↓gs_0, ↓gs_s, ↓dr_int, ↓dr_str, ↓dr_bl, ↓dr_nn, ↓dr_tup, ↓dr_lst, ↓dr_dct, ↓dr_obj, ↓k_lt_int, ↓k_le_int, ↓k_gt_int, ↓k_ge_int, ↓k_lt_str, ↓k_add_int, ↓k_add_str, ↓k_add_tup, ↓k_add_lst, ↓k_sub, ↓k_mul, ↓k_div, ↓k_mod, ↓k_pow, ↓k_neg, ↓k_eq_int, ↓k_eq_str, ↓k_is_nn, ↓k_is_int, ↓k_is_tup, ↓k_is_obj, ↓k_ix_lst, ↓k_ix_tup, ↓k_ix_str, ↓k_ix_dct, ↓k_len_str, ↓k_len_lst, ↓k_len_tup, ↓k_int_int, ↓k_int_bl, ↓k_abs, ↓k_str_int, ↓k_str_str, ↓k_tup_lst, ↓k_it_str, ↓k_it_tup, ↓k_it_lst, ↓k_in_dct, ↓e_enum, ↓k_en_tup, ↓k_en_lst, ↓e_atp, ↓e_lcM, ↓par3_three, ↓e_lits, ↓e_par3, ↓e_rev, ↓e_dct0, ↓e_nevE, ↓e_raise1, ↓e_exF, ↓e_exI, ↓e_tryA, ↓k_rev_lst, ↓k_addM_lst, ↓k_max2, ↓k_min2, List.set_cons_zero, List.set_cons_succ, wipeP]
  refine ⟨by omega, ?_⟩
  refine towns_loop n.toNat (by omega) hpa hta hpt h1 (by rw [o1 p hpa, updS_ne hpt, updS_same]; rfl) (by rw [o1 t hta, updS_same]) fun ts0 x5 S2 nd tn0 tl0 h2 gt off2 => ?_
  have off2' : ∀ x, x ≠ a → x ≠ p → x ≠ t → S2 x = S x := fun x g1 g2 g3 => by rw [off2 x g1 g2 g3, o1 x g1, updS_ne g3, updS_ne g2]
  simp -implicitDefEqProofs only [↓e_ret, ↓e_retN, ↓e_nxt, ↓e_seq, ↓e_nev, ↓e_brk, ↓e_cnt, ↓e_expr, ↓e_ifs, ↓e_set, ↓e_asg, ↓par2_two, ↓e_par, ↓e_for, ↓e_setF, ↓e_put, ↓opt_some, ↓e_var, ↓e_c, ↓e_b, ↓e_1, ↓e_tst, ↓e_kB, ↓e_tru, ↓e_notT, ↓e_andT, ↓e_orT, ↓truK_bl, ↓e_andV, ↓e_orV, ↓e_notV, ↓e_if, ↓chK_bl, ↓e_ch, ↓e_nil, ↓e_cons, ↓e_tup, ↓e_lst, ↓e_lstF, ↓e_call, ↓e_arN, ↓e_p1, ↓e_p2, ↓e_meth, ↓e_bm, ↓e_fld, ↓e_lc, ↓e_dc, ↓e_it, ↓e_rng1, ↓e_rng2, ↓e_intB, ↓e_sl, ↓e_no, ↓e_so, ↓e_yes, ↓e_anm, ↓gs_0, ↓gs_s, ↓dr_int, ↓dr_str, ↓dr_bl, ↓dr_nn, ↓dr_tup, ↓dr_lst, ↓dr_dct, ↓dr_obj, ↓k_lt_int, ↓k_le_int, ↓k_gt_int, ↓k_ge_int, ↓k_lt_str, ↓k_add_int, ↓k_add_str, ↓k_add_tup, ↓k_add_lst, ↓k_sub, ↓k_mul, ↓k_div, ↓k_mod, ↓k_pow, ↓k_neg, ↓k_eq_int, ↓k_eq_str, ↓k_is_nn, ↓k_is_int, ↓k_is_tup, ↓k_is_obj, ↓k_ix_lst, ↓k_ix_tup, ↓k_ix_str, ↓k_ix_dct, ↓k_len_str, ↓k_len_lst, ↓k_len_tup, ↓k_int_int, ↓k_int_bl, ↓k_abs, ↓k_str_int, ↓k_str_str, ↓k_tup_lst, ↓k_it_str, ↓k_it_tup, ↓k_it_lst, ↓k_in_dct, ↓e_enum, ↓k_en_tup, ↓k_en_lst, ↓e_atp, ↓e_lcM, ↓par3_three, ↓e_lits, ↓e_par3, ↓e_rev, ↓e_dct0, ↓e_nevE, ↓e_raise1, ↓e_exF, ↓e_exI, ↓e_tryA, ↓k_rev_lst, ↓k_addM_lst, ↓k_max2, ↓k_min2, List.set_cons_zero, List.set_cons_succ, wipeP]
  rw [k_sorted_strs (ss := ts0) (by rw [dr_refL gt]; rfl)]
  intro ts pm so
  have tn : ∀ x ∈ ts, nameB x = true := fun x hx => tn0 x (pm.mem_iff.mp hx)
  have tnd := pm.nodup_iff.mpr nd
  have ta := sorted_pw so tnd
  have tl : ts.length ≤ 7 := by rw [pm.length_eq]; exact tl0
  obtain ⟨q, hq⟩ : ∃ q, q = PV.lst (ts.map PV.str) := ⟨_, rfl⟩
  have l2 : ∀ (S : Sto) (R' : RK), kLen q S R' = R' (.int ts.length) S := fun S R' => by rw [hq, k_len_lst, List.length_map]
  rw [← hq]
  refine ⟨sz0 (by simp), fun r hr => ⟨rfl, t_draw (h2.upd (h2.ne hr)) (by omega) (by omega) fun d S3 d0 d1 h3 o3 => ?_⟩⟩
  have har := h2.ne hr
  simp -implicitDefEqProofs only [↓e_ret, ↓e_retN, ↓e_nxt, ↓e_seq, ↓e_nev, ↓e_brk, ↓e_cnt, ↓e_expr, ↓e_ifs, ↓e_set, ↓e_asg, ↓par2_two, ↓e_par, ↓e_for, ↓e_setF, ↓e_put, ↓opt_some, ↓e_var, ↓e_c, ↓e_b, ↓e_1, ↓e_tst, ↓e_kB, ↓e_tru, ↓e_notT, ↓e_andT, ↓e_orT, ↓truK_bl, ↓e_andV, ↓e_orV, ↓e_notV, ↓e_if, ↓chK_bl, ↓e_ch, ↓e_nil, ↓e_cons, ↓e_tup, ↓e_lst, ↓e_lstF, ↓e_call, ↓e_arN, ↓e_p1, ↓e_p2, ↓e_meth, ↓e_bm, ↓e_fld, ↓e_lc, ↓e_dc, ↓e_it, ↓e_rng1, ↓e_rng2, ↓e_intB, ↓e_sl, ↓e_no, ↓e_so, ↓e_yes, ↓e_anm, ↓gs_0, ↓gs_s, ↓dr_int, ↓dr_str, ↓dr_bl, ↓dr_nn, ↓dr_tup, ↓dr_lst, ↓dr_dct, ↓dr_obj, ↓k_lt_int, ↓k_le_int, ↓k_gt_int, ↓k_ge_int, ↓k_lt_str, ↓k_add_int, ↓k_add_str, ↓k_add_tup, ↓k_add_lst, ↓k_sub, ↓k_mul, ↓k_div, ↓k_mod, ↓k_pow, ↓k_neg, ↓k_eq_int, ↓k_eq_str, ↓k_is_nn, ↓k_is_int, ↓k_is_tup, ↓k_is_obj, ↓k_ix_lst, ↓k_ix_tup, ↓k_ix_str, ↓k_ix_dct, ↓k_len_str, ↓k_len_lst, ↓k_len_tup, ↓k_int_int, ↓k_int_bl, ↓k_abs, ↓k_str_int, ↓k_str_str, ↓k_tup_lst, ↓k_it_str, ↓k_it_tup, ↓k_it_lst, ↓k_in_dct, ↓e_enum, ↓k_en_tup, ↓k_en_lst, ↓e_atp, ↓e_lcM, ↓par3_three, ↓e_lits, ↓e_par3, ↓e_rev, ↓e_dct0, ↓e_nevE, ↓e_raise1, ↓e_exF, ↓e_exI, ↓e_tryA, ↓k_rev_lst, ↓k_addM_lst, ↓k_max2, ↓k_min2, List.set_cons_zero, List.set_cons_succ, wipeP]
  refine ⟨sz0 (by simp), rfl, t_any h3 (by simp) (by simp) fun x hx S4 h4 o4 => ?_⟩
  obtain ⟨low, rfl, lo⟩ : ∃ n : Int, x = .int n ∧ (-2 ≤ n ∧ n ≤ 0) := by
    simp only [List.mem_cons, List.not_mem_nil, or_false] at hx
    rcases hx with rfl | rfl | rfl
    · exact ⟨_, rfl, by omega, by omega⟩
    · exact ⟨_, rfl, by omega, by omega⟩
    · exact ⟨_, rfl, by omega, by omega⟩
  simp -implicitDefEqProofs only [↓e_ret, ↓e_retN, ↓e_nxt, ↓e_seq, ↓e_nev, ↓e_brk, ↓e_cnt, ↓e_expr, ↓e_ifs, ↓e_set, ↓e_asg, ↓par2_two, ↓e_par, ↓e_for, ↓e_setF, ↓e_put, ↓opt_some, ↓e_var, ↓e_c, ↓e_b, ↓e_1, ↓e_tst, ↓e_kB, ↓e_tru, ↓e_notT, ↓e_andT, ↓e_orT, ↓truK_bl, ↓e_andV, ↓e_orV, ↓e_notV, ↓e_if, ↓chK_bl, ↓e_ch, ↓e_nil, ↓e_cons, ↓e_tup, ↓e_lst, ↓e_lstF, ↓e_call, ↓e_arN, ↓e_p1, ↓e_p2, ↓e_meth, ↓e_bm, ↓e_fld, ↓e_lc, ↓e_dc, ↓e_it, ↓e_rng1, ↓e_rng2, ↓e_intB, ↓e_sl, ↓e_no, ↓e_so, ↓e_yes, ↓e_anm, ↓gs_0, ↓gs_s, ↓dr_int, ↓dr_str, ↓dr_bl, ↓dr_nn, ↓dr_tup, ↓dr_lst, ↓dr_dct, ↓dr_obj, ↓k_lt_int, ↓k_le_int, ↓k_gt_int, ↓k_ge_int, ↓k_lt_str, ↓k_add_int, ↓k_add_str, ↓k_add_tup, ↓k_add_lst, ↓k_sub, ↓k_mul, ↓k_div, ↓k_mod, ↓k_pow, ↓k_neg, ↓k_eq_int, ↓k_eq_str, ↓k_is_nn, ↓k_is_int, ↓k_is_tup, ↓k_is_obj, ↓k_ix_lst, ↓k_ix_tup, ↓k_ix_str, ↓k_ix_dct, ↓k_len_str, ↓k_len_lst, ↓k_len_tup, ↓k_int_int, ↓k_int_bl, ↓k_abs, ↓k_str_int, ↓k_str_str, ↓k_tup_lst, ↓k_it_str, ↓k_it_tup, ↓k_it_lst, ↓k_in_dct, ↓e_enum, ↓k_en_tup, ↓k_en_lst, ↓e_atp, ↓e_lcM, ↓par3_three, ↓e_lits, ↓e_par3, ↓e_rev, ↓e_dct0, ↓e_nevE, ↓e_raise1, ↓e_exF, ↓e_exI, ↓e_tryA, ↓k_rev_lst, ↓k_addM_lst, ↓k_max2, ↓k_min2, List.set_cons_zero, List.set_cons_succ, wipeP, l2]
  have gr4 : S4 r = some (.lst []) := by rw [o4 r har, o3 r har, updS_same]
  refine ⟨sz0 (by simp), ?_⟩
  have ksl : ∀ (i : Int) (S : Sto) (R' : RK), 0 ≤ i → i ≤ 8 → kSl (.lst [.str "p", .str "q", .str "r", .str "s", .str "t", .str "u", .str "vv", .str "w"]) none (some i) S R' = R' (.lst ((names8.take i.toNat).map PV.str)) S := fun i S R' h0 h8 => by
    have e : cutP (names8.map PV.str) none (some i) = (names8.take i.toNat).map PV.str := by
      unfold cutP
      have e1 : HT.sIx (names8.map PV.str).length (names8.map PV.str).length (some i) = i.toNat := by
        show (if i < 0 then (i + (8 : Int)).toNat else min i.toNat 8) = _
        rw [if_neg (by omega)]; omega
      rw [e1, List.map_take]; rfl
    rw [show ([PV.str "p", .str "q", .str "r", .str "s", .str "t", .str "u", .str "vv", .str "w"] : List PV) = names8.map PV.str from rfl, k_sl_lst, e]
  generalize hP : ({ nx := wRet (wTup (wCons (wCall (p1 kTup) (wCons (wVar 4) wNil)) (wCons (wCall (p1 kTup) (wCons (wVar 6) wNil)) wNil))) (fin R Z), rt := gR R, ex := fun e x S' => zfg Z e S' } : PEnds) = P
  have core2 : ∀ (i : Int) (S5 : Sto), 0 ≤ i → i ≤ 8 → (0 < i → 2 ≤ ts.length) → HandAt a S5 → Off a S4 S5 → wForL (fun _ => True) (.nm 9) (w__law_parts_2 K) P ((names8.take i.toNat).map PV.str) [some (.ref a), some (.int m), some (.int f), some (.ref p), some q, x5, some (.ref r), some (.bl (decide (d = 0) != false)), some (.int low), none, none, none] S5 := by
    intro i S5 i0 i8 i2 h5 o5
    subst hP hq
    refine roads_loop har h5 (by rw [o5 r har]; exact gr4) tn ta tl (fun x hx => names8_ok.1 x (List.mem_of_mem_take hx)) (names8_ok.2.sublist (List.take_sublist _ _)) (by rw [List.length_take]; have : names8.length = 8 := rfl; omega) (fun hz => i2 (by
      refine Classical.byContradiction fun z => hz ?_
      rw [show i.toNat = 0 by omega, List.take_zero])) lo fun rs x9 x10 x11 S6 ok rl h6 gr6 off6 => ?_
    simp -implicitDefEqProofs only [↓e_ret, ↓e_retN, ↓e_nxt, ↓e_seq, ↓e_nev, ↓e_brk, ↓e_cnt, ↓e_expr, ↓e_ifs, ↓e_set, ↓e_asg, ↓par2_two, ↓e_par, ↓e_for, ↓e_setF, ↓e_put, ↓opt_some, ↓e_var, ↓e_c, ↓e_b, ↓e_1, ↓e_tst, ↓e_kB, ↓e_tru, ↓e_notT, ↓e_andT, ↓e_orT, ↓truK_bl, ↓e_andV, ↓e_orV, ↓e_notV, ↓e_if, ↓chK_bl, ↓e_ch, ↓e_nil, ↓e_cons, ↓e_tup, ↓e_lst, ↓e_lstF, ↓e_call, ↓e_arN, ↓e_p1, ↓e_p2, ↓e_meth, ↓e_bm, ↓e_fld, ↓e_lc, ↓e_dc, ↓e_it, ↓e_rng1, ↓e_rng2, ↓e_intB, ↓e_sl, ↓e_no, ↓e_so, ↓e_yes, ↓e_anm, ↓gs_0, ↓gs_s, ↓dr_int, ↓dr_str, ↓dr_bl, ↓dr_nn, ↓dr_tup, ↓dr_lst, ↓dr_dct, ↓dr_obj, ↓k_lt_int, ↓k_le_int, ↓k_gt_int, ↓k_ge_int, ↓k_lt_str, ↓k_add_int, ↓k_add_str, ↓k_add_tup, ↓k_add_lst, ↓k_sub, ↓k_mul, ↓k_div, ↓k_mod, ↓k_pow, ↓k_neg, ↓k_eq_int, ↓k_eq_str, ↓k_is_nn, ↓k_is_int, ↓k_is_tup, ↓k_is_obj, ↓k_ix_lst, ↓k_ix_tup, ↓k_ix_str, ↓k_ix_dct, ↓k_len_str, ↓k_len_lst, ↓k_len_tup, ↓k_int_int, ↓k_int_bl, ↓k_abs, ↓k_str_int, ↓k_str_str, ↓k_tup_lst, ↓k_it_str, ↓k_it_tup, ↓k_it_lst, ↓k_in_dct, ↓e_enum, ↓k_en_tup, ↓k_en_lst, ↓e_atp, ↓e_lcM, ↓par3_three, ↓e_lits, ↓e_par3, ↓e_rev, ↓e_dct0, ↓e_nevE, ↓e_raise1, ↓e_exF, ↓e_exI, ↓e_tryA, ↓k_rev_lst, ↓k_addM_lst, ↓k_max2, ↓k_min2, List.set_cons_zero, List.set_cons_succ, wipeP, k_tup_ref gr6]
    refine ⟨sz0 (by simp), gR_sub (S' := fun x => if x = p ∨ x = t ∨ x = r then none else S6 x) (fun x o e => ?_) (hR ts rs _ ok (by omega) rl ?_ fun x hx => ?_)⟩
    · have e : (if x = p ∨ x = t ∨ x = r then none else S6 x) = some o := e
      split at e
      · cases e
      · exact e
    · obtain ⟨c1, c2, c3, c4, c5, c6⟩ := h6
      refine ⟨c1, c2, c3, c4, c5, ?_⟩
      show (if a = p ∨ a = t ∨ a = r then none else S6 a) = _
      rw [if_neg (fun z => z.elim (fun z => hpa z.symm) fun z => z.elim (fun z => hta z.symm) fun z => har z.symm)]
      exact c6
    · show (if x = p ∨ x = t ∨ x = r then none else S6 x) = S x
      have chain : x ≠ r → x ≠ p → x ≠ t → S6 x = S x := fun g1 g2 g3 => by
        rw [off6 x hx g1, o5 x hx, o4 x hx, o3 x hx, updS_ne g1]; exact off2' x hx g2 g3
      split
      · rename_i c
        by_cases g2 : x = p
        · rw [g2]; exact hp.symm
        · by_cases g3 : x = t
          · rw [g3]; exact ht0.symm
          · have g1 : x = r := by
              rcases c with c | c | c
              · exact absurd c g2
              · exact absurd c g3
              · exact c
            rw [← off2' x hx g2 g3, g1]; exact hr.symm
      · rename_i c
        exact chain (fun z => c (.inr (.inr z))) (fun z => c (.inl z)) (fun z => c (.inr (.inl z)))
  by_cases h2t : 1 < (ts.length : Int)
  · rw [if_pos (decide_eq_true h2t)]
    refine ⟨rfl, t_draw h4 (by omega) (by omega) fun i S5 i0 i1 h5 o5 => ?_⟩
    simp -implicitDefEqProofs only [↓e_ret, ↓e_retN, ↓e_nxt, ↓e_seq, ↓e_nev, ↓e_brk, ↓e_cnt, ↓e_expr, ↓e_ifs, ↓e_set, ↓e_asg, ↓par2_two, ↓e_par, ↓e_for, ↓e_setF, ↓e_put, ↓opt_some, ↓e_var, ↓e_c, ↓e_b, ↓e_1, ↓e_tst, ↓e_kB, ↓e_tru, ↓e_notT, ↓e_andT, ↓e_orT, ↓truK_bl, ↓e_andV, ↓e_orV, ↓e_notV, ↓e_if, ↓chK_bl, ↓e_ch, ↓e_nil, ↓e_cons, ↓e_tup, ↓e_lst, ↓e_lstF, ↓e_call, ↓e_arN, ↓e_p1, ↓e_p2, ↓e_meth, ↓e_bm, ↓e_fld, ↓e_lc, ↓e_dc, ↓e_it, ↓e_rng1, ↓e_rng2, ↓e_intB, ↓e_sl, ↓e_no, ↓e_so, ↓e_yes, ↓e_anm, ↓gs_0, ↓gs_s, ↓dr_int, ↓dr_str, ↓dr_bl, ↓dr_nn, ↓dr_tup, ↓dr_lst, ↓dr_dct, ↓dr_obj, ↓k_lt_int, ↓k_le_int, ↓k_gt_int, ↓k_ge_int, ↓k_lt_str, ↓k_add_int, ↓k_add_str, ↓k_add_tup, ↓k_add_lst, ↓k_sub, ↓k_mul, ↓k_div, ↓k_mod, ↓k_pow, ↓k_neg, ↓k_eq_int, ↓k_eq_str, ↓k_is_nn, ↓k_is_int, ↓k_is_tup, ↓k_is_obj, ↓k_ix_lst, ↓k_ix_tup, ↓k_ix_str, ↓k_ix_dct, ↓k_len_str, ↓k_len_lst, ↓k_len_tup, ↓k_int_int, ↓k_int_bl, ↓k_abs, ↓k_str_int, ↓k_str_str, ↓k_tup_lst, ↓k_it_str, ↓k_it_tup, ↓k_it_lst, ↓k_in_dct, ↓e_enum, ↓k_en_tup, ↓k_en_lst, ↓e_atp, ↓e_lcM, ↓par3_three, ↓e_lits, ↓e_par3, ↓e_rev, ↓e_dct0, ↓e_nevE, ↓e_raise1, ↓e_exF, ↓e_exI, ↓e_tryA, ↓k_rev_lst, ↓k_addM_lst, ↓k_max2, ↓k_min2, List.set_cons_zero, List.set_cons_succ, wipeP]
    rw [ksl i _ _ i0 (by omega), k_it_lst]
    exact core2 i S5 i0 (by omega) (fun _ => by omega) h5 o5
  · rw [if_neg (by simpa using h2t), ksl 0 _ _ (by omega) (by omega), k_it_lst]
    exact core2 0 S4 (by omega) (by omega) (fun h => absurd h (by omega)) h4 fun _ _ => rfl

/-! ### a bent text -/
theorem cutS_len (x : Str) (lo hi : Option Int) : (cutS x lo hi).length ≤ x.length := by
  rw [TL.len_tl, TL.len_tl]
  show (List.take _ (List.drop _ x.cps.toList)).length ≤ x.cps.toList.length
  rw [List.length_take, List.length_drop]
  omega
def cost (os : List Str) : Nat := (os.map fun o => o.length + 1).sum
theorem cost_sub {xs ys : List Str} (h : xs.Sublist ys) : cost xs ≤ cost ys := by
  unfold cost
  induction h with
  | slnil => exact Nat.le_refl _
  | cons a _ ih => rw [List.map_cons, List.sum_cons]; omega
  | cons_cons a _ ih => rw [List.map_cons, List.map_cons, List.sum_cons, List.sum_cons]; omega
theorem cost_app (xs ys : List Str) : cost (xs ++ ys) = cost xs + cost ys := by
  unfold cost
  rw [List.map_append, List.sum_append]
theorem cost_rev : ∀ (xs : List Str), cost xs.reverse = cost xs
  | [] => rfl
  | a :: r => by
    rw [List.reverse_cons, cost_app, cost_rev r]
    unfold cost
    simp only [List.map_cons, List.sum_cons, List.map_nil, List.sum_nil]
    omega
theorem cost_len (xs : List Str) : xs.length ≤ cost xs := by
  unfold cost
  induction xs with
  | nil => exact Nat.le_refl _
  | cons a r ih => rw [List.map_cons, List.sum_cons, List.length_cons]; omega
theorem cost_eq (xs : List Str) : cost xs = (xs.map Str.length).sum + xs.length := by
  unfold cost
  induction xs with
  | nil => rfl
  | cons a r ih => rw [List.map_cons, List.sum_cons, List.map_cons, List.sum_cons, List.length_cons]; omega
theorem cost_mem {xs : List Str} {x : Str} (h : x ∈ xs) : x.length + 1 ≤ cost xs := le_sum (List.mem_map_of_mem (f := fun o : Str => o.length + 1) h)
theorem cut_strs (ls : List Str) (lo hi : Option Int) : ∃ ms : List Str, cutP (ls.map PV.str) lo hi = ms.map PV.str ∧ ms.Sublist ls := by
  unfold cutP
  exact ⟨_, by rw [← List.map_drop, ← List.map_take], (List.take_sublist _ _).trans (List.drop_sublist _ _)⟩
theorem k_join_nl {S : Sto} {R : RK} {os : List Str} (h : cost os ≤ 1000000) (hR : R (.str (Txt.join "" (os.map fun o : Str => (o ++ "\n" : Str)))) S) : kJoin (.str "") [.lst ((os.map fun o : Str => (o ++ "\n" : Str)).map PV.str)] S R := by
  rw [k_join (ys := os.map fun o : Str => (o ++ "\n" : Str)) rfl]
  refine ⟨?_, hR⟩
  have e : ((os.map fun o : Str => (o ++ "\n" : Str)).map Str.length).sum = cost os := by
    unfold cost
    rw [List.map_map]
    congr 1
    exact List.map_congr_left fun o _ => by show (o ++ "\n").length = _; rw [app_len, len_nl]
  rw [e, len_e]; omega
theorem join_nl_len (os : List Str) : (Txt.join "" (os.map fun o : Str => (o ++ "\n" : Str))).length ≤ cost os := by
  have h := join_len "" (os.map fun o : Str => (o ++ "\n" : Str))
  have e : ((os.map fun o : Str => (o ++ "\n" : Str)).map Str.length).sum = cost os := by
    unfold cost
    rw [List.map_map]
    congr 1
    exact List.map_congr_left fun o _ => by show (o ++ "\n").length = _; rw [app_len, len_nl]
  rw [e, len_e] at h; omega
def bentE (K : PySem.W.Frag) : WS := wSeq (wFor (wIt (wTup (wCons (wVar 9) (wCons (wVar 10) (wCons (wB kAdd (wSl (wVar 3) (wNo) (wSo (wVar 4))) (wSl (wVar 3) (wSo (wB kAdd (wVar 4) (wC (.int 1)))) (wNo))) (wCons (wB kAdd (wVar 3) (wSl (wVar 3) (wSo (wVar 5)) (wNo))) (wNil))))))) (.nm 11) (w__law_bent_2 K)) (wRet (wCall (arN 2 (sp__law_any K)) (wCons (wVar 0) (wCons (wVar 8) (wNil)))))
def bentD (K : PySem.W.Frag) : WS := wSeq (wSet 10 (wB kAdd (wSl (wVar 3) (wNo) (wSo (wVar 4))) (wRev (wSl (wVar 3) (wSo (wVar 4)) (wNo))))) (bentE K)
def bentC (K : PySem.W.Frag) : WS := wSeq (wSet 9 (wB kAdd (wB kAdd (wSl (wVar 3) (wNo) (wSo (wVar 4))) (wLstF (wCons (wVar 7) (wNil)))) (wSl (wVar 3) (wSo (wVar 4)) (wNo)))) (bentD K)
def bentB (K : PySem.W.Frag) : WS := wSeq (wSet 8 (wB kAddM (wVar 8) (wLstF (wCons (wB kAdd (wB kAdd (wSl (wVar 1) (wNo) (wSo (wVar 2))) (wVar 6)) (wSl (wVar 1) (wSo (wB kAdd (wVar 2) (wC (.int 1)))) (wNo))) (wNil))))) (bentC K)
def bentA (K : PySem.W.Frag) : WS := wSeq (wSet 8 (wLstF (wCons (wB kAdd (wB kAdd (wSl (wVar 1) (wNo) (wSo (wVar 2))) (wVar 6)) (wSl (wVar 1) (wSo (wVar 2)) (wNo))) (wCons (wB kAdd (wSl (wVar 1) (wNo) (wSo (wVar 2))) (wSl (wVar 1) (wSo (wB kAdd (wVar 2) (wC (.int 1)))) (wNo))) (wCons (wSl (wVar 1) (wNo) (wSo (w1 kNeg (wC (.int 1))))) (wCons (wB kAdd (wVar 1) (wVar 6)) (wNil))))))) (bentB K)
def bt4 (K : PySem.W.Frag) : WS := wSeq (wSet 7 (wCall (arN 2 (sp__law_any K)) (wCons (wVar 0) (wCons (wVar 7) (wNil))))) (bentA K)
def bt3 (K : PySem.W.Frag) : WS := wSeq (wSet 7 (wLstF (wLits [.str "town a", .str "town zz", .str "town", .str "road p a b 1 1", .str "road zz a a 1 1", .str "road zz a b 1001 1", .str "", .str "net"]))) (bt4 K)
def bt2 (K : PySem.W.Frag) : WS := wSeq (wSet 6 (wCall (arN 2 (sp__law_any K)) (wCons (wVar 0) (wCons (wLstF (wLits [.str " ", .str "\n", .str "a", .str "-", .str "0", .str "9", .str "A", .str "town a\n", .str "road z a b 1 1\n", .str "  ", .str "~", .str "-0", .str "00"])) (wNil))))) (bt3 K)
def bt1 (K : PySem.W.Frag) : WS := wSeq (wPar 4 5 (wCons (wCall (arN 2 (sp__law_draw K)) (wCons (wVar 0) (wCons (wB kAdd (wCall (p1 kLen) (wCons (wVar 3) (wNil))) (wC (.int 1))) (wNil)))) (wCons (wCall (arN 2 (sp__law_draw K)) (wCons (wVar 0) (wCons (wB kAdd (wCall (p1 kLen) (wCons (wVar 3) (wNil))) (wC (.int 1))) (wNil)))) (wNil)))) (bt2 K)
theorem bent_cut (K : PySem.W.Frag) : w__law_bent K = wSeq (wPar 2 3 (wCons (wCall (arN 2 (sp__law_draw K)) (wCons (wVar 0) (wCons (wB kAdd (wCall (p1 kLen) (wCons (wVar 1) (wNil))) (wC (.int 1))) (wNil)))) (wCons (wSl (wBM "str" kSplit (wVar 1) (wCons (wC (.str "\n")) (wNil))) (wNo) (wSo (w1 kNeg (wC (.int 1))))) (wNil)))) (bt1 K) := rfl
def signs13 : List Str := (" " : Str) :: ("\n" : Str) :: ("a" : Str) :: ("-" : Str) :: ("0" : Str) :: ("9" : Str) :: ("A" : Str) :: ("town a\n" : Str) :: ("road z a b 1 1\n" : Str) :: ("  " : Str) :: ("~" : Str) :: ("-0" : Str) :: ("00" : Str) :: []
def lines8 : List Str := ("town a" : Str) :: ("town zz" : Str) :: ("town" : Str) :: ("road p a b 1 1" : Str) :: ("road zz a a 1 1" : Str) :: ("road zz a b 1001 1" : Str) :: ("" : Str) :: ("net" : Str) :: []
theorem signs13_len : ∀ s ∈ signs13, s.length ≤ 15 := fun s hs => by
  have : signs13.all (fun s => decide (s.length ≤ 15)) = true := by decide +kernel
  exact of_decide_eq_true (List.all_eq_true.mp this s hs)
theorem lines8_len : ∀ s ∈ lines8, s.length ≤ 18 := fun s hs => by
  have : lines8.all (fun s => decide (s.length ≤ 18)) = true := by decide +kernel
  exact of_decide_eq_true (List.all_eq_true.mp this s hs)
/-- the last loop -/
theorem bent_end {K : PySem.W.Frag} {R : RK} {Z : ZK} {a r : Addr} {S0 S : Sto} {x s l : Str} {at_ place to : Int} {q : PV} {ls rows swp : List Str} {ss : List Str} (har : r ≠ a) (hr0 : S0 r = none) (hh : HandAt a S) (hr : S r = some (.lst (ss.map PV.str))) (hq : q = .lst (ls.map PV.str)) (hz : x.length ≤ 20000)
    (hlc : cost ls ≤ x.length + 1) (hss : ∀ y ∈ ss, y.length ≤ 2 * x.length + 40) (hsl : ss.length = 5) (hrows : cost rows ≤ 2 * x.length + 40) (hswp : cost swp ≤ 2 * x.length + 40) (off : ∀ y, y ≠ a → y ≠ r → S y = S0 y)
    (hR : ∀ y S', y.length ≤ 2 * x.length + 40 → HandAt a S' → (∀ y, y ≠ a → y ≠ r → S' y = S0 y) → gR R (.str y) S') :
    bentE K (fin R Z) [some (.ref a), some (.str x), some (.int at_), some q, some (.int place), some (.int to), some (.str s), some (.str l), some (.ref r), some (.lst (rows.map PV.str)), some (.lst (swp.map PV.str)), none, none] S := by
  have sl : ∀ (lo hi : Option Int), ∃ ms : List Str, (∀ (S : Sto) (R' : RK), kSl q lo hi S R' = R' (.lst (ms.map PV.str)) S) ∧ ms.Sublist ls := fun lo hi => by
    obtain ⟨ms, h1, h2⟩ := cut_strs ls lo hi
    exact ⟨ms, fun S R' => by rw [hq, k_sl_lst, h1], h2⟩
  have add : ∀ (xs ys : List Str) (S : Sto) (R' : RK), kAdd (.lst (xs.map PV.str)) (.lst (ys.map PV.str)) S R' = (xs.length + ys.length ≤ sizeLine ∧ R' (.lst ((xs ++ ys).map PV.str)) S) := fun xs ys S R' => by
    rw [k_add_lst, List.length_map, List.length_map, List.map_append]
  obtain ⟨m1, e1, c1⟩ := sl none (some place)
  obtain ⟨m2, e2, c2⟩ := sl (some (place + 1)) none
  obtain ⟨m3, e3, c3⟩ := sl (some to) none
  have b1 := cost_sub c1
  have b2 := cost_sub c2
  have b3 := cost_sub c3
  have l1 := cost_len m1
  have l2 := cost_len m2
  have l3 := cost_len m3
  have l0 := cost_len ls
  have addq : ∀ (ys : List Str) (S : Sto) (R' : RK), kAdd q (.lst (ys.map PV.str)) S R' = (ls.length + ys.length ≤ sizeLine ∧ R' (.lst ((ls ++ ys).map PV.str)) S) := fun ys S R' => by rw [hq, add]
  unfold bentE
  rw [e_seq]
  generalize hP : ({ nx := wRet (wCall (arN 2 (sp__law_any K)) (wCons (wVar 0) (wCons (wVar 8) (wNil)))) (fin R Z), rt := gR R, ex := fun e x S' => zfg Z e S' } : PEnds) = P
  simp -implicitDefEqProofs only [↓e_ret, ↓e_retN, ↓e_nxt, ↓e_seq, ↓e_nev, ↓e_brk, ↓e_cnt, ↓e_expr, ↓e_ifs, ↓e_set, ↓e_asg, ↓par2_two, ↓e_par, ↓e_for, ↓e_setF, ↓e_put, ↓opt_some, ↓e_var, ↓e_c, ↓e_b, ↓e_1, ↓e_tst, ↓e_kB, ↓e_tru, ↓e_notT, ↓e_andT, ↓e_orT, ↓truK_bl, ↓e_andV, ↓e_orV, ↓e_notV, ↓e_if, ↓chK_bl, ↓e_ch, ↓e_nil, ↓e_cons, ↓e_tup, ↓e_lst, ↓e_lstF, ↓e_call, ↓e_arN, ↓e_p1, ↓e_p2, ↓e_meth, ↓e_bm, ↓e_fld, ↓e_lc, ↓e_dc, ↓e_it, ↓e_rng1, ↓e_rng2, ↓e_intB, ↓e_sl, ↓e_no, ↓e_so, ↓e_yes, ↓e_anm, ↓gs_0, ↓gs_s, ↓dr_int, ↓dr_str, ↓dr_bl, ↓dr_nn, ↓dr_tup, ↓dr_lst, ↓dr_dct, ↓dr_obj, ↓k_lt_int, ↓k_le_int, ↓k_gt_int, ↓k_ge_int, ↓k_lt_str, ↓k_add_int, ↓k_add_str, ↓k_add_tup, ↓k_add_lst, ↓k_sub, ↓k_mul, ↓k_div, ↓k_mod, ↓k_pow, ↓k_neg, ↓k_eq_int, ↓k_eq_str, ↓k_is_nn, ↓k_is_int, ↓k_is_tup, ↓k_is_obj, ↓k_ix_lst, ↓k_ix_tup, ↓k_ix_str, ↓k_ix_dct, ↓k_len_str, ↓k_len_lst, ↓k_len_tup, ↓k_int_int, ↓k_int_bl, ↓k_abs, ↓k_str_int, ↓k_str_str, ↓k_tup_lst, ↓k_it_str, ↓k_it_tup, ↓k_it_lst, ↓k_in_dct, ↓e_enum, ↓k_en_tup, ↓k_en_lst, ↓e_atp, ↓e_lcM, ↓par3_three, ↓e_lits, ↓e_par3, ↓e_rev, ↓e_dct0, ↓e_nevE, ↓e_raise1, ↓e_exF, ↓e_exI, ↓e_tryA, ↓k_rev_lst, ↓k_addM_lst, ↓k_max2, ↓k_min2, List.set_cons_zero, List.set_cons_succ, wipeP, ↓e1, ↓e2, ↓e3, ↓add, ↓addq]
  refine ⟨by rw [sizeLine_eq]; omega, by rw [sizeLine_eq]; omega, sz0 (by simp), ?_⟩
  have hit : ([PV.lst (rows.map PV.str), .lst (swp.map PV.str), .lst ((m1 ++ m2).map PV.str), .lst ((ls ++ m3).map PV.str)] : List PV) = [rows, swp, m1 ++ m2, ls ++ m3].map fun os => PV.lst (os.map PV.str) := rfl
  rw [hit]
  refine wForL_inv (fun os : List Str => PV.lst (os.map PV.str)) (fun rest ρ S' => (∀ os ∈ rest, cost os ≤ 2 * x.length + 40) ∧ ∃ ss : List Str, ss.length + rest.length = 9 ∧ (∀ y ∈ ss, y.length ≤ 2 * x.length + 40) ∧ HandAt a S' ∧ S' r = some (.lst (ss.map PV.str)) ∧ (∀ y, y ≠ a → y ≠ r → S' y = S0 y) ∧
      ∃ y11 y12, ρ = [some (.ref a), some (.str x), some (.int at_), some q, some (.int place), some (.int to), some (.str s), some (.str l), some (.ref r), some (.lst (rows.map PV.str)), some (.lst (swp.map PV.str)), y11, y12])
    (fun os rest ρ S' ⟨hc, ss, hl, hb, g1, g2, g3, y11, y12, er⟩ => ⟨trivial, fun N hN => ?_⟩) (fun ρ S' ⟨hc, ss, hl, hb, g1, g2, g3, y11, y12, er⟩ => ⟨trivial, ?_⟩) [rows, swp, m1 ++ m2, ls ++ m3] _ S
    ⟨fun os ho => ?_, ss, by rw [hsl]; rfl, hss, hh, hr, off, none, none, rfl⟩
  · subst er
    have hco := hc os List.mem_cons_self
    have hlo := cost_len os
    rw [List.length_cons] at hl
    simp -implicitDefEqProofs only [w__law_bent_2, ↓e_ret, ↓e_retN, ↓e_nxt, ↓e_seq, ↓e_nev, ↓e_brk, ↓e_cnt, ↓e_expr, ↓e_ifs, ↓e_set, ↓e_asg, ↓par2_two, ↓e_par, ↓e_for, ↓e_setF, ↓e_put, ↓opt_some, ↓e_var, ↓e_c, ↓e_b, ↓e_1, ↓e_tst, ↓e_kB, ↓e_tru, ↓e_notT, ↓e_andT, ↓e_orT, ↓truK_bl, ↓e_andV, ↓e_orV, ↓e_notV, ↓e_if, ↓chK_bl, ↓e_ch, ↓e_nil, ↓e_cons, ↓e_tup, ↓e_lst, ↓e_lstF, ↓e_call, ↓e_arN, ↓e_p1, ↓e_p2, ↓e_meth, ↓e_bm, ↓e_fld, ↓e_lc, ↓e_dc, ↓e_it, ↓e_rng1, ↓e_rng2, ↓e_intB, ↓e_sl, ↓e_no, ↓e_so, ↓e_yes, ↓e_anm, ↓gs_0, ↓gs_s, ↓dr_int, ↓dr_str, ↓dr_bl, ↓dr_nn, ↓dr_tup, ↓dr_lst, ↓dr_dct, ↓dr_obj, ↓k_lt_int, ↓k_le_int, ↓k_gt_int, ↓k_ge_int, ↓k_lt_str, ↓k_add_int, ↓k_add_str, ↓k_add_tup, ↓k_add_lst, ↓k_sub, ↓k_mul, ↓k_div, ↓k_mod, ↓k_pow, ↓k_neg, ↓k_eq_int, ↓k_eq_str, ↓k_is_nn, ↓k_is_int, ↓k_is_tup, ↓k_is_obj, ↓k_ix_lst, ↓k_ix_tup, ↓k_ix_str, ↓k_ix_dct, ↓k_len_str, ↓k_len_lst, ↓k_len_tup, ↓k_int_int, ↓k_int_bl, ↓k_abs, ↓k_str_int, ↓k_str_str, ↓k_tup_lst, ↓k_it_str, ↓k_it_tup, ↓k_it_lst, ↓k_in_dct, ↓e_enum, ↓k_en_tup, ↓k_en_lst, ↓e_atp, ↓e_lcM, ↓par3_three, ↓e_lits, ↓e_par3, ↓e_rev, ↓e_dct0, ↓e_nevE, ↓e_raise1, ↓e_exF, ↓e_exI, ↓e_tryA, ↓k_rev_lst, ↓k_addM_lst, ↓k_max2, ↓k_min2, List.set_cons_zero, List.set_cons_succ, wipeP]
    refine ⟨by rw [k_tyB_ref g2]; trivial, rfl, ?_⟩
    have hos : os.length ≤ sizeLine := by rw [sizeLine_eq]; omega
    refine wLcL_allM (ok := fun _ => True) PV.str (fun o : Str => PV.str (o ++ "\n" : Str)) trivial os (fun o ho R' hR' => ?_) hos ?_
    · simp -implicitDefEqProofs only [w__law_bent_1, ↓e_ret, ↓e_retN, ↓e_nxt, ↓e_seq, ↓e_nev, ↓e_brk, ↓e_cnt, ↓e_expr, ↓e_ifs, ↓e_set, ↓e_asg, ↓par2_two, ↓e_par, ↓e_for, ↓e_setF, ↓e_put, ↓opt_some, ↓e_var, ↓e_c, ↓e_b, ↓e_1, ↓e_tst, ↓e_kB, ↓e_tru, ↓e_notT, ↓e_andT, ↓e_orT, ↓truK_bl, ↓e_andV, ↓e_orV, ↓e_notV, ↓e_if, ↓chK_bl, ↓e_ch, ↓e_nil, ↓e_cons, ↓e_tup, ↓e_lst, ↓e_lstF, ↓e_call, ↓e_arN, ↓e_p1, ↓e_p2, ↓e_meth, ↓e_bm, ↓e_fld, ↓e_lc, ↓e_dc, ↓e_it, ↓e_rng1, ↓e_rng2, ↓e_intB, ↓e_sl, ↓e_no, ↓e_so, ↓e_yes, ↓e_anm, ↓gs_0, ↓gs_s, ↓dr_int, ↓dr_str, ↓dr_bl, ↓dr_nn, ↓dr_tup, ↓dr_lst, ↓dr_dct, ↓dr_obj, ↓k_lt_int, ↓k_le_int, ↓k_gt_int, ↓k_ge_int, ↓k_lt_str, ↓k_add_int, ↓k_add_str, ↓k_add_tup, ↓k_add_lst, ↓k_sub, ↓k_mul, ↓k_div, ↓k_mod, ↓k_pow, ↓k_neg, ↓k_eq_int, ↓k_eq_str, ↓k_is_nn, ↓k_is_int, ↓k_is_tup, ↓k_is_obj, ↓k_ix_lst, ↓k_ix_tup, ↓k_ix_str, ↓k_ix_dct, ↓k_len_str, ↓k_len_lst, ↓k_len_tup, ↓k_int_int, ↓k_int_bl, ↓k_abs, ↓k_str_int, ↓k_str_str, ↓k_tup_lst, ↓k_it_str, ↓k_it_tup, ↓k_it_lst, ↓k_in_dct, ↓e_enum, ↓k_en_tup, ↓k_en_lst, ↓e_atp, ↓e_lcM, ↓par3_three, ↓e_lits, ↓e_par3, ↓e_rev, ↓e_dct0, ↓e_nevE, ↓e_raise1, ↓e_exF, ↓e_exI, ↓e_tryA, ↓k_rev_lst, ↓k_addM_lst, ↓k_max2, ↓k_min2, List.set_cons_zero, List.set_cons_succ, wipeP]
      refine ⟨?_, hR'⟩
      have := cost_mem ho
      rw [len_nl, sizeLine_eq]; omega
    have hm : (os.map fun o : Str => PV.str (o ++ "\n" : Str)) = (os.map fun o : Str => (o ++ "\n" : Str)).map PV.str := by rw [List.map_map]; rfl
    rw [hm]
    refine k_join_nl (by omega) ?_
    rw [k_app g2]
    refine ⟨sz0 (by rw [List.length_map]; omega), hN _ _ ⟨fun o ho => hc o (List.mem_cons_of_mem _ ho), ss ++ [Txt.join "" (os.map fun o : Str => (o ++ "\n" : Str))], by rw [List.length_append, List.length_singleton]; omega, fun y hy => ?_, g1.upd har, by rw [updS_same, List.map_append]; rfl, fun y h1 h2 => by rw [updS_ne h2]; exact g3 y h1 h2, _, _, rfl⟩⟩
    rcases List.mem_append.mp hy with hy | hy
    · exact hb y hy
    · rw [List.mem_singleton.mp hy]
      exact Nat.le_trans (join_nl_len os) hco
  · subst er hP
    rw [List.length_nil] at hl
    simp -implicitDefEqProofs only [↓e_ret, ↓e_retN, ↓e_nxt, ↓e_seq, ↓e_nev, ↓e_brk, ↓e_cnt, ↓e_expr, ↓e_ifs, ↓e_set, ↓e_asg, ↓par2_two, ↓e_par, ↓e_for, ↓e_setF, ↓e_put, ↓opt_some, ↓e_var, ↓e_c, ↓e_b, ↓e_1, ↓e_tst, ↓e_kB, ↓e_tru, ↓e_notT, ↓e_andT, ↓e_orT, ↓truK_bl, ↓e_andV, ↓e_orV, ↓e_notV, ↓e_if, ↓chK_bl, ↓e_ch, ↓e_nil, ↓e_cons, ↓e_tup, ↓e_lst, ↓e_lstF, ↓e_call, ↓e_arN, ↓e_p1, ↓e_p2, ↓e_meth, ↓e_bm, ↓e_fld, ↓e_lc, ↓e_dc, ↓e_it, ↓e_rng1, ↓e_rng2, ↓e_intB, ↓e_sl, ↓e_no, ↓e_so, ↓e_yes, ↓e_anm, ↓gs_0, ↓gs_s, ↓dr_int, ↓dr_str, ↓dr_bl, ↓dr_nn, ↓dr_tup, ↓dr_lst, ↓dr_dct, ↓dr_obj, ↓k_lt_int, ↓k_le_int, ↓k_gt_int, ↓k_ge_int, ↓k_lt_str, ↓k_add_int, ↓k_add_str, ↓k_add_tup, ↓k_add_lst, ↓k_sub, ↓k_mul, ↓k_div, ↓k_mod, ↓k_pow, ↓k_neg, ↓k_eq_int, ↓k_eq_str, ↓k_is_nn, ↓k_is_int, ↓k_is_tup, ↓k_is_obj, ↓k_ix_lst, ↓k_ix_tup, ↓k_ix_str, ↓k_ix_dct, ↓k_len_str, ↓k_len_lst, ↓k_len_tup, ↓k_int_int, ↓k_int_bl, ↓k_abs, ↓k_str_int, ↓k_str_str, ↓k_tup_lst, ↓k_it_str, ↓k_it_tup, ↓k_it_lst, ↓k_in_dct, ↓e_enum, ↓k_en_tup, ↓k_en_lst, ↓e_atp, ↓e_lcM, ↓par3_three, ↓e_lits, ↓e_par3, ↓e_rev, ↓e_dct0, ↓e_nevE, ↓e_raise1, ↓e_exF, ↓e_exI, ↓e_tryA, ↓k_rev_lst, ↓k_addM_lst, ↓k_max2, ↓k_min2, List.set_cons_zero, List.set_cons_succ, wipeP]
    refine ⟨rfl, t_anyR har g2 g1 (by rw [List.length_map]; omega) (by rw [List.length_map]; omega) fun y hy S2 h2 o2 => ?_⟩
    obtain ⟨z, hz', rfl⟩ := List.mem_map.mp hy
    exact hR z S2 (hb z hz') h2 fun y h1 h2 => by rw [o2 y h1]; exact g3 y h1 h2
  · simp only [List.mem_cons, List.not_mem_nil, or_false] at ho
    rcases ho with rfl | rfl | rfl | rfl
    · exact hrows
    · exact hswp
    · rw [cost_app]; omega
    · rw [cost_app]; omega
theorem pure__law_bent (K : PySem.W.Frag) : ∀ ps S R Z, ps.length = 2 → sp__law_bent K ps S R Z → w__law_bent K (fin R Z) (startP n__law_bent ps) S := by
  intro ps S R Z hl h
  obtain ⟨a, x, rfl, hS, hz, hR⟩ := h
  have e : startP n__law_bent [.ref a, .str x] = [some (.ref a), some (.str x), none, none, none, none, none, none, none, none, none, none, none] := rfl
  rw [e, bent_cut]
  have hz1 : x.length ≤ sizeLine := by rw [sizeLine_eq]; omega
  obtain ⟨ls, hq, hls, hlc⟩ : ∃ ls : List Str, (∀ (S : Sto) (R' : RK), kSl (.lst ((Txt.split x "\n").map PV.str)) none (some (-1)) S R' = R' (.lst (ls.map PV.str)) S) ∧ ls.length ≤ x.length + 1 ∧ cost ls ≤ x.length + 1 := by
    refine ⟨(Txt.split x "\n").dropLast, fun S R' => by rw [k_sl_lst, cut_last, List.map_dropLast], ?_, ?_⟩
    · have := split_num (x := x) tl_nl nl_k
      rw [List.length_dropLast]; omega
    · have h1 := split_sum (x := x) tl_nl nl_k
      rw [← cost_eq] at h1
      have h2 := cost_sub (List.dropLast_sublist (Txt.split x "\n"))
      omega
  obtain ⟨q0, hq0⟩ : ∃ q, q = PV.lst ((Txt.split x "\n").map PV.str) := ⟨_, rfl⟩
  rw [← hq0] at hq
  have ks : ∀ (S : Sto) (R' : RK), kSplit (.str x) [.str "\n"] S R' = ((("\n" : Str).length == 0) = false ∧ x.length + 2 ≤ sizeLine ∧ R' q0 S) := fun _ _ => by rw [hq0]; rfl
  obtain ⟨q, hql⟩ : ∃ q, q = PV.lst (ls.map PV.str) := ⟨_, rfl⟩
  rw [← hql] at hq
  have l2 : ∀ (S : Sto) (R' : RK), kLen q S R' = R' (.int ls.length) S := fun S R' => by rw [hql, k_len_lst, List.length_map]
  have sl : ∀ (lo hi : Option Int), ∃ ms : List Str, (∀ (S : Sto) (R' : RK), kSl q lo hi S R' = R' (.lst (ms.map PV.str)) S) ∧ ms.Sublist ls := fun lo hi => by
    obtain ⟨ms, h1, h2⟩ := cut_strs ls lo hi
    exact ⟨ms, fun S R' => by rw [hql, k_sl_lst, h1], h2⟩
  have add : ∀ (xs ys : List Str) (S : Sto) (R' : RK), kAdd (.lst (xs.map PV.str)) (.lst (ys.map PV.str)) S R' = (xs.length + ys.length ≤ sizeLine ∧ R' (.lst ((xs ++ ys).map PV.str)) S) := fun xs ys S R' => by
    rw [k_add_lst, List.length_map, List.length_map, List.map_append]
  simp -implicitDefEqProofs only [↓e_ret, ↓e_retN, ↓e_nxt, ↓e_seq, ↓e_nev, ↓e_brk, ↓e_cnt, ↓e_expr, ↓e_ifs, ↓e_set, ↓e_asg, ↓par2_two, ↓e_par, ↓e_for, ↓e_setF, ↓e_put, ↓opt_some, ↓e_var, ↓e_c, ↓e_b, ↓e_1, ↓e_tst, ↓e_kB, ↓e_tru, ↓e_notT, ↓e_andT, ↓e_orT, ↓truK_bl, ↓e_andV, ↓e_orV, ↓e_notV, ↓e_if, ↓chK_bl, ↓e_ch, ↓e_nil, ↓e_cons, ↓e_tup, ↓e_lst, ↓e_lstF, ↓e_call, ↓e_arN, ↓e_p1, ↓e_p2, ↓e_meth, ↓e_bm, ↓e_fld, ↓e_lc, ↓e_dc, ↓e_it, ↓e_rng1, ↓e_rng2, ↓e_intB, ↓e_sl, ↓e_no, ↓e_so, ↓e_yes, ↓e_anm, ↓gs_0, ↓gs_s, ↓dr_int, ↓dr_str, ↓dr_bl, ↓dr_nn, ↓dr_tup, ↓dr_lst, ↓dr_dct, ↓dr_obj, ↓k_lt_int, ↓k_le_int, ↓k_gt_int, ↓k_ge_int, ↓k_lt_str, ↓k_add_int, ↓k_add_str, ↓k_add_tup, ↓k_add_lst, ↓k_sub, ↓k_mul, ↓k_div, ↓k_mod, ↓k_pow, ↓k_neg, ↓k_eq_int, ↓k_eq_str, ↓k_is_nn, ↓k_is_int, ↓k_is_tup, ↓k_is_obj, ↓k_ix_lst, ↓k_ix_tup, ↓k_ix_str, ↓k_ix_dct, ↓k_len_str, ↓k_len_lst, ↓k_len_tup, ↓k_int_int, ↓k_int_bl, ↓k_abs, ↓k_str_int, ↓k_str_str, ↓k_tup_lst, ↓k_it_str, ↓k_it_tup, ↓k_it_lst, ↓k_in_dct, ↓e_enum, ↓k_en_tup, ↓k_en_lst, ↓e_atp, ↓e_lcM, ↓par3_three, ↓e_lits, ↓e_par3, ↓e_rev, ↓e_dct0, ↓e_nevE, ↓e_raise1, ↓e_exF, ↓e_exI, ↓e_tryA, ↓k_rev_lst, ↓k_addM_lst, ↓k_max2, ↓k_min2, List.set_cons_zero, List.set_cons_succ, wipeP, ↓ks, ↓hq, ↓l2]
  refine ⟨hz1, rfl, t_draw hS (by omega) (by omega) fun at_ S1 _ _ h1 o1 => ⟨rfl, by rw [len_nl]; rfl, by rw [sizeLine_eq]; omega, ?_⟩⟩
  unfold bt1
  simp -implicitDefEqProofs only [↓e_ret, ↓e_retN, ↓e_nxt, ↓e_seq, ↓e_nev, ↓e_brk, ↓e_cnt, ↓e_expr, ↓e_ifs, ↓e_set, ↓e_asg, ↓par2_two, ↓e_par, ↓e_for, ↓e_setF, ↓e_put, ↓opt_some, ↓e_var, ↓e_c, ↓e_b, ↓e_1, ↓e_tst, ↓e_kB, ↓e_tru, ↓e_notT, ↓e_andT, ↓e_orT, ↓truK_bl, ↓e_andV, ↓e_orV, ↓e_notV, ↓e_if, ↓chK_bl, ↓e_ch, ↓e_nil, ↓e_cons, ↓e_tup, ↓e_lst, ↓e_lstF, ↓e_call, ↓e_arN, ↓e_p1, ↓e_p2, ↓e_meth, ↓e_bm, ↓e_fld, ↓e_lc, ↓e_dc, ↓e_it, ↓e_rng1, ↓e_rng2, ↓e_intB, ↓e_sl, ↓e_no, ↓e_so, ↓e_yes, ↓e_anm, ↓gs_0, ↓gs_s, ↓dr_int, ↓dr_str, ↓dr_bl, ↓dr_nn, ↓dr_tup, ↓dr_lst, ↓dr_dct, ↓dr_obj, ↓k_lt_int, ↓k_le_int, ↓k_gt_int, ↓k_ge_int, ↓k_lt_str, ↓k_add_int, ↓k_add_str, ↓k_add_tup, ↓k_add_lst, ↓k_sub, ↓k_mul, ↓k_div, ↓k_mod, ↓k_pow, ↓k_neg, ↓k_eq_int, ↓k_eq_str, ↓k_is_nn, ↓k_is_int, ↓k_is_tup, ↓k_is_obj, ↓k_ix_lst, ↓k_ix_tup, ↓k_ix_str, ↓k_ix_dct, ↓k_len_str, ↓k_len_lst, ↓k_len_tup, ↓k_int_int, ↓k_int_bl, ↓k_abs, ↓k_str_int, ↓k_str_str, ↓k_tup_lst, ↓k_it_str, ↓k_it_tup, ↓k_it_lst, ↓k_in_dct, ↓e_enum, ↓k_en_tup, ↓k_en_lst, ↓e_atp, ↓e_lcM, ↓par3_three, ↓e_lits, ↓e_par3, ↓e_rev, ↓e_dct0, ↓e_nevE, ↓e_raise1, ↓e_exF, ↓e_exI, ↓e_tryA, ↓k_rev_lst, ↓k_addM_lst, ↓k_max2, ↓k_min2, List.set_cons_zero, List.set_cons_succ, wipeP, ↓l2]
  refine ⟨rfl, t_draw h1 (by omega) (by omega) fun place S2 _ _ h2 o2 => ⟨rfl, t_draw h2 (by omega) (by omega) fun to S3 _ _ h3 o3 => ?_⟩⟩
  unfold bt2
  simp -implicitDefEqProofs only [↓e_ret, ↓e_retN, ↓e_nxt, ↓e_seq, ↓e_nev, ↓e_brk, ↓e_cnt, ↓e_expr, ↓e_ifs, ↓e_set, ↓e_asg, ↓par2_two, ↓e_par, ↓e_for, ↓e_setF, ↓e_put, ↓opt_some, ↓e_var, ↓e_c, ↓e_b, ↓e_1, ↓e_tst, ↓e_kB, ↓e_tru, ↓e_notT, ↓e_andT, ↓e_orT, ↓truK_bl, ↓e_andV, ↓e_orV, ↓e_notV, ↓e_if, ↓chK_bl, ↓e_ch, ↓e_nil, ↓e_cons, ↓e_tup, ↓e_lst, ↓e_lstF, ↓e_call, ↓e_arN, ↓e_p1, ↓e_p2, ↓e_meth, ↓e_bm, ↓e_fld, ↓e_lc, ↓e_dc, ↓e_it, ↓e_rng1, ↓e_rng2, ↓e_intB, ↓e_sl, ↓e_no, ↓e_so, ↓e_yes, ↓e_anm, ↓gs_0, ↓gs_s, ↓dr_int, ↓dr_str, ↓dr_bl, ↓dr_nn, ↓dr_tup, ↓dr_lst, ↓dr_dct, ↓dr_obj, ↓k_lt_int, ↓k_le_int, ↓k_gt_int, ↓k_ge_int, ↓k_lt_str, ↓k_add_int, ↓k_add_str, ↓k_add_tup, ↓k_add_lst, ↓k_sub, ↓k_mul, ↓k_div, ↓k_mod, ↓k_pow, ↓k_neg, ↓k_eq_int, ↓k_eq_str, ↓k_is_nn, ↓k_is_int, ↓k_is_tup, ↓k_is_obj, ↓k_ix_lst, ↓k_ix_tup, ↓k_ix_str, ↓k_ix_dct, ↓k_len_str, ↓k_len_lst, ↓k_len_tup, ↓k_int_int, ↓k_int_bl, ↓k_abs, ↓k_str_int, ↓k_str_str, ↓k_tup_lst, ↓k_it_str, ↓k_it_tup, ↓k_it_lst, ↓k_in_dct, ↓e_enum, ↓k_en_tup, ↓k_en_lst, ↓e_atp, ↓e_lcM, ↓par3_three, ↓e_lits, ↓e_par3, ↓e_rev, ↓e_dct0, ↓e_nevE, ↓e_raise1, ↓e_exF, ↓e_exI, ↓e_tryA, ↓k_rev_lst, ↓k_addM_lst, ↓k_max2, ↓k_min2, List.set_cons_zero, List.set_cons_succ, wipeP]
  refine ⟨sz0 (by simp), rfl, t_any (xs := signs13.map PV.str) h3 (by decide) (by decide) fun z hz' S4 h4 o4 => ?_⟩
  obtain ⟨s, hs, rfl⟩ := List.mem_map.mp hz'
  have hsl := signs13_len s hs
  unfold bt3
  simp -implicitDefEqProofs only [↓e_ret, ↓e_retN, ↓e_nxt, ↓e_seq, ↓e_nev, ↓e_brk, ↓e_cnt, ↓e_expr, ↓e_ifs, ↓e_set, ↓e_asg, ↓par2_two, ↓e_par, ↓e_for, ↓e_setF, ↓e_put, ↓opt_some, ↓e_var, ↓e_c, ↓e_b, ↓e_1, ↓e_tst, ↓e_kB, ↓e_tru, ↓e_notT, ↓e_andT, ↓e_orT, ↓truK_bl, ↓e_andV, ↓e_orV, ↓e_notV, ↓e_if, ↓chK_bl, ↓e_ch, ↓e_nil, ↓e_cons, ↓e_tup, ↓e_lst, ↓e_lstF, ↓e_call, ↓e_arN, ↓e_p1, ↓e_p2, ↓e_meth, ↓e_bm, ↓e_fld, ↓e_lc, ↓e_dc, ↓e_it, ↓e_rng1, ↓e_rng2, ↓e_intB, ↓e_sl, ↓e_no, ↓e_so, ↓e_yes, ↓e_anm, ↓gs_0, ↓gs_s, ↓dr_int, ↓dr_str, ↓dr_bl, ↓dr_nn, ↓dr_tup, ↓dr_lst, ↓dr_dct, ↓dr_obj, ↓k_lt_int, ↓k_le_int, ↓k_gt_int, ↓k_ge_int, ↓k_lt_str, ↓k_add_int, ↓k_add_str, ↓k_add_tup, ↓k_add_lst, ↓k_sub, ↓k_mul, ↓k_div, ↓k_mod, ↓k_pow, ↓k_neg, ↓k_eq_int, ↓k_eq_str, ↓k_is_nn, ↓k_is_int, ↓k_is_tup, ↓k_is_obj, ↓k_ix_lst, ↓k_ix_tup, ↓k_ix_str, ↓k_ix_dct, ↓k_len_str, ↓k_len_lst, ↓k_len_tup, ↓k_int_int, ↓k_int_bl, ↓k_abs, ↓k_str_int, ↓k_str_str, ↓k_tup_lst, ↓k_it_str, ↓k_it_tup, ↓k_it_lst, ↓k_in_dct, ↓e_enum, ↓k_en_tup, ↓k_en_lst, ↓e_atp, ↓e_lcM, ↓par3_three, ↓e_lits, ↓e_par3, ↓e_rev, ↓e_dct0, ↓e_nevE, ↓e_raise1, ↓e_exF, ↓e_exI, ↓e_tryA, ↓k_rev_lst, ↓k_addM_lst, ↓k_max2, ↓k_min2, List.set_cons_zero, List.set_cons_succ, wipeP]
  refine ⟨sz0 (by simp), ?_⟩
  unfold bt4
  simp -implicitDefEqProofs only [↓e_ret, ↓e_retN, ↓e_nxt, ↓e_seq, ↓e_nev, ↓e_brk, ↓e_cnt, ↓e_expr, ↓e_ifs, ↓e_set, ↓e_asg, ↓par2_two, ↓e_par, ↓e_for, ↓e_setF, ↓e_put, ↓opt_some, ↓e_var, ↓e_c, ↓e_b, ↓e_1, ↓e_tst, ↓e_kB, ↓e_tru, ↓e_notT, ↓e_andT, ↓e_orT, ↓truK_bl, ↓e_andV, ↓e_orV, ↓e_notV, ↓e_if, ↓chK_bl, ↓e_ch, ↓e_nil, ↓e_cons, ↓e_tup, ↓e_lst, ↓e_lstF, ↓e_call, ↓e_arN, ↓e_p1, ↓e_p2, ↓e_meth, ↓e_bm, ↓e_fld, ↓e_lc, ↓e_dc, ↓e_it, ↓e_rng1, ↓e_rng2, ↓e_intB, ↓e_sl, ↓e_no, ↓e_so, ↓e_yes, ↓e_anm, ↓gs_0, ↓gs_s, ↓dr_int, ↓dr_str, ↓dr_bl, ↓dr_nn, ↓dr_tup, ↓dr_lst, ↓dr_dct, ↓dr_obj, ↓k_lt_int, ↓k_le_int, ↓k_gt_int, ↓k_ge_int, ↓k_lt_str, ↓k_add_int, ↓k_add_str, ↓k_add_tup, ↓k_add_lst, ↓k_sub, ↓k_mul, ↓k_div, ↓k_mod, ↓k_pow, ↓k_neg, ↓k_eq_int, ↓k_eq_str, ↓k_is_nn, ↓k_is_int, ↓k_is_tup, ↓k_is_obj, ↓k_ix_lst, ↓k_ix_tup, ↓k_ix_str, ↓k_ix_dct, ↓k_len_str, ↓k_len_lst, ↓k_len_tup, ↓k_int_int, ↓k_int_bl, ↓k_abs, ↓k_str_int, ↓k_str_str, ↓k_tup_lst, ↓k_it_str, ↓k_it_tup, ↓k_it_lst, ↓k_in_dct, ↓e_enum, ↓k_en_tup, ↓k_en_lst, ↓e_atp, ↓e_lcM, ↓par3_three, ↓e_lits, ↓e_par3, ↓e_rev, ↓e_dct0, ↓e_nevE, ↓e_raise1, ↓e_exF, ↓e_exI, ↓e_tryA, ↓k_rev_lst, ↓k_addM_lst, ↓k_max2, ↓k_min2, List.set_cons_zero, List.set_cons_succ, wipeP]
  refine ⟨rfl, t_any (xs := lines8.map PV.str) h4 (by decide) (by decide) fun z hz' S5 h5 o5 => ?_⟩
  obtain ⟨l, hl', rfl⟩ := List.mem_map.mp hz'
  have hll := lines8_len l hl'
  have off5 : Off a S S5 := o1.tr (o2.tr (o3.tr (o4.tr o5)))
  have cl := cutS_len x
  have szz : ∀ {n : Nat}, n ≤ 100000 → n ≤ sizeLine := fun {n} h => by rw [sizeLine_eq]; omega
  have c1 := cl none (some at_)
  have c2 := cl (some at_) none
  have c3 := cl (some (at_ + 1)) none
  have c4 := cl none (some (-1))
  have f1 : (cutS x none (some at_)).length + s.length ≤ sizeLine := szz (by omega)
  have f2 : (cutS x none (some at_) ++ s).length + (cutS x (some at_) none).length ≤ sizeLine := szz (by rw [app_len]; omega)
  have f3 : (cutS x none (some at_)).length + (cutS x (some (at_ + 1)) none).length ≤ sizeLine := szz (by omega)
  have f4 : x.length + s.length ≤ sizeLine := szz (by omega)
  have f5 : (cutS x none (some at_) ++ s).length + (cutS x (some (at_ + 1)) none).length ≤ sizeLine := szz (by rw [app_len]; omega)
  have ev1 : ∀ (y8 : Option PV) (S : Sto) (R' : RK) (Z' : ZK), (wB kAdd (wB kAdd (wSl (wVar 1) (wNo) (wSo (wVar 2))) (wVar 6)) (wSl (wVar 1) (wSo (wVar 2)) (wNo))) [some (.ref a), some (.str x), some (.int at_), some q, some (.int place), some (.int to), some (.str s), some (.str l), y8, none, none, none, none] S R' Z' = R' (.str (cutS x none (some at_) ++ s ++ cutS x (some at_) none)) S := fun y8 S R' Z' => by
    simp -implicitDefEqProofs only [↓e_ret, ↓e_retN, ↓e_nxt, ↓e_seq, ↓e_nev, ↓e_brk, ↓e_cnt, ↓e_expr, ↓e_ifs, ↓e_set, ↓e_asg, ↓par2_two, ↓e_par, ↓e_for, ↓e_setF, ↓e_put, ↓opt_some, ↓e_var, ↓e_c, ↓e_b, ↓e_1, ↓e_tst, ↓e_kB, ↓e_tru, ↓e_notT, ↓e_andT, ↓e_orT, ↓truK_bl, ↓e_andV, ↓e_orV, ↓e_notV, ↓e_if, ↓chK_bl, ↓e_ch, ↓e_nil, ↓e_cons, ↓e_tup, ↓e_lst, ↓e_lstF, ↓e_call, ↓e_arN, ↓e_p1, ↓e_p2, ↓e_meth, ↓e_bm, ↓e_fld, ↓e_lc, ↓e_dc, ↓e_it, ↓e_rng1, ↓e_rng2, ↓e_intB, ↓e_sl, ↓e_no, ↓e_so, ↓e_yes, ↓e_anm, ↓gs_0, ↓gs_s, ↓dr_int, ↓dr_str, ↓dr_bl, ↓dr_nn, ↓dr_tup, ↓dr_lst, ↓dr_dct, ↓dr_obj, ↓k_lt_int, ↓k_le_int, ↓k_gt_int, ↓k_ge_int, ↓k_lt_str, ↓k_add_int, ↓k_add_str, ↓k_add_tup, ↓k_add_lst, ↓k_sub, ↓k_mul, ↓k_div, ↓k_mod, ↓k_pow, ↓k_neg, ↓k_eq_int, ↓k_eq_str, ↓k_is_nn, ↓k_is_int, ↓k_is_tup, ↓k_is_obj, ↓k_ix_lst, ↓k_ix_tup, ↓k_ix_str, ↓k_ix_dct, ↓k_len_str, ↓k_len_lst, ↓k_len_tup, ↓k_int_int, ↓k_int_bl, ↓k_abs, ↓k_str_int, ↓k_str_str, ↓k_tup_lst, ↓k_it_str, ↓k_it_tup, ↓k_it_lst, ↓k_in_dct, ↓e_enum, ↓k_en_tup, ↓k_en_lst, ↓e_atp, ↓e_lcM, ↓par3_three, ↓e_lits, ↓e_par3, ↓e_rev, ↓e_dct0, ↓e_nevE, ↓e_raise1, ↓e_exF, ↓e_exI, ↓e_tryA, ↓k_rev_lst, ↓k_addM_lst, ↓k_max2, ↓k_min2, List.set_cons_zero, List.set_cons_succ, wipeP, ↓k_sl_str, hz1, f1, f2, f3, f4, true_and]
  have ev2 : ∀ (y8 : Option PV) (S : Sto) (R' : RK) (Z' : ZK), (wB kAdd (wSl (wVar 1) (wNo) (wSo (wVar 2))) (wSl (wVar 1) (wSo (wB kAdd (wVar 2) (wC (.int 1)))) (wNo))) [some (.ref a), some (.str x), some (.int at_), some q, some (.int place), some (.int to), some (.str s), some (.str l), y8, none, none, none, none] S R' Z' = R' (.str (cutS x none (some at_) ++ cutS x (some (at_ + 1)) none)) S := fun y8 S R' Z' => by
    simp -implicitDefEqProofs only [↓e_ret, ↓e_retN, ↓e_nxt, ↓e_seq, ↓e_nev, ↓e_brk, ↓e_cnt, ↓e_expr, ↓e_ifs, ↓e_set, ↓e_asg, ↓par2_two, ↓e_par, ↓e_for, ↓e_setF, ↓e_put, ↓opt_some, ↓e_var, ↓e_c, ↓e_b, ↓e_1, ↓e_tst, ↓e_kB, ↓e_tru, ↓e_notT, ↓e_andT, ↓e_orT, ↓truK_bl, ↓e_andV, ↓e_orV, ↓e_notV, ↓e_if, ↓chK_bl, ↓e_ch, ↓e_nil, ↓e_cons, ↓e_tup, ↓e_lst, ↓e_lstF, ↓e_call, ↓e_arN, ↓e_p1, ↓e_p2, ↓e_meth, ↓e_bm, ↓e_fld, ↓e_lc, ↓e_dc, ↓e_it, ↓e_rng1, ↓e_rng2, ↓e_intB, ↓e_sl, ↓e_no, ↓e_so, ↓e_yes, ↓e_anm, ↓gs_0, ↓gs_s, ↓dr_int, ↓dr_str, ↓dr_bl, ↓dr_nn, ↓dr_tup, ↓dr_lst, ↓dr_dct, ↓dr_obj, ↓k_lt_int, ↓k_le_int, ↓k_gt_int, ↓k_ge_int, ↓k_lt_str, ↓k_add_int, ↓k_add_str, ↓k_add_tup, ↓k_add_lst, ↓k_sub, ↓k_mul, ↓k_div, ↓k_mod, ↓k_pow, ↓k_neg, ↓k_eq_int, ↓k_eq_str, ↓k_is_nn, ↓k_is_int, ↓k_is_tup, ↓k_is_obj, ↓k_ix_lst, ↓k_ix_tup, ↓k_ix_str, ↓k_ix_dct, ↓k_len_str, ↓k_len_lst, ↓k_len_tup, ↓k_int_int, ↓k_int_bl, ↓k_abs, ↓k_str_int, ↓k_str_str, ↓k_tup_lst, ↓k_it_str, ↓k_it_tup, ↓k_it_lst, ↓k_in_dct, ↓e_enum, ↓k_en_tup, ↓k_en_lst, ↓e_atp, ↓e_lcM, ↓par3_three, ↓e_lits, ↓e_par3, ↓e_rev, ↓e_dct0, ↓e_nevE, ↓e_raise1, ↓e_exF, ↓e_exI, ↓e_tryA, ↓k_rev_lst, ↓k_addM_lst, ↓k_max2, ↓k_min2, List.set_cons_zero, List.set_cons_succ, wipeP, ↓k_sl_str, hz1, f1, f2, f3, f4, true_and]
  have ev3 : ∀ (y8 : Option PV) (S : Sto) (R' : RK) (Z' : ZK), (wSl (wVar 1) (wNo) (wSo (w1 kNeg (wC (.int 1))))) [some (.ref a), some (.str x), some (.int at_), some q, some (.int place), some (.int to), some (.str s), some (.str l), y8, none, none, none, none] S R' Z' = R' (.str (cutS x none (some (-1)))) S := fun y8 S R' Z' => by
    simp -implicitDefEqProofs only [↓e_ret, ↓e_retN, ↓e_nxt, ↓e_seq, ↓e_nev, ↓e_brk, ↓e_cnt, ↓e_expr, ↓e_ifs, ↓e_set, ↓e_asg, ↓par2_two, ↓e_par, ↓e_for, ↓e_setF, ↓e_put, ↓opt_some, ↓e_var, ↓e_c, ↓e_b, ↓e_1, ↓e_tst, ↓e_kB, ↓e_tru, ↓e_notT, ↓e_andT, ↓e_orT, ↓truK_bl, ↓e_andV, ↓e_orV, ↓e_notV, ↓e_if, ↓chK_bl, ↓e_ch, ↓e_nil, ↓e_cons, ↓e_tup, ↓e_lst, ↓e_lstF, ↓e_call, ↓e_arN, ↓e_p1, ↓e_p2, ↓e_meth, ↓e_bm, ↓e_fld, ↓e_lc, ↓e_dc, ↓e_it, ↓e_rng1, ↓e_rng2, ↓e_intB, ↓e_sl, ↓e_no, ↓e_so, ↓e_yes, ↓e_anm, ↓gs_0, ↓gs_s, ↓dr_int, ↓dr_str, ↓dr_bl, ↓dr_nn, ↓dr_tup, ↓dr_lst, ↓dr_dct, ↓dr_obj, ↓k_lt_int, ↓k_le_int, ↓k_gt_int, ↓k_ge_int, ↓k_lt_str, ↓k_add_int, ↓k_add_str, ↓k_add_tup, ↓k_add_lst, ↓k_sub, ↓k_mul, ↓k_div, ↓k_mod, ↓k_pow, ↓k_neg, ↓k_eq_int, ↓k_eq_str, ↓k_is_nn, ↓k_is_int, ↓k_is_tup, ↓k_is_obj, ↓k_ix_lst, ↓k_ix_tup, ↓k_ix_str, ↓k_ix_dct, ↓k_len_str, ↓k_len_lst, ↓k_len_tup, ↓k_int_int, ↓k_int_bl, ↓k_abs, ↓k_str_int, ↓k_str_str, ↓k_tup_lst, ↓k_it_str, ↓k_it_tup, ↓k_it_lst, ↓k_in_dct, ↓e_enum, ↓k_en_tup, ↓k_en_lst, ↓e_atp, ↓e_lcM, ↓par3_three, ↓e_lits, ↓e_par3, ↓e_rev, ↓e_dct0, ↓e_nevE, ↓e_raise1, ↓e_exF, ↓e_exI, ↓e_tryA, ↓k_rev_lst, ↓k_addM_lst, ↓k_max2, ↓k_min2, List.set_cons_zero, List.set_cons_succ, wipeP, ↓k_sl_str, hz1, f1, f2, f3, f4, true_and]
  have ev4 : ∀ (y8 : Option PV) (S : Sto) (R' : RK) (Z' : ZK), (wB kAdd (wVar 1) (wVar 6)) [some (.ref a), some (.str x), some (.int at_), some q, some (.int place), some (.int to), some (.str s), some (.str l), y8, none, none, none, none] S R' Z' = R' (.str (x ++ s)) S := fun y8 S R' Z' => by
    simp -implicitDefEqProofs only [↓e_ret, ↓e_retN, ↓e_nxt, ↓e_seq, ↓e_nev, ↓e_brk, ↓e_cnt, ↓e_expr, ↓e_ifs, ↓e_set, ↓e_asg, ↓par2_two, ↓e_par, ↓e_for, ↓e_setF, ↓e_put, ↓opt_some, ↓e_var, ↓e_c, ↓e_b, ↓e_1, ↓e_tst, ↓e_kB, ↓e_tru, ↓e_notT, ↓e_andT, ↓e_orT, ↓truK_bl, ↓e_andV, ↓e_orV, ↓e_notV, ↓e_if, ↓chK_bl, ↓e_ch, ↓e_nil, ↓e_cons, ↓e_tup, ↓e_lst, ↓e_lstF, ↓e_call, ↓e_arN, ↓e_p1, ↓e_p2, ↓e_meth, ↓e_bm, ↓e_fld, ↓e_lc, ↓e_dc, ↓e_it, ↓e_rng1, ↓e_rng2, ↓e_intB, ↓e_sl, ↓e_no, ↓e_so, ↓e_yes, ↓e_anm, ↓gs_0, ↓gs_s, ↓dr_int, ↓dr_str, ↓dr_bl, ↓dr_nn, ↓dr_tup, ↓dr_lst, ↓dr_dct, ↓dr_obj, ↓k_lt_int, ↓k_le_int, ↓k_gt_int, ↓k_ge_int, ↓k_lt_str, ↓k_add_int, ↓k_add_str, ↓k_add_tup, ↓k_add_lst, ↓k_sub, ↓k_mul, ↓k_div, ↓k_mod, ↓k_pow, ↓k_neg, ↓k_eq_int, ↓k_eq_str, ↓k_is_nn, ↓k_is_int, ↓k_is_tup, ↓k_is_obj, ↓k_ix_lst, ↓k_ix_tup, ↓k_ix_str, ↓k_ix_dct, ↓k_len_str, ↓k_len_lst, ↓k_len_tup, ↓k_int_int, ↓k_int_bl, ↓k_abs, ↓k_str_int, ↓k_str_str, ↓k_tup_lst, ↓k_it_str, ↓k_it_tup, ↓k_it_lst, ↓k_in_dct, ↓e_enum, ↓k_en_tup, ↓k_en_lst, ↓e_atp, ↓e_lcM, ↓par3_three, ↓e_lits, ↓e_par3, ↓e_rev, ↓e_dct0, ↓e_nevE, ↓e_raise1, ↓e_exF, ↓e_exI, ↓e_tryA, ↓k_rev_lst, ↓k_addM_lst, ↓k_max2, ↓k_min2, List.set_cons_zero, List.set_cons_succ, wipeP, ↓k_sl_str, hz1, f1, f2, f3, f4, true_and]
  have ev5 : ∀ (y8 : Option PV) (S : Sto) (R' : RK) (Z' : ZK), (wB kAdd (wB kAdd (wSl (wVar 1) (wNo) (wSo (wVar 2))) (wVar 6)) (wSl (wVar 1) (wSo (wB kAdd (wVar 2) (wC (.int 1)))) (wNo))) [some (.ref a), some (.str x), some (.int at_), some q, some (.int place), some (.int to), some (.str s), some (.str l), y8, none, none, none, none] S R' Z' = R' (.str (cutS x none (some at_) ++ s ++ cutS x (some (at_ + 1)) none)) S := fun y8 S R' Z' => by
    simp -implicitDefEqProofs only [↓e_ret, ↓e_retN, ↓e_nxt, ↓e_seq, ↓e_nev, ↓e_brk, ↓e_cnt, ↓e_expr, ↓e_ifs, ↓e_set, ↓e_asg, ↓par2_two, ↓e_par, ↓e_for, ↓e_setF, ↓e_put, ↓opt_some, ↓e_var, ↓e_c, ↓e_b, ↓e_1, ↓e_tst, ↓e_kB, ↓e_tru, ↓e_notT, ↓e_andT, ↓e_orT, ↓truK_bl, ↓e_andV, ↓e_orV, ↓e_notV, ↓e_if, ↓chK_bl, ↓e_ch, ↓e_nil, ↓e_cons, ↓e_tup, ↓e_lst, ↓e_lstF, ↓e_call, ↓e_arN, ↓e_p1, ↓e_p2, ↓e_meth, ↓e_bm, ↓e_fld, ↓e_lc, ↓e_dc, ↓e_it, ↓e_rng1, ↓e_rng2, ↓e_intB, ↓e_sl, ↓e_no, ↓e_so, ↓e_yes, ↓e_anm, ↓gs_0, ↓gs_s, ↓dr_int, ↓dr_str, ↓dr_bl, ↓dr_nn, ↓dr_tup, ↓dr_lst, ↓dr_dct, ↓dr_obj, ↓k_lt_int, ↓k_le_int, ↓k_gt_int, ↓k_ge_int, ↓k_lt_str, ↓k_add_int, ↓k_add_str, ↓k_add_tup, ↓k_add_lst, ↓k_sub, ↓k_mul, ↓k_div, ↓k_mod, ↓k_pow, ↓k_neg, ↓k_eq_int, ↓k_eq_str, ↓k_is_nn, ↓k_is_int, ↓k_is_tup, ↓k_is_obj, ↓k_ix_lst, ↓k_ix_tup, ↓k_ix_str, ↓k_ix_dct, ↓k_len_str, ↓k_len_lst, ↓k_len_tup, ↓k_int_int, ↓k_int_bl, ↓k_abs, ↓k_str_int, ↓k_str_str, ↓k_tup_lst, ↓k_it_str, ↓k_it_tup, ↓k_it_lst, ↓k_in_dct, ↓e_enum, ↓k_en_tup, ↓k_en_lst, ↓e_atp, ↓e_lcM, ↓par3_three, ↓e_lits, ↓e_par3, ↓e_rev, ↓e_dct0, ↓e_nevE, ↓e_raise1, ↓e_exF, ↓e_exI, ↓e_tryA, ↓k_rev_lst, ↓k_addM_lst, ↓k_max2, ↓k_min2, List.set_cons_zero, List.set_cons_succ, wipeP, ↓k_sl_str, hz1, f1, f5, true_and]
  unfold bentA
  rw [e_seq, e_set, e_lstF]
  simp only [↓e_cons, ↓e_nil, ↓ev1, ↓ev2, ↓ev3, ↓ev4]
  refine ⟨sz0 (by simp), ?_⟩
  simp only [List.set_cons_succ, List.set_cons_zero]
  unfold bentB
  rw [e_seq, e_set, e_b, e_var]
  simp only [gs_s, gs_0, ↓opt_some, ↓e_lstF, ↓e_cons, ↓e_nil, ↓ev5]
  refine ⟨sz0 (by simp), ?_⟩
  rw [k_addM_lst]
  refine ⟨sz0 (by simp), fun r hr => ?_⟩
  simp only [List.set_cons_succ, List.set_cons_zero]
  have har := h5.ne hr
  obtain ⟨m1, e1, g1⟩ := sl none (some place)
  obtain ⟨m2, e2, g2⟩ := sl (some place) none
  have b1 := cost_sub g1
  have b2 := cost_sub g2
  have k1 := cost_len m1
  have k2 := cost_len m2
  have kls := cost_len ls
  have addl : ∀ (S : Sto) (R' : RK), kAdd (.lst (m1.map PV.str)) (.lst [.str l]) S R' = (m1.length + 1 ≤ sizeLine ∧ R' (.lst ((m1 ++ [l]).map PV.str)) S) := fun S R' => add m1 [l] S R'
  have rv : ∀ (S : Sto) (R' : RK), kRev (.lst (m2.map PV.str)) S R' = R' (.lst (m2.reverse.map PV.str)) S := fun S R' => by rw [k_rev_lst, List.map_reverse]
  unfold bentC
  simp -implicitDefEqProofs only [↓e_ret, ↓e_retN, ↓e_nxt, ↓e_seq, ↓e_nev, ↓e_brk, ↓e_cnt, ↓e_expr, ↓e_ifs, ↓e_set, ↓e_asg, ↓par2_two, ↓e_par, ↓e_for, ↓e_setF, ↓e_put, ↓opt_some, ↓e_var, ↓e_c, ↓e_b, ↓e_1, ↓e_tst, ↓e_kB, ↓e_tru, ↓e_notT, ↓e_andT, ↓e_orT, ↓truK_bl, ↓e_andV, ↓e_orV, ↓e_notV, ↓e_if, ↓chK_bl, ↓e_ch, ↓e_nil, ↓e_cons, ↓e_tup, ↓e_lst, ↓e_lstF, ↓e_call, ↓e_arN, ↓e_p1, ↓e_p2, ↓e_meth, ↓e_bm, ↓e_fld, ↓e_lc, ↓e_dc, ↓e_it, ↓e_rng1, ↓e_rng2, ↓e_intB, ↓e_sl, ↓e_no, ↓e_so, ↓e_yes, ↓e_anm, ↓gs_0, ↓gs_s, ↓dr_int, ↓dr_str, ↓dr_bl, ↓dr_nn, ↓dr_tup, ↓dr_lst, ↓dr_dct, ↓dr_obj, ↓k_lt_int, ↓k_le_int, ↓k_gt_int, ↓k_ge_int, ↓k_lt_str, ↓k_add_int, ↓k_add_str, ↓k_add_tup, ↓k_add_lst, ↓k_sub, ↓k_mul, ↓k_div, ↓k_mod, ↓k_pow, ↓k_neg, ↓k_eq_int, ↓k_eq_str, ↓k_is_nn, ↓k_is_int, ↓k_is_tup, ↓k_is_obj, ↓k_ix_lst, ↓k_ix_tup, ↓k_ix_str, ↓k_ix_dct, ↓k_len_str, ↓k_len_lst, ↓k_len_tup, ↓k_int_int, ↓k_int_bl, ↓k_abs, ↓k_str_int, ↓k_str_str, ↓k_tup_lst, ↓k_it_str, ↓k_it_tup, ↓k_it_lst, ↓k_in_dct, ↓e_enum, ↓k_en_tup, ↓k_en_lst, ↓e_atp, ↓e_lcM, ↓par3_three, ↓e_lits, ↓e_par3, ↓e_rev, ↓e_dct0, ↓e_nevE, ↓e_raise1, ↓e_exF, ↓e_exI, ↓e_tryA, ↓k_rev_lst, ↓k_addM_lst, ↓k_max2, ↓k_min2, List.set_cons_zero, List.set_cons_succ, wipeP, ↓e1, ↓e2, ↓addl, ↓add]
  refine ⟨sz0 (by simp), szz (by omega), szz (by rw [List.length_append, List.length_singleton]; omega), ?_⟩
  unfold bentD
  have evD1 : ∀ (y9 : Option PV) (S : Sto) (R' : RK) (Z' : ZK), (wSl (wVar 3) (wNo) (wSo (wVar 4))) [some (.ref a), some (.str x), some (.int at_), some q, some (.int place), some (.int to), some (.str s), some (.str l), some (.ref r), y9, none, none, none] S R' Z' = R' (.lst (m1.map PV.str)) S := fun y9 S R' Z' => by
    simp -implicitDefEqProofs only [↓e_ret, ↓e_retN, ↓e_nxt, ↓e_seq, ↓e_nev, ↓e_brk, ↓e_cnt, ↓e_expr, ↓e_ifs, ↓e_set, ↓e_asg, ↓par2_two, ↓e_par, ↓e_for, ↓e_setF, ↓e_put, ↓opt_some, ↓e_var, ↓e_c, ↓e_b, ↓e_1, ↓e_tst, ↓e_kB, ↓e_tru, ↓e_notT, ↓e_andT, ↓e_orT, ↓truK_bl, ↓e_andV, ↓e_orV, ↓e_notV, ↓e_if, ↓chK_bl, ↓e_ch, ↓e_nil, ↓e_cons, ↓e_tup, ↓e_lst, ↓e_lstF, ↓e_call, ↓e_arN, ↓e_p1, ↓e_p2, ↓e_meth, ↓e_bm, ↓e_fld, ↓e_lc, ↓e_dc, ↓e_it, ↓e_rng1, ↓e_rng2, ↓e_intB, ↓e_sl, ↓e_no, ↓e_so, ↓e_yes, ↓e_anm, ↓gs_0, ↓gs_s, ↓dr_int, ↓dr_str, ↓dr_bl, ↓dr_nn, ↓dr_tup, ↓dr_lst, ↓dr_dct, ↓dr_obj, ↓k_lt_int, ↓k_le_int, ↓k_gt_int, ↓k_ge_int, ↓k_lt_str, ↓k_add_int, ↓k_add_str, ↓k_add_tup, ↓k_add_lst, ↓k_sub, ↓k_mul, ↓k_div, ↓k_mod, ↓k_pow, ↓k_neg, ↓k_eq_int, ↓k_eq_str, ↓k_is_nn, ↓k_is_int, ↓k_is_tup, ↓k_is_obj, ↓k_ix_lst, ↓k_ix_tup, ↓k_ix_str, ↓k_ix_dct, ↓k_len_str, ↓k_len_lst, ↓k_len_tup, ↓k_int_int, ↓k_int_bl, ↓k_abs, ↓k_str_int, ↓k_str_str, ↓k_tup_lst, ↓k_it_str, ↓k_it_tup, ↓k_it_lst, ↓k_in_dct, ↓e_enum, ↓k_en_tup, ↓k_en_lst, ↓e_atp, ↓e_lcM, ↓par3_three, ↓e_lits, ↓e_par3, ↓e_rev, ↓e_dct0, ↓e_nevE, ↓e_raise1, ↓e_exF, ↓e_exI, ↓e_tryA, ↓k_rev_lst, ↓k_addM_lst, ↓k_max2, ↓k_min2, List.set_cons_zero, List.set_cons_succ, wipeP, ↓e1]
  have evD2 : ∀ (y9 : Option PV) (S : Sto) (R' : RK) (Z' : ZK), (wSl (wVar 3) (wSo (wVar 4)) (wNo)) [some (.ref a), some (.str x), some (.int at_), some q, some (.int place), some (.int to), some (.str s), some (.str l), some (.ref r), y9, none, none, none] S R' Z' = R' (.lst (m2.map PV.str)) S := fun y9 S R' Z' => by
    simp -implicitDefEqProofs only [↓e_ret, ↓e_retN, ↓e_nxt, ↓e_seq, ↓e_nev, ↓e_brk, ↓e_cnt, ↓e_expr, ↓e_ifs, ↓e_set, ↓e_asg, ↓par2_two, ↓e_par, ↓e_for, ↓e_setF, ↓e_put, ↓opt_some, ↓e_var, ↓e_c, ↓e_b, ↓e_1, ↓e_tst, ↓e_kB, ↓e_tru, ↓e_notT, ↓e_andT, ↓e_orT, ↓truK_bl, ↓e_andV, ↓e_orV, ↓e_notV, ↓e_if, ↓chK_bl, ↓e_ch, ↓e_nil, ↓e_cons, ↓e_tup, ↓e_lst, ↓e_lstF, ↓e_call, ↓e_arN, ↓e_p1, ↓e_p2, ↓e_meth, ↓e_bm, ↓e_fld, ↓e_lc, ↓e_dc, ↓e_it, ↓e_rng1, ↓e_rng2, ↓e_intB, ↓e_sl, ↓e_no, ↓e_so, ↓e_yes, ↓e_anm, ↓gs_0, ↓gs_s, ↓dr_int, ↓dr_str, ↓dr_bl, ↓dr_nn, ↓dr_tup, ↓dr_lst, ↓dr_dct, ↓dr_obj, ↓k_lt_int, ↓k_le_int, ↓k_gt_int, ↓k_ge_int, ↓k_lt_str, ↓k_add_int, ↓k_add_str, ↓k_add_tup, ↓k_add_lst, ↓k_sub, ↓k_mul, ↓k_div, ↓k_mod, ↓k_pow, ↓k_neg, ↓k_eq_int, ↓k_eq_str, ↓k_is_nn, ↓k_is_int, ↓k_is_tup, ↓k_is_obj, ↓k_ix_lst, ↓k_ix_tup, ↓k_ix_str, ↓k_ix_dct, ↓k_len_str, ↓k_len_lst, ↓k_len_tup, ↓k_int_int, ↓k_int_bl, ↓k_abs, ↓k_str_int, ↓k_str_str, ↓k_tup_lst, ↓k_it_str, ↓k_it_tup, ↓k_it_lst, ↓k_in_dct, ↓e_enum, ↓k_en_tup, ↓k_en_lst, ↓e_atp, ↓e_lcM, ↓par3_three, ↓e_lits, ↓e_par3, ↓e_rev, ↓e_dct0, ↓e_nevE, ↓e_raise1, ↓e_exF, ↓e_exI, ↓e_tryA, ↓k_rev_lst, ↓k_addM_lst, ↓k_max2, ↓k_min2, List.set_cons_zero, List.set_cons_succ, wipeP, ↓e2]
  rw [e_seq, e_set, e_b, evD1, e_rev, evD2, rv, add]
  refine ⟨szz (by rw [List.length_reverse]; omega), ?_⟩
  simp only [List.set_cons_succ, List.set_cons_zero]
  refine bent_end (S0 := S) (ss := [cutS x none (some at_) ++ s ++ cutS x (some at_) none, cutS x none (some at_) ++ cutS x (some (at_ + 1)) none, cutS x none (some (-1)), x ++ s, cutS x none (some at_) ++ s ++ cutS x (some (at_ + 1)) none]) har (by rw [← off5 r har]; exact hr) (h5.upd har) (by rw [updS_same]; rfl) hql hz hlc ?_ rfl ?_ ?_ (fun y h1 h2 => by rw [updS_ne h2]; exact off5 y h1) fun y S' hy hh ho => ?_
  · intro y hy
    simp only [List.mem_cons, List.not_mem_nil, or_false] at hy
    rcases hy with rfl | rfl | rfl | rfl | rfl
    · rw [app_len, app_len]; omega
    · rw [app_len]; omega
    · omega
    · rw [app_len]; omega
    · rw [app_len, app_len]; omega
  · rw [cost_app, cost_app]
    have : cost [l] = l.length + 1 := by unfold cost; simp
    omega
  · rw [cost_app, cost_rev]; omega
  · refine gR_sub (S' := fun z => if z = r then none else S' z) (fun z o e => ?_) (hR y _ hy ?_ fun z hz => ?_)
    · have e : (if z = r then none else S' z) = some o := e
      split at e
      · cases e
      · exact e
    · obtain ⟨c1, c2, c3, c4, c5, c6⟩ := hh
      refine ⟨c1, c2, c3, c4, c5, ?_⟩
      show (if a = r then none else S' a) = _
      rw [if_neg (Ne.symm har)]; exact c6
    · show (if z = r then none else S' z) = S z
      split
      · rename_i c; rw [c, ← off5 r har]; exact hr.symm
      · rename_i c; exact ho z hz c

/-! ### what is told -/
theorem pure__law_told (K : PySem.W.Frag) (hex : exB K = true) : ∀ ps S R Z, ps.length = 1 → sp__law_told K ps S R Z → w__law_told K (fin R Z) (startP n__law_told ps) S := by
  intro ps S R Z hl h
  have m1 : He.ga K "Net" ∈ [He.ga K "Net"] := List.mem_singleton.mpr rfl
  obtain ⟨p, rfl⟩ : ∃ p, ps = [p] := by
    rcases h with ⟨x, rfl, _⟩ | ⟨p, rfl, _⟩
    · exact ⟨_, rfl⟩
    · exact ⟨_, rfl⟩
  have e : startP n__law_told [p] = [some p, none, none] := rfl
  rw [e]
  -- the suite
  have suite : ∀ (n : Int) (S' : Sto) (a : Addr) (P' : PEnds), P'.rt = gR R → gR R (.int n) S' → w__law_told_2 K a (badLine K n) P' [some p, none, some (.ref a)] S' := fun n S' a P' hP hr => by
    obtain ⟨nx, rt, bk, ct, ex⟩ := P'
    have hP : rt = gR R := hP
    subst hP
    simp -implicitDefEqProofs only [w__law_told_2, ↓e_ret, ↓e_retN, ↓e_nxt, ↓e_seq, ↓e_nev, ↓e_brk, ↓e_cnt, ↓e_expr, ↓e_ifs, ↓e_set, ↓e_asg, ↓par2_two, ↓e_par, ↓e_for, ↓e_setF, ↓e_put, ↓opt_some, ↓e_var, ↓e_c, ↓e_b, ↓e_1, ↓e_tst, ↓e_kB, ↓e_tru, ↓e_notT, ↓e_andT, ↓e_orT, ↓truK_bl, ↓e_andV, ↓e_orV, ↓e_notV, ↓e_if, ↓chK_bl, ↓e_ch, ↓e_nil, ↓e_cons, ↓e_tup, ↓e_lst, ↓e_lstF, ↓e_call, ↓e_arN, ↓e_p1, ↓e_p2, ↓e_meth, ↓e_bm, ↓e_fld, ↓e_lc, ↓e_dc, ↓e_it, ↓e_rng1, ↓e_rng2, ↓e_intB, ↓e_sl, ↓e_no, ↓e_so, ↓e_yes, ↓e_anm, ↓gs_0, ↓gs_s, ↓dr_int, ↓dr_str, ↓dr_bl, ↓dr_nn, ↓dr_tup, ↓dr_lst, ↓dr_dct, ↓dr_obj, ↓k_lt_int, ↓k_le_int, ↓k_gt_int, ↓k_ge_int, ↓k_lt_str, ↓k_add_int, ↓k_add_str, ↓k_add_tup, ↓k_add_lst, ↓k_sub, ↓k_mul, ↓k_div, ↓k_mod, ↓k_pow, ↓k_neg, ↓k_eq_int, ↓k_eq_str, ↓k_is_nn, ↓k_is_int, ↓k_is_tup, ↓k_is_obj, ↓k_ix_lst, ↓k_ix_tup, ↓k_ix_str, ↓k_ix_dct, ↓k_len_str, ↓k_len_lst, ↓k_len_tup, ↓k_int_int, ↓k_int_bl, ↓k_abs, ↓k_str_int, ↓k_str_str, ↓k_tup_lst, ↓k_it_str, ↓k_it_tup, ↓k_it_lst, ↓k_in_dct, ↓e_enum, ↓k_en_tup, ↓k_en_lst, ↓e_atp, ↓e_lcM, ↓par3_three, ↓e_lits, ↓e_par3, ↓e_rev, ↓e_dct0, ↓e_nevE, ↓e_raise1, ↓e_exF, ↓e_exI, ↓e_tryA, ↓k_rev_lst, ↓k_addM_lst, ↓k_max2, ↓k_min2, List.set_cons_zero, List.set_cons_succ, wipeP]
    refine ⟨trivial, excC_BadLine K hex, true, kit_BadLine_RoadError K hex, ?_⟩
    simp only [if_true]
    exact ⟨trivial, xf_BadLine K hex, nof_BadLine K hex, .int n, rfl, hr⟩
  simp -implicitDefEqProofs only [w__law_told, w__law_told_1, ↓e_ret, ↓e_retN, ↓e_nxt, ↓e_seq, ↓e_nev, ↓e_brk, ↓e_cnt, ↓e_expr, ↓e_ifs, ↓e_set, ↓e_asg, ↓par2_two, ↓e_par, ↓e_for, ↓e_setF, ↓e_put, ↓opt_some, ↓e_var, ↓e_c, ↓e_b, ↓e_1, ↓e_tst, ↓e_kB, ↓e_tru, ↓e_notT, ↓e_andT, ↓e_orT, ↓truK_bl, ↓e_andV, ↓e_orV, ↓e_notV, ↓e_if, ↓chK_bl, ↓e_ch, ↓e_nil, ↓e_cons, ↓e_tup, ↓e_lst, ↓e_lstF, ↓e_call, ↓e_arN, ↓e_p1, ↓e_p2, ↓e_meth, ↓e_bm, ↓e_fld, ↓e_lc, ↓e_dc, ↓e_it, ↓e_rng1, ↓e_rng2, ↓e_intB, ↓e_sl, ↓e_no, ↓e_so, ↓e_yes, ↓e_anm, ↓gs_0, ↓gs_s, ↓dr_int, ↓dr_str, ↓dr_bl, ↓dr_nn, ↓dr_tup, ↓dr_lst, ↓dr_dct, ↓dr_obj, ↓k_lt_int, ↓k_le_int, ↓k_gt_int, ↓k_ge_int, ↓k_lt_str, ↓k_add_int, ↓k_add_str, ↓k_add_tup, ↓k_add_lst, ↓k_sub, ↓k_mul, ↓k_div, ↓k_mod, ↓k_pow, ↓k_neg, ↓k_eq_int, ↓k_eq_str, ↓k_is_nn, ↓k_is_int, ↓k_is_tup, ↓k_is_obj, ↓k_ix_lst, ↓k_ix_tup, ↓k_ix_str, ↓k_ix_dct, ↓k_len_str, ↓k_len_lst, ↓k_len_tup, ↓k_int_int, ↓k_int_bl, ↓k_abs, ↓k_str_int, ↓k_str_str, ↓k_tup_lst, ↓k_it_str, ↓k_it_tup, ↓k_it_lst, ↓k_in_dct, ↓e_enum, ↓k_en_tup, ↓k_en_lst, ↓e_atp, ↓e_lcM, ↓par3_three, ↓e_lits, ↓e_par3, ↓e_rev, ↓e_dct0, ↓e_nevE, ↓e_raise1, ↓e_exF, ↓e_exI, ↓e_tryA, ↓k_rev_lst, ↓k_addM_lst, ↓k_max2, ↓k_min2, List.set_cons_zero, List.set_cons_succ, wipeP]
  refine ⟨rfl, ?_⟩
  rcases h with ⟨x, ex, hz, hR⟩ | ⟨q, ex, hp, hR⟩
  · cases ex
    refine .inl ⟨x, rfl, hz, ?_⟩
    cases er : readN x with
    | bad n =>
      rw [er] at hR
      exact ⟨true, exm_BadLine_BadLine K hex, fun _ a => suite n S a _ rfl (gR_now hR), fun z => by cases z⟩
    | ok s =>
      rw [er] at hR
      have io : ∀ S R', kIsO (He.ga K "Net") (netK K s.1 s.2) (.ref (He.ga K "Net")) S R' = (He.ga K "Net" = He.ga K "Net" ∧ He.ga K "Net" = He.ga K "Net" ∧ R' (.bl true) S) := fun _ _ => rfl
      dsimp only
      rw [io]
      refine ⟨rfl, rfl, ?_⟩
      rw [e_kB, if_pos rfl, f_towns m1, f_roads m1]
      exact ⟨sz0 (by simp), gR_now hR⟩
  · cases ex
    exact .inr ⟨_, rfl, hp, true, exm_BadLine_BadLine K hex, fun _ a => suite 0 S a _ rfl (gR_now hR), fun z => by cases z⟩

theorem name_short {x : Str} (h : nameB x = true) : (x.cps.toList.all fun c => decide (c < 16 ^ 8)) = true ∧ x.cps.size ≤ 8 := by
  refine ⟨?_, name_sz h⟩
  rw [List.all_eq_true]
  intro c hc
  have := name_signs h c hc
  exact decide_eq_true (by omega)
theorem int_short {n : Int} (h : -1000 ≤ n ∧ n ≤ 1000) : decide ((PyData.int n).shown.length ≤ 13) = true ∧ (PyData.int n).weight ≤ 10 ∧ decide (n.natAbs.log2 < 1920) = true := by
  refine ⟨decide_eq_true (PyData.shown_int_le2 (by omega) (by omega)), ?_, decide_eq_true (log_small h)⟩
  show (if (n == 0) = true then 0 else n.natAbs.log2 + 1) ≤ 10
  split
  · omega
  · rename_i h0
    have : n ≠ 0 := by simpa using h0
    have := (Nat.log2_lt (n := n.natAbs) (by omega) (k := 10)).mpr (by omega)
    omega
theorem towns_short : ∀ ts : List Str, (∀ t ∈ ts, nameB t = true) → PyData.leavesShortAll 13 (ts.map PyData.str) = true ∧ PyData.weightAll (ts.map PyData.str) ≤ 9 * ts.length ∧ PyData.showableAll (ts.map PyData.str) = true
  | [], _ => ⟨rfl, Nat.le_refl _, rfl⟩
  | x :: xs, h => by
    obtain ⟨a, b, c⟩ := towns_short xs fun t ht => h t (List.mem_cons_of_mem _ ht)
    obtain ⟨d, e⟩ := name_short (h x List.mem_cons_self)
    refine ⟨?_, ?_, ?_⟩
    · show ((x.cps.toList.all fun c => decide (c < 16 ^ 8)) && PyData.leavesShortAll 13 (xs.map PyData.str)) = true
      rw [a, d]; rfl
    · show x.cps.size + 1 + PyData.weightAll (xs.map PyData.str) ≤ 9 * (xs.length + 1)
      omega
    · show (true && PyData.showableAll (xs.map PyData.str)) = true
      rw [c]; rfl
theorem roads_short : ∀ rs : List Road, (∀ r ∈ rs, RdOk r) → PyData.leavesShortAll 13 (rs.map roadD) = true ∧ PyData.weightAll (rs.map roadD) ≤ 50 * rs.length ∧ PyData.showableAll (rs.map roadD) = true
  | [], _ => ⟨rfl, Nat.le_refl _, rfl⟩
  | x :: xs, h => by
    obtain ⟨a, b, c⟩ := roads_short xs fun t ht => h t (List.mem_cons_of_mem _ ht)
    have o := h x List.mem_cons_self
    obtain ⟨d1, e1⟩ := name_short o.n
    obtain ⟨d2, e2⟩ := name_short o.b
    obtain ⟨d3, e3⟩ := name_short o.f
    obtain ⟨d4, e4, f4⟩ := int_short o.l
    obtain ⟨d5, e5, f5⟩ := int_short (n := x.room) ⟨by have := o.r.1; omega, o.r.2⟩
    refine ⟨?_, ?_, ?_⟩
    · show (((x.name.cps.toList.all fun c => decide (c < 16 ^ 8)) && ((x.bgn.cps.toList.all fun c => decide (c < 16 ^ 8)) && ((x.fin.cps.toList.all fun c => decide (c < 16 ^ 8)) && (decide ((PyData.int x.len).shown.length ≤ 13) && (decide ((PyData.int x.room).shown.length ≤ 13) && true))))) && PyData.leavesShortAll 13 (xs.map roadD)) = true
      rw [a, d1, d2, d3, d4, d5]; rfl
    · show (x.name.cps.size + 1 + (x.bgn.cps.size + 1 + (x.fin.cps.size + 1 + ((PyData.int x.len).weight + 1 + ((PyData.int x.room).weight + 1 + 0))))) + 1 + PyData.weightAll (xs.map roadD) ≤ 50 * (xs.length + 1)
      omega
    · show ((true && (true && (true && (decide (x.len.natAbs.log2 < 1920) && (decide (x.room.natAbs.log2 < 1920) && true))))) && PyData.showableAll (xs.map roadD)) = true
      rw [c, f4, f5]; rfl
def netD (ts : List Str) (rs : List Road) : PyData := .tuple [.tuple (ts.map PyData.str), .tuple (rs.map roadD)]
theorem k_repr_net {S : Sto} {R : RK} {ts : List Str} {rs : List Road} (o : NetOk ts rs) : kRepr (.tup [townsP ts, roadsP rs]) S R = R (.str (netD ts rs).shown) S := by
  have et : toD (.tup [townsP ts, roadsP rs]) = some (netD ts rs) := by
    show (((toD (townsP ts)).bind fun d => (((toD (roadsP rs)).bind fun d => (some []).map (d :: ·))).map (d :: ·)).map PyData.tuple) = _
    rw [toD_towns, toD_roads]; rfl
  show (match toD (.tup [townsP ts, roadsP rs]) with
    | some d => d.showable = true ∧ d.shown.length ≤ sizeLine ∧ d.depth ≤ 64 ∧ R (.str d.shown) S
    | none => False) = _
  rw [et]
  obtain ⟨a1, a2, a3⟩ := towns_short ts o.tn
  obtain ⟨b1, b2, b3⟩ := roads_short rs o.rd
  have c1 := (lay_strs ts o.tn).2
  have c2 := (lay_roads rs o.rd).2
  refine propext ⟨fun h => h.2.2.2, fun h => ⟨?_, PyData.shown_fits (B := 13) (by omega) (by omega) ?_ ?_, ?_, h⟩⟩
  · show (PyData.showableAll (ts.map PyData.str) && (PyData.showableAll (rs.map roadD) && true)) = true
    rw [a3, b3]; rfl
  · show (PyData.leavesShortAll 13 (ts.map PyData.str) && (PyData.leavesShortAll 13 (rs.map roadD) && true)) = true
    rw [a1, b1]; rfl
  · show PyData.weightAll (ts.map PyData.str) + 1 + (PyData.weightAll (rs.map roadD) + 1 + 0) ≤ 2 ^ 20
    have := o.tl; have := o.rl
    omega
  · show (max (PyData.depthAll (ts.map PyData.str) + 1) (max (PyData.depthAll (rs.map roadD) + 1) 0)) + 1 ≤ 64
    omega
theorem shaped_net {ts : List Str} {rs : List Road} (o : NetOk ts rs) : SeqAt.shaped (netD ts rs) = true := by
  obtain ⟨a, b⟩ := lay_strs ts o.tn
  obtain ⟨c, d⟩ := lay_roads rs o.rd
  show ((PyData.canLayAll0 (ts.map PyData.str) && (PyData.canLayAll0 (rs.map roadD) && true)) && decide ((max (PyData.depthAll (ts.map PyData.str) + 1) (max (PyData.depthAll (rs.map roadD) + 1) 0)) + 1 ≤ 64)) = true
  rw [a, c, decide_eq_true (by omega)]; rfl
theorem toD_net {ts : List Str} {rs : List Road} : toD (.tup [townsP ts, roadsP rs]) = some (netD ts rs) := by
  show (((toD (townsP ts)).bind fun d => (((toD (roadsP rs)).bind fun d => (some []).map (d :: ·))).map (d :: ·)).map PyData.tuple) = _
  rw [toD_towns, toD_roads]; rfl
theorem k_eq_net {S : Sto} {R : RK} {ts : List Str} {rs : List Road} {neg : Bool} (o : NetOk ts rs) : kEqA neg (.tup [townsP ts, roadsP rs]) (.tup [townsP ts, roadsP rs]) S R = R (.bl (true != neg)) S := by
  show (match toD (.tup [townsP ts, roadsP rs]), toD (.tup [townsP ts, roadsP rs]) with
    | some d, some e => SeqAt.shaped d = true ∧ SeqAt.shaped e = true ∧ R (.bl (PyData.eqv d e != neg)) S
    | _, _ => False) = _
  rw [toD_net]
  have e : PyData.eqv (netD ts rs) (netD ts rs) = true := by
    show (PyData.eqvAll (ts.map PyData.str) (ts.map PyData.str) && (PyData.eqvAll (rs.map roadD) (rs.map roadD) && true)) = true
    rw [eqv_strs, eqv_roads, decide_eq_true rfl, decide_eq_true rfl]; rfl
  show (SeqAt.shaped _ = true ∧ SeqAt.shaped _ = true ∧ R (.bl (PyData.eqv (netD ts rs) (netD ts rs) != neg)) S) = _
  rw [shaped_net o, e]; simp
theorem readL_bad : ∀ {ls : List Str} {k n : Nat} {s : Net2}, readL ls k s = .bad n → n ≤ k + ls.length
  | [], _, _, _, h => by cases h
  | l :: ls, k, n, s, h => by
    rw [readL_cons] at h
    cases e : stepL s l with
    | none => rw [e] at h; cases h; rw [List.length_cons]; omega
    | some s2 =>
      rw [e] at h
      have := readL_bad (ls := ls) h
      rw [List.length_cons]; omega
theorem readN_bad {x : Str} {n : Nat} (h : readN x = .bad n) : n ≤ x.length + 2 := by
  have hn := split_num (x := x) tl_nl nl_k
  unfold readN at h
  split at h
  · rename_i m e
    cases h
    have := readL_bad e
    rw [List.length_dropLast] at this; omega
  · split at h
    · cases h
    · cases h; omega
theorem repr_out {x : Str} (hz : x.length + 2 ≤ TxL) : ∃ sh, ∀ S R, kRepr (outP (readN x)) S R = R (.str sh) S := by
  cases e : readN x with
  | bad n =>
    have hn := readN_bad e
    unfold TxL at hz
    refine ⟨(PyData.int n).shown, fun S R => propext ⟨fun h => h.2.2.2, fun h => ⟨?_, ?_, Nat.zero_le _, h⟩⟩⟩
    · show decide (((n : Int)).natAbs.log2 < 1920) = true
      refine decide_eq_true ?_
      by_cases h0 : n = 0
      · rw [h0]; decide
      · have := (Nat.log2_lt (n := n) h0 (k := 20)).mpr (by omega)
        rw [Int.natAbs_natCast]; omega
    · have := PyData.shown_int_le2 (i := (n : Int)) (by omega) (by omega)
      rw [sizeLine_eq]; omega
  | ok s => exact ⟨_, fun S R => k_repr_net (readN_ok e)⟩
/-! ### the great text -/
def ls20 : List Nat := ("abcdefghijklmnopqrst" : Str).cps.toList
def many40 : List Str := (ls20.map fun c => (("a" : Str) ++ ⟨#[c]⟩ : Str)) ++ (ls20.map fun c => (("b" : Str) ++ ⟨#[c]⟩ : Str))
theorem many40_ok : NetOk many40 [] := by
  refine ⟨fun t ht => ?_, by decide +kernel, by decide +kernel, by simp, .nil, by simp⟩
  have : many40.all nameB = true := by decide +kernel
  exact List.all_eq_true.mp this t ht
theorem step_townLine {ts : List Str} {u : Str} (h : nameB u = true) : stepL (ts, []) (townLine u) = if ts.length < 40 ∧ lastOk ts u = true then some (ts ++ [u], []) else none := by
  unfold stepL
  rw [split_town h, step_town rfl]
  show Option.map _ (if nameB u = true ∧ ([] : List Road) = [] ∧ ts.length < 40 ∧ lastOk ts u = true then some u else none) = _
  by_cases hc : ts.length < 40 ∧ lastOk ts u = true
  · rw [if_pos hc, if_pos ⟨h, rfl, hc⟩]; rfl
  · rw [if_neg hc, if_neg fun z => hc z.2.2]; rfl
theorem read_towns : ∀ (us ts : List Str) (rest : List Str) (k : Nat), (∀ u ∈ us, nameB u = true) → (ts ++ us).Pairwise (fun a b => ltS a b = true) → (ts ++ us).length ≤ 40 → readL (us.map townLine ++ rest) k (ts, []) = readL rest (k + us.length) (ts ++ us, [])
  | [], ts, rest, k, _, _, _ => by rw [List.append_nil]; rfl
  | u :: us, ts, rest, k, hn, hp, hl => by
    rw [List.map_cons, List.cons_append, readL_cons, step_townLine (hn u List.mem_cons_self)]
    have h1 : ts.length < 40 := by rw [List.length_append, List.length_cons] at hl; omega
    have h2 : lastOk ts u = true := by
      unfold lastOk
      cases e : ts.getLast? with
      | none => rfl
      | some y => exact (List.pairwise_append.mp hp).2.2 y (List.mem_of_getLast? e) u List.mem_cons_self
    rw [if_pos ⟨h1, h2⟩]
    have e : ts ++ u :: us = (ts ++ [u]) ++ us := by rw [List.append_assoc]; rfl
    rw [e] at hp hl ⊢
    have := read_towns us (ts ++ [u]) rest (k + 1) (fun v hv => hn v (List.mem_cons_of_mem _ hv)) hp hl
    dsimp only
    rw [this, List.length_cons]
    congr 1; omega
theorem read_great : readN (netText many40 []) = .ok (many40, []) := by
  have es : Txt.split (netText many40 []) "\n" = linesOf many40 [] ++ [("" : Str)] := split_text (lines_noNl many40_ok.tn many40_ok.rd)
  have := read_towns many40 [] [] 0 many40_ok.tn many40_ok.ta many40_ok.tl
  have hl : linesOf many40 [] = many40.map townLine ++ [] := rfl
  unfold readN
  rw [es, List.dropLast_concat, List.getLast?_concat, hl, this]
  exact if_pos rfl
theorem great_text : netText many40 [] ++ "town zz\n" = Txt.join "" ((many40.map townLine ++ [townLine "zz"]).map fun x : Str => (x ++ "\n" : Str)) := by
  refine TL.ext_tl ?_
  have e0 : TL.tl ("" : Str) = [] := by decide +kernel
  have ez : TL.tl (townLine "zz" ++ "\n") = TL.tl ("town zz\n" : Str) := by decide +kernel
  have hl : linesOf many40 [] = many40.map townLine := List.append_nil _
  unfold netText
  rw [hl, TL.tl_append, TL.join_eq, TL.tl_join, TL.join_eq, TL.tl_join, e0, joinL_nil, joinL_nil, ← ez, List.map_append, List.map_append, List.flatten_append]
  congr 1
theorem read_more : readN (netText many40 [] ++ "town zz\n") = .bad 41 := by
  have hzz : nameB "zz" = true := by decide +kernel
  have es : Txt.split (netText many40 [] ++ "town zz\n") "\n" = (many40.map townLine ++ [townLine "zz"]) ++ [("" : Str)] := by
    rw [great_text]
    refine split_text fun x hx => ?_
    rcases List.mem_append.mp hx with hx | hx
    · obtain ⟨t, ht, rfl⟩ := List.mem_map.mp hx
      exact town_noNl (many40_ok.tn t ht)
    · rw [List.mem_singleton.mp hx]; exact town_noNl hzz
  unfold readN
  rw [es, List.dropLast_concat]
  have := read_towns many40 [] [townLine "zz"] 0 many40_ok.tn many40_ok.ta many40_ok.tl
  rw [this]
  have h40 : many40.length = 40 := by decide +kernel
  rw [readL_cons, List.nil_append, step_townLine hzz, if_neg (by rw [h40]; omega), h40]

/-! ### the law -/
section
variable {K : PySem.W.Frag} {S : Sto} {R : RK} {Z : ZK}
theorem t_told {x : Str} (hz : x.length + 2 ≤ TxL) (h : R (outP (readN x)) S) : sp__law_told K [.str x] S R Z := .inl ⟨x, rfl, hz, h⟩
theorem t_read {x : Str} (hz : x.length + 2 ≤ TxL) (h : R (outP (readN x)) S) : sp__law_read K [.str x] S R Z := ⟨x, rfl, hz, h⟩
end
theorem law_ask {K : PySem.W.Frag} {a : Addr} {S S0 : Sto} {P : PEnds} {N : Slots → Sto → Prop} {x0 : PV} {x2 x3 x4 x6 : Option PV} {t : Str} {y7 y8 y9 y10 : Option PV} (hP : P.nx = N) (hh : HandAt a S) (off : Off a S0 S) (ht : t.length ≤ 7200)
    (hN : ∀ y7 S', HandAt a S' → Off a S0 S' → N [some x0, some (.ref a), x2, x3, x4, some (.str t), x6, y7, y8, y9, y10, none, none] S') :
    w_law_1 K P [some x0, some (.ref a), x2, x3, x4, some (.str t), x6, y7, y8, y9, y10, none, none] S := by
  obtain ⟨nx, rt, bk, ct, ex⟩ := P
  have hP : nx = N := hP
  subst hP
  have ask : ∀ (y : Str) S', y.length + 2 ≤ TxL → HandAt a S' → Off a S0 S' → sp__law_told K [.str y] S' (fun p S1 => kRepr p S1 fun p1 S1 => [PV.str y].length = 1 ∧ sp__law_read K [.str y] S1 (fun p S1 => kRepr p S1 fun q S2 => kEqA true p1 q S2 (kB fun b S' => if b = true then rt (.bl false) S' else nx [some x0, some (.ref a), x2, x3, x4, some (.str t), x6, some (.str y), y8, y9, y10, none, none] S')) (fun e S' => ex e [some x0, some (.ref a), x2, x3, x4, some (.str t), x6, some (.str y), y8, y9, y10, none, none] S')) (fun e S' => ex e [some x0, some (.ref a), x2, x3, x4, some (.str t), x6, some (.str y), y8, y9, y10, none, none] S') := fun y S' hy h o => by
    obtain ⟨sh, hsh⟩ := repr_out hy
    refine t_told hy ?_
    rw [hsh]
    refine ⟨rfl, t_read hy ?_⟩
    rw [hsh, k_eq_str, decide_eq_true rfl]
    exact hN _ S' h o
  simp -implicitDefEqProofs only [w_law_1, ↓e_ret, ↓e_retN, ↓e_nxt, ↓e_seq, ↓e_nev, ↓e_brk, ↓e_cnt, ↓e_expr, ↓e_ifs, ↓e_set, ↓e_asg, ↓par2_two, ↓e_par, ↓e_for, ↓e_setF, ↓e_put, ↓opt_some, ↓e_var, ↓e_c, ↓e_b, ↓e_1, ↓e_tst, ↓e_kB, ↓e_tru, ↓e_notT, ↓e_andT, ↓e_orT, ↓truK_bl, ↓e_andV, ↓e_orV, ↓e_notV, ↓e_if, ↓chK_bl, ↓e_ch, ↓e_nil, ↓e_cons, ↓e_tup, ↓e_lst, ↓e_lstF, ↓e_call, ↓e_arN, ↓e_p1, ↓e_p2, ↓e_meth, ↓e_bm, ↓e_fld, ↓e_lc, ↓e_dc, ↓e_it, ↓e_rng1, ↓e_rng2, ↓e_intB, ↓e_sl, ↓e_no, ↓e_so, ↓e_yes, ↓e_anm, ↓gs_0, ↓gs_s, ↓dr_int, ↓dr_str, ↓dr_bl, ↓dr_nn, ↓dr_tup, ↓dr_lst, ↓dr_dct, ↓dr_obj, ↓k_lt_int, ↓k_le_int, ↓k_gt_int, ↓k_ge_int, ↓k_lt_str, ↓k_add_int, ↓k_add_str, ↓k_add_tup, ↓k_add_lst, ↓k_sub, ↓k_mul, ↓k_div, ↓k_mod, ↓k_pow, ↓k_neg, ↓k_eq_int, ↓k_eq_str, ↓k_is_nn, ↓k_is_int, ↓k_is_tup, ↓k_is_obj, ↓k_ix_lst, ↓k_ix_tup, ↓k_ix_str, ↓k_ix_dct, ↓k_len_str, ↓k_len_lst, ↓k_len_tup, ↓k_int_int, ↓k_int_bl, ↓k_abs, ↓k_str_int, ↓k_str_str, ↓k_tup_lst, ↓k_it_str, ↓k_it_tup, ↓k_it_lst, ↓k_in_dct, ↓e_enum, ↓k_en_tup, ↓k_en_lst, ↓e_atp, ↓e_lcM, ↓par3_three, ↓e_lits, ↓e_par3, ↓e_rev, ↓e_dct0, ↓e_nevE, ↓e_raise1, ↓e_exF, ↓e_exI, ↓e_tryA, ↓k_rev_lst, ↓k_addM_lst, ↓k_max2, ↓k_min2, List.set_cons_zero, List.set_cons_succ, wipeP]
  refine ⟨rfl, a, t, rfl, hh, by omega, fun y S1 hy h1 o1 => ?_⟩
  simp -implicitDefEqProofs only [↓e_ret, ↓e_retN, ↓e_nxt, ↓e_seq, ↓e_nev, ↓e_brk, ↓e_cnt, ↓e_expr, ↓e_ifs, ↓e_set, ↓e_asg, ↓par2_two, ↓e_par, ↓e_for, ↓e_setF, ↓e_put, ↓opt_some, ↓e_var, ↓e_c, ↓e_b, ↓e_1, ↓e_tst, ↓e_kB, ↓e_tru, ↓e_notT, ↓e_andT, ↓e_orT, ↓truK_bl, ↓e_andV, ↓e_orV, ↓e_notV, ↓e_if, ↓chK_bl, ↓e_ch, ↓e_nil, ↓e_cons, ↓e_tup, ↓e_lst, ↓e_lstF, ↓e_call, ↓e_arN, ↓e_p1, ↓e_p2, ↓e_meth, ↓e_bm, ↓e_fld, ↓e_lc, ↓e_dc, ↓e_it, ↓e_rng1, ↓e_rng2, ↓e_intB, ↓e_sl, ↓e_no, ↓e_so, ↓e_yes, ↓e_anm, ↓gs_0, ↓gs_s, ↓dr_int, ↓dr_str, ↓dr_bl, ↓dr_nn, ↓dr_tup, ↓dr_lst, ↓dr_dct, ↓dr_obj, ↓k_lt_int, ↓k_le_int, ↓k_gt_int, ↓k_ge_int, ↓k_lt_str, ↓k_add_int, ↓k_add_str, ↓k_add_tup, ↓k_add_lst, ↓k_sub, ↓k_mul, ↓k_div, ↓k_mod, ↓k_pow, ↓k_neg, ↓k_eq_int, ↓k_eq_str, ↓k_is_nn, ↓k_is_int, ↓k_is_tup, ↓k_is_obj, ↓k_ix_lst, ↓k_ix_tup, ↓k_ix_str, ↓k_ix_dct, ↓k_len_str, ↓k_len_lst, ↓k_len_tup, ↓k_int_int, ↓k_int_bl, ↓k_abs, ↓k_str_int, ↓k_str_str, ↓k_tup_lst, ↓k_it_str, ↓k_it_tup, ↓k_it_lst, ↓k_in_dct, ↓e_enum, ↓k_en_tup, ↓k_en_lst, ↓e_atp, ↓e_lcM, ↓par3_three, ↓e_lits, ↓e_par3, ↓e_rev, ↓e_dct0, ↓e_nevE, ↓e_raise1, ↓e_exF, ↓e_exI, ↓e_tryA, ↓k_rev_lst, ↓k_addM_lst, ↓k_max2, ↓k_min2, List.set_cons_zero, List.set_cons_succ, wipeP]
  refine ⟨rfl, t_draw h1 (by omega) (by omega) fun d S2 _ _ h2 o2 => ?_⟩
  have off2 : Off a S0 S2 := off.tr (o1.tr o2)
  simp -implicitDefEqProofs only [↓e_ret, ↓e_retN, ↓e_nxt, ↓e_seq, ↓e_nev, ↓e_brk, ↓e_cnt, ↓e_expr, ↓e_ifs, ↓e_set, ↓e_asg, ↓par2_two, ↓e_par, ↓e_for, ↓e_setF, ↓e_put, ↓opt_some, ↓e_var, ↓e_c, ↓e_b, ↓e_1, ↓e_tst, ↓e_kB, ↓e_tru, ↓e_notT, ↓e_andT, ↓e_orT, ↓truK_bl, ↓e_andV, ↓e_orV, ↓e_notV, ↓e_if, ↓chK_bl, ↓e_ch, ↓e_nil, ↓e_cons, ↓e_tup, ↓e_lst, ↓e_lstF, ↓e_call, ↓e_arN, ↓e_p1, ↓e_p2, ↓e_meth, ↓e_bm, ↓e_fld, ↓e_lc, ↓e_dc, ↓e_it, ↓e_rng1, ↓e_rng2, ↓e_intB, ↓e_sl, ↓e_no, ↓e_so, ↓e_yes, ↓e_anm, ↓gs_0, ↓gs_s, ↓dr_int, ↓dr_str, ↓dr_bl, ↓dr_nn, ↓dr_tup, ↓dr_lst, ↓dr_dct, ↓dr_obj, ↓k_lt_int, ↓k_le_int, ↓k_gt_int, ↓k_ge_int, ↓k_lt_str, ↓k_add_int, ↓k_add_str, ↓k_add_tup, ↓k_add_lst, ↓k_sub, ↓k_mul, ↓k_div, ↓k_mod, ↓k_pow, ↓k_neg, ↓k_eq_int, ↓k_eq_str, ↓k_is_nn, ↓k_is_int, ↓k_is_tup, ↓k_is_obj, ↓k_ix_lst, ↓k_ix_tup, ↓k_ix_str, ↓k_ix_dct, ↓k_len_str, ↓k_len_lst, ↓k_len_tup, ↓k_int_int, ↓k_int_bl, ↓k_abs, ↓k_str_int, ↓k_str_str, ↓k_tup_lst, ↓k_it_str, ↓k_it_tup, ↓k_it_lst, ↓k_in_dct, ↓e_enum, ↓k_en_tup, ↓k_en_lst, ↓e_atp, ↓e_lcM, ↓par3_three, ↓e_lits, ↓e_par3, ↓e_rev, ↓e_dct0, ↓e_nevE, ↓e_raise1, ↓e_exF, ↓e_exI, ↓e_tryA, ↓k_rev_lst, ↓k_addM_lst, ↓k_max2, ↓k_min2, List.set_cons_zero, List.set_cons_succ, wipeP, Bool.bne_false]
  by_cases hd : d = 0
  · rw [decide_eq_true hd]
    simp -implicitDefEqProofs only [↓e_ret, ↓e_retN, ↓e_nxt, ↓e_seq, ↓e_nev, ↓e_brk, ↓e_cnt, ↓e_expr, ↓e_ifs, ↓e_set, ↓e_asg, ↓par2_two, ↓e_par, ↓e_for, ↓e_setF, ↓e_put, ↓opt_some, ↓e_var, ↓e_c, ↓e_b, ↓e_1, ↓e_tst, ↓e_kB, ↓e_tru, ↓e_notT, ↓e_andT, ↓e_orT, ↓truK_bl, ↓e_andV, ↓e_orV, ↓e_notV, ↓e_if, ↓chK_bl, ↓e_ch, ↓e_nil, ↓e_cons, ↓e_tup, ↓e_lst, ↓e_lstF, ↓e_call, ↓e_arN, ↓e_p1, ↓e_p2, ↓e_meth, ↓e_bm, ↓e_fld, ↓e_lc, ↓e_dc, ↓e_it, ↓e_rng1, ↓e_rng2, ↓e_intB, ↓e_sl, ↓e_no, ↓e_so, ↓e_yes, ↓e_anm, ↓gs_0, ↓gs_s, ↓dr_int, ↓dr_str, ↓dr_bl, ↓dr_nn, ↓dr_tup, ↓dr_lst, ↓dr_dct, ↓dr_obj, ↓k_lt_int, ↓k_le_int, ↓k_gt_int, ↓k_ge_int, ↓k_lt_str, ↓k_add_int, ↓k_add_str, ↓k_add_tup, ↓k_add_lst, ↓k_sub, ↓k_mul, ↓k_div, ↓k_mod, ↓k_pow, ↓k_neg, ↓k_eq_int, ↓k_eq_str, ↓k_is_nn, ↓k_is_int, ↓k_is_tup, ↓k_is_obj, ↓k_ix_lst, ↓k_ix_tup, ↓k_ix_str, ↓k_ix_dct, ↓k_len_str, ↓k_len_lst, ↓k_len_tup, ↓k_int_int, ↓k_int_bl, ↓k_abs, ↓k_str_int, ↓k_str_str, ↓k_tup_lst, ↓k_it_str, ↓k_it_tup, ↓k_it_lst, ↓k_in_dct, ↓e_enum, ↓k_en_tup, ↓k_en_lst, ↓e_atp, ↓e_lcM, ↓par3_three, ↓e_lits, ↓e_par3, ↓e_rev, ↓e_dct0, ↓e_nevE, ↓e_raise1, ↓e_exF, ↓e_exI, ↓e_tryA, ↓k_rev_lst, ↓k_addM_lst, ↓k_max2, ↓k_min2, List.set_cons_zero, List.set_cons_succ, wipeP, if_true]
    refine ⟨rfl, a, y, rfl, h2, by omega, fun z S3 hz' h3 o3 => ?_⟩
    simp -implicitDefEqProofs only [↓e_ret, ↓e_retN, ↓e_nxt, ↓e_seq, ↓e_nev, ↓e_brk, ↓e_cnt, ↓e_expr, ↓e_ifs, ↓e_set, ↓e_asg, ↓par2_two, ↓e_par, ↓e_for, ↓e_setF, ↓e_put, ↓opt_some, ↓e_var, ↓e_c, ↓e_b, ↓e_1, ↓e_tst, ↓e_kB, ↓e_tru, ↓e_notT, ↓e_andT, ↓e_orT, ↓truK_bl, ↓e_andV, ↓e_orV, ↓e_notV, ↓e_if, ↓chK_bl, ↓e_ch, ↓e_nil, ↓e_cons, ↓e_tup, ↓e_lst, ↓e_lstF, ↓e_call, ↓e_arN, ↓e_p1, ↓e_p2, ↓e_meth, ↓e_bm, ↓e_fld, ↓e_lc, ↓e_dc, ↓e_it, ↓e_rng1, ↓e_rng2, ↓e_intB, ↓e_sl, ↓e_no, ↓e_so, ↓e_yes, ↓e_anm, ↓gs_0, ↓gs_s, ↓dr_int, ↓dr_str, ↓dr_bl, ↓dr_nn, ↓dr_tup, ↓dr_lst, ↓dr_dct, ↓dr_obj, ↓k_lt_int, ↓k_le_int, ↓k_gt_int, ↓k_ge_int, ↓k_lt_str, ↓k_add_int, ↓k_add_str, ↓k_add_tup, ↓k_add_lst, ↓k_sub, ↓k_mul, ↓k_div, ↓k_mod, ↓k_pow, ↓k_neg, ↓k_eq_int, ↓k_eq_str, ↓k_is_nn, ↓k_is_int, ↓k_is_tup, ↓k_is_obj, ↓k_ix_lst, ↓k_ix_tup, ↓k_ix_str, ↓k_ix_dct, ↓k_len_str, ↓k_len_lst, ↓k_len_tup, ↓k_int_int, ↓k_int_bl, ↓k_abs, ↓k_str_int, ↓k_str_str, ↓k_tup_lst, ↓k_it_str, ↓k_it_tup, ↓k_it_lst, ↓k_in_dct, ↓e_enum, ↓k_en_tup, ↓k_en_lst, ↓e_atp, ↓e_lcM, ↓par3_three, ↓e_lits, ↓e_par3, ↓e_rev, ↓e_dct0, ↓e_nevE, ↓e_raise1, ↓e_exF, ↓e_exI, ↓e_tryA, ↓k_rev_lst, ↓k_addM_lst, ↓k_max2, ↓k_min2, List.set_cons_zero, List.set_cons_succ, wipeP]
    exact ⟨rfl, ask z S3 (by unfold TxL; omega) h3 (off2.tr o3)⟩
  · rw [decide_eq_false hd]
    simp -implicitDefEqProofs only [↓e_ret, ↓e_retN, ↓e_nxt, ↓e_seq, ↓e_nev, ↓e_brk, ↓e_cnt, ↓e_expr, ↓e_ifs, ↓e_set, ↓e_asg, ↓par2_two, ↓e_par, ↓e_for, ↓e_setF, ↓e_put, ↓opt_some, ↓e_var, ↓e_c, ↓e_b, ↓e_1, ↓e_tst, ↓e_kB, ↓e_tru, ↓e_notT, ↓e_andT, ↓e_orT, ↓truK_bl, ↓e_andV, ↓e_orV, ↓e_notV, ↓e_if, ↓chK_bl, ↓e_ch, ↓e_nil, ↓e_cons, ↓e_tup, ↓e_lst, ↓e_lstF, ↓e_call, ↓e_arN, ↓e_p1, ↓e_p2, ↓e_meth, ↓e_bm, ↓e_fld, ↓e_lc, ↓e_dc, ↓e_it, ↓e_rng1, ↓e_rng2, ↓e_intB, ↓e_sl, ↓e_no, ↓e_so, ↓e_yes, ↓e_anm, ↓gs_0, ↓gs_s, ↓dr_int, ↓dr_str, ↓dr_bl, ↓dr_nn, ↓dr_tup, ↓dr_lst, ↓dr_dct, ↓dr_obj, ↓k_lt_int, ↓k_le_int, ↓k_gt_int, ↓k_ge_int, ↓k_lt_str, ↓k_add_int, ↓k_add_str, ↓k_add_tup, ↓k_add_lst, ↓k_sub, ↓k_mul, ↓k_div, ↓k_mod, ↓k_pow, ↓k_neg, ↓k_eq_int, ↓k_eq_str, ↓k_is_nn, ↓k_is_int, ↓k_is_tup, ↓k_is_obj, ↓k_ix_lst, ↓k_ix_tup, ↓k_ix_str, ↓k_ix_dct, ↓k_len_str, ↓k_len_lst, ↓k_len_tup, ↓k_int_int, ↓k_int_bl, ↓k_abs, ↓k_str_int, ↓k_str_str, ↓k_tup_lst, ↓k_it_str, ↓k_it_tup, ↓k_it_lst, ↓k_in_dct, ↓e_enum, ↓k_en_tup, ↓k_en_lst, ↓e_atp, ↓e_lcM, ↓par3_three, ↓e_lits, ↓e_par3, ↓e_rev, ↓e_dct0, ↓e_nevE, ↓e_raise1, ↓e_exF, ↓e_exI, ↓e_tryA, ↓k_rev_lst, ↓k_addM_lst, ↓k_max2, ↓k_min2, List.set_cons_zero, List.set_cons_succ, wipeP, Bool.false_eq_true, if_false]
    exact ⟨rfl, ask y S2 (by unfold TxL; omega) h2 off2⟩

theorem len_a : ("a" : Str).length = 1 := by decide +kernel
theorem len_b : ("b" : Str).length = 1 := by decide +kernel
theorem len_zz : ("town zz\n" : Str).length = 8 := by decide +kernel
theorem one_len (c : Nat) : (⟨#[c]⟩ : Str).length = 1 := rfl
theorem many_text : Txt.join "" (many40.map fun t : Str => (("town " ++ t : Str) ++ "\n" : Str)) = netText many40 [] := by
  unfold netText
  have hl : linesOf many40 [] = many40.map townLine := List.append_nil _
  rw [hl, List.map_map]; rfl
theorem pure_law (K : PySem.W.Frag) : ∀ ps S R Z, ps.length = 1 → sp_law K ps S R Z → w_law K (fin R Z) (startP n_law ps) S := by
  intro ps S R Z hl h
  obtain ⟨ns, rfl, hR⟩ := h
  have e : startP n_law [.lst (ns.map PV.int)] = [some (.lst (ns.map PV.int)), none, none, none, none, none, none, none, none, none, none, none, none] := rfl
  rw [e]
  obtain ⟨x0, hx0⟩ : ∃ p, p = PV.lst (ns.map PV.int) := ⟨_, rfl⟩
  have hhand : ∀ S (R' : RK) Z', (∀ a S', S a = none → HandAt a S' → Off a S S' → R' (.ref a) S') → sp__law_hand K [x0] S R' Z' := fun S R' Z' h => ⟨ns, by rw [hx0], h⟩
  rw [← hx0]
  unfold w_law
  rw [e_seq]
  generalize hP1 : wSeq (wFor (wRng1 (wC (.int 4))) (.nm 2) (w_law_2 K)) _ = T1
  simp -implicitDefEqProofs only [↓e_ret, ↓e_retN, ↓e_nxt, ↓e_seq, ↓e_nev, ↓e_brk, ↓e_cnt, ↓e_expr, ↓e_ifs, ↓e_set, ↓e_asg, ↓par2_two, ↓e_par, ↓e_for, ↓e_setF, ↓e_put, ↓opt_some, ↓e_var, ↓e_c, ↓e_b, ↓e_1, ↓e_tst, ↓e_kB, ↓e_tru, ↓e_notT, ↓e_andT, ↓e_orT, ↓truK_bl, ↓e_andV, ↓e_orV, ↓e_notV, ↓e_if, ↓chK_bl, ↓e_ch, ↓e_nil, ↓e_cons, ↓e_tup, ↓e_lst, ↓e_lstF, ↓e_call, ↓e_arN, ↓e_p1, ↓e_p2, ↓e_meth, ↓e_bm, ↓e_fld, ↓e_lc, ↓e_dc, ↓e_it, ↓e_rng1, ↓e_rng2, ↓e_intB, ↓e_sl, ↓e_no, ↓e_so, ↓e_yes, ↓e_anm, ↓gs_0, ↓gs_s, ↓dr_int, ↓dr_str, ↓dr_bl, ↓dr_nn, ↓dr_tup, ↓dr_lst, ↓dr_dct, ↓dr_obj, ↓k_lt_int, ↓k_le_int, ↓k_gt_int, ↓k_ge_int, ↓k_lt_str, ↓k_add_int, ↓k_add_str, ↓k_add_tup, ↓k_add_lst, ↓k_sub, ↓k_mul, ↓k_div, ↓k_mod, ↓k_pow, ↓k_neg, ↓k_eq_int, ↓k_eq_str, ↓k_is_nn, ↓k_is_int, ↓k_is_tup, ↓k_is_obj, ↓k_ix_lst, ↓k_ix_tup, ↓k_ix_str, ↓k_ix_dct, ↓k_len_str, ↓k_len_lst, ↓k_len_tup, ↓k_int_int, ↓k_int_bl, ↓k_abs, ↓k_str_int, ↓k_str_str, ↓k_tup_lst, ↓k_it_str, ↓k_it_tup, ↓k_it_lst, ↓k_in_dct, ↓e_enum, ↓k_en_tup, ↓k_en_lst, ↓e_atp, ↓e_lcM, ↓par3_three, ↓e_lits, ↓e_par3, ↓e_rev, ↓e_dct0, ↓e_nevE, ↓e_raise1, ↓e_exF, ↓e_exI, ↓e_tryA, ↓k_rev_lst, ↓k_addM_lst, ↓k_max2, ↓k_min2, List.set_cons_zero, List.set_cons_succ, wipeP]
  refine ⟨rfl, hhand _ _ _ fun a S1 ha h1 o1 => ?_⟩
  subst hP1
  rw [e_seq]
  generalize hP2 : wSeq (wSet 8 _) _ = T2
  simp -implicitDefEqProofs only [↓e_ret, ↓e_retN, ↓e_nxt, ↓e_seq, ↓e_nev, ↓e_brk, ↓e_cnt, ↓e_expr, ↓e_ifs, ↓e_set, ↓e_asg, ↓par2_two, ↓e_par, ↓e_for, ↓e_setF, ↓e_put, ↓opt_some, ↓e_var, ↓e_c, ↓e_b, ↓e_1, ↓e_tst, ↓e_kB, ↓e_tru, ↓e_notT, ↓e_andT, ↓e_orT, ↓truK_bl, ↓e_andV, ↓e_orV, ↓e_notV, ↓e_if, ↓chK_bl, ↓e_ch, ↓e_nil, ↓e_cons, ↓e_tup, ↓e_lst, ↓e_lstF, ↓e_call, ↓e_arN, ↓e_p1, ↓e_p2, ↓e_meth, ↓e_bm, ↓e_fld, ↓e_lc, ↓e_dc, ↓e_it, ↓e_rng1, ↓e_rng2, ↓e_intB, ↓e_sl, ↓e_no, ↓e_so, ↓e_yes, ↓e_anm, ↓gs_0, ↓gs_s, ↓dr_int, ↓dr_str, ↓dr_bl, ↓dr_nn, ↓dr_tup, ↓dr_lst, ↓dr_dct, ↓dr_obj, ↓k_lt_int, ↓k_le_int, ↓k_gt_int, ↓k_ge_int, ↓k_lt_str, ↓k_add_int, ↓k_add_str, ↓k_add_tup, ↓k_add_lst, ↓k_sub, ↓k_mul, ↓k_div, ↓k_mod, ↓k_pow, ↓k_neg, ↓k_eq_int, ↓k_eq_str, ↓k_is_nn, ↓k_is_int, ↓k_is_tup, ↓k_is_obj, ↓k_ix_lst, ↓k_ix_tup, ↓k_ix_str, ↓k_ix_dct, ↓k_len_str, ↓k_len_lst, ↓k_len_tup, ↓k_int_int, ↓k_int_bl, ↓k_abs, ↓k_str_int, ↓k_str_str, ↓k_tup_lst, ↓k_it_str, ↓k_it_tup, ↓k_it_lst, ↓k_in_dct, ↓e_enum, ↓k_en_tup, ↓k_en_lst, ↓e_atp, ↓e_lcM, ↓par3_three, ↓e_lits, ↓e_par3, ↓e_rev, ↓e_dct0, ↓e_nevE, ↓e_raise1, ↓e_exF, ↓e_exI, ↓e_tryA, ↓k_rev_lst, ↓k_addM_lst, ↓k_max2, ↓k_min2, List.set_cons_zero, List.set_cons_succ, wipeP]
  refine ⟨by omega, ?_⟩
  refine wForL_inv (fun (k : Nat) => PV.int (0 + k)) (fun rest ρ S' => HandAt a S' ∧ Off a S S' ∧ ∃ y2 y3 y4 y5 y6 y7, ρ = [some x0, some (.ref a), y2, y3, y4, y5, y6, y7, none, none, none, none, none])
    (fun k rest ρ S' ⟨hh, off, y2, y3, y4, y5, y6, y7, er⟩ => ⟨trivial, fun N hN => ?_⟩) (fun ρ S' ⟨hh, off, y2, y3, y4, y5, y6, y7, er⟩ => ⟨trivial, ?_⟩) (List.range 4) _ S1
    ⟨h1, o1, none, none, none, none, none, none, rfl⟩
  · subst er
    unfold w_law_2
    simp -implicitDefEqProofs only [↓e_ret, ↓e_retN, ↓e_nxt, ↓e_seq, ↓e_nev, ↓e_brk, ↓e_cnt, ↓e_expr, ↓e_ifs, ↓e_set, ↓e_asg, ↓par2_two, ↓e_par, ↓e_for, ↓e_setF, ↓e_put, ↓opt_some, ↓e_var, ↓e_c, ↓e_b, ↓e_1, ↓e_tst, ↓e_kB, ↓e_tru, ↓e_notT, ↓e_andT, ↓e_orT, ↓truK_bl, ↓e_andV, ↓e_orV, ↓e_notV, ↓e_if, ↓chK_bl, ↓e_ch, ↓e_nil, ↓e_cons, ↓e_tup, ↓e_lst, ↓e_lstF, ↓e_call, ↓e_arN, ↓e_p1, ↓e_p2, ↓e_meth, ↓e_bm, ↓e_fld, ↓e_lc, ↓e_dc, ↓e_it, ↓e_rng1, ↓e_rng2, ↓e_intB, ↓e_sl, ↓e_no, ↓e_so, ↓e_yes, ↓e_anm, ↓gs_0, ↓gs_s, ↓dr_int, ↓dr_str, ↓dr_bl, ↓dr_nn, ↓dr_tup, ↓dr_lst, ↓dr_dct, ↓dr_obj, ↓k_lt_int, ↓k_le_int, ↓k_gt_int, ↓k_ge_int, ↓k_lt_str, ↓k_add_int, ↓k_add_str, ↓k_add_tup, ↓k_add_lst, ↓k_sub, ↓k_mul, ↓k_div, ↓k_mod, ↓k_pow, ↓k_neg, ↓k_eq_int, ↓k_eq_str, ↓k_is_nn, ↓k_is_int, ↓k_is_tup, ↓k_is_obj, ↓k_ix_lst, ↓k_ix_tup, ↓k_ix_str, ↓k_ix_dct, ↓k_len_str, ↓k_len_lst, ↓k_len_tup, ↓k_int_int, ↓k_int_bl, ↓k_abs, ↓k_str_int, ↓k_str_str, ↓k_tup_lst, ↓k_it_str, ↓k_it_tup, ↓k_it_lst, ↓k_in_dct, ↓e_enum, ↓k_en_tup, ↓k_en_lst, ↓e_atp, ↓e_lcM, ↓par3_three, ↓e_lits, ↓e_par3, ↓e_rev, ↓e_dct0, ↓e_nevE, ↓e_raise1, ↓e_exF, ↓e_exI, ↓e_tryA, ↓k_rev_lst, ↓k_addM_lst, ↓k_max2, ↓k_min2, List.set_cons_zero, List.set_cons_succ, wipeP]
    refine ⟨rfl, a, 5, 5, rfl, hh, ⟨by omega, by omega⟩, ⟨by omega, by omega⟩, fun ts rs S2 ok tl rl h2 o2 => ?_⟩
    simp -implicitDefEqProofs only [↓e_ret, ↓e_retN, ↓e_nxt, ↓e_seq, ↓e_nev, ↓e_brk, ↓e_cnt, ↓e_expr, ↓e_ifs, ↓e_set, ↓e_asg, ↓par2_two, ↓e_par, ↓e_for, ↓e_setF, ↓e_put, ↓opt_some, ↓e_var, ↓e_c, ↓e_b, ↓e_1, ↓e_tst, ↓e_kB, ↓e_tru, ↓e_notT, ↓e_andT, ↓e_orT, ↓truK_bl, ↓e_andV, ↓e_orV, ↓e_notV, ↓e_if, ↓chK_bl, ↓e_ch, ↓e_nil, ↓e_cons, ↓e_tup, ↓e_lst, ↓e_lstF, ↓e_call, ↓e_arN, ↓e_p1, ↓e_p2, ↓e_meth, ↓e_bm, ↓e_fld, ↓e_lc, ↓e_dc, ↓e_it, ↓e_rng1, ↓e_rng2, ↓e_intB, ↓e_sl, ↓e_no, ↓e_so, ↓e_yes, ↓e_anm, ↓gs_0, ↓gs_s, ↓dr_int, ↓dr_str, ↓dr_bl, ↓dr_nn, ↓dr_tup, ↓dr_lst, ↓dr_dct, ↓dr_obj, ↓k_lt_int, ↓k_le_int, ↓k_gt_int, ↓k_ge_int, ↓k_lt_str, ↓k_add_int, ↓k_add_str, ↓k_add_tup, ↓k_add_lst, ↓k_sub, ↓k_mul, ↓k_div, ↓k_mod, ↓k_pow, ↓k_neg, ↓k_eq_int, ↓k_eq_str, ↓k_is_nn, ↓k_is_int, ↓k_is_tup, ↓k_is_obj, ↓k_ix_lst, ↓k_ix_tup, ↓k_ix_str, ↓k_ix_dct, ↓k_len_str, ↓k_len_lst, ↓k_len_tup, ↓k_int_int, ↓k_int_bl, ↓k_abs, ↓k_str_int, ↓k_str_str, ↓k_tup_lst, ↓k_it_str, ↓k_it_tup, ↓k_it_lst, ↓k_in_dct, ↓e_enum, ↓k_en_tup, ↓k_en_lst, ↓e_atp, ↓e_lcM, ↓par3_three, ↓e_lits, ↓e_par3, ↓e_rev, ↓e_dct0, ↓e_nevE, ↓e_raise1, ↓e_exF, ↓e_exI, ↓e_tryA, ↓k_rev_lst, ↓k_addM_lst, ↓k_max2, ↓k_min2, List.set_cons_zero, List.set_cons_succ, wipeP]
    refine ⟨rfl, ?_⟩
    simp -implicitDefEqProofs only [setM_cons, setM_nil, ↓e_ret, ↓e_retN, ↓e_nxt, ↓e_seq, ↓e_nev, ↓e_brk, ↓e_cnt, ↓e_expr, ↓e_ifs, ↓e_set, ↓e_asg, ↓par2_two, ↓e_par, ↓e_for, ↓e_setF, ↓e_put, ↓opt_some, ↓e_var, ↓e_c, ↓e_b, ↓e_1, ↓e_tst, ↓e_kB, ↓e_tru, ↓e_notT, ↓e_andT, ↓e_orT, ↓truK_bl, ↓e_andV, ↓e_orV, ↓e_notV, ↓e_if, ↓chK_bl, ↓e_ch, ↓e_nil, ↓e_cons, ↓e_tup, ↓e_lst, ↓e_lstF, ↓e_call, ↓e_arN, ↓e_p1, ↓e_p2, ↓e_meth, ↓e_bm, ↓e_fld, ↓e_lc, ↓e_dc, ↓e_it, ↓e_rng1, ↓e_rng2, ↓e_intB, ↓e_sl, ↓e_no, ↓e_so, ↓e_yes, ↓e_anm, ↓gs_0, ↓gs_s, ↓dr_int, ↓dr_str, ↓dr_bl, ↓dr_nn, ↓dr_tup, ↓dr_lst, ↓dr_dct, ↓dr_obj, ↓k_lt_int, ↓k_le_int, ↓k_gt_int, ↓k_ge_int, ↓k_lt_str, ↓k_add_int, ↓k_add_str, ↓k_add_tup, ↓k_add_lst, ↓k_sub, ↓k_mul, ↓k_div, ↓k_mod, ↓k_pow, ↓k_neg, ↓k_eq_int, ↓k_eq_str, ↓k_is_nn, ↓k_is_int, ↓k_is_tup, ↓k_is_obj, ↓k_ix_lst, ↓k_ix_tup, ↓k_ix_str, ↓k_ix_dct, ↓k_len_str, ↓k_len_lst, ↓k_len_tup, ↓k_int_int, ↓k_int_bl, ↓k_abs, ↓k_str_int, ↓k_str_str, ↓k_tup_lst, ↓k_it_str, ↓k_it_tup, ↓k_it_lst, ↓k_in_dct, ↓e_enum, ↓k_en_tup, ↓k_en_lst, ↓e_atp, ↓e_lcM, ↓par3_three, ↓e_lits, ↓e_par3, ↓e_rev, ↓e_dct0, ↓e_nevE, ↓e_raise1, ↓e_exF, ↓e_exI, ↓e_tryA, ↓k_rev_lst, ↓k_addM_lst, ↓k_max2, ↓k_min2, List.set_cons_zero, List.set_cons_succ, wipeP]
    refine ⟨rfl, ts, rs, rfl, ok, ?_⟩
    simp -implicitDefEqProofs only [↓e_ret, ↓e_retN, ↓e_nxt, ↓e_seq, ↓e_nev, ↓e_brk, ↓e_cnt, ↓e_expr, ↓e_ifs, ↓e_set, ↓e_asg, ↓par2_two, ↓e_par, ↓e_for, ↓e_setF, ↓e_put, ↓opt_some, ↓e_var, ↓e_c, ↓e_b, ↓e_1, ↓e_tst, ↓e_kB, ↓e_tru, ↓e_notT, ↓e_andT, ↓e_orT, ↓truK_bl, ↓e_andV, ↓e_orV, ↓e_notV, ↓e_if, ↓chK_bl, ↓e_ch, ↓e_nil, ↓e_cons, ↓e_tup, ↓e_lst, ↓e_lstF, ↓e_call, ↓e_arN, ↓e_p1, ↓e_p2, ↓e_meth, ↓e_bm, ↓e_fld, ↓e_lc, ↓e_dc, ↓e_it, ↓e_rng1, ↓e_rng2, ↓e_intB, ↓e_sl, ↓e_no, ↓e_so, ↓e_yes, ↓e_anm, ↓gs_0, ↓gs_s, ↓dr_int, ↓dr_str, ↓dr_bl, ↓dr_nn, ↓dr_tup, ↓dr_lst, ↓dr_dct, ↓dr_obj, ↓k_lt_int, ↓k_le_int, ↓k_gt_int, ↓k_ge_int, ↓k_lt_str, ↓k_add_int, ↓k_add_str, ↓k_add_tup, ↓k_add_lst, ↓k_sub, ↓k_mul, ↓k_div, ↓k_mod, ↓k_pow, ↓k_neg, ↓k_eq_int, ↓k_eq_str, ↓k_is_nn, ↓k_is_int, ↓k_is_tup, ↓k_is_obj, ↓k_ix_lst, ↓k_ix_tup, ↓k_ix_str, ↓k_ix_dct, ↓k_len_str, ↓k_len_lst, ↓k_len_tup, ↓k_int_int, ↓k_int_bl, ↓k_abs, ↓k_str_int, ↓k_str_str, ↓k_tup_lst, ↓k_it_str, ↓k_it_tup, ↓k_it_lst, ↓k_in_dct, ↓e_enum, ↓k_en_tup, ↓k_en_lst, ↓e_atp, ↓e_lcM, ↓par3_three, ↓e_lits, ↓e_par3, ↓e_rev, ↓e_dct0, ↓e_nevE, ↓e_raise1, ↓e_exF, ↓e_exI, ↓e_tryA, ↓k_rev_lst, ↓k_addM_lst, ↓k_max2, ↓k_min2, List.set_cons_zero, List.set_cons_succ, wipeP]
    refine ⟨by omega, ?_⟩
    have htl := netText_len ok
    refine wForL_inv (fun (k : Nat) => PV.int (0 + k)) (fun rest ρ S' => HandAt a S' ∧ Off a S S' ∧ ∃ y6 y7, ρ = [some x0, some (.ref a), some (.int (0 + k)), some (townsP ts), some (roadsP rs), some (.str (netText ts rs)), y6, y7, none, none, none, none, none])
      (fun k2 rest2 ρ S3 ⟨hh3, off3, y6, y7, er⟩ => ⟨trivial, fun N2 hN2 => ?_⟩) (fun ρ S3 ⟨hh3, off3, y6, y7, er⟩ => ⟨trivial, ?_⟩) (List.range 7) _ S2
      ⟨h2, off.tr o2, _, _, rfl⟩
    · subst er
      exact law_ask (S0 := S) rfl hh3 off3 htl fun y7 S4 h4 o4 => hN2 _ _ ⟨h4, o4, _, _, rfl⟩
    · subst er
      exact hN _ _ ⟨hh3, off3, _, _, _, _, _, _, rfl⟩
  · subst er
    subst hP2
    have sub : Sub S S' := fun x o e => by rw [off x (fun z => by rw [z, ha] at e; cases e)]; exact e
    simp -implicitDefEqProofs only [↓e_ret, ↓e_retN, ↓e_nxt, ↓e_seq, ↓e_nev, ↓e_brk, ↓e_cnt, ↓e_expr, ↓e_ifs, ↓e_set, ↓e_asg, ↓par2_two, ↓e_par, ↓e_for, ↓e_setF, ↓e_put, ↓opt_some, ↓e_var, ↓e_c, ↓e_b, ↓e_1, ↓e_tst, ↓e_kB, ↓e_tru, ↓e_notT, ↓e_andT, ↓e_orT, ↓truK_bl, ↓e_andV, ↓e_orV, ↓e_notV, ↓e_if, ↓chK_bl, ↓e_ch, ↓e_nil, ↓e_cons, ↓e_tup, ↓e_lst, ↓e_lstF, ↓e_call, ↓e_arN, ↓e_p1, ↓e_p2, ↓e_meth, ↓e_bm, ↓e_fld, ↓e_lc, ↓e_dc, ↓e_it, ↓e_rng1, ↓e_rng2, ↓e_intB, ↓e_sl, ↓e_no, ↓e_so, ↓e_yes, ↓e_anm, ↓gs_0, ↓gs_s, ↓dr_int, ↓dr_str, ↓dr_bl, ↓dr_nn, ↓dr_tup, ↓dr_lst, ↓dr_dct, ↓dr_obj, ↓k_lt_int, ↓k_le_int, ↓k_gt_int, ↓k_ge_int, ↓k_lt_str, ↓k_add_int, ↓k_add_str, ↓k_add_tup, ↓k_add_lst, ↓k_sub, ↓k_mul, ↓k_div, ↓k_mod, ↓k_pow, ↓k_neg, ↓k_eq_int, ↓k_eq_str, ↓k_is_nn, ↓k_is_int, ↓k_is_tup, ↓k_is_obj, ↓k_ix_lst, ↓k_ix_tup, ↓k_ix_str, ↓k_ix_dct, ↓k_len_str, ↓k_len_lst, ↓k_len_tup, ↓k_int_int, ↓k_int_bl, ↓k_abs, ↓k_str_int, ↓k_str_str, ↓k_tup_lst, ↓k_it_str, ↓k_it_tup, ↓k_it_lst, ↓k_in_dct, ↓e_enum, ↓k_en_tup, ↓k_en_lst, ↓e_atp, ↓e_lcM, ↓par3_three, ↓e_lits, ↓e_par3, ↓e_rev, ↓e_dct0, ↓e_nevE, ↓e_raise1, ↓e_exF, ↓e_exI, ↓e_tryA, ↓k_rev_lst, ↓k_addM_lst, ↓k_max2, ↓k_min2, List.set_cons_zero, List.set_cons_succ, wipeP, k_it_str]
    refine wLcL_allM (ok := fun _ => True) (fun c => PV.str ⟨#[c]⟩) (fun c => PV.str (("a" : Str) ++ ⟨#[c]⟩ : Str)) trivial ls20 (fun c hc R' hR' => ?_) (by decide +kernel) ?_
    · simp -implicitDefEqProofs only [w_law_3, ↓e_ret, ↓e_retN, ↓e_nxt, ↓e_seq, ↓e_nev, ↓e_brk, ↓e_cnt, ↓e_expr, ↓e_ifs, ↓e_set, ↓e_asg, ↓par2_two, ↓e_par, ↓e_for, ↓e_setF, ↓e_put, ↓opt_some, ↓e_var, ↓e_c, ↓e_b, ↓e_1, ↓e_tst, ↓e_kB, ↓e_tru, ↓e_notT, ↓e_andT, ↓e_orT, ↓truK_bl, ↓e_andV, ↓e_orV, ↓e_notV, ↓e_if, ↓chK_bl, ↓e_ch, ↓e_nil, ↓e_cons, ↓e_tup, ↓e_lst, ↓e_lstF, ↓e_call, ↓e_arN, ↓e_p1, ↓e_p2, ↓e_meth, ↓e_bm, ↓e_fld, ↓e_lc, ↓e_dc, ↓e_it, ↓e_rng1, ↓e_rng2, ↓e_intB, ↓e_sl, ↓e_no, ↓e_so, ↓e_yes, ↓e_anm, ↓gs_0, ↓gs_s, ↓dr_int, ↓dr_str, ↓dr_bl, ↓dr_nn, ↓dr_tup, ↓dr_lst, ↓dr_dct, ↓dr_obj, ↓k_lt_int, ↓k_le_int, ↓k_gt_int, ↓k_ge_int, ↓k_lt_str, ↓k_add_int, ↓k_add_str, ↓k_add_tup, ↓k_add_lst, ↓k_sub, ↓k_mul, ↓k_div, ↓k_mod, ↓k_pow, ↓k_neg, ↓k_eq_int, ↓k_eq_str, ↓k_is_nn, ↓k_is_int, ↓k_is_tup, ↓k_is_obj, ↓k_ix_lst, ↓k_ix_tup, ↓k_ix_str, ↓k_ix_dct, ↓k_len_str, ↓k_len_lst, ↓k_len_tup, ↓k_int_int, ↓k_int_bl, ↓k_abs, ↓k_str_int, ↓k_str_str, ↓k_tup_lst, ↓k_it_str, ↓k_it_tup, ↓k_it_lst, ↓k_in_dct, ↓e_enum, ↓k_en_tup, ↓k_en_lst, ↓e_atp, ↓e_lcM, ↓par3_three, ↓e_lits, ↓e_par3, ↓e_rev, ↓e_dct0, ↓e_nevE, ↓e_raise1, ↓e_exF, ↓e_exI, ↓e_tryA, ↓k_rev_lst, ↓k_addM_lst, ↓k_max2, ↓k_min2, List.set_cons_zero, List.set_cons_succ, wipeP]
      exact ⟨by rw [len_a, one_len, sizeLine_eq]; omega, hR'⟩
    refine wLcL_allM (ok := fun _ => True) (fun c => PV.str ⟨#[c]⟩) (fun c => PV.str (("b" : Str) ++ ⟨#[c]⟩ : Str)) trivial ls20 (fun c hc R' hR' => ?_) (by decide +kernel) ?_
    · simp -implicitDefEqProofs only [w_law_4, ↓e_ret, ↓e_retN, ↓e_nxt, ↓e_seq, ↓e_nev, ↓e_brk, ↓e_cnt, ↓e_expr, ↓e_ifs, ↓e_set, ↓e_asg, ↓par2_two, ↓e_par, ↓e_for, ↓e_setF, ↓e_put, ↓opt_some, ↓e_var, ↓e_c, ↓e_b, ↓e_1, ↓e_tst, ↓e_kB, ↓e_tru, ↓e_notT, ↓e_andT, ↓e_orT, ↓truK_bl, ↓e_andV, ↓e_orV, ↓e_notV, ↓e_if, ↓chK_bl, ↓e_ch, ↓e_nil, ↓e_cons, ↓e_tup, ↓e_lst, ↓e_lstF, ↓e_call, ↓e_arN, ↓e_p1, ↓e_p2, ↓e_meth, ↓e_bm, ↓e_fld, ↓e_lc, ↓e_dc, ↓e_it, ↓e_rng1, ↓e_rng2, ↓e_intB, ↓e_sl, ↓e_no, ↓e_so, ↓e_yes, ↓e_anm, ↓gs_0, ↓gs_s, ↓dr_int, ↓dr_str, ↓dr_bl, ↓dr_nn, ↓dr_tup, ↓dr_lst, ↓dr_dct, ↓dr_obj, ↓k_lt_int, ↓k_le_int, ↓k_gt_int, ↓k_ge_int, ↓k_lt_str, ↓k_add_int, ↓k_add_str, ↓k_add_tup, ↓k_add_lst, ↓k_sub, ↓k_mul, ↓k_div, ↓k_mod, ↓k_pow, ↓k_neg, ↓k_eq_int, ↓k_eq_str, ↓k_is_nn, ↓k_is_int, ↓k_is_tup, ↓k_is_obj, ↓k_ix_lst, ↓k_ix_tup, ↓k_ix_str, ↓k_ix_dct, ↓k_len_str, ↓k_len_lst, ↓k_len_tup, ↓k_int_int, ↓k_int_bl, ↓k_abs, ↓k_str_int, ↓k_str_str, ↓k_tup_lst, ↓k_it_str, ↓k_it_tup, ↓k_it_lst, ↓k_in_dct, ↓e_enum, ↓k_en_tup, ↓k_en_lst, ↓e_atp, ↓e_lcM, ↓par3_three, ↓e_lits, ↓e_par3, ↓e_rev, ↓e_dct0, ↓e_nevE, ↓e_raise1, ↓e_exF, ↓e_exI, ↓e_tryA, ↓k_rev_lst, ↓k_addM_lst, ↓k_max2, ↓k_min2, List.set_cons_zero, List.set_cons_succ, wipeP]
      exact ⟨by rw [len_b, one_len, sizeLine_eq]; omega, hR'⟩
    have em : (ls20.map fun c => PV.str (("a" : Str) ++ ⟨#[c]⟩ : Str)) ++ (ls20.map fun c => PV.str (("b" : Str) ++ ⟨#[c]⟩ : Str)) = many40.map PV.str := by
      unfold many40
      rw [List.map_append, List.map_map, List.map_map]; rfl
    rw [em]
    have h40 : many40.length = 40 := by decide +kernel
    clear em
    have sz1 : ∀ {n : Nat}, n ≤ 100000 → n ≤ sizeLine := fun {n} h => by rw [sizeLine_eq]; omega
    refine ⟨by rw [List.length_map, List.length_map, sizeLine_eq]; decide +kernel, rfl, ?_⟩
    refine wLcL_allM (ok := fun _ => True) PV.str (fun t : Str => PV.str (("town " ++ t : Str) ++ "\n" : Str)) trivial many40 (fun t ht R' hR' => ?_) (sz1 (by rw [h40]; omega)) ?_
    · simp -implicitDefEqProofs only [w_law_5, ↓e_ret, ↓e_retN, ↓e_nxt, ↓e_seq, ↓e_nev, ↓e_brk, ↓e_cnt, ↓e_expr, ↓e_ifs, ↓e_set, ↓e_asg, ↓par2_two, ↓e_par, ↓e_for, ↓e_setF, ↓e_put, ↓opt_some, ↓e_var, ↓e_c, ↓e_b, ↓e_1, ↓e_tst, ↓e_kB, ↓e_tru, ↓e_notT, ↓e_andT, ↓e_orT, ↓truK_bl, ↓e_andV, ↓e_orV, ↓e_notV, ↓e_if, ↓chK_bl, ↓e_ch, ↓e_nil, ↓e_cons, ↓e_tup, ↓e_lst, ↓e_lstF, ↓e_call, ↓e_arN, ↓e_p1, ↓e_p2, ↓e_meth, ↓e_bm, ↓e_fld, ↓e_lc, ↓e_dc, ↓e_it, ↓e_rng1, ↓e_rng2, ↓e_intB, ↓e_sl, ↓e_no, ↓e_so, ↓e_yes, ↓e_anm, ↓gs_0, ↓gs_s, ↓dr_int, ↓dr_str, ↓dr_bl, ↓dr_nn, ↓dr_tup, ↓dr_lst, ↓dr_dct, ↓dr_obj, ↓k_lt_int, ↓k_le_int, ↓k_gt_int, ↓k_ge_int, ↓k_lt_str, ↓k_add_int, ↓k_add_str, ↓k_add_tup, ↓k_add_lst, ↓k_sub, ↓k_mul, ↓k_div, ↓k_mod, ↓k_pow, ↓k_neg, ↓k_eq_int, ↓k_eq_str, ↓k_is_nn, ↓k_is_int, ↓k_is_tup, ↓k_is_obj, ↓k_ix_lst, ↓k_ix_tup, ↓k_ix_str, ↓k_ix_dct, ↓k_len_str, ↓k_len_lst, ↓k_len_tup, ↓k_int_int, ↓k_int_bl, ↓k_abs, ↓k_str_int, ↓k_str_str, ↓k_tup_lst, ↓k_it_str, ↓k_it_tup, ↓k_it_lst, ↓k_in_dct, ↓e_enum, ↓k_en_tup, ↓k_en_lst, ↓e_atp, ↓e_lcM, ↓par3_three, ↓e_lits, ↓e_par3, ↓e_rev, ↓e_dct0, ↓e_nevE, ↓e_raise1, ↓e_exF, ↓e_exI, ↓e_tryA, ↓k_rev_lst, ↓k_addM_lst, ↓k_max2, ↓k_min2, List.set_cons_zero, List.set_cons_succ, wipeP]
      have := name_sz (many40_ok.tn t ht)
      exact ⟨sz1 (by rw [len_town]; omega), sz1 (by rw [app_len, len_town, len_nl]; omega), hR'⟩
    have ej : (many40.map fun t : Str => PV.str (("town " ++ t : Str) ++ "\n" : Str)) = (many40.map fun t : Str => (("town " ++ t : Str) ++ "\n" : Str)).map PV.str := by rw [List.map_map]; rfl
    have hg := netText_len many40_ok
    rw [ej, k_join (ys := many40.map fun t : Str => (("town " ++ t : Str) ++ "\n" : Str)) rfl, many_text]
    refine ⟨?_, rfl, t_told (by unfold TxL; omega) ?_⟩
    · have := sum_le (f := Str.length) (B := 14) (many40.map fun t : Str => (("town " ++ t : Str) ++ "\n" : Str)) fun x hx => by
        obtain ⟨t, ht, rfl⟩ := List.mem_map.mp hx
        have := name_sz (many40_ok.tn t ht)
        rw [app_len, app_len, len_town, len_nl]; omega
      rw [List.length_map, h40] at this
      rw [List.length_map, h40, len_e]; omega
    rw [read_great]
    refine ⟨sz0 (by simp), sz0 (by simp), ?_⟩
    show kEqA true (.tup [townsP many40, roadsP []]) (.tup [townsP many40, roadsP []]) S' _
    rw [k_eq_net many40_ok, e_kB]
    simp only [Bool.bne_true, Bool.not_true, Bool.false_eq_true, if_false]
    rw [k_add_str]
    refine ⟨sz1 (by rw [len_zz]; omega), rfl, t_told (by unfold TxL; rw [app_len, len_zz]; omega) ?_⟩
    rw [read_more]
    show kEqA true (.int ((41 : Nat) : Int)) (.int 41) S' _
    rw [k_eq_int, decide_eq_true (by omega), e_kB]
    simp only [Bool.bne_true, Bool.not_true, Bool.false_eq_true, if_false]
    refine ⟨sz0 (by simp), sz0 (by simp), sz0 (by simp), rfl, t_any hh (by simp) (by simp) fun y hy S2 h2 o2 => ⟨rfl, .inr ⟨y, rfl, ?_, ?_⟩⟩⟩
    · simp only [List.mem_cons, List.not_mem_nil, or_false] at hy
      rcases hy with rfl | rfl | rfl | rfl | rfl | rfl <;> trivial
    · show kEqA false (.int 0) (.int 0) S2 _
      rw [k_eq_int, decide_eq_true rfl]
      exact gR_sub (fun x o e => by rw [o2 x (fun z => by rw [z, ha] at e; cases e)]; exact sub x o e) hR
theorem law_start (K : PySem.W.Frag) (ns : List Int) (_ : ∀ z ∈ ns, Builtin.Int.intBits z ≤ 1048576) : sp_law K [.lst (ns.map PV.int)] (fun _ => none) (fun p _ => p = .bl true) (fun _ _ => False) := ⟨ns, rfl, rfl⟩

section
variable {P : Program} {w : World} {K : PySem.W.Frag} {mg : Str → Option Value} {base : Heap}
theorem ok_is_integer (fx : Fx fa fn K mg) (hex : exB K = true) : Fn P w K mg base (tbl K) 1 ("is_integer", none) ["thing"] (sp_is_integer K) := by
  obtain ⟨fd, F⟩ := fx.c.def_ 0 (d := d_is_integer) rfl
  exact ⟨fd, fn_ok (n := 1) F sc_is_integer rfl (fun cdv A outer s H E hr => dv_is_integer fx hex cdv A outer s H E hr) (pure_is_integer K), F.bindsN (fun _ _ _ _ _ _ us hl => match us, hl with | [_], _ => rfl), F.kp⟩
theorem ok_is_within (fx : Fx fa fn K mg) (hex : exB K = true) (c_is_integer : Fn P w K mg base (tbl K) 1 ("is_integer", none) ["thing"] (sp_is_integer K)) : Fn P w K mg base (tbl K) 2 ("is_within", none) ["thing", "least", "most"] (sp_is_within K) := by
  obtain ⟨fd, F⟩ := fx.c.def_ 1 (d := d_is_within) rfl
  exact ⟨fd, fn_ok (n := 3) F sc_is_within rfl (fun cdv A outer s H E hr => dv_is_within fx hex c_is_integer cdv A outer s H E hr) (pure_is_within K), F.bindsN (fun _ _ _ _ _ _ us hl => match us, hl with | [_, _, _], _ => rfl), F.kp⟩
theorem ok_is_name (fx : Fx fa fn K mg) (hex : exB K = true) : Fn P w K mg base (tbl K) 1 ("is_name", none) ["thing"] (sp_is_name K) := by
  obtain ⟨fd, F⟩ := fx.c.def_ 2 (d := d_is_name) rfl
  exact ⟨fd, fn_ok (n := 1) F sc_is_name rfl (fun cdv A outer s H E hr => dv_is_name fx hex cdv A outer s H E hr) (pure_is_name K), F.bindsN (fun _ _ _ _ _ _ us hl => match us, hl with | [_], _ => rfl), F.kp⟩
theorem ok_is_tuple (fx : Fx fa fn K mg) (hex : exB K = true) : Fn P w K mg base (tbl K) 1 ("is_tuple", none) ["thing", "size"] (sp_is_tuple K) := by
  obtain ⟨fd, F⟩ := fx.c.def_ 3 (d := d_is_tuple) rfl
  exact ⟨fd, fn_ok (n := 2) F sc_is_tuple rfl (fun cdv A outer s H E hr => dv_is_tuple fx hex cdv A outer s H E hr) (pure_is_tuple K), F.bindsN (fun _ _ _ _ _ _ us hl => match us, hl with | [_, _], _ => rfl), F.kp⟩
theorem ok_does_ascend (fx : Fx fa fn K mg) (hex : exB K = true) : Fn P w K mg base (tbl K) 1 ("does_ascend", none) ["thing"] (sp_does_ascend K) := by
  obtain ⟨fd, F⟩ := fx.c.def_ 4 (d := d_does_ascend) rfl
  exact ⟨fd, fn_ok (n := 1) F sc_does_ascend rfl (fun cdv A outer s H E hr => dv_does_ascend fx hex cdv A outer s H E hr) (pure_does_ascend K), F.bindsN (fun _ _ _ _ _ _ us hl => match us, hl with | [_], _ => rfl), F.kp⟩
theorem ok_is_road (fx : Fx fa fn K mg) (hex : exB K = true) (c_is_tuple : Fn P w K mg base (tbl K) 1 ("is_tuple", none) ["thing", "size"] (sp_is_tuple K)) (c_is_name : Fn P w K mg base (tbl K) 1 ("is_name", none) ["thing"] (sp_is_name K)) (c_is_within : Fn P w K mg base (tbl K) 2 ("is_within", none) ["thing", "least", "most"] (sp_is_within K)) : Fn P w K mg base (tbl K) 3 ("is_road", none) ["towns", "thing"] (sp_is_road K) := by
  obtain ⟨fd, F⟩ := fx.c.def_ 5 (d := d_is_road) rfl
  exact ⟨fd, fn_ok (n := 2) F sc_is_road rfl (fun cdv A outer s H E hr => dv_is_road fx hex c_is_tuple c_is_name c_is_within cdv A outer s H E hr) (pure_is_road K), F.bindsN (fun _ _ _ _ _ _ us hl => match us, hl with | [_, _], _ => rfl), F.kp⟩
theorem ok_Net_keep (fx : Fx fa fn K mg) (hex : exB K = true) : Fn P w K mg base (tbl K) 1 ("Net", some "keep") ["self", "towns", "roads"] (sp_Net_keep K) := by
  obtain ⟨fd, F⟩ := fx.c.def_ 25 (d := d_Net_keep) rfl
  exact ⟨fd, fn_ok (n := 3) F sc_Net_keep rfl (fun cdv A outer s H E hr => dv_Net_keep fx hex cdv A outer s H E hr) (pure_Net_keep K), F.bindsN (fun _ _ _ _ _ _ us hl => match us, hl with | [_, _, _], _ => rfl), F.kp⟩
theorem ok_Net___init__ (fx : Fx fa fn K mg) (hex : exB K = true) (c_is_name : Fn P w K mg base (tbl K) 1 ("is_name", none) ["thing"] (sp_is_name K)) (c_does_ascend : Fn P w K mg base (tbl K) 1 ("does_ascend", none) ["thing"] (sp_does_ascend K)) (c_is_road : Fn P w K mg base (tbl K) 3 ("is_road", none) ["towns", "thing"] (sp_is_road K)) (c_Net_keep : Fn P w K mg base (tbl K) 1 ("Net", some "keep") ["self", "towns", "roads"] (sp_Net_keep K)) : Fn P w K mg base (tbl K) 4 ("Net", some "__init__") ["self", "towns", "roads"] (sp_Net___init__ K) := by
  obtain ⟨fd, F⟩ := fx.c.def_ 24 (d := d_Net___init__) rfl
  exact ⟨fd, fn_ok (n := 3) F sc_Net___init__ rfl (fun cdv A outer s H E hr => dv_Net___init__ fx hex c_is_name c_does_ascend c_is_road c_Net_keep cdv A outer s H E hr) (pure_Net___init__ K), F.bindsN (fun _ _ _ _ _ _ us hl => match us, hl with | [_, _, _], _ => rfl), F.kp⟩
theorem ok_number_in (fx : Fx fa fn K mg) (hex : exB K = true) : Fn P w K mg base (tbl K) 1 ("number_in", none) ["word"] (sp_number_in K) := by
  obtain ⟨fd, F⟩ := fx.c.def_ 6 (d := d_number_in) rfl
  exact ⟨fd, fn_ok (n := 1) F sc_number_in rfl (fun cdv A outer s H E hr => dv_number_in fx hex cdv A outer s H E hr) (pure_number_in K), F.bindsN (fun _ _ _ _ _ _ us hl => match us, hl with | [_], _ => rfl), F.kp⟩
theorem ok_integer_in (fx : Fx fa fn K mg) (hex : exB K = true) (c_number_in : Fn P w K mg base (tbl K) 1 ("number_in", none) ["word"] (sp_number_in K)) : Fn P w K mg base (tbl K) 2 ("integer_in", none) ["word"] (sp_integer_in K) := by
  obtain ⟨fd, F⟩ := fx.c.def_ 7 (d := d_integer_in) rfl
  exact ⟨fd, fn_ok (n := 1) F sc_integer_in rfl (fun cdv A outer s H E hr => dv_integer_in fx hex c_number_in cdv A outer s H E hr) (pure_integer_in K), F.bindsN (fun _ _ _ _ _ _ us hl => match us, hl with | [_], _ => rfl), F.kp⟩
theorem ok_road_in (fx : Fx fa fn K mg) (hex : exB K = true) (c_is_name : Fn P w K mg base (tbl K) 1 ("is_name", none) ["thing"] (sp_is_name K)) (c_number_in : Fn P w K mg base (tbl K) 1 ("number_in", none) ["word"] (sp_number_in K)) (c_integer_in : Fn P w K mg base (tbl K) 2 ("integer_in", none) ["word"] (sp_integer_in K)) : Fn P w K mg base (tbl K) 3 ("road_in", none) ["words"] (sp_road_in K) := by
  obtain ⟨fd, F⟩ := fx.c.def_ 8 (d := d_road_in) rfl
  exact ⟨fd, fn_ok (n := 1) F sc_road_in rfl (fun cdv A outer s H E hr => dv_road_in fx hex c_is_name c_number_in c_integer_in cdv A outer s H E hr) (pure_road_in K), F.bindsN (fun _ _ _ _ _ _ us hl => match us, hl with | [_], _ => rfl), F.kp⟩
theorem ok_NetReader___init__ (fx : Fx fa fn K mg) (hex : exB K = true) : Fn P w K mg base (tbl K) 1 ("NetReader", some "__init__") ["self"] (sp_NetReader___init__ K) := by
  obtain ⟨fd, F⟩ := fx.c.def_ 26 (d := d_NetReader___init__) rfl
  exact ⟨fd, fn_ok (n := 1) F sc_NetReader___init__ rfl (fun cdv A outer s H E hr => dv_NetReader___init__ fx hex cdv A outer s H E hr) (pure_NetReader___init__ K), F.bindsN (fun _ _ _ _ _ _ us hl => match us, hl with | [_], _ => rfl), F.kp⟩
theorem ok_NetReader_is_town_read (fx : Fx fa fn K mg) (hex : exB K = true) (c_is_name : Fn P w K mg base (tbl K) 1 ("is_name", none) ["thing"] (sp_is_name K)) : Fn P w K mg base (tbl K) 2 ("NetReader", some "is_town_read") ["self", "words"] (sp_NetReader_is_town_read K) := by
  obtain ⟨fd, F⟩ := fx.c.def_ 28 (d := d_NetReader_is_town_read) rfl
  exact ⟨fd, fn_ok (n := 2) F sc_NetReader_is_town_read rfl (fun cdv A outer s H E hr => dv_NetReader_is_town_read fx hex c_is_name cdv A outer s H E hr) (pure_NetReader_is_town_read K), F.bindsN (fun _ _ _ _ _ _ us hl => match us, hl with | [_, _], _ => rfl), F.kp⟩
theorem ok_NetReader_is_read (fx : Fx fa fn K mg) (hex : exB K = true) (c_NetReader_is_town_read : Fn P w K mg base (tbl K) 2 ("NetReader", some "is_town_read") ["self", "words"] (sp_NetReader_is_town_read K)) (c_road_in : Fn P w K mg base (tbl K) 3 ("road_in", none) ["words"] (sp_road_in K)) (c_is_road : Fn P w K mg base (tbl K) 3 ("is_road", none) ["towns", "thing"] (sp_is_road K)) : Fn P w K mg base (tbl K) 4 ("NetReader", some "is_read") ["self", "line"] (sp_NetReader_is_read K) := by
  obtain ⟨fd, F⟩ := fx.c.def_ 27 (d := d_NetReader_is_read) rfl
  exact ⟨fd, fn_ok (n := 2) F sc_NetReader_is_read rfl (fun cdv A outer s H E hr => dv_NetReader_is_read fx hex c_NetReader_is_town_read c_road_in c_is_road cdv A outer s H E hr) (pure_NetReader_is_read K), F.bindsN (fun _ _ _ _ _ _ us hl => match us, hl with | [_, _], _ => rfl), F.kp⟩
theorem ok_read_net (fx : Fx fa fn K mg) (hex : exB K = true) (c_BadLine___init__ : FnH P w K mg base 2 ("BadLine", some "__init__") ["self", "number"] (spX1 K "number")) (c_NetReader___init__ : Fn P w K mg base (tbl K) 1 ("NetReader", some "__init__") ["self"] (sp_NetReader___init__ K)) (c_NetReader_is_read : Fn P w K mg base (tbl K) 4 ("NetReader", some "is_read") ["self", "line"] (sp_NetReader_is_read K)) (c_Net___init__ : Fn P w K mg base (tbl K) 4 ("Net", some "__init__") ["self", "towns", "roads"] (sp_Net___init__ K)) : Fn P w K mg base (tbl K) 6 ("read_net", none) ["text"] (sp_read_net K) := by
  obtain ⟨fd, F⟩ := fx.c.def_ 9 (d := d_read_net) rfl
  exact ⟨fd, fn_ok (n := 1) F sc_read_net rfl (fun cdv A outer s H E hr => dv_read_net fx hex c_BadLine___init__ c_NetReader___init__ c_NetReader_is_read c_Net___init__ cdv A outer s H E hr) (pure_read_net K), F.bindsN (fun _ _ _ _ _ _ us hl => match us, hl with | [_], _ => rfl), F.kp⟩
theorem ok__law_hand (fx : Fx fa fn K mg) (hex : exB K = true) : Fn P w K mg base (tbl K) 1 ("_law_hand", none) ["script"] (sp__law_hand K) := by
  obtain ⟨fd, F⟩ := fx.c.def_ 10 (d := d__law_hand) rfl
  exact ⟨fd, fn_ok (n := 1) F sc__law_hand rfl (fun cdv A outer s H E hr => dv__law_hand fx hex cdv A outer s H E hr) (pure__law_hand K), F.bindsN (fun _ _ _ _ _ _ us hl => match us, hl with | [_], _ => rfl), F.kp⟩
theorem ok__law_draw (fx : Fx fa fn K mg) (hex : exB K = true) : Fn P w K mg base (tbl K) 1 ("_law_draw", none) ["hand", "many"] (sp__law_draw K) := by
  obtain ⟨fd, F⟩ := fx.c.def_ 11 (d := d__law_draw) rfl
  exact ⟨fd, fn_ok (n := 2) F sc__law_draw rfl (fun cdv A outer s H E hr => dv__law_draw fx hex cdv A outer s H E hr) (pure__law_draw K), F.bindsN (fun _ _ _ _ _ _ us hl => match us, hl with | [_, _], _ => rfl), F.kp⟩
theorem ok__law_any (fx : Fx fa fn K mg) (hex : exB K = true) (c__law_draw : Fn P w K mg base (tbl K) 1 ("_law_draw", none) ["hand", "many"] (sp__law_draw K)) : Fn P w K mg base (tbl K) 2 ("_law_any", none) ["hand", "some"] (sp__law_any K) := by
  obtain ⟨fd, F⟩ := fx.c.def_ 12 (d := d__law_any) rfl
  exact ⟨fd, fn_ok (n := 2) F sc__law_any rfl (fun cdv A outer s H E hr => dv__law_any fx hex c__law_draw cdv A outer s H E hr) (pure__law_any K), F.bindsN (fun _ _ _ _ _ _ us hl => match us, hl with | [_, _], _ => rfl), F.kp⟩
theorem ok__law_parts (fx : Fx fa fn K mg) (hex : exB K = true) (c__law_draw : Fn P w K mg base (tbl K) 1 ("_law_draw", none) ["hand", "many"] (sp__law_draw K)) (c__law_any : Fn P w K mg base (tbl K) 2 ("_law_any", none) ["hand", "some"] (sp__law_any K)) : Fn P w K mg base (tbl K) 3 ("_law_parts", none) ["hand", "most", "few"] (sp__law_parts K) := by
  obtain ⟨fd, F⟩ := fx.c.def_ 13 (d := d__law_parts) rfl
  exact ⟨fd, fn_ok (n := 3) F sc__law_parts rfl (fun cdv A outer s H E hr => dv__law_parts fx hex c__law_draw c__law_any cdv A outer s H E hr) (pure__law_parts K), F.bindsN (fun _ _ _ _ _ _ us hl => match us, hl with | [_, _, _], _ => rfl), F.kp⟩
theorem ok__law_text (fx : Fx fa fn K mg) (hex : exB K = true) : Fn P w K mg base (tbl K) 1 ("_law_text", none) ["towns", "roads"] (sp__law_text K) := by
  obtain ⟨fd, F⟩ := fx.c.def_ 14 (d := d__law_text) rfl
  exact ⟨fd, fn_ok (n := 2) F sc__law_text rfl (fun cdv A outer s H E hr => dv__law_text fx hex cdv A outer s H E hr) (pure__law_text K), F.bindsN (fun _ _ _ _ _ _ us hl => match us, hl with | [_, _], _ => rfl), F.kp⟩
theorem ok__law_is_name (fx : Fx fa fn K mg) (hex : exB K = true) : Fn P w K mg base (tbl K) 1 ("_law_is_name", none) ["word"] (sp__law_is_name K) := by
  obtain ⟨fd, F⟩ := fx.c.def_ 15 (d := d__law_is_name) rfl
  exact ⟨fd, fn_ok (n := 1) F sc__law_is_name rfl (fun cdv A outer s H E hr => dv__law_is_name fx hex cdv A outer s H E hr) (pure__law_is_name K), F.bindsN (fun _ _ _ _ _ _ us hl => match us, hl with | [_], _ => rfl), F.kp⟩
theorem ok__law_number (fx : Fx fa fn K mg) (hex : exB K = true) : Fn P w K mg base (tbl K) 1 ("_law_number", none) ["word", "low", "high"] (sp__law_number K) := by
  obtain ⟨fd, F⟩ := fx.c.def_ 16 (d := d__law_number) rfl
  exact ⟨fd, fn_ok (n := 3) F sc__law_number rfl (fun cdv A outer s H E hr => dv__law_number fx hex cdv A outer s H E hr) (pure__law_number K), F.bindsN (fun _ _ _ _ _ _ us hl => match us, hl with | [_, _, _], _ => rfl), F.kp⟩
theorem ok__law_road (fx : Fx fa fn K mg) (hex : exB K = true) (c__law_is_name : Fn P w K mg base (tbl K) 1 ("_law_is_name", none) ["word"] (sp__law_is_name K)) (c__law_number : Fn P w K mg base (tbl K) 1 ("_law_number", none) ["word", "low", "high"] (sp__law_number K)) : Fn P w K mg base (tbl K) 2 ("_law_road", none) ["words", "towns", "roads"] (sp__law_road K) := by
  obtain ⟨fd, F⟩ := fx.c.def_ 17 (d := d__law_road) rfl
  exact ⟨fd, fn_ok (n := 3) F sc__law_road rfl (fun cdv A outer s H E hr => dv__law_road fx hex c__law_is_name c__law_number cdv A outer s H E hr) (pure__law_road K), F.bindsN (fun _ _ _ _ _ _ us hl => match us, hl with | [_, _, _], _ => rfl), F.kp⟩
theorem ok__law_read (fx : Fx fa fn K mg) (hex : exB K = true) (c__law_is_name : Fn P w K mg base (tbl K) 1 ("_law_is_name", none) ["word"] (sp__law_is_name K)) (c__law_road : Fn P w K mg base (tbl K) 2 ("_law_road", none) ["words", "towns", "roads"] (sp__law_road K)) : Fn P w K mg base (tbl K) 3 ("_law_read", none) ["text"] (sp__law_read K) := by
  obtain ⟨fd, F⟩ := fx.c.def_ 18 (d := d__law_read) rfl
  exact ⟨fd, fn_ok (n := 1) F sc__law_read rfl (fun cdv A outer s H E hr => dv__law_read fx hex c__law_is_name c__law_road cdv A outer s H E hr) (pure__law_read K), F.bindsN (fun _ _ _ _ _ _ us hl => match us, hl with | [_], _ => rfl), F.kp⟩
theorem ok__law_bent (fx : Fx fa fn K mg) (hex : exB K = true) (c__law_draw : Fn P w K mg base (tbl K) 1 ("_law_draw", none) ["hand", "many"] (sp__law_draw K)) (c__law_any : Fn P w K mg base (tbl K) 2 ("_law_any", none) ["hand", "some"] (sp__law_any K)) : Fn P w K mg base (tbl K) 3 ("_law_bent", none) ["hand", "text"] (sp__law_bent K) := by
  obtain ⟨fd, F⟩ := fx.c.def_ 19 (d := d__law_bent) rfl
  exact ⟨fd, fn_ok (n := 2) F sc__law_bent rfl (fun cdv A outer s H E hr => dv__law_bent fx hex c__law_draw c__law_any cdv A outer s H E hr) (pure__law_bent K), F.bindsN (fun _ _ _ _ _ _ us hl => match us, hl with | [_, _], _ => rfl), F.kp⟩
theorem ok__law_told (fx : Fx fa fn K mg) (hex : exB K = true) (c_read_net : Fn P w K mg base (tbl K) 6 ("read_net", none) ["text"] (sp_read_net K)) : Fn P w K mg base (tbl K) 7 ("_law_told", none) ["text"] (sp__law_told K) := by
  obtain ⟨fd, F⟩ := fx.c.def_ 20 (d := d__law_told) rfl
  exact ⟨fd, fn_ok (n := 1) F sc__law_told rfl (fun cdv A outer s H E hr => dv__law_told fx hex c_read_net cdv A outer s H E hr) (pure__law_told K hex), F.bindsN (fun _ _ _ _ _ _ us hl => match us, hl with | [_], _ => rfl), F.kp⟩
theorem ok_law (fx : Fx fa fn K mg) (hex : exB K = true) (c__law_hand : Fn P w K mg base (tbl K) 1 ("_law_hand", none) ["script"] (sp__law_hand K)) (c__law_parts : Fn P w K mg base (tbl K) 3 ("_law_parts", none) ["hand", "most", "few"] (sp__law_parts K)) (c__law_text : Fn P w K mg base (tbl K) 1 ("_law_text", none) ["towns", "roads"] (sp__law_text K)) (c__law_bent : Fn P w K mg base (tbl K) 3 ("_law_bent", none) ["hand", "text"] (sp__law_bent K)) (c__law_draw : Fn P w K mg base (tbl K) 1 ("_law_draw", none) ["hand", "many"] (sp__law_draw K)) (c__law_told : Fn P w K mg base (tbl K) 7 ("_law_told", none) ["text"] (sp__law_told K)) (c__law_read : Fn P w K mg base (tbl K) 3 ("_law_read", none) ["text"] (sp__law_read K)) (c__law_any : Fn P w K mg base (tbl K) 2 ("_law_any", none) ["hand", "some"] (sp__law_any K)) {fd : FuncData} (F : FunD K "law" "law" (defArgs s_law) (defBody s_law) (defScope s_law) [] [] (He.ga K "law") fd) : FnG P w K mg base (CX P w) 8 (He.ga K "law") fd ["script"] (spL K (tbl K) 1 (sp_law K)) :=
  fn_okG (n := 1) F sc_law rfl (fun cdv A outer s H E hr hg => dv_law fx hex c__law_hand c__law_parts c__law_text c__law_bent c__law_draw c__law_told c__law_read c__law_any cdv A outer s H E hr hg) (pure_law K)
end
theorem rvs_ints {K : PySem.W.Frag} {H : Hp} : ∀ ns : List Int, RVs K H (ns.map PV.int) (ns.map V.int)
  | [] => .nil
  | n :: ns => .cons (.int n) (rvs_ints ns)
theorem law_facts {w : World} {K : PySem.W.Frag} {mg : Str → Option Value} {f : Addr} {h : Heap} (X : K.In h) (G : h.Ns mainGlobals mg) (hfa : mg ("law" : Str) = some (.ref f)) (c : SaysY fa fn exB w K) :
    LawG PySem.Challenge.rw_roadwarrant_k03_whole_first_wrong_lines w K (CX PySem.Challenge.rw_roadwarrant_k03_whole_first_wrong_lines.prog w) 8 63 "script" mg f h := by
  have fx : Fx fa fn K mg := ⟨⟨h, X, G⟩, c.t.d⟩
  have hex : exB K = true := c.more
  obtain ⟨fd, F⟩ := fx.c.def_ 21 (d := d_law) rfl
  have e := hfa.symm.trans (fx.glo 26 rfl)
  cases e
  refine ⟨fd, [], spL K (tbl K) 1 (sp_law K), fun _ h => absurd h List.not_mem_nil, fun _ h => absurd h List.not_mem_nil, fun _ h => absurd h List.not_mem_nil, fun s v => F.bindsA (ps := ["script"]) (fun _ _ _ _ _ _ us hl => match us, hl with | [_], _ => rfl) s [v] rfl, fun H a ns hl hb _ hS => ?_, fun base _ _ _ => ?_⟩
  · refine ⟨rfl, [.lst (ns.map PV.int)], fun _ => none, fun p _ => p = .bl true, fun _ _ => False, .cons (.lst hS (rvs_ints ns)) .nil, ⟨fun a o e => (by cases e), fun q hq => (by cases hq)⟩, law_start K ns hb, fun p S2 v H2 _ _ rv hp => ?_, fun _ _ _ _ _ _ _ _ z => z⟩
    subst hp
    cases rv
    rfl
  · have c_RoadError___init__ := okx_RoadError___init__ (P := PySem.Challenge.rw_roadwarrant_k03_whole_first_wrong_lines.prog) (w := w) (base := base) fx
    have c_BadLine___init__ := okx_BadLine___init__ (P := PySem.Challenge.rw_roadwarrant_k03_whole_first_wrong_lines.prog) (w := w) (base := base) fx hex c_RoadError___init__
    have c_is_integer := ok_is_integer (P := PySem.Challenge.rw_roadwarrant_k03_whole_first_wrong_lines.prog) (w := w) (base := base) fx hex
    have c_is_within := ok_is_within (P := PySem.Challenge.rw_roadwarrant_k03_whole_first_wrong_lines.prog) (w := w) (base := base) fx hex c_is_integer
    have c_is_name := ok_is_name (P := PySem.Challenge.rw_roadwarrant_k03_whole_first_wrong_lines.prog) (w := w) (base := base) fx hex
    have c_is_tuple := ok_is_tuple (P := PySem.Challenge.rw_roadwarrant_k03_whole_first_wrong_lines.prog) (w := w) (base := base) fx hex
    have c_does_ascend := ok_does_ascend (P := PySem.Challenge.rw_roadwarrant_k03_whole_first_wrong_lines.prog) (w := w) (base := base) fx hex
    have c_is_road := ok_is_road (P := PySem.Challenge.rw_roadwarrant_k03_whole_first_wrong_lines.prog) (w := w) (base := base) fx hex c_is_tuple c_is_name c_is_within
    have c_Net_keep := ok_Net_keep (P := PySem.Challenge.rw_roadwarrant_k03_whole_first_wrong_lines.prog) (w := w) (base := base) fx hex
    have c_Net___init__ := ok_Net___init__ (P := PySem.Challenge.rw_roadwarrant_k03_whole_first_wrong_lines.prog) (w := w) (base := base) fx hex c_is_name c_does_ascend c_is_road c_Net_keep
    have c_number_in := ok_number_in (P := PySem.Challenge.rw_roadwarrant_k03_whole_first_wrong_lines.prog) (w := w) (base := base) fx hex
    have c_integer_in := ok_integer_in (P := PySem.Challenge.rw_roadwarrant_k03_whole_first_wrong_lines.prog) (w := w) (base := base) fx hex c_number_in
    have c_road_in := ok_road_in (P := PySem.Challenge.rw_roadwarrant_k03_whole_first_wrong_lines.prog) (w := w) (base := base) fx hex c_is_name c_number_in c_integer_in
    have c_NetReader___init__ := ok_NetReader___init__ (P := PySem.Challenge.rw_roadwarrant_k03_whole_first_wrong_lines.prog) (w := w) (base := base) fx hex
    have c_NetReader_is_town_read := ok_NetReader_is_town_read (P := PySem.Challenge.rw_roadwarrant_k03_whole_first_wrong_lines.prog) (w := w) (base := base) fx hex c_is_name
    have c_NetReader_is_read := ok_NetReader_is_read (P := PySem.Challenge.rw_roadwarrant_k03_whole_first_wrong_lines.prog) (w := w) (base := base) fx hex c_NetReader_is_town_read c_road_in c_is_road
    have c_read_net := ok_read_net (P := PySem.Challenge.rw_roadwarrant_k03_whole_first_wrong_lines.prog) (w := w) (base := base) fx hex c_BadLine___init__ c_NetReader___init__ c_NetReader_is_read c_Net___init__
    have c__law_hand := ok__law_hand (P := PySem.Challenge.rw_roadwarrant_k03_whole_first_wrong_lines.prog) (w := w) (base := base) fx hex
    have c__law_draw := ok__law_draw (P := PySem.Challenge.rw_roadwarrant_k03_whole_first_wrong_lines.prog) (w := w) (base := base) fx hex
    have c__law_any := ok__law_any (P := PySem.Challenge.rw_roadwarrant_k03_whole_first_wrong_lines.prog) (w := w) (base := base) fx hex c__law_draw
    have c__law_parts := ok__law_parts (P := PySem.Challenge.rw_roadwarrant_k03_whole_first_wrong_lines.prog) (w := w) (base := base) fx hex c__law_draw c__law_any
    have c__law_text := ok__law_text (P := PySem.Challenge.rw_roadwarrant_k03_whole_first_wrong_lines.prog) (w := w) (base := base) fx hex
    have c__law_is_name := ok__law_is_name (P := PySem.Challenge.rw_roadwarrant_k03_whole_first_wrong_lines.prog) (w := w) (base := base) fx hex
    have c__law_number := ok__law_number (P := PySem.Challenge.rw_roadwarrant_k03_whole_first_wrong_lines.prog) (w := w) (base := base) fx hex
    have c__law_road := ok__law_road (P := PySem.Challenge.rw_roadwarrant_k03_whole_first_wrong_lines.prog) (w := w) (base := base) fx hex c__law_is_name c__law_number
    have c__law_read := ok__law_read (P := PySem.Challenge.rw_roadwarrant_k03_whole_first_wrong_lines.prog) (w := w) (base := base) fx hex c__law_is_name c__law_road
    have c__law_bent := ok__law_bent (P := PySem.Challenge.rw_roadwarrant_k03_whole_first_wrong_lines.prog) (w := w) (base := base) fx hex c__law_draw c__law_any
    have c__law_told := ok__law_told (P := PySem.Challenge.rw_roadwarrant_k03_whole_first_wrong_lines.prog) (w := w) (base := base) fx hex c_read_net
    exact ok_law fx hex c__law_hand c__law_parts c__law_text c__law_bent c__law_draw c__law_told c__law_read c__law_any F
def loose : List Str := (["is_integer", "is_within", "is_name", "is_tuple", "does_ascend", "RoadError", "BadNet", "BadLine", "is_road", "Net", "number_in", "integer_in", "road_in", "NetReader", "read_net", "_law_hand", "_law_draw", "_law_any", "_law_parts", "_law_text"] : List Str) ++ (["_law_is_name", "_law_number", "_law_road", "_law_read", "_law_bent", "_law_told", "LONGEST", "MOST_TOWNS", "MOST_ROADS", "LONGEST_ROAD", "MOST_ROOM", "NAME", "BEGIN", "END", "LENGTH", "ROOM", "MOST_FIGURES", "SMALL", "FIGURES"] : List Str)
abbrev R : PySem.W.OpenRow := PySem.W.OpenLaw.row PySem.Challenge.rw_roadwarrant_k03_whole_first_wrong_lines
abbrev hk : PySem.W.Hook := hookY 5 fa fn exB
def ob (s : PySem.W.SharedT) : He.AlX := obsY 5 fa fn exB (HandSHeadRun.getT s)
theorem ob_eq (s : PySem.W.SharedT) : ob s = hk.obs s.abs := obsY_eq (HandSHeadRun.getT_eq s)
theorem run (w : World) : HandSHeadRun.RunEq R (PySem.W.view R.prog [44]) hk ob 20000 loose w := by
  intro os
  kernel_rfl
end Law_k03
set_option maxHeartbeats 0
open PySem PySem.W PySem.Calls PyProof.Rows
theorem PySem.Challenge.cw_roadwarrant_k03_whole_first_wrong_lines_holds : PySem.Challenge.rw_roadwarrant_k03_whole_first_wrong_lines.Holds := by
  w_on; o_law
  refine HandSHeadRun.head_any (r := OpenLaw.row PySem.Challenge.rw_roadwarrant_k03_whole_first_wrong_lines) (q := view (OpenLaw.row PySem.Challenge.rw_roadwarrant_k03_whole_first_wrong_lines).prog [44]) (H := Law_k03.hk) (ob := Law_k03.ob) (M := 20000) (loose := Law_k03.loose) (d := HandSHeadRun.topDef (OpenLaw.row PySem.Challenge.rw_roadwarrant_k03_whole_first_wrong_lines).prog 44) (kwd := []) Law_k03.ob_eq
    (by kernel_rfl) (fun s => by kernel_rfl) Law_k03.run (by kernel_rfl) (by kernel_rfl) (by kernel_rfl) (by rfl) (by first | assumption | decide +kernel) (by decide +kernel) ⟨rfl, rfl, rfl, rfl, rfl, by decide +kernel⟩ ?hw ?hc
  case hw => w_witness2
  case hc =>
    refine L2.PX.walkG (l := PySem.Challenge.rw_roadwarrant_k03_whole_first_wrong_lines) (n := 63) (k := 8) (x := "script") (CX := fun w => L2.CX PySem.Challenge.rw_roadwarrant_k03_whole_first_wrong_lines.prog w) rfl (by decide) (by kernel_rfl) ⟨rfl, by decide, by decide⟩ ?F (fun _ _ _ _ _ ⟨_, _, _, _, _, _, _, _, _, _, _, _, z⟩ => z)
    intro w mg fa h Y G hmg0
    obtain ⟨K, KX, c⟩ := Y
    have hmg : mg ("law" : PySem.Str) = some (.ref fa) := by
      have e : (HandSHeadRun.topDef (OpenLaw.row PySem.Challenge.rw_roadwarrant_k03_whole_first_wrong_lines).prog 44).name = ("law" : PySem.Str) := by kernel_rfl
      rw [← e]
      exact hmg0
    exact ⟨K, KX, Law_k03.law_facts KX G hmg c⟩
