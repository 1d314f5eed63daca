import PyProof.Rows.All
import Wide.All
import OpenK.AllK
import Wide.FinOn
import KE.KStateDown
import HandS.ForMost
import HandS.ForSpec
import HandS.ExcInit
import HandS.IsInst
import HandS.OwnEq
import HandS.DictComp
import HandS.Flow
import HandS.More
import HandS.Defaults
import HandS.Lambda
import HandS.SetKeys
import HandS.CallSlots
import HandS.Walk
import HandS.Zip
import KE.GoesEnum
import HandS.HeadWalk
import HandS.Wide
import HandS.TupAny
import HandS.Text
import HandS.RaiseMore
import HandS.SetTxt0
import HandS.Strs
import PyProof.Rows.SortShellAny
import HandS.EndTab
import HandS.Head0
import HandS.Head1
import HandS.Head2
import HandS.HeadEnd
import HandS.HeadHook4
import KE.KExcIs
import HandS.ExcField
import HandS.ExcIs
import HandS.ClsMeth
import HandS.Style
import HandS.SetFor
import PyProof.EqAt
import KE.SortCalls
import KE.SortKeyed
import KE.KxMul
import HandS.TupMul
import HandS.TryOnly
import KE.DataEq
import HandS.HeadHook3
import PySem.Challenge.RW_roadwarrant_k04_whole_ways_and_walks
set_option Elab.async false
set_option linter.all false
set_option maxRecDepth 100000
set_option maxHeartbeats 8000000
namespace L2
namespace PX
open PySem PySem.Spec PyProof.Rows

inductive PV where
  | non | bl (b : Bool) | int (i : Int) | str (x : Str) | ref (a : Addr) | ty (n : String)
  | tup (xs : List PV) | lst (xs : List PV) | dct (kvs : List (Key × PV)) | obj (C : Addr) (fs : List (Str × PV))
/-- what changes -/
inductive MO where
  | lst (xs : List PV) | dct (kvs : List (Key × PV)) | ins (C : Addr) (fs : List (Str × PV))
abbrev Sto := Addr → Option MO
def updS (S : Sto) (a : Addr) (o : MO) : Sto := fun b => if b = a then some o else S b
theorem updS_same {S : Sto} {a : Addr} {o : MO} : updS S a o a = some o := if_pos rfl
theorem updS_ne {S : Sto} {a b : Addr} {o : MO} (h : b ≠ a) : updS S a o b = S b := if_neg h
abbrev Slots := List (Option PV)
structure Exc where
  cls : Addr
  fs : List (Str × PV)
/-- the written part; the tables of the defs that make lambdas -/
structure Gk where
  K : PySem.W.Frag
  T : List (Addr × Str)

/-- what never changes stays -/
structure Imm (H H' : Hp) : Prop where
  tup : ∀ a xs, H a = some (.tup xs) → H' a = some (.tup xs)
  frz : ∀ a o u, H a = some (.frz o u) → H' a = some (.frz o u)
  ext : ∀ a f, H a = some (.ext f) → H' a = some (.ext f)
abbrev Grow (H H' : Hp) : Prop := ∀ a o, H a = some o → H' a = some o
theorem Imm.refl (H : Hp) : Imm H H := ⟨fun _ _ h => h, fun _ _ _ h => h, fun _ _ h => h⟩
theorem Imm.trans {H H1 H2 : Hp} (a : Imm H H1) (b : Imm H1 H2) : Imm H H2 := ⟨fun c xs h => b.tup c xs (a.tup c xs h), fun c o u h => b.frz c o u (a.frz c o u h), fun c o h => b.ext c o (a.ext c o h)⟩
theorem Imm.of {H H' : Hp} (g : Grow H H') : Imm H H' := ⟨fun a xs h => g a _ h, fun a o u h => g a _ h, fun a f h => g a _ h⟩
theorem grow_upd {H : Hp} {p : Addr} {o : HO} (h : H p = none) : Grow H (upd H p o) := fun a u e => by rw [upd_ne (ne_of_none e h)]; exact e
theorem Grow.refl (H : Hp) : Grow H H := fun _ _ h => h
theorem Grow.trans {H H1 H2 : Hp} (a : Grow H H1) (b : Grow H1 H2) : Grow H H2 := fun c o h => b c o (a c o h)
/-- a plain thing that may be written -/
def Pl : HO → Prop
  | .lst _ => True
  | .dK _ => True
  | .ins _ _ _ => True
  | _ => False
theorem imm_upd {H : Hp} {a : Addr} {o u : HO} (h : H a = some o) (p : Pl o) : Imm H (upd H a u) :=
  ⟨fun b xs e => by
    have n : b ≠ a := fun z => by rw [z, h] at e; cases e; exact p
    rw [upd_ne n]; exact e, fun b o' u' e => by
    have n : b ≠ a := fun z => by rw [z, h] at e; cases e; exact p
    rw [upd_ne n]; exact e, fun b f e => by
    have n : b ≠ a := fun z => by rw [z, h] at e; cases e; exact p
    rw [upd_ne n]; exact e⟩

def KL (K : PySem.W.Frag) (a : Addr) (xs : List V) : Prop :=
  ∃ (o : Obj) (its : Array Value) (n : Nat), K.lookup a = some o ∧ o.cls = .type "list" ∧ o.dict = none ∧ o.data = .seq its n ∧ its.size ≤ sizeLine ∧ Vals xs its.toList
/-- a list that never changes -/
def FzL (K : PySem.W.Frag) (H : Hp) (a : Addr) (xs : List V) : Prop := (∃ o, H a = some (.frz o (.lst xs))) ∨ KL K a xs
theorem FzL.sq {K : PySem.W.Frag} {H : Hp} {a : Addr} {xs : List V} (h : FzL K H a xs) : SqL K H a xs := h.elim (fun ⟨o, e⟩ => .inl (.inr ⟨o, e⟩)) .inr
theorem FzL.imm {K : PySem.W.Frag} {H H' : Hp} {a : Addr} {xs : List V} (i : Imm H H') (h : FzL K H a xs) : FzL K H' a xs := h.elim (fun ⟨o, e⟩ => .inl ⟨o, i.frz _ _ _ e⟩) .inr
theorem sqT_imm {K : PySem.W.Frag} {H H' : Hp} {a : Addr} {xs : List V} (i : Imm H H') (h : SqT K H a xs) : SqT K H' a xs := by
  rcases h with (h | ⟨o, h⟩) | h
  · exact .inl (.inl (i.tup _ _ h))
  · exact .inl (.inr ⟨o, i.frz _ _ _ h⟩)
  · exact .inr h

/-- the object at a stands and has no dict -/
def TD (K : PySem.W.Frag) (H : Hp) (a : Addr) : Prop := (∃ o u, H a = some (.frz o u) ∧ o.dict = none) ∨ ∃ o, K.lookup a = some o ∧ o.dict = none
theorem TD.imm {K : PySem.W.Frag} {H H' : Hp} {a : Addr} (i : Imm H H') (h : TD K H a) : TD K H' a := h.imp (fun ⟨o, u, e, d⟩ => ⟨o, u, i.frz _ _ _ e, d⟩) id
theorem TD.new {K : PySem.W.Frag} {H : Hp} {a : Addr} {o : Obj} {u : HO} (d : o.dict = none) : TD K (upd H a (.frz o u)) a := .inl ⟨o, u, upd_same, d⟩
theorem SqT.ofF {K : PySem.W.Frag} {H : Hp} {a : Addr} {o : Obj} {xs : List V} : SqT K (upd H a (.frz o (.tup xs))) a xs := .inl (.inr ⟨o, upd_same⟩)
theorem TD.at {X : Cx} {pins : List (Addr × Obj)} {σ : L2.St} {H : Hp} {s : Shared} {a : Addr} (I : Inv X pins σ H s) (h : TD X.K H a) : ∃ ob, s.heap.get? a = some ob ∧ ob.dict = none := by
  rcases h with ⟨o, u, e, d⟩ | ⟨o, e, d⟩
  · exact ⟨o, (I.hok _ _ e).1, d⟩
  · exact ⟨o, I.kIn _ o e, d⟩
/-- a new tuple, its object known -/
theorem tup_laid {X : Cx} {pins : List (Addr × Obj)} {σ : L2.St} {H : Hp} {s : Shared} {xs : List V} {us : List Value} (I : Inv X pins σ H s) (r : Vals xs us) (z : xs.length ≤ sizeLine) :
    Inv X pins σ (upd H s.heap.objs.size (.frz { cls := .type "tuple", data := .seq us.toArray } (.tup xs))) { s with heap := s.heap.push { cls := .type "tuple", data := .seq us.toArray } } :=
  I.laid (t' := s.toks) (o := .frz _ (.tup xs)) (fun b u e => Heap.get?_push_of_some _ e) (Nat.le_refl _) ⟨Heap.get?_push_size _ rfl, z, us, r, IsTup.new _ _⟩
/-- what is wanted of a new tuple -/
abbrev NewT (Q : VK) (H : Hp) (xs : List V) : Prop := ∀ (p : Addr) (o : Obj), o.dict = none → H p = none → Q (.ref p) (upd H p (.frz o (.tup xs)))

mutual
inductive RV (K : PySem.W.Frag) (H : Hp) : PV → V → Prop
  | non : RV K H .non .non
  | bl (b : Bool) : RV K H (.bl b) (.bl b)
  | int (i : Int) : RV K H (.int i) (.int i)
  | str (x : Str) : RV K H (.str x) (.str x)
  | ref (a : Addr) : RV K H (.ref a) (.ref a)
  | ty (n : String) : RV K H (.ty n) (.ty n)
  | tup {a : Addr} {vs : List V} {xs : List PV} : SqT K H a vs → TD K H a → RVs K H xs vs → RV K H (.tup xs) (.ref a)
  | lst {a : Addr} {vs : List V} {xs : List PV} : FzL K H a vs → RVs K H xs vs → RV K H (.lst xs) (.ref a)
  | dct {a : Addr} {o : Obj} {gs : List (Key × V)} {ks : List (Key × PV)} : H a = some (.frz o (.dK gs)) → ks.map (·.1) = gs.map (·.1) → RVs K H (ks.map (·.2)) (gs.map (·.2)) → RV K H (.dct ks) (.ref a)
  | obj {a C dx : Addr} {o : Obj} {gs : List (Str × V)} {fs : List (Str × PV)} : H a = some (.frz o (.ins C dx gs)) → fs.map (·.1) = gs.map (·.1) → RVs K H (fs.map (·.2)) (gs.map (·.2)) → RV K H (.obj C fs) (.ref a)
inductive RVs (K : PySem.W.Frag) (H : Hp) : List PV → List V → Prop
  | nil : RVs K H [] []
  | cons {x : PV} {v : V} {xs : List PV} {vs : List V} : RV K H x v → RVs K H xs vs → RVs K H (x :: xs) (v :: vs)
end
mutual
theorem RV.imm {K : PySem.W.Frag} {H H' : Hp} (i : Imm H H') : ∀ {p : PV} {v : V}, RV K H p v → RV K H' p v
  | _, _, .non => .non
  | _, _, .bl b => .bl b
  | _, _, .int b => .int b
  | _, _, .str b => .str b
  | _, _, .ref b => .ref b
  | _, _, .ty b => .ty b
  | _, _, .tup h d r => .tup (sqT_imm i h) (d.imm i) (RVs.imm i r)
  | _, _, .lst h r => .lst (FzL.imm i h) (RVs.imm i r)
  | _, _, .dct h e r => .dct (i.frz _ _ _ h) e (RVs.imm i r)
  | _, _, .obj h e r => .obj (i.frz _ _ _ h) e (RVs.imm i r)
theorem RVs.imm {K : PySem.W.Frag} {H H' : Hp} (i : Imm H H') : ∀ {p : List PV} {v : List V}, RVs K H p v → RVs K H' p v
  | _, _, .nil => .nil
  | _, _, .cons h r => .cons (RV.imm i h) (RVs.imm i r)
end
section
variable {K : PySem.W.Frag} {H H' : Hp}
theorem RVs.length : ∀ {xs : List PV} {vs : List V}, RVs K H xs vs → xs.length = vs.length
  | _, _, .nil => rfl
  | _, _, .cons _ r => by simp [RVs.length r]
theorem RVs.get : ∀ {xs : List PV} {vs : List V} {i : Nat} {x : PV}, RVs K H xs vs → xs[i]? = some x → ∃ v, vs[i]? = some v ∧ RV K H x v
  | _, _, i, _, .nil, e => by simp at e
  | _, _, 0, _, .cons r _, e => by simp at e; subst e; exact ⟨_, rfl, r⟩
  | _, _, i + 1, x, .cons _ t, e => by
    obtain ⟨u, h1, h2⟩ := RVs.get (i := i) (x := x) t (by simpa using e)
    exact ⟨u, by simpa using h1, h2⟩
theorem RVs.getV : ∀ {xs : List PV} {vs : List V} {i : Nat} {v : V}, RVs K H xs vs → vs[i]? = some v → ∃ x, xs[i]? = some x ∧ RV K H x v
  | _, _, i, _, .nil, e => by simp at e
  | _, _, 0, _, .cons r _, e => by simp at e; subst e; exact ⟨_, rfl, r⟩
  | _, _, i + 1, x, .cons _ t, e => by
    obtain ⟨u, h1, h2⟩ := RVs.getV (i := i) (v := x) t (by simpa using e)
    exact ⟨u, by simpa using h1, h2⟩
theorem RVs.append : ∀ {xs ys : List PV} {vs ws : List V}, RVs K H xs vs → RVs K H ys ws → RVs K H (xs ++ ys) (vs ++ ws)
  | _, _, _, _, .nil, s => s
  | _, _, _, _, .cons r t, s => .cons r (RVs.append t s)
theorem RVs.set {x : PV} {v : V} (r : RV K H x v) : ∀ {xs : List PV} {vs : List V} (i : Nat), RVs K H xs vs → RVs K H (xs.set i x) (vs.set i v)
  | _, _, _, .nil => .nil
  | _, _, 0, .cons _ t => .cons r t
  | _, _, i + 1, .cons q t => .cons q (RVs.set r i t)
theorem RVs.take : ∀ {xs : List PV} {vs : List V} (n : Nat), RVs K H xs vs → RVs K H (xs.take n) (vs.take n)
  | _, _, 0, _ => by simp; exact .nil
  | _, _, _ + 1, .nil => .nil
  | _, _, n + 1, .cons r t => .cons r (RVs.take n t)
theorem RVs.drop : ∀ {xs : List PV} {vs : List V} (n : Nat), RVs K H xs vs → RVs K H (xs.drop n) (vs.drop n)
  | _, _, 0, r => r
  | _, _, _ + 1, .nil => .nil
  | _, _, n + 1, .cons _ t => RVs.drop n t
theorem RVs.reverse : ∀ {xs : List PV} {vs : List V}, RVs K H xs vs → RVs K H xs.reverse vs.reverse
  | _, _, .nil => .nil
  | _, _, .cons r t => by rw [List.reverse_cons, List.reverse_cons]; exact (RVs.reverse t).append (.cons r .nil)
theorem RVs.eraseIdx : ∀ {xs : List PV} {vs : List V} (i : Nat), RVs K H xs vs → RVs K H (xs.eraseIdx i) (vs.eraseIdx i)
  | _, _, _, .nil => .nil
  | _, _, 0, .cons _ t => t
  | _, _, i + 1, .cons q t => .cons q (RVs.eraseIdx i t)
theorem RVs.dropLast {xs : List PV} {vs : List V} (h : RVs K H xs vs) : RVs K H xs.dropLast vs.dropLast := by
  rw [List.dropLast_eq_take, List.dropLast_eq_take, ← h.length]
  exact h.take _
theorem RVs.ints : ∀ {ns : List Int} {vs : List V}, RVs K H (ns.map PV.int) vs → vs = ns.map V.int
  | [], _, .nil => rfl
  | n :: ns, _, .cons r t => by cases r; rw [RVs.ints t]; rfl
theorem RVs.of_strs : ∀ (ns : List Str), RVs K H (ns.map PV.str) (ns.map V.str)
  | [] => .nil
  | n :: ns => .cons (.str n) (RVs.of_strs ns)
end
/-- pairs -/
def Pr {κ : Type} (K : PySem.W.Frag) (H : Hp) (ks : List (κ × PV)) (gs : List (κ × V)) : Prop := ks.map (·.1) = gs.map (·.1) ∧ RVs K H (ks.map (·.2)) (gs.map (·.2))
theorem Pr.imm {κ : Type} {K : PySem.W.Frag} {H H' : Hp} {ks : List (κ × PV)} {gs : List (κ × V)} (i : Imm H H') (h : Pr K H ks gs) : Pr K H' ks gs := ⟨h.1, h.2.imm i⟩
theorem Pr.nil {κ : Type} {K : PySem.W.Frag} {H : Hp} : Pr (κ := κ) K H [] [] := ⟨rfl, .nil⟩
theorem Pr.cons {κ : Type} {K : PySem.W.Frag} {H : Hp} {k : κ} {x : PV} {v : V} {ks : List (κ × PV)} {gs : List (κ × V)} (r : RV K H x v) (h : Pr K H ks gs) : Pr K H ((k, x) :: ks) ((k, v) :: gs) :=
  ⟨by simp [h.1], .cons r h.2⟩
theorem Pr.un {κ : Type} {K : PySem.W.Frag} {H : Hp} {k : κ} {x : PV} {ks : List (κ × PV)} {gs : List (κ × V)} (h : Pr K H ((k, x) :: ks) gs) : ∃ v gs', gs = (k, v) :: gs' ∧ RV K H x v ∧ Pr K H ks gs' := by
  obtain ⟨h1, h2⟩ := h
  cases gs with
  | nil => simp at h1
  | cons g gs =>
    obtain ⟨k', v⟩ := g
    simp at h1
    obtain ⟨rfl, h1⟩ := h1
    cases h2 with
    | cons r t => exact ⟨v, gs, rfl, r, h1, t⟩
theorem Pr.length {κ : Type} {K : PySem.W.Frag} {H : Hp} {ks : List (κ × PV)} {gs : List (κ × V)} (h : Pr K H ks gs) : ks.length = gs.length := by
  have := congrArg List.length h.1
  simpa using this

def RM (K : PySem.W.Frag) (H : Hp) (a : Addr) : MO → Prop
  | .lst xs => ∃ vs, H a = some (.lst vs) ∧ RVs K H xs vs
  | .dct kvs => ∃ gs, H a = some (.dK gs) ∧ Pr K H kvs gs
  | .ins C fs => ∃ dx gs, H a = some (.ins C dx gs) ∧ Pr K H fs gs
theorem RM.imm {K : PySem.W.Frag} {H H' : Hp} {a : Addr} {o : MO} (i : Imm H H') (e : H' a = H a) (h : RM K H a o) : RM K H' a o := by
  cases o with
  | lst xs => obtain ⟨vs, h1, h2⟩ := h; exact ⟨vs, e.trans h1, h2.imm i⟩
  | dct kvs => obtain ⟨vs, h1, h2⟩ := h; exact ⟨vs, e.trans h1, h2.imm i⟩
  | ins C fs => obtain ⟨dx, vs, h1, h2⟩ := h; exact ⟨dx, vs, e.trans h1, h2.imm i⟩
theorem RM.at {K : PySem.W.Frag} {H : Hp} {a : Addr} {o : MO} (h : RM K H a o) : ∃ u, H a = some u ∧ Pl u := by
  cases o with
  | lst xs => obtain ⟨vs, h1, h2⟩ := h; exact ⟨_, h1, trivial⟩
  | dct kvs => obtain ⟨vs, h1, h2⟩ := h; exact ⟨_, h1, trivial⟩
  | ins C fs => obtain ⟨dx, vs, h1, h2⟩ := h; exact ⟨_, h1, trivial⟩
structure RS (G : Gk) (H : Hp) (S : Sto) : Prop where
  mo : ∀ a o, S a = some o → RM G.K H a o
  tab : LamX.Tabs G.T H
theorem RS.grow {G : Gk} {H H' : Hp} {S : Sto} (g : Grow H H') (h : RS G H S) : RS G H' S := ⟨fun a o e => by
    obtain ⟨u, hu, _⟩ := (h.mo a o e).at
    exact (h.mo a o e).imm (.of g) ((g _ _ hu).trans hu.symm), h.tab.ext g⟩
theorem tabs_upd {T : List (Addr × Str)} {H : Hp} {a : Addr} {o u : HO} (h : LamX.Tabs T H) (e : H a = some o) (p : Pl o) : LamX.Tabs T (upd H a u) := fun q hq => by
  obtain ⟨ps, h1, h2, h3⟩ := h q hq
  have n : ∀ {b : Addr} {w : HO}, H b = some w → ¬ Pl w → b ≠ a := fun {b w} e' np z => by rw [z, e] at e'; cases e'; exact np p
  refine ⟨ps, by rw [upd_ne (n h1 fun z => z)]; exact h1, h2, fun pos cv hc => ?_⟩
  obtain ⟨c, e1, e2⟩ := h3 pos cv hc
  exact ⟨c, e1, by rw [upd_ne (n e2 fun z => z)]; exact e2⟩
/-- a thing of the store is changed -/
theorem RS.put {G : Gk} {H : Hp} {S : Sto} {a : Addr} {o u : HO} {m : MO} (h : RS G H S) (e : H a = some o) (p : Pl o) (new : RM G.K (upd H a u) a m) : RS G (upd H a u) (updS S a m) :=
  ⟨fun b q eq => by
    by_cases hb : b = a
    · subst hb; rw [updS_same] at eq; cases eq; exact new
    · rw [updS_ne hb] at eq
      exact (h.mo b q eq).imm (imm_upd e p) (upd_ne hb), tabs_upd h.tab e p⟩
/-- a new thing of the store -/
theorem RS.new {G : Gk} {H : Hp} {S : Sto} {a : Addr} {u : HO} {m : MO} (h : RS G H S) (e : H a = none) (new : RM G.K (upd H a u) a m) : RS G (upd H a u) (updS S a m) :=
  ⟨fun b q eq => by
    by_cases hb : b = a
    · subst hb; rw [updS_same] at eq; cases eq; exact new
    · rw [updS_ne hb] at eq
      exact (h.mo b q eq).imm (.of (grow_upd e)) (upd_ne hb), h.tab.ext (grow_upd e)⟩
theorem RS.free {G : Gk} {H : Hp} {S : Sto} {a : Addr} (h : RS G H S) (e : H a = none) : S a = none := by
  cases q : S a with
  | none => rfl
  | some o =>
    obtain ⟨u, hu, _⟩ := (h.mo a o q).at
    rw [e] at hu; cases hu
/-- S is part of S' -/
def Sub (S S' : Sto) : Prop := ∀ a o, S a = some o → S' a = some o
theorem RS.sub {G : Gk} {H : Hp} {S S' : Sto} (u : Sub S S') (h : RS G H S') : RS G H S := ⟨fun a o e => h.mo a o (u a o e), h.tab⟩

/-- not a table of code objects -/
def Nt : HO → Prop
  | .tbl _ => False
  | _ => True
/-- from (S, H) to (S', H'): what never changes stays; what stands outside of S stays; what S' has more was not there -/
structure Fr (S : Sto) (H : Hp) (S' : Sto) (H' : Hp) : Prop where
  imm : Imm H H'
  keep : ∀ a o, S a = none → H a = some o → Nt o → H' a = some o
  new : ∀ a o, S a = none → H a = some o → Nt o → S' a = none
theorem Fr.refl (S : Sto) (H : Hp) : Fr S H S H := ⟨.refl H, fun _ _ _ h _ => h, fun _ _ h _ _ => h⟩
theorem Fr.trans {S S1 S2 : Sto} {H H1 H2 : Hp} (a : Fr S H S1 H1) (b : Fr S1 H1 S2 H2) : Fr S H S2 H2 :=
  ⟨a.imm.trans b.imm, fun c o n h t => b.keep c o (a.new c o n h t) (a.keep c o n h t) t, fun c o n h t => b.new c o (a.new c o n h t) (a.keep c o n h t) t⟩
theorem Fr.grow {S : Sto} {H H' : Hp} (g : Grow H H') : Fr S H S H' := ⟨.of g, fun a o _ h _ => g a o h, fun _ _ h _ _ => h⟩
theorem Fr.fresh {S : Sto} {H : Hp} {p : Addr} {u : HO} {m : MO} (h : H p = none) : Fr S H (updS S p m) (upd H p u) :=
  ⟨.of (grow_upd h), fun a o _ e _ => grow_upd h a o e, fun a o n e _ => by
    rw [updS_ne fun z => by rw [z, h] at e; cases e]; exact n⟩
theorem Fr.put {S : Sto} {H : Hp} {a : Addr} {o u : HO} {m : MO} (h : H a = some o) (p : Pl o) (hs : S a ≠ none) : Fr S H (updS S a m) (upd H a u) :=
  ⟨imm_upd h p, fun b v n e _ => by rw [upd_ne fun z => hs (by rw [← z]; exact n)]; exact e, fun b _ n _ _ => by rw [updS_ne fun z => hs (by rw [← z]; exact n)]; exact n⟩
theorem Fr.sub {S S' S'' : Sto} {H H' : Hp} (f : Fr S H S' H') (u : Sub S'' S') : Fr S H S'' H' := ⟨f.imm, f.keep, fun a o n e t => by
  cases q : S'' a with
  | none => rfl
  | some o' => exact absurd (u a o' q) (by rw [f.new a o n e t]; simp)⟩
/-- the slots -/
structure RSl (K : PySem.W.Frag) (H : Hp) (ρ : Slots) (σ : St) : Prop where
  len : ρ.length = σ.length
  at_ : ∀ (i : Nat) (p : PV), ρ[i]? = some (some p) → ∃ v, σ[i]? = some (some v) ∧ RV K H p v
theorem RSl.imm {K : PySem.W.Frag} {H H' : Hp} {ρ : Slots} {σ : St} (i : Imm H H') (h : RSl K H ρ σ) : RSl K H' ρ σ := ⟨h.len, fun j p e => by
  obtain ⟨v, h1, h2⟩ := h.at_ j p e
  exact ⟨v, h1, h2.imm i⟩⟩
theorem RSl.set {K : PySem.W.Frag} {H : Hp} {ρ : Slots} {σ : St} {i : Nat} {p : PV} {v : V} (h : RSl K H ρ σ) (r : RV K H p v) : RSl K H (ρ.set i (some p)) (σ.set i (some v)) := ⟨by simp [h.len], fun j q e => by
  by_cases hj : i = j
  · subst hj
    by_cases hi : i < ρ.length
    · rw [List.getElem?_set_self hi] at e
      cases e
      exact ⟨v, List.getElem?_set_self (by rw [← h.len]; exact hi), r⟩
    · rw [List.getElem?_eq_none (by simp; omega)] at e; cases e
  · rw [List.getElem?_set_ne hj] at e ⊢
    exact h.at_ j q e⟩
def wipeP (ρ : Slots) : List Nat → Slots
  | [] => ρ
  | i :: r => (wipeP ρ r).set i none
theorem RSl.start {K : PySem.W.Frag} {H : Hp} {xs : List PV} {vs : List V} (n : Nat) (r : RVs K H xs vs) : RSl K H (xs.map some ++ List.replicate (n - xs.length) none) (vs.map some ++ List.replicate (n - vs.length) none) := ⟨by simp [r.length], fun i p e => by
  by_cases hi : i < xs.length
  · rw [List.getElem?_append_left (by simpa using hi), List.getElem?_map] at e
    cases q : xs[i]? with
    | none => rw [q] at e; cases e
    | some x =>
      rw [q] at e; cases e
      obtain ⟨v, h1, h2⟩ := r.get q
      refine ⟨v, ?_, h2⟩
      rw [List.getElem?_append_left (by simp; rw [← r.length]; exact hi), List.getElem?_map, h1]; rfl
  · rw [List.getElem?_append_right (by simp; omega)] at e
    rw [List.getElem?_replicate] at e
    split at e <;> cases e⟩
end PX
end L2

namespace L2
namespace PX
open PySem PySem.Spec PyProof.Rows

abbrev RK := PV → Sto → Prop
abbrev ZK := Exc → Sto → Prop
abbrev WE := Slots → Sto → RK → ZK → Prop
abbrev WT := Slots → Sto → (Bool → Sto → Prop) → ZK → Prop
abbrev WA := Slots → Sto → (List PV → Sto → Prop) → ZK → Prop
abbrev WI := Slots → Sto → (List PV → (Sto → Prop) → Sto → Prop) → ZK → Prop
structure PEnds where
  nx : Slots → Sto → Prop
  rt : PV → Sto → Prop
  bk : Slots → Sto → Prop := fun _ _ => False
  ct : Slots → Sto → Prop := fun _ _ => False
  ex : Exc → Slots → Sto → Prop := fun _ _ _ => False
abbrev WS := PEnds → Slots → Sto → Prop
structure Jv where
  p : Hp → Prop
  st : ∀ H H', Imm H H' → p H → p H'
def J0 : Jv := ⟨fun _ => True, fun _ _ _ _ => trivial⟩
structure Lc where
  T : List (Addr × Str)
  W : WX
  J : Jv
abbrev RSK (K : PySem.W.Frag) (L : Lc) (H : Hp) (S : Sto) : Prop := RS ⟨K, L.T⟩ H S
def RX (K : PySem.W.Frag) (H : Hp) (e : Exc) (cls : Value) (d : Option Addr) : Prop := cls = .ref e.cls ∧ match d with
  | some d => ∃ o gs, H d = some (.frz o (.xd gs)) ∧ Pr K H e.fs gs
  | none => e.fs = []
theorem RX.imm {K : PySem.W.Frag} {H H' : Hp} {e : Exc} {cls : Value} {d : Option Addr} (i : Imm H H') (h : RX K H e cls d) : RX K H' e cls d := by
  obtain ⟨h1, h2⟩ := h
  refine ⟨h1, ?_⟩
  cases d with
  | none => exact h2
  | some d => obtain ⟨o, gs, h3, h4⟩ := h2; exact ⟨o, gs, i.frz _ _ _ h3, h4.imm i⟩
def ZC (K : PySem.W.Frag) (L : Lc) (S : Sto) (H : Hp) (σ : L2.St) (Z : ZK) : Prop := ∀ e S' cls d H', Fr S H S' H' → RSK K L H' S' → RX K H' e cls d → Z e S' → L.W cls d σ H'
def VC (K : PySem.W.Frag) (L : Lc) (S : Sto) (H : Hp) (R : RK) (Q : VK) : Prop := ∀ p S' v H', Fr S H S' H' → RSK K L H' S' → RV K H' p v → R p S' → Q v H'
theorem ZC.fr {K : PySem.W.Frag} {L : Lc} {S S' : Sto} {H H' : Hp} {σ : L2.St} {Z : ZK} (i : Fr S H S' H') (h : ZC K L S H σ Z) : ZC K L S' H' σ Z := fun e S' cls d H2 i2 => h e S' cls d H2 (i.trans i2)
theorem VC.fr {K : PySem.W.Frag} {L : Lc} {S S' : Sto} {H H' : Hp} {R : RK} {Q : VK} (i : Fr S H S' H') (h : VC K L S H R Q) : VC K L S' H' R Q := fun e S' cls H2 i2 => h e S' cls H2 (i.trans i2)
/-- where one stands -/
structure At (K : PySem.W.Frag) (L : Lc) (σ : L2.St) (H : Hp) (ρ : Slots) (S : Sto) : Prop where
  sl : RSl K H ρ σ
  st : RSK K L H S
  j : L.J.p H
theorem At.fr {K : PySem.W.Frag} {L : Lc} {σ : L2.St} {H H' : Hp} {ρ : Slots} {S S' : Sto} (a : At K L σ H ρ S) (i : Fr S H S' H') (s : RSK K L H' S') : At K L σ H' ρ S' := ⟨a.sl.imm i.imm, s, L.J.st _ _ i.imm a.j⟩
def LE (K : PySem.W.Frag) (L : Lc) (w : WE) : TE := fun σ H Q => ∃ ρ S R Z, At K L σ H ρ S ∧ w ρ S R Z ∧ VC K L S H R Q ∧ ZC K L S H σ Z
def LT (K : PySem.W.Frag) (L : Lc) (w : WT) : TT := fun σ H Q => ∃ ρ S R Z, At K L σ H ρ S ∧ w ρ S R Z ∧ (∀ b S' H', Fr S H S' H' → RSK K L H' S' → R b S' → Q b H') ∧ ZC K L S H σ Z
def LA (K : PySem.W.Frag) (L : Lc) (w : WA) : TA := fun σ H Q => ∃ ρ S R Z, At K L σ H ρ S ∧ w ρ S R Z ∧ (∀ ps S' vs H', Fr S H S' H' → RSK K L H' S' → RVs K H' ps vs → R ps S' → Q vs H') ∧ ZC K L S H σ Z
structure Yl (K : PySem.W.Frag) (L : Lc) (items : List PV) (ok : Sto → Prop) (H0 : Hp) (J : It) : Prop where
  go : ∀ i H S x, items[i]? = some x → Imm H0 H → RSK K L H S → ok S → J.go i H ∧ ∀ v H', J.yld i H v H' → Grow H H' ∧ RV K H' x v
  stop : ∀ H S, Imm H0 H → RSK K L H S → ok S → J.stop items.length H
def LI (K : PySem.W.Frag) (L : Lc) (w : WI) : TI := fun σ H Q => ∃ ρ S R Z, At K L σ H ρ S ∧ w ρ S R Z ∧ (∀ items ok S' J H', Fr S H S' H' → RSK K L H' S' → Yl K L items ok H' J → R items ok S' → Q J H') ∧ ZC K L S H σ Z
structure EC (K : PySem.W.Frag) (L : Lc) (S0 : Sto) (H : Hp) (P : PEnds) (D : Ends) : Prop where
  nx : ∀ ρ S σ H', Fr S0 H S H' → At K L σ H' ρ S → P.nx ρ S → D.nx σ H'
  rt : ∀ p S v H', Fr S0 H S H' → RSK K L H' S → RV K H' p v → P.rt p S → D.rt v H'
  bk : ∀ ρ S σ H', Fr S0 H S H' → At K L σ H' ρ S → P.bk ρ S → D.bk σ H'
  ct : ∀ ρ S σ H', Fr S0 H S H' → At K L σ H' ρ S → P.ct ρ S → D.ct σ H'
  ex : ∀ e ρ S cls d σ H', Fr S0 H S H' → At K L σ H' ρ S → RX K H' e cls d → P.ex e ρ S → L.W cls d σ H'
theorem EC.fr {K : PySem.W.Frag} {L : Lc} {S S' : Sto} {H H' : Hp} {P : PEnds} {D : Ends} (i : Fr S H S' H') (h : EC K L S H P D) : EC K L S' H' P D :=
  ⟨fun ρ S σ H2 i2 => h.nx ρ S σ H2 (i.trans i2), fun ρ S σ H2 i2 => h.rt ρ S σ H2 (i.trans i2), fun ρ S σ H2 i2 => h.bk ρ S σ H2 (i.trans i2), fun ρ S σ H2 i2 => h.ct ρ S σ H2 (i.trans i2), fun e ρ S cls d σ H2 i2 => h.ex e ρ S cls d σ H2 (i.trans i2)⟩
def LS (K : PySem.W.Frag) (L : Lc) (w : WS) : TS := fun D σ H => ∃ ρ S P, At K L σ H ρ S ∧ w P ρ S ∧ EC K L S H P D

/-- the judgements -/
abbrev DE (X : Cx) (L : Lc) (e : Expr) (w : WE) : Prop := PE X e (LE X.K L w)
abbrev DT (X : Cx) (L : Lc) (e : Expr) (w : WT) : Prop := PT X e (LT X.K L w)
abbrev DW (X : Cx) (L : Lc) (e : Expr) (w : WT) : Prop := PW X e (LT X.K L w)
abbrev DA (X : Cx) (L : Lc) (es : List Expr) (w : WA) : Prop := PA X es (LA X.K L w)
abbrev DI (X : Cx) (L : Lc) (tg e : Expr) (w : WI) : Prop := PI X tg e (LI X.K L w)
abbrev DS (X : Cx) (L : Lc) (st : Stmt) (w : WS) : Prop := PS X st (LS X.K L w)
abbrev DSs (X : Cx) (L : Lc) (st : List Stmt) (w : WS) : Prop := PSs X st (LS X.K L w)

section
variable {X : Cx} {L : Lc} {a b c e : Expr} {wa wb wc w : WE} {pos : Pos}
/-- consequence -/
theorem _root_.L2.PE.imp {t t' : TE} (h : PE X e t) (i : ∀ σ H Q, t' σ H Q → t σ H Q) : PE X e t' := ⟨fun pins s σ H Q I q => h.run pins s σ H Q I (i _ _ _ q)⟩
theorem _root_.L2.PT.imp {t t' : TT} (h : PT X e t) (i : ∀ σ H Q, t' σ H Q → t σ H Q) : PT X e t' := ⟨fun pins s σ H Q I q => h.run pins s σ H Q I (i _ _ _ q)⟩
theorem _root_.L2.PW.imp {t t' : TT} (h : PW X e t) (i : ∀ σ H Q, t' σ H Q → t σ H Q) : PW X e t' := ⟨fun wh pins s σ H Q I q => h.run wh pins s σ H Q I (i _ _ _ q)⟩
theorem _root_.L2.PA.imp {es : List Expr} {t t' : TA} (h : PA X es t) (i : ∀ σ H Q, t' σ H Q → t σ H Q) : PA X es t' := ⟨fun p pins s σ H Q I q => h.run p pins s σ H Q I (i _ _ _ q)⟩
theorem _root_.L2.PI.imp {tg : Expr} {t t' : TI} (h : PI X tg e t) (i : ∀ σ H Q, t' σ H Q → t σ H Q) : PI X tg e t' := ⟨fun pins s σ H Q I q => h.run pins s σ H Q I (i _ _ _ q)⟩
theorem _root_.L2.PS.imp {st : Stmt} {t t' : TS} (h : PS X st t) (i : ∀ D σ H, t' D σ H → t D σ H) : PS X st t' := ⟨fun pins s σ H D I q => h.run pins s σ H D I (i _ _ _ q)⟩
theorem _root_.L2.PSs.imp {st : List Stmt} {t t' : TS} (h : PSs X st t) (i : ∀ D σ H, t' D σ H → t D σ H) : PSs X st t' := ⟨fun pins s σ H D I q => h.run pins s σ H D I (i _ _ _ q)⟩

def gs : Slots → Nat → Option PV
  | [], _ => none
  | x :: _, 0 => x
  | _ :: r, n + 1 => gs r n
theorem gs_eq : ∀ {ρ : Slots} {i : Nat} {p : PV}, gs ρ i = some p → ρ[i]? = some (some p)
  | [], _, _, h => by cases h
  | x :: r, 0, p, h => by simpa [gs] using h
  | x :: r, n + 1, p, h => by simpa using gs_eq (ρ := r) (i := n) h
def wVar (i : Nat) : WE := fun ρ S R _ => match gs ρ i with
  | some p => R p S
  | none => False
def wC (p : PV) : WE := fun _ S R _ => R p S
theorem de_var (i : Nat) {x : Str} (hN : X.N[i]? = some x := by rfl) (hv : Vis X.env.scope x := by first | exact Or.inl rfl | exact Or.inr (Or.inl rfl) | exact Or.inr (Or.inr rfl)) (hd : (x == ("__debug__" : Str)) = false := by decide)
    (hcd : (x == ("__classdict__" : Str)) = false := by decide) : DE X L (.Name x pos) (wVar i) := (pe_var hN hv hd hcd).imp fun σ H Q ⟨ρ, S, R, Z, A, h, q, _⟩ => by
  unfold wVar at h
  cases g : gs ρ i with
  | none => rw [g] at h; exact h.elim
  | some p =>
    rw [g] at h
    obtain ⟨v, h1, h2⟩ := A.sl.at_ i p (gs_eq g)
    exact ⟨v, h1, q p S v H (.refl S H) A.st h2 h⟩
theorem de_c {v : V} {p : PV} {t : TE} (h : PE X e t) (ht : ∀ σ H Q, Q v H → t σ H Q) (r : ∀ H, RV X.K H p v) : DE X L e (wC p) := h.imp fun σ H Q ⟨ρ, S, R, Z, A, h, q, _⟩ => ht σ H Q (q p S v H (.refl S H) A.st (r H) h)
theorem de_int {i j} : DE X L (.Constant (.int i) j pos) (wC (.int i)) := de_c pe_int (fun _ _ _ q => q) fun _ => .int i
theorem de_bl {b j} : DE X L (.Constant (.bool b) j pos) (wC (.bl b)) := de_c pe_bl (fun _ _ _ q => q) fun _ => .bl b
theorem de_non {j} : DE X L (.Constant .none j pos) (wC .non) := de_c pe_non (fun _ _ _ q => q) fun _ => .non
theorem de_str {x j} : DE X L (.Constant (.str x) j pos) (wC (.str x)) := de_c pe_str (fun _ _ _ q => q) fun _ => .str x
/-- a global constant: an int, a text, a class -/
theorem de_gint {x : Str} {i : Int} (hm : ∃ t, X.mg x = some (.int i t)) (hg : Gl X x := by rfl) (hd : (x == ("__debug__" : Str)) = false := by decide) : DE X L (.Name x pos) (wC (.int i)) := by
  obtain ⟨t, hm⟩ := hm
  exact de_c (pe_glob (v := .int i) hg hm ⟨t, rfl⟩ hd) (fun _ _ _ q => q) fun _ => .int i
theorem de_gstr {x z : Str} (hm : ∃ t, X.mg x = some (.str z t)) (hg : Gl X x := by rfl) (hd : (x == ("__debug__" : Str)) = false := by decide) : DE X L (.Name x pos) (wC (.str z)) := by
  obtain ⟨t, hm⟩ := hm
  exact de_c (pe_glob (v := .str z) hg hm ⟨t, rfl⟩ hd) (fun _ _ _ q => q) fun _ => .str z
theorem de_ty {x : Str} {n : String} (hm : X.mg x = none) (hv : bootBuiltins x = some (.type n)) (hg : Gl X x := by rfl) (hn : x ≠ "__name__" := by decide) (hd : (x == ("__debug__" : Str)) = false := by decide) : DE X L (.Name x pos) (wC (.ty n)) :=
  de_c (pe_bltn (v := .ty n) hg hm hv rfl hn hd) (fun _ _ _ q => q) fun _ => .ty n

/-- the thing behind a store's address -/
def dr (S : Sto) : PV → PV
  | .ref a => match S a with
    | some (.lst xs) => .lst xs
    | some (.dct ks) => .dct ks
    | some (.ins C fs) => .obj C fs
    | none => .ref a
  | p => p
abbrev K2 := PV → PV → Sto → RK → Prop
def Op2 (X : Cx) (L : Lc) (f : Value → Value → Sem Value) (k : K2) : Prop :=
  ∀ (pins : List (Addr × Obj)) (s : Shared) (σ : L2.St) (H : Hp) (x y : V) (v u : Value) (p q : PV) (S : Sto) (R : RK) (Q : VK), Inv X pins σ H s → RelV x v → RelV y u → RSK X.K L H S → RV X.K H p x → RV X.K H q y → k p q S R → VC X.K L S H R Q →
    wpAny (model X.prog X.w) X.A (f v u) (EP X pins σ Q) X.xe s
def wB (k : K2) (wa wb : WE) : WE := fun ρ S R Z => wa ρ S (fun p S1 => wb ρ S1 (fun q S2 => k p q S2 R) Z) Z
theorem lbin (ha : DE X L a wa) (hb : DE X L b wb) {pins : List (Addr × Obj)} {s : Shared} {σ : L2.St} {H : Hp} {ρ : Slots} {S : Sto} {Z : ZK} {k : PV → PV → Sto → Prop} (I : Inv X pins σ H s) (A : At X.K L σ H ρ S)
    (h : wa ρ S (fun p S1 => wb ρ S1 (fun q S2 => k p q S2) Z) Z) (hZ : ZC X.K L S H σ Z) {Q : Value → Shared → Prop} {f : Value → Value → Sem Value}
    (hf : ∀ v u s2 x y H2 p q S2, Inv X pins σ H2 s2 → RelV x v → RelV y u → Fr S H S2 H2 → At X.K L σ H2 ρ S2 → RV X.K H2 p x → RV X.K H2 q y → k p q S2 → wpAny (model X.prog X.w) X.A (f v u) Q X.xe s2) :
    wpAny (model X.prog X.w) X.A (eval a X.env) (fun v s₁ => wpAny (model X.prog X.w) X.A (eval b X.env) (fun u s₂ => wpAny (model X.prog X.w) X.A (f v u) Q X.xe s₂) X.xe s₁) X.xe s := by
  refine binT ha hb I (R := fun x y H2 => ∃ p q S2, Fr S H S2 H2 ∧ At X.K L σ H2 ρ S2 ∧ RV X.K H2 p x ∧ RV X.K H2 q y ∧ k p q S2) ?_ fun v u s2 x y H2 I2 rx ry ⟨p, q, S2, i, A2, r1, r2, hk⟩ => hf v u s2 x y H2 p q S2 I2 rx ry i A2 r1 r2 hk
  refine ⟨ρ, S, _, Z, A, h, fun p S1 x H1 i1 st1 r1 h1 => ?_, hZ⟩
  refine ⟨ρ, S1, _, Z, A.fr i1 st1, h1, fun q S2 y H2 i2 st2 r2 h2 => ?_, hZ.fr i1⟩
  exact ⟨p, q, S2, i1.trans i2, A.fr (i1.trans i2) st2, r1.imm i2.imm, r2, h2⟩
theorem de_bin {op : Operator} {k : K2} (ho : Op2 X L (binaryOp op) k) (ha : DE X L a wa) (hb : DE X L b wb) : DE X L (.BinOp a op b pos) (wB k wa wb) := by
  refine ⟨fun pins s σ H Q I ⟨ρ, S, R, Z, A, h, q, hZ⟩ => ?_⟩
  exact wpAny_BinOp (lbin ha hb I A h hZ fun v u s2 x y H2 p q' S2 I2 rx ry i A2 r1 r2 hk => ho pins s2 σ H2 x y v u p q' S2 R Q I2 rx ry A2.st r1 r2 hk (q.fr i))
theorem de_cmp {op : CmpOp} {k : K2} (ho : Op2 X L (compareOp op) k) (ha : DE X L a wa) (hb : DE X L b wb) (hm : behindInMarks op b = false := by first | exact nomark _ | rfl) : DE X L (.Compare a [op] [b] pos) (wB k wa wb) := by
  refine ⟨fun pins s σ H Q I ⟨ρ, S, R, Z, A, h, q, hZ⟩ => ?_⟩
  exact wpAny_Compare1 (lbin ha hb I A h hZ fun v u s2 x y H2 p q' S2 I2 rx ry i A2 r1 r2 hk => ho pins s2 σ H2 x y v u p q' S2 R Q I2 rx ry A2.st r1 r2 hk (q.fr i)) hm
/-- the truth of a flag -/
def kB (k : Bool → Sto → Prop) : RK := fun p S => match p with
  | .bl c => k c S
  | _ => False
def tst (w : WE) : WT := fun ρ S R Z => w ρ S (kB R) Z
theorem kB_of {k : Bool → Sto → Prop} {p : PV} {S : Sto} (h : kB k p S) : ∃ c, p = .bl c ∧ k c S := by
  cases p with
  | bl c => exact ⟨c, rfl, h⟩
  | _ => exact h.elim
theorem vc_kB {K : PySem.W.Frag} {S : Sto} {H : Hp} {R : Bool → Sto → Prop} {Q : Bool → Hp → Prop} (q : ∀ b S' H', Fr S H S' H' → RSK K L H' S' → R b S' → Q b H') : VC K L S H (kB R) fun x H' => ∃ k, x = .bl k ∧ Q k H' := fun p S' v H' i st r h => by
  obtain ⟨c, rfl, h⟩ := kB_of h
  cases r
  exact ⟨c, rfl, q c S' H' i st h⟩
theorem dt_cmp {op : CmpOp} {k : K2} (ho : Op2 X L (compareOp op) k) (ha : DE X L a wa) (hb : DE X L b wb) (hm : behindInMarks op b = false := by first | exact nomark _ | rfl) : DT X L (.Compare a [op] [b] pos) (tst (wB k wa wb)) := by
  refine ⟨fun pins s σ H Q I ⟨ρ, S, R, Z, A, h, q, hZ⟩ => ?_⟩
  refine wpAny_isTrue_Compare1 (thn (lbin ha hb I A h hZ (f := compareOp op) (Q := fun u s' => ∃ k H', u = Value.bool k ∧ Inv X pins σ H' s' ∧ Q k H') fun v u s2 x y H2 p q' S2 I2 rx ry i A2 r1 r2 hk => thn (ho pins s2 σ H2 x y v u p q' S2 (kB R) (fun x H' => ∃ k, x = .bl k ∧ Q k H') I2 rx ry A2.st r1 r2 hk ((vc_kB (L := L) (K := X.K) q).fr i)) fun u s3 ⟨z, H3, I3, r3, c, e, q3⟩ => by
    subst e; cases r3; exact ⟨c, H3, rfl, I3, q3⟩) fun v s1 h1 => thn h1 fun u s2 h2 => thn h2 fun c s3 ⟨d, H3, e, I3, q3⟩ => ?_) hm
  subst e
  exact wpAny_truthy_bool ⟨H3, I3, q3⟩
/-- a op b op c -/
def wCh (k k' : K2) (wa wb wc : WE) : WE := fun ρ S R Z => wa ρ S (fun p S1 => wb ρ S1 (fun q S2 => k p q S2 fun z S3 => match z with
  | .bl true => wc ρ S3 (fun r S4 => k' q r S4 R) Z
  | .bl false => R (.bl false) S3
  | _ => False) Z) Z
def wCh.of {k' : K2} {wc : WE} {ρ : Slots} {q z : PV} {S3 : Sto} {R : RK} {Z : ZK} (h : match z with
  | .bl true => wc ρ S3 (fun r S4 => k' q r S4 R) Z
  | .bl false => R (.bl false) S3
  | _ => False) : (z = .bl true ∧ wc ρ S3 (fun r S4 => k' q r S4 R) Z) ∨ (z = .bl false ∧ R (.bl false) S3) := by
  cases z with
  | bl d => cases d with
    | true => exact .inl ⟨rfl, h⟩
    | false => exact .inr ⟨rfl, h⟩
  | _ => exact h.elim
theorem lchain {op op' : CmpOp} {k k' : K2} (ho : Op2 X L (compareOp op) k) (ho' : Op2 X L (compareOp op') k') (ha : DE X L a wa) (hb : DE X L b wb) (hc : DE X L c wc) {σ : L2.St} {H : Hp} {ρ : Slots} {S : Sto} {R : RK} {Z : ZK} {Q : VK} (A : At X.K L σ H ρ S)
    (h : wCh k k' wa wb wc ρ S R Z) (q : VC X.K L S H R Q) (hZ : ZC X.K L S H σ Z) :
    tChain (fun x y H2 Q2 => ∃ p q S R, RSK X.K L H2 S ∧ RV X.K H2 p x ∧ RV X.K H2 q y ∧ k p q S R ∧ VC X.K L S H2 R Q2) (fun x y H2 Q2 => ∃ p q S R, RSK X.K L H2 S ∧ RV X.K H2 p x ∧ RV X.K H2 q y ∧ k' p q S R ∧ VC X.K L S H2 R Q2) (LE X.K L wa) (LE X.K L wb) (LE X.K L wc) σ H Q := by
  refine ⟨ρ, S, _, Z, A, h, fun p S1 x H1 i1 st1 r1 h1 => ?_, hZ⟩
  refine ⟨ρ, S1, _, Z, A.fr i1 st1, h1, fun q' S2 y H2 i2 st2 r2 h2 => ?_, hZ.fr i1⟩
  refine ⟨p, q', S2, _, st2, r1.imm i2.imm, r2, h2, fun z S3 zv H3 i3 st3 r3 h3 => ?_⟩
  rcases wCh.of h3 with ⟨rfl, h3⟩ | ⟨rfl, h3⟩
  · cases r3
    refine ⟨true, rfl, iteT ⟨ρ, S3, _, Z, A.fr ((i1.trans i2).trans i3) st3, h3, fun r S4 w' H4 i4 st4 r4 h4 => ?_, hZ.fr ((i1.trans i2).trans i3)⟩⟩
    exact ⟨q', r, S4, R, st4, r2.imm (i3.trans i4).imm, r4, h4, q.fr (((i1.trans i2).trans i3).trans i4)⟩
  · cases r3
    exact ⟨false, rfl, iteF (q (.bl false) S3 (.bl false) H3 ((i1.trans i2).trans i3) st3 (.bl false) h3)⟩
theorem Op2.opr {f : Value → Value → Sem Value} {k : K2} (ho : Op2 X L f k) : OpR X f (fun x y H2 Q2 => ∃ p q S R, RSK X.K L H2 S ∧ RV X.K H2 p x ∧ RV X.K H2 q y ∧ k p q S R ∧ VC X.K L S H2 R Q2) :=
  fun pins s σ H x y v u Q I rx ry ⟨p, q, S, R, st, r1, r2, hk, hq⟩ => ho pins s σ H x y v u p q S R Q I rx ry st r1 r2 hk hq
theorem de_chain {op op' : CmpOp} {k k' : K2} (ho : Op2 X L (compareOp op) k) (ho' : Op2 X L (compareOp op') k') (ha : DE X L a wa) (hb : DE X L b wb) (hc : DE X L c wc)
    (hm : lastMarks [op, op'] [b, c] = false := by with_unfolding_all rfl) : DE X L (.Compare a [op, op'] [b, c] pos) (wCh k k' wa wb wc) :=
  (pe_chain ho.opr ho'.opr ha hb hc hm).imp fun σ H Q ⟨ρ, S, R, Z, A, h, q, hZ⟩ => lchain ho ho' ha hb hc A h q hZ
abbrev K1 := PV → Sto → RK → Prop
def w1 (k : K1) (wa : WE) : WE := fun ρ S R Z => wa ρ S (fun p S1 => k p S1 R) Z
def Op1 (X : Cx) (L : Lc) (f : Value → Sem Value) (k : K1) : Prop :=
  ∀ (pins : List (Addr × Obj)) (s : Shared) (σ : L2.St) (H : Hp) (x : V) (v : Value) (p : PV) (S : Sto) (R : RK) (Q : VK), Inv X pins σ H s → RelV x v → RSK X.K L H S → RV X.K H p x → k p S R → VC X.K L S H R Q →
    wpAny (model X.prog X.w) X.A (f v) (EP X pins σ Q) X.xe s
theorem lone (ha : DE X L a wa) {pins : List (Addr × Obj)} {s : Shared} {σ : L2.St} {H : Hp} {ρ : Slots} {S : Sto} {Z : ZK} {k : PV → Sto → Prop} (I : Inv X pins σ H s) (A : At X.K L σ H ρ S) (h : wa ρ S k Z) (hZ : ZC X.K L S H σ Z) {Q : Value → Shared → Prop}
    (hf : ∀ v s2 x H2 p S2, Inv X pins σ H2 s2 → RelV x v → Fr S H S2 H2 → At X.K L σ H2 ρ S2 → RV X.K H2 p x → k p S2 → Q v s2) :
    wpAny (model X.prog X.w) X.A (eval a X.env) Q X.xe s :=
  thn (ha.run pins s σ H (fun x H2 => ∃ p S2, Fr S H S2 H2 ∧ At X.K L σ H2 ρ S2 ∧ RV X.K H2 p x ∧ k p S2) I ⟨ρ, S, k, Z, A, h, fun p S1 x H1 i1 st1 r1 h1 => ⟨p, S1, i1, A.fr i1 st1, r1, h1⟩, hZ⟩) fun v s2 ⟨x, H2, I2, rx, p, S2, i, A2, r, hk⟩ => hf v s2 x H2 p S2 I2 rx i A2 r hk
theorem de_un {op : UnaryOp} {k : K1} (ho : Op1 X L (unaryOp op) k) (ha : DE X L a wa) : DE X L (.UnaryOp op a pos) (w1 k wa) := by
  refine ⟨fun pins s σ H Q I ⟨ρ, S, R, Z, A, h, q, hZ⟩ => ?_⟩
  exact UnaryOp_ (lone ha I A h hZ fun v s2 x H2 p S2 I2 rx i A2 r hk => ho pins s2 σ H2 x v p S2 R Q I2 rx A2.st r hk (q.fr i))

def TruP (S : Sto) (p : PV) (k : Bool) : Prop := match dr S p with
  | .non => k = false
  | .bl b => k = b
  | .int i => k = (i != 0)
  | .str y => y.length ≤ sizeLine ∧ k = ((y.length : Int) != 0)
  | .lst xs => k = !xs.isEmpty
  | .tup xs => k = !xs.isEmpty
  | _ => False
theorem emp_of {K : PySem.W.Frag} {H : Hp} {xs : List PV} {vs : List V} (r : RVs K H xs vs) : (!xs.isEmpty) = !vs.isEmpty := by cases r <;> rfl
theorem dr_ref {S : Sto} {a : Addr} : (∃ xs, S a = some (.lst xs) ∧ dr S (.ref a) = .lst xs) ∨ (∃ xs, S a = some (.dct xs) ∧ dr S (.ref a) = .dct xs) ∨ (∃ C fs, S a = some (.ins C fs) ∧ dr S (.ref a) = .obj C fs) ∨ (S a = none ∧ dr S (.ref a) = .ref a) := by
  cases h : S a with
  | none => exact .inr (.inr (.inr ⟨rfl, by simp [dr, h]⟩))
  | some o => cases o with
    | lst xs => exact .inl ⟨xs, rfl, by simp [dr, h]⟩
    | dct xs => exact .inr (.inl ⟨xs, rfl, by simp [dr, h]⟩)
    | ins C fs => exact .inr (.inr (.inl ⟨C, fs, rfl, by simp [dr, h]⟩))
/-- a list to be read -/
theorem rd_lst {H : Hp} {S : Sto} {p : PV} {v : V} {xs : List PV} (st : RSK X.K L H S) (r : RV X.K H p v) (e : dr S p = .lst xs) : ∃ a vs, v = .ref a ∧ SqL X.K H a vs ∧ RVs X.K H xs vs := by
  cases r with
  | ref a =>
    rcases dr_ref (S := S) (a := a) with ⟨ys, h1, h2⟩ | ⟨ys, h1, h2⟩ | ⟨C, fs, h1, h2⟩ | ⟨h1, h2⟩
    · rw [h2] at e; cases e
      obtain ⟨vs, h3, h4⟩ := st.mo a _ h1
      exact ⟨a, vs, rfl, SqL.of h3, h4⟩
    all_goals (rw [h2] at e; cases e)
  | lst h hr => cases e; exact ⟨_, _, rfl, h.sq, hr⟩
  | _ => cases e
theorem rd_tup {H : Hp} {S : Sto} {p : PV} {v : V} {xs : List PV} (r : RV X.K H p v) (e : dr S p = .tup xs) : ∃ a vs, v = .ref a ∧ SqT X.K H a vs ∧ RVs X.K H xs vs := by
  cases r with
  | ref a =>
    rcases dr_ref (S := S) (a := a) with ⟨ys, h1, h2⟩ | ⟨ys, h1, h2⟩ | ⟨C, fs, h1, h2⟩ | ⟨h1, h2⟩
    all_goals (rw [h2] at e; cases e)
  | tup h _ hr => cases e; exact ⟨_, _, rfl, h, hr⟩
  | _ => cases e
theorem rd_tupD {H : Hp} {S : Sto} {p : PV} {v : V} {xs : List PV} (r : RV X.K H p v) (e : dr S p = .tup xs) : ∃ a vs, v = .ref a ∧ SqT X.K H a vs ∧ TD X.K H a ∧ RVs X.K H xs vs := by
  cases r with
  | ref a =>
    rcases dr_ref (S := S) (a := a) with ⟨ys, h1, h2⟩ | ⟨ys, h1, h2⟩ | ⟨C, fs, h1, h2⟩ | ⟨h1, h2⟩
    all_goals (rw [h2] at e; cases e)
  | tup h d hr => cases e; exact ⟨_, _, rfl, h, d, hr⟩
  | _ => cases e
theorem rd_flat {H : Hp} {S : Sto} {p : PV} {v : V} (r : RV X.K H p v) : (∀ i, dr S p = .int i → v = .int i) ∧ (∀ i, dr S p = .str i → v = .str i) ∧ (∀ i, dr S p = .bl i → v = .bl i) ∧ (dr S p = .non → v = .non) ∧ ∀ a, dr S p = .ref a → v = .ref a := by
  cases r with
  | ref a =>
    rcases dr_ref (S := S) (a := a) with ⟨ys, h1, h2⟩ | ⟨ys, h1, h2⟩ | ⟨C, fs, h1, h2⟩ | ⟨h1, h2⟩
    all_goals (rw [h2]; refine ⟨?_, ?_, ?_, ?_, ?_⟩ <;> intros <;> first | contradiction | rename_i h; cases h | skip)
    all_goals first | rfl | skip
  | _ => refine ⟨?_, ?_, ?_, ?_, ?_⟩ <;> intros <;> first | (rename_i h; cases h; rfl) | (rename_i h; cases h)
theorem tru_of {H : Hp} {S : Sto} {p : PV} {v : V} {k : Bool} (st : RSK X.K L H S) (r : RV X.K H p v) (h : TruP S p k) : TruV X.K v H k := by
  unfold TruP at h
  obtain ⟨f1, f2, f3, f4, f5⟩ := rd_flat (X := X) (S := S) r
  cases e : dr S p with
  | non => rw [e] at h; rw [f4 e]; exact h
  | bl b => rw [e] at h; rw [f3 b e]; exact h
  | int i => rw [e] at h; rw [f1 i e]; exact h
  | str y => rw [e] at h; rw [f2 y e]; exact h
  | lst xs =>
    rw [e] at h
    obtain ⟨a, vs, rfl, h1, h2⟩ := rd_lst (X := X) (L := L) st r e
    exact .inl ⟨vs, h1, by rw [← emp_of h2]; exact h⟩
  | tup xs =>
    rw [e] at h
    obtain ⟨a, vs, rfl, h1, h2⟩ := rd_tup (X := X) (S := S) r e
    exact .inr (.inl ⟨vs, h1, by rw [← emp_of h2]; exact h⟩)
  | _ => rw [e] at h; exact h.elim
def wTru (wa : WE) : WT := fun ρ S R Z => wa ρ S (fun p S1 => ∃ k, TruP S1 p k ∧ R k S1) Z
theorem dt_tru (ha : DE X L a wa) (he : ∀ whole, isTrue a X.env whole = (do let v ← whole; standAt a.pos; holding [v] (truthy v)) := by intro _; rfl) : DT X L a (wTru wa) :=
  (pt_truth ha he).imp fun σ H Q ⟨ρ, S, R, Z, A, h, q, hZ⟩ => ⟨ρ, S, _, Z, A, h, fun p S1 v H1 i1 st1 r1 ⟨k, t, h1⟩ => ⟨k, tru_of st1 r1 t, q k S1 H1 i1 st1 h1⟩, hZ⟩
/-- a flag as a test -/
theorem dt_val (ha : DE X L a wa) (he : ∀ whole, isTrue a X.env whole = (do let v ← whole; standAt a.pos; holding [v] (truthy v)) := by intro _; rfl) : DT X L a (tst wa) :=
  (pt_val ha he).imp fun σ H Q ⟨ρ, S, R, Z, A, h, q, hZ⟩ => ⟨ρ, S, _, Z, A, h, vc_kB q, hZ⟩
def wNotT (t : WT) : WT := fun ρ S R Z => t ρ S (fun b S1 => R (!b) S1) Z
def wAndT (t u : WT) : WT := fun ρ S R Z => t ρ S (fun b S1 => if b = true then u ρ S1 R Z else R false S1) Z
def wOrT (t u : WT) : WT := fun ρ S R Z => t ρ S (fun b S1 => if b = true then R true S1 else u ρ S1 R Z) Z
variable {t u : WT} {rest : List Expr}
theorem dt_not (h : DT X L a t) : DT X L (.UnaryOp .Not a pos) (wNotT t) := (pt_not h).imp fun σ H Q ⟨ρ, S, R, Z, A, h, q, hZ⟩ => ⟨ρ, S, _, Z, A, h, fun b S1 H1 i st r => q _ S1 H1 i st r, hZ⟩
theorem dw_and1 (h : DT X L a t) : DW X L (.BoolOp .And [a] pos) t := pw_and1 h
theorem dw_or1 (h : DT X L a t) : DW X L (.BoolOp .Or [a] pos) t := pw_or1 h
theorem dw_and (ha : DT X L a t) (hb : DW X L (.BoolOp .And (b :: rest) pos) u) : DW X L (.BoolOp .And (a :: b :: rest) pos) (wAndT t u) := (pw_and ha hb).imp fun σ H Q ⟨ρ, S, R, Z, A, h, q, hZ⟩ => ⟨ρ, S, _, Z, A, h, fun b S1 H1 i st r => by
  cases b with
  | true => exact iteT ⟨ρ, S1, R, Z, A.fr i st, r, fun b S2 H2 i2 => q b S2 H2 (i.trans i2), hZ.fr i⟩
  | false => exact iteF (q false S1 H1 i st r), hZ⟩
theorem dw_or (ha : DT X L a t) (hb : DW X L (.BoolOp .Or (b :: rest) pos) u) : DW X L (.BoolOp .Or (a :: b :: rest) pos) (wOrT t u) := (pw_or ha hb).imp fun σ H Q ⟨ρ, S, R, Z, A, h, q, hZ⟩ => ⟨ρ, S, _, Z, A, h, fun b S1 H1 i st r => by
  cases b with
  | true => exact iteT (q true S1 H1 i st r)
  | false => exact iteF ⟨ρ, S1, R, Z, A.fr i st, r, fun b S2 H2 i2 => q b S2 H2 (i.trans i2), hZ.fr i⟩, hZ⟩
/-- as values -/
def wAndV (wa wb : WE) : WE := fun ρ S R Z => wa ρ S (fun p S1 => ∃ k, TruP S1 p k ∧ if k = true then wb ρ S1 R Z else R p S1) Z
def wOrV (wa wb : WE) : WE := fun ρ S R Z => wa ρ S (fun p S1 => ∃ k, TruP S1 p k ∧ if k = true then R p S1 else wb ρ S1 R Z) Z
def wNotV (wa : WE) : WE := fun ρ S R Z => wa ρ S (fun p S1 => ∃ k, TruP S1 p k ∧ R (.bl (!k)) S1) Z
theorem de_one {op} (h : DE X L a wa) : DE X L (.BoolOp op [a] pos) wa := pe_one h
theorem de_and (ha : DE X L a wa) (hb : DE X L (.BoolOp .And (b :: rest) pos) wb) : DE X L (.BoolOp .And (a :: b :: rest) pos) (wAndV wa wb) := (pe_andT ha hb).imp fun σ H Q ⟨ρ, S, R, Z, A, h, q, hZ⟩ => ⟨ρ, S, _, Z, A, h, fun p S1 v H1 i st r ⟨k, t, h1⟩ => by
  refine ⟨k, tru_of st r t, ?_⟩
  cases k with
  | true => exact iteT ⟨ρ, S1, R, Z, A.fr i st, h1, q.fr i, hZ.fr i⟩
  | false => exact iteF (q p S1 v H1 i st r h1), hZ⟩
theorem de_not (ha : DE X L a wa) : DE X L (.UnaryOp .Not a pos) (wNotV wa) := (pe_notT ha).imp fun σ H Q ⟨ρ, S, R, Z, A, h, q, hZ⟩ => ⟨ρ, S, _, Z, A, h, fun p S1 v H1 i st r ⟨k, t, h1⟩ => ⟨k, tru_of st r t, q _ S1 _ H1 i st (.bl _) h1⟩, hZ⟩
def wIf (t : WT) (wa wb : WE) : WE := fun ρ S R Z => t ρ S (fun b S1 => if b = true then wa ρ S1 R Z else wb ρ S1 R Z) Z
theorem de_ifx (hc : DT X L c t) (ha : DE X L a wa) (hb : DE X L b wb) : DE X L (.IfExp c a b pos) (wIf t wa wb) := (pe_ifExp hc ha hb).imp fun σ H Q ⟨ρ, S, R, Z, A, h, q, hZ⟩ => ⟨ρ, S, _, Z, A, h, fun k S1 H1 i st r => by
  cases k with
  | true => exact iteT ⟨ρ, S1, R, Z, A.fr i st, r, q.fr i, hZ.fr i⟩
  | false => exact iteF ⟨ρ, S1, R, Z, A.fr i st, r, q.fr i, hZ.fr i⟩, hZ⟩

def wNil : WA := fun _ S R _ => R [] S
def wCons (wa : WE) (wr : WA) : WA := fun ρ S R Z => wa ρ S (fun p S1 => wr ρ S1 (fun ps S2 => R (p :: ps) S2) Z) Z
variable {es : List Expr} {wr : WA}
theorem da_nil : DA X L [] wNil := pa_nil.imp fun σ H Q ⟨ρ, S, R, Z, A, h, q, hZ⟩ => q [] S [] H (.refl S H) A.st .nil h
theorem da_cons (ha : DE X L e wa) (hr : DA X L es wr) (hs : starEach (e :: es) X.env = (false, eval e X.env) :: starEach es X.env := by rfl) : DA X L (e :: es) (wCons wa wr) := (pa_cons ha hr hs).imp fun σ H Q ⟨ρ, S, R, Z, A, h, q, hZ⟩ => by
  refine ⟨ρ, S, _, Z, A, h, fun p S1 x H1 i1 st1 r1 h1 => ?_, hZ⟩
  exact ⟨ρ, S1, _, Z, A.fr i1 st1, h1, fun ps S2 xs H2 i2 st2 r2 h2 => q _ S2 _ H2 (i1.trans i2) st2 (.cons (r1.imm i2.imm) r2) h2, hZ.fr i1⟩
def wTup (wr : WA) : WE := fun ρ S R Z => wr ρ S (fun ps S1 => ps.length ≤ sizeLine ∧ R (.tup ps) S1) Z
def tTupD (t : TA) : TE := fun σ H Q => t σ H fun xs H1 => xs.length ≤ sizeLine ∧ NewT Q H1 xs
theorem pe_tupD {t : TA} {x1} (h : PA X es t) : PE X (.Tuple es x1 pos) (tTupD t) := ⟨fun pins s σ H Q I hq =>
  wpAny_Tuple_spliced (thn (h.run pos pins s σ H _ I hq) fun us s1 ⟨xs, H1, I1, r, z, q⟩ => ⟨by
    rw [← r.length]; exact z, .ref s1.heap.objs.size, _, tup_laid I1 r z, rfl, q _ _ rfl (I1.hok.fresh (Nat.le_refl _))⟩)⟩
theorem de_tup {x1} (h : DA X L es wr) : DE X L (.Tuple es x1 pos) (wTup wr) := (pe_tupD h).imp fun σ H Q ⟨ρ, S, R, Z, A, h, q, hZ⟩ => ⟨ρ, S, _, Z, A, h, fun ps S1 vs H1 i st r ⟨z, h1⟩ =>
  ⟨by rw [← r.length]; exact z, fun p o hd hp => q _ S1 _ _ (i.trans (.grow (grow_upd hp))) (st.grow (grow_upd hp)) (.tup SqT.ofF (.new hd) (r.imm (.of (grow_upd hp)))) h1⟩, hZ⟩
/-- a list that will change -/
def wLst (wr : WA) : WE := fun ρ S R Z => wr ρ S (fun ps S1 => ps.length ≤ sizeLine ∧ ∀ a, S1 a = none → R (.ref a) (updS S1 a (.lst ps))) Z
theorem de_lstM (h : DA X L es wr) : DE X L (.List es pos) (wLst wr) := (pe_lst h).imp fun σ H Q ⟨ρ, S, R, Z, A, h, q, hZ⟩ => ⟨ρ, S, _, Z, A, h, fun ps S1 vs H1 i st r ⟨z, h1⟩ =>
  ⟨by rw [← r.length]; exact z, fun p hp => q _ _ _ _ (i.trans (.fresh hp)) (st.new (m := .lst ps) hp ⟨vs, upd_same, r.imm (.of (grow_upd hp))⟩) (.ref p) (h1 p (st.free hp))⟩, hZ⟩
/-- a list that stands still -/
def wLstF (wr : WA) : WE := fun ρ S R Z => wr ρ S (fun ps S1 => ps.length ≤ sizeLine ∧ R (.lst ps) S1) Z
theorem pe_lstF {t : TA} (h : PA X es t) : PE X (.List es pos) (fun σ H Q => t σ H fun xs H1 => xs.length ≤ sizeLine ∧ ∀ p o, H1 p = none → Q (.ref p) (upd H1 p (.frz o (.lst xs)))) := by
  refine ⟨fun pins s σ H Q I hq => ?_⟩
  refine wpAny_List_spliced (thn (h.run pos pins s σ H _ I hq) fun us s1 ⟨xs, H1, I1, r, z, q⟩ => ⟨by rw [← r.length]; exact z, ?_⟩)
  have hf : H1 s1.heap.objs.size = none := I1.hok.fresh (Nat.le_refl _)
  refine ⟨.ref s1.heap.objs.size, _, I1.laid (o := .frz { cls := .type "list", data := .seq us.toArray 0 } (.lst xs)) (t' := s1.toks) (fun b u e => Heap.get?_push_of_some _ e) (Nat.le_refl _) ?_, rfl, q _ _ hf⟩
  exact ⟨Heap.get?_push_size _ rfl, z, us, 0, r, Heap.get?_push_size _ rfl⟩
theorem de_lstF (h : DA X L es wr) : DE X L (.List es pos) (wLstF wr) := (pe_lstF h).imp fun σ H Q ⟨ρ, S, R, Z, A, h, q, hZ⟩ => ⟨ρ, S, _, Z, A, h, fun ps S1 vs H1 i st r ⟨z, h1⟩ =>
  ⟨by rw [← r.length]; exact z, fun p o hp => q _ _ _ _ (i.trans (.grow (grow_upd hp))) (st.grow (grow_upd hp)) (.lst (.inl ⟨o, upd_same⟩) (r.imm (.of (grow_upd hp)))) h1⟩, hZ⟩
end
end PX
end L2

namespace L2
namespace PX
open PySem PySem.Spec PyProof.Rows
section
variable {X : Cx} {L : Lc} {a b c e : Expr} {wa wb wc w we : WE} {t : WT} {pos : Pos} {st : Stmt} {sts rest : List Stmt} {u v : WS}
theorem EC.zc {K : PySem.W.Frag} {σ : L2.St} {H : Hp} {ρ : Slots} {S : Sto} {P : PEnds} {D : Ends} (A : At K L σ H ρ S) (E : EC K L S H P D) : ZC K L S H σ (fun e S' => P.ex e ρ S') := fun e S' cls d H' i st rx z => E.ex e ρ S' cls d σ H' i (A.fr i st) rx z

def wNext : WS := fun P ρ S => P.nx ρ S
def wSeq (v u : WS) : WS := fun P ρ S => v { P with nx := u P } ρ S
theorem ls_seq {K : PySem.W.Frag} {D : Ends} {σ : L2.St} {H : Hp} (h : LS K L (wSeq v u) D σ H) : tSeq (LS K L v) (LS K L u) D σ H := by
  obtain ⟨ρ, S, P, A, h, E⟩ := h
  exact ⟨ρ, S, _, A, h, ⟨fun ρ' S' σ' H' i A' n => ⟨ρ', S', P, A', n, E.fr i⟩, E.rt, E.bk, E.ct, E.ex⟩⟩
theorem dss_nil : DSs X L [] wNext := pss_nil.imp fun D σ H ⟨ρ, S, P, A, h, E⟩ => E.nx ρ S σ H (.refl S H) A h
theorem dss_cons (h1 : DS X L st v) (h2 : DSs X L rest u) : DSs X L (st :: rest) (wSeq v u) := (pss_cons h1 h2).imp fun D σ H h => ls_seq h
theorem dss_one (h1 : DS X L st v) : DSs X L [st] v := pss_one h1
def wBrk : WS := fun P ρ S => P.bk ρ S
def wCnt : WS := fun P ρ S => P.ct ρ S
def wNever : WS := fun _ _ _ => False
def wRet (we : WE) : WS := fun P ρ S => we ρ S P.rt (fun e S' => P.ex e ρ S')
theorem ds_ret (he : DE X L e we) : DS X L (.Return (some e) pos) (wRet we) := (ps_ret he).imp fun D σ H ⟨ρ, S, P, A, h, E⟩ => ⟨ρ, S, P.rt, _, A, h, E.rt, E.zc A⟩
def wRetN : WS := fun P ρ S => P.rt .non S
def wExpr (we : WE) : WS := fun P ρ S => we ρ S (fun _ S' => P.nx ρ S') (fun e S' => P.ex e ρ S')
theorem ds_expr (he : DE X L e we) (hs : swapsWith e none pos.line X.env = pure false := by rfl) : DS X L (.Expr e pos) (wExpr we) := (ps_expr he hs).imp fun D σ H ⟨ρ, S, P, A, h, E⟩ =>
  ⟨ρ, S, _, _, A, h, fun p S' v H' i st r n => E.nx ρ S' σ H' i (A.fr i st) n, E.zc A⟩
def wIfS (t : WT) (v u : WS) : WS := fun P ρ S => t ρ S (fun b S' => if b = true then v P ρ S' else u P ρ S') (fun e S' => P.ex e ρ S')
theorem ds_if {p q : List Stmt} (hc : DT X L c t) (ha : DSs X L p v) (hb : DSs X L q u) : DS X L (.If c p q pos) (wIfS t v u) := (ps_if hc ha hb).imp fun D σ H ⟨ρ, S, P, A, h, E⟩ =>
  ⟨ρ, S, _, _, A, h, fun b S' H' i st r => by
    cases b with
    | true => exact iteT ⟨ρ, S', P, A.fr i st, r, E.fr i⟩
    | false => exact iteF ⟨ρ, S', P, A.fr i st, r, E.fr i⟩, E.zc A⟩
/-- name = e -/
def wSet (i : Nat) (we : WE) : WS := fun P ρ S => we ρ S (fun p S' => P.nx (ρ.set i (some p)) S') (fun e S' => P.ex e ρ S')
theorem At.set {K : PySem.W.Frag} {σ : L2.St} {H : Hp} {ρ : Slots} {S : Sto} {i : Nat} {p : PV} {v : V} (A : At K L σ H ρ S) (r : RV K H p v) : At K L (σ.set i (some v)) H (ρ.set i (some p)) S := ⟨A.sl.set r, A.st, A.j⟩
theorem ls_set {K : PySem.W.Frag} {D : Ends} {σ : L2.St} {H : Hp} {i : Nat} (h : LS K L (wSet i we) D σ H) : tAsg (LE K L we) (gName i) D σ H := by
  obtain ⟨ρ, S, P, A, h, E⟩ := h
  exact ⟨ρ, S, _, _, A, h, fun p S' v H' f st r n => E.nx _ S' _ H' f ((A.fr f st).set r) n, E.zc A⟩
theorem ds_set (i : Nat) {x : Str} {pos' : Pos} (hN : X.N.Nodup) (he : DE X L e we) (hi : X.N[i]? = some x := by rfl) (hx : Loc X.env.scope x := by first | exact Or.inl rfl | exact Or.inr rfl) (hs : swapsWith e (some (.Name x pos')) pos.line X.env = pure false := by rfl)
    (hf : X.fn x = true ∨ X.env.scope.names.lookup x = some .local := by first | exact .inl rfl | exact .inr rfl | assumption) : DS X L (.Assign [.Name x pos'] e pos) (wSet i we) := (ps_set hN hi hx he hs hf).imp fun D σ H h => ls_set h
/-- targets: a name, names in a tuple -/
inductive Tg where
  | nm (i : Nat)
  | tp (is : List Nat)
def setM (ρ : Slots) : List Nat → List PV → Slots
  | i :: is, p :: ps => setM (ρ.set i (some p)) is ps
  | _, _ => ρ
def asg (g : Tg) (p : PV) (ρ : Slots) (S : Sto) (k : Slots → Prop) : Prop := match g with
  | .nm i => k (ρ.set i (some p))
  | .tp is => match dr S p with
    | .tup ps => ps.length = is.length ∧ k (setM ρ is ps)
    | .lst ps => ps.length = is.length ∧ k (setM ρ is ps)
    | _ => False
def setMV (σ : L2.St) : List Nat → List V → L2.St
  | i :: is, p :: ps => setMV (σ.set i (some p)) is ps
  | _, _ => σ
def gTg (K : PySem.W.Frag) (g : Tg) : TG := match g with
  | .nm i => gName i
  | .tp is => fun v σ H Q => ∃ a xs, v = .ref a ∧ (SqT K H a xs ∨ SqL K H a xs) ∧ xs.length = is.length ∧ Q (setMV σ is xs) H
theorem At.setM {K : PySem.W.Frag} {H : Hp} {S : Sto} : ∀ {is : List Nat} {ps : List PV} {vs : List V} {σ : L2.St} {ρ : Slots}, At K L σ H ρ S → RVs K H ps vs → At K L (setMV σ is vs) H (setM ρ is ps) S
  | [], _, _, _, _, A, _ => by unfold PX.setM PX.setMV; exact A
  | i :: is, _, _, _, _, A, .nil => by unfold PX.setM PX.setMV; exact A
  | i :: is, _, _, _, _, A, .cons r rs => by unfold PX.setM PX.setMV; exact At.setM (A.set r) rs
theorem asg_of {σ : L2.St} {H : Hp} {ρ : Slots} {S : Sto} {p : PV} {v : V} {g : Tg} {k : Slots → Prop} {Q : L2.St → Hp → Prop} (A : At X.K L σ H ρ S) (r : RV X.K H p v) (h : asg g p ρ S k) (q : ∀ ρ' σ', At X.K L σ' H ρ' S → k ρ' → Q σ' H) : gTg X.K g v σ H Q := by
  cases g with
  | nm i => exact q _ _ (A.set r) h
  | tp is =>
    unfold asg at h
    dsimp only at h
    cases e : dr S p with
    | tup ps =>
      rw [e] at h
      obtain ⟨a, vs, rfl, h1, h2⟩ := rd_tup (X := X) r e
      exact ⟨a, vs, rfl, .inl h1, h2.length.symm.trans h.1, q _ _ (At.setM A h2) h.2⟩
    | lst ps =>
      rw [e] at h
      obtain ⟨a, vs, rfl, h1, h2⟩ := rd_lst (X := X) (L := L) A.st r e
      exact ⟨a, vs, rfl, .inr h1, h2.length.symm.trans h.1, q _ _ (At.setM A h2) h.2⟩
    | _ => rw [e] at h; exact h.elim
/-- a target of ours -/
def TgOk (X : Cx) (tg : Expr) (g : Tg) : Prop := PG X tg (gTg X.K g)
theorem tg_nm (i : Nat) {x : Str} (hN : X.N.Nodup) (hi : X.N[i]? = some x := by rfl) (hx : Loc X.env.scope x := by first | exact Or.inl rfl | exact Or.inr rfl)
    (hf : X.fn x = true ∨ X.env.scope.names.lookup x = some .local := by first | exact .inl rfl | exact .inr rfl | assumption) : TgOk X (.Name x pos) (.nm i) := pg_name hN hi hx hf
/-- names in a row -/
def TgsOk (X : Cx) (es : List Expr) (is : List Nat) : Prop := PGs X es fun vs σ H Q => vs.length = is.length ∧ Q (setMV σ is vs) H
theorem tgs_nil : TgsOk X [] [] := ⟨fun pins s σ H vs us Q I r ⟨h1, h2⟩ => by
  cases r with
  | nil => exact assignInOrder_nil ⟨σ, H, I, h2⟩
  | cons _ _ => simp at h1⟩
theorem tgs_cons {es : List Expr} {is : List Nat} {i : Nat} (h1 : TgOk X e (.nm i)) (h2 : TgsOk X es is) (hs : (assignEach (e :: es) X.env).map (·.2) = assign e X.env :: (assignEach es X.env).map (·.2) := by rfl) : TgsOk X (e :: es) (i :: is) := ⟨fun pins s σ H vs us Q I r ⟨h, q⟩ => by
  cases r with
  | nil => simp at h
  | @cons v0 u0 vr ur r rr =>
    rw [hs]
    refine assignInOrder_cons (thn (h1.run pins s σ H v0 u0 (fun σ' H' => vr.length = is.length ∧ Q (setMV σ' is vr) H') I r ⟨by simpa using h, q⟩) fun _ s1 ⟨σ1, H1, I1, q1⟩ => ?_)
    exact h2.run pins s1 σ1 H1 vr ur Q I1 rr q1⟩
theorem tg_tp {es : List Expr} {is : List Nat} {k : Nat} (hc : X.calm = true) (h : TgsOk X es is) (hn : (assignEach es X.env).length = is.length := by rfl) (hst : (assignEach es X.env).findIdx? (·.1) = none := by rfl) : TgOk X (.Tuple es k pos) (.tp is) := by
  refine ⟨fun pins s σ H v u Q I r hw => ?_⟩
  obtain ⟨a, xs, e1, hq, hl, hw⟩ := hw
  rcases hq with hq | hq
  · exact (pg_tup hc h hn hst).run pins s σ H v u Q I r ⟨a, xs, e1, hq, hl, hl, hw⟩
  · exact (pg_lst hc h hn hst).run pins s σ H v u Q I r ⟨a, xs, e1, hq, hl, hl, hw⟩
def wAsg (g : Tg) (we : WE) : WS := fun P ρ S => we ρ S (fun p S' => asg g p ρ S' fun ρ' => P.nx ρ' S') (fun e S' => P.ex e ρ S')
theorem ds_asg {tg : Expr} {g : Tg} (hg : TgOk X tg g) (he : DE X L e we) (hs : swapsWithSole [tg] e pos.line X.env = pure false := by rfl) (hw : swappedStores [tg] e X.env = pure none := by rfl)
    (h1 : (assignEach [tg] X.env).map (·.2) = [assign tg X.env] := by rfl) : DS X L (.Assign [tg] e pos) (wAsg g we) := (ps_asg he hg hs hw h1).imp fun D σ H ⟨ρ, S, P, A, h, E⟩ =>
  ⟨ρ, S, _, _, A, h, fun p S' v H' i st r n => asg_of (A.fr i st) r n fun ρ' σ' A' n' => E.nx ρ' S' σ' H' i A' n', E.zc A⟩
/-- a, b = x, y -/
def wPar (i j : Nat) (wr : WA) : WS := fun P ρ S => wr ρ S (fun ps S' => match ps with
  | [p, q] => P.nx ((ρ.set i (some p)).set j (some q)) S'
  | _ => False) (fun e S' => P.ex e ρ S')
theorem ds_par (i j : Nat) {x y : Str} {wr : WA} {px py pt : Pos} {kt k2 pt2} (hc : X.calm = true) (hN : X.N.Nodup) (ha : DA X L [a, b] wr) (hi : X.N[i]? = some x := by rfl) (hj : X.N[j]? = some y := by rfl) (hij : i ≠ j := by decide)
    (hx : X.env.scope.names.lookup x = some .local := by rfl) (hy : X.env.scope.names.lookup y = some .local := by rfl)
    (hw : swappedStores [.Tuple [.Name x px, .Name y py] kt pt] (.Tuple [a, b] k2 pt2) X.env = pure (some [x, y]) := by rfl)
    (hs : swapsWithSole [.Tuple [.Name x px, .Name y py] kt pt] (.Tuple [a, b] k2 pt2) pos.line X.env = pure false := by rfl) :
    DS X L (.Assign [.Tuple [.Name x px, .Name y py] kt pt] (.Tuple [a, b] k2 pt2) pos) (wPar i j wr) := (ps_par hc hN hi hj hij hx hy ha hw hs).imp fun D σ H ⟨ρ, S, P, A, h, E⟩ =>
  ⟨ρ, S, _, _, A, h, fun ps S' vs H' f st r n => by
    cases r with
    | nil => exact n.elim
    | cons r1 r =>
      cases r with
      | nil => exact n.elim
      | cons r2 r =>
        cases r with
        | nil => exact ⟨_, _, rfl, E.nx _ S' _ H' f (((A.fr f st).set r1).set r2) n⟩
        | cons _ _ => exact n.elim, E.zc A⟩

abbrev PSp := List PV → Sto → RK → ZK → Prop
def CallP (X : Cx) (L : Lc) (f : Value) (k : PSp) : Prop :=
  ∀ (pins : List (Addr × Obj)) (s : Shared) (σ : L2.St) (H : Hp) (xs : List V) (us : List Value) (ps : List PV) (S : Sto) (R : RK) (Z : ZK) (Q : VK), Inv X pins σ H s → Vals xs us → RSK X.K L H S → L.J.p H → RVs X.K H ps xs → k ps S R Z → VC X.K L S H R Q → ZC X.K L S H σ Z →
    wpAny (model X.prog X.w) X.A (call f us) (EP X pins σ Q) X.xe s
def wCall (k : PSp) (wr : WA) : WE := fun ρ S R Z => wr ρ S (fun ps S' => k ps S' R Z) Z
variable {es : List Expr} {wr : WA} {x : Str} {p : Pos} {k : PSp}
theorem largs (ha : DA X L es wr) {pins : List (Addr × Obj)} {s : Shared} {σ : L2.St} {H : Hp} {ρ : Slots} {S : Sto} {R : RK} {Z : ZK} {Q : VK} (I : Inv X pins σ H s) (A : At X.K L σ H ρ S) (h : wCall k wr ρ S R Z) (q : VC X.K L S H R Q) (hZ : ZC X.K L S H σ Z) (pos : Pos) {Qf : List Value → Shared → Prop}
    (hf : ∀ us s1 xs ps S1 H1, Inv X pins σ H1 s1 → Fr S H S1 H1 → Vals xs us → RSK X.K L H1 S1 → L.J.p H1 → RVs X.K H1 ps xs → k ps S1 R Z → VC X.K L S1 H1 R Q → ZC X.K L S1 H1 σ Z → Qf us s1) :
    wpAny (model X.prog X.w) X.A (spliced (backTo pos (starEach es X.env))) Qf X.xe s :=
  thn (ha.run pos pins s σ H (fun vs H1 => ∃ ps S1, Fr S H S1 H1 ∧ RSK X.K L H1 S1 ∧ L.J.p H1 ∧ RVs X.K H1 ps vs ∧ k ps S1 R Z ∧ VC X.K L S1 H1 R Q ∧ ZC X.K L S1 H1 σ Z) I ⟨ρ, S, _, Z, A, h, fun ps S1 vs H1 i st r hk => ⟨ps, S1, i, st, L.J.st _ _ i.imm A.j, r, hk, q.fr i, hZ.fr i⟩, hZ⟩)
    fun us s1 ⟨xs, H1, I1, rv, ps, S1, i, st, j, r, hk, q1, z1⟩ => hf us s1 xs ps S1 H1 I1 i rv st j r hk q1 z1
theorem de_callB {id : String} (hc : CallP X L (.builtin id) k) (hm : X.mg x = none) (ha : DA X L (e :: es) wr) (hv : bootBuiltins x = some (.builtin id) := by decide +kernel) (hg : Gl X x := by rfl) (hn : x ≠ "__name__" := by decide) (hdb : (x == ("__debug__" : Str)) = false := by decide)
    (he : starEach (e :: es) X.env = (false, eval e X.env) :: starEach es X.env := by rfl) (hpl : (backTo pos (starEach es X.env)).any (·.1) = false := by rfl) : DE X L (.Call (.Name x p) (e :: es) [] pos) (wCall k wr) := by
  refine ⟨fun pins s σ H Q I ⟨ρ, S, R, Z, A, h, q, hZ⟩ => ?_⟩
  refine wpAny_Call_Name_kw (ld_blt I hg hm hv ?_ hn hdb)
  exact PyProof.Rows.callWith_builtin1 (largs ha I A h q hZ pos fun us s1 xs ps S1 H1 I1 i rv st j r hk q1 z1 => hc pins s1 σ H1 xs us ps S1 R Z Q I1 rv st j r hk q1 z1) he hpl
theorem de_callT {T : String} (hc : CallP X L (.type T) k) (hm : X.mg x = none) (ha : DA X L (e :: es) wr) (hv : bootBuiltins x = some (.type T) := by decide +kernel) (hg : Gl X x := by rfl) (hn : x ≠ "__name__" := by decide) (hdb : (x == ("__debug__" : Str)) = false := by decide)
    (he : starEach (e :: es) X.env = (false, eval e X.env) :: starEach es X.env := by rfl) (hpl : (backTo pos (starEach es X.env)).any (·.1) = false := by rfl) : DE X L (.Call (.Name x p) (e :: es) [] pos) (wCall k wr) := by
  refine ⟨fun pins s σ H Q I ⟨ρ, S, R, Z, A, h, q, hZ⟩ => ?_⟩
  refine wpAny_Call_Name_kw (ld_blt I hg hm hv ?_ hn hdb)
  exact PyProof.Rows.callWith_type1 (largs ha I A h q hZ pos fun us s1 xs ps S1 H1 I1 i rv st j r hk q1 z1 => hc pins s1 σ H1 xs us ps S1 R Z Q I1 rv st j r hk q1 z1) he hpl
/-- f(..), C(..) of the module -/
theorem de_call {f : Addr} (hc : CallP X L (.ref f) k) (hm : X.mg x = some (.ref f)) (hk : PySem.W.keepIn X.K (.ref f) = true) (ha : DA X L (e :: es) wr) (hg : Gl X x := by rfl) (hdb : (x == ("__debug__" : Str)) = false := by decide)
    (he : starEach (e :: es) X.env = (false, eval e X.env) :: starEach es X.env := by rfl) (hpl : (backTo pos (starEach es X.env)).any (·.1) = false := by rfl) : DE X L (.Call (.Name x p) (e :: es) [] pos) (wCall k wr) := by
  refine ⟨fun pins s σ H Q I ⟨ρ, S, R, Z, A, h, q, hZ⟩ => ?_⟩
  refine wpAny_Call_Name_kw (ld_glob I hg hm ?_ hdb)
  exact PySem.W.callWith_K (h₀ := X.base) I.ok.mod.kin hk (largs ha I A h q hZ pos fun us s1 xs ps S1 H1 I1 i rv st j r hk' q1 z1 => ⟨I1.kIn, hc pins s1 σ H1 xs us ps S1 R Z Q I1 rv st j r hk' q1 z1⟩) he hpl
def spL (K : PySem.W.Frag) (T : List (Addr × Str)) (n : Nat) (sp : PSp) : Sp := fun vs H Q E => vs.length = n ∧ ∃ ps S R Z, RVs K H ps vs ∧ RS ⟨K, T⟩ H S ∧ sp ps S R Z ∧ (∀ p S' v H', Fr S H S' H' → RS ⟨K, T⟩ H' S' → RV K H' p v → R p S' → Q v H') ∧
  ∀ e S' cls d H', Fr S H S' H' → RS ⟨K, T⟩ H' S' → RX K H' e cls d → Z e S' → E cls d H'
/-- with the number of arguments -/
def arN (n : Nat) (sp : PSp) : PSp := fun ps S R Z => ps.length = n ∧ sp ps S R Z
/-- a def called -/
theorem call_fn {P : Program} {n lv : Nat} {f : Addr} {fd : FuncData} {pn : List Str} {sp : PSp} (tk : Takes X L.W) (F : FnOk X.prog X.w X.K X.mg X.base (CX X.prog X.w) lv f fd pn (spL X.K L.T n sp)) (hr : Room lv X.A) (hb : Binds X.K fd pn []) : CallP X L (.ref f) (arN n sp) := by
  intro pins s σ H xs us ps S R Z Q I rv st j r ⟨hn, hk⟩ q z
  have hp : PassesAt (CX X.prog X.w) X σ (fun cls d H => L.W cls d σ H) := fun pins H s e s' I c => tk e s' (XE.of_call I (fun cls d H' h => h) c)
  refine run_fnSD (E := fun σ cls d H => L.W cls d σ H) F hr hb .nil hp I rv ?_
  rw [List.append_nil]
  exact ⟨r.length.symm.trans hn, ps, S, R, Z, r, st, hk, q, z⟩

end
end PX
end L2

namespace L2
namespace PX
open PySem PySem.Spec PyProof.Rows

structure Gst (A : Addr → Prop) (H H' : Hp) : Prop where
  no : ∀ a, ¬ A a → H' a = H a
  ye : ∀ a, A a → ∃ u o, H a = some u ∧ Pl u ∧ H' a = some (.frz o u)
theorem pl_cases {u : HO} (p : Pl u) : (∃ xs, u = .lst xs) ∨ (∃ xs, u = .dK xs) ∨ ∃ C dx fs, u = .ins C dx fs := by
  cases u with
  | lst xs => exact .inl ⟨_, rfl⟩
  | dK xs => exact .inr (.inl ⟨_, rfl⟩)
  | ins C dx fs => exact .inr (.inr ⟨_, _, _, rfl⟩)
  | _ => exact p.elim
section
variable {X : Cx} {pins : List (Addr × Obj)} {σ : L2.St} {H H' : Hp} {s : Shared} {A : Addr → Prop}
theorem obj_at {P : Program} {w : World} {H : Hp} {h : Heap} {a : Addr} {u : HO} (x : ObjOk P w H h a u) (p : Pl u) : ∃ o, h.get? a = some o := by
  rcases pl_cases p with ⟨xs, rfl⟩ | ⟨xs, rfl⟩ | ⟨C, dx, fs, rfl⟩
  · obtain ⟨_, its, n, _, e⟩ := x; exact ⟨_, e⟩
  · obtain ⟨_, _, vs, _, o, es, ep, e, _⟩ := x; exact ⟨_, e⟩
  · obtain ⟨_, _, _, e, _⟩ := x; exact ⟨_, e⟩
theorem Inv.ghost (I : Inv X pins σ H s) (g : ∀ a, H' a = H a ∨ ∃ u o, H a = some u ∧ Pl u ∧ s.heap.get? a = some o ∧ H' a = some (.frz o u)) : Inv X pins σ H' s := by
  have non : ∀ a, H a = none → H' a = none := fun a e => by
    rcases g a with q | ⟨u, o, q, _⟩
    · exact q.trans e
    · rw [e] at q; cases q
  have np : ∀ a w, H a = some w → ¬ Pl w → H' a = some w := fun a w e n => by
    rcases g a with q | ⟨u, o, q, p, _⟩
    · exact q.trans e
    · rw [e] at q; cases q; exact absurd p n
  have ok : ∀ a u, ObjOk X.prog X.w H s.heap a u → ObjOk X.prog X.w H' s.heap a u := fun a u x => x.stay (fun b v _ q => q) (fun b q => np b _ q fun z => z) fun b xs q => np b _ q fun z => z
  refine ⟨I.ok, I.os, I.bare, ⟨I.base.keep, I.base.slot, fun b o e n hx => non b (I.base.free b o e n hx), I.base.there, fun b xs e => np b _ (I.base.tups b xs e) fun z => z, fun b o u e => np b _ (I.base.frzs b o u e) fun z => z, fun b ps e => ?_⟩,
    I.loc, I.cell, non _ I.free, fun x c e => non _ (I.freeC x c e), fun p hp => ?_, fun a u e => ?_, I.len⟩
  · obtain ⟨more, q⟩ := I.base.tbls b ps e
    exact ⟨more, np b _ q fun z => z⟩
  · obtain ⟨h1, h2, h3⟩ := I.pin p hp
    exact ⟨h1, non _ h2, h3⟩
  · rcases g a with q | ⟨v, o, q, p, ho, q2⟩
    · rw [q] at e
      exact ok a u (I.hok a u e)
    · rw [q2] at e; cases e
      exact ⟨ho, ok a v (I.hok a v q)⟩
open Classical in
theorem Inv.gst (I : Inv X pins σ H s) (A : Addr → Prop) (hA : ∀ a, A a → ∃ u, H a = some u ∧ Pl u) : ∃ H', Gst A H H' ∧ Inv X pins σ H' s := by
  have f : ∀ a, ∃ r : Option HO, (¬ A a → r = H a) ∧ (A a → ∃ u o, H a = some u ∧ Pl u ∧ s.heap.get? a = some o ∧ r = some (.frz o u)) := fun a => by
    by_cases h : A a
    · obtain ⟨u, hu, p⟩ := hA a h
      obtain ⟨o, ho⟩ := obj_at (I.hok a u hu) p
      exact ⟨some (.frz o u), fun n => absurd h n, fun _ => ⟨u, o, hu, p, ho, rfl⟩⟩
    · exact ⟨H a, fun _ => rfl, fun n => absurd n h⟩
  have f' := Classical.axiomOfChoice f
  obtain ⟨H', hH⟩ := f'
  refine ⟨H', ⟨fun a n => (hH a).1 n, fun a y => ?_⟩, Inv.ghost I fun a => ?_⟩
  · obtain ⟨u, o, h1, h2, _, h3⟩ := (hH a).2 y
    exact ⟨u, o, h1, h2, h3⟩
  · by_cases h : A a
    · exact .inr ((hH a).2 h)
    · exact .inl ((hH a).1 h)
end
theorem Gst.imm {A : Addr → Prop} {H H' : Hp} (g : Gst A H H') : Imm H H' := by
  have np : ∀ a w, H a = some w → ¬ Pl w → H' a = some w := fun a w e n => by
    by_cases h : A a
    · obtain ⟨u, o, q, p, _⟩ := g.ye a h
      rw [e] at q; cases q; exact absurd p n
    · exact (g.no a h).trans e
  exact ⟨fun a xs e => np a _ e fun z => z, fun a o u e => np a _ e fun z => z, fun a f e => np a _ e fun z => z⟩
mutual
/-- p, the things of A standing still, is q -/
inductive Fz (S : Sto) (A : Addr → Prop) : PV → PV → Prop
  | same (p : PV) : Fz S A p p
  | lst {a : Addr} {xs ys : List PV} : A a → S a = some (.lst xs) → Fzs S A xs ys → Fz S A (.ref a) (.lst ys)
  | dct {a : Addr} {ks ls : List (Key × PV)} : A a → S a = some (.dct ks) → ks.map (·.1) = ls.map (·.1) → Fzs S A (ks.map (·.2)) (ls.map (·.2)) → Fz S A (.ref a) (.dct ls)
  | obj {a C : Addr} {ks ls : List (Str × PV)} : A a → S a = some (.ins C ks) → ks.map (·.1) = ls.map (·.1) → Fzs S A (ks.map (·.2)) (ls.map (·.2)) → Fz S A (.ref a) (.obj C ls)
  | tup {xs ys : List PV} : Fzs S A xs ys → Fz S A (.tup xs) (.tup ys)
  | lstF {xs ys : List PV} : Fzs S A xs ys → Fz S A (.lst xs) (.lst ys)
  | dctF {ks ls : List (Key × PV)} : ks.map (·.1) = ls.map (·.1) → Fzs S A (ks.map (·.2)) (ls.map (·.2)) → Fz S A (.dct ks) (.dct ls)
  | objF {C : Addr} {ks ls : List (Str × PV)} : ks.map (·.1) = ls.map (·.1) → Fzs S A (ks.map (·.2)) (ls.map (·.2)) → Fz S A (.obj C ks) (.obj C ls)
inductive Fzs (S : Sto) (A : Addr → Prop) : List PV → List PV → Prop
  | nil : Fzs S A [] []
  | cons {x y : PV} {xs ys : List PV} : Fz S A x y → Fzs S A xs ys → Fzs S A (x :: xs) (y :: ys)
end
mutual
theorem Fz.rv {K : PySem.W.Frag} {T : List (Addr × Str)} {S : Sto} {A : Addr → Prop} {H H' : Hp} (st : RS ⟨K, T⟩ H S) (g : Gst A H H') : ∀ {p q : PV} {v : V}, Fz S A p q → RV K H p v → RV K H' q v
  | _, _, _, .same p, r => r.imm g.imm
  | _, _, _, .lst ha hs f, r => by
    cases r with | ref a =>
    obtain ⟨vs, h1, h2⟩ := st.mo _ _ hs
    obtain ⟨u, o, e1, _, e2⟩ := g.ye _ ha
    rw [h1] at e1; cases e1
    exact .lst (.inl ⟨o, e2⟩) (Fzs.rv st g f h2)
  | _, _, _, .dct ha hs e f, r => by
    cases r with | ref a =>
    obtain ⟨vs, h1, h2, h3⟩ := st.mo _ _ hs
    obtain ⟨u, o, e1, _, e2⟩ := g.ye _ ha
    rw [h1] at e1; cases e1
    exact .dct e2 (e.symm.trans h2) (Fzs.rv st g f h3)
  | _, _, _, .obj ha hs e f, r => by
    cases r with | ref a =>
    obtain ⟨dx, vs, h1, h2, h3⟩ := st.mo _ _ hs
    obtain ⟨u, o, e1, _, e2⟩ := g.ye _ ha
    rw [h1] at e1; cases e1
    exact .obj e2 (e.symm.trans h2) (Fzs.rv st g f h3)
  | _, _, _, .tup f, r => by
    cases r with | tup h d r => exact .tup (sqT_imm g.imm h) (d.imm g.imm) (Fzs.rv st g f r)
  | _, _, _, .lstF f, r => by
    cases r with | lst h r => exact .lst (FzL.imm g.imm h) (Fzs.rv st g f r)
  | _, _, _, .dctF e f, r => by
    cases r with | dct h e' r => exact .dct (g.imm.frz _ _ _ h) (e.symm.trans e') (Fzs.rv st g f r)
  | _, _, _, .objF e f, r => by
    cases r with | obj h e' r => exact .obj (g.imm.frz _ _ _ h) (e.symm.trans e') (Fzs.rv st g f r)
theorem Fzs.rv {K : PySem.W.Frag} {T : List (Addr × Str)} {S : Sto} {A : Addr → Prop} {H H' : Hp} (st : RS ⟨K, T⟩ H S) (g : Gst A H H') : ∀ {p q : List PV} {v : List V}, Fzs S A p q → RVs K H p v → RVs K H' q v
  | _, _, _, .nil, r => by cases r; exact .nil
  | _, _, _, .cons f fs, r => by
    cases r with | cons r rs => exact .cons (Fz.rv st g f r) (Fzs.rv st g fs rs)
end
/-- what is left of the store -/
theorem Gst.rs {K : PySem.W.Frag} {T : List (Addr × Str)} {S S' : Sto} {A : Addr → Prop} {H H' : Hp} (st : RS ⟨K, T⟩ H S) (g : Gst A H H') (u : Sub S' S) (n : ∀ a, A a → S' a = none) : RS ⟨K, T⟩ H' S' := by
  refine ⟨fun a o e => ?_, fun q hq => ?_⟩
  · have h : ¬ A a := fun z => by rw [n a z] at e; cases e
    exact (st.mo a o (u a o e)).imm g.imm (g.no a h)
  · obtain ⟨ps, h1, h2, h3⟩ := st.tab q hq
    have np : ∀ a w, H a = some w → ¬ Pl w → H' a = some w := fun a w e n => by
      by_cases h : A a
      · obtain ⟨u, o, q, p, _⟩ := g.ye a h
        rw [e] at q; cases q; exact absurd p n
      · exact (g.no a h).trans e
    refine ⟨ps, np _ _ h1 fun z => z, h2, fun pos cv hc => ?_⟩
    obtain ⟨c, e1, e2⟩ := h3 pos cv hc
    exact ⟨c, e1, np _ _ e2 fun z => z⟩
theorem Fr.gst {S0 S S' : Sto} {A : Addr → Prop} {H0 H H' : Hp} (f : Fr S0 H0 S H) (g : Gst A H H') (hA : ∀ a, A a → S a ≠ none) (u : Sub S' S) : Fr S0 H0 S' H' :=
  ⟨f.imm.trans g.imm, fun a o n e t => (g.no a fun z => hA a z (f.new a o n e t)).trans (f.keep a o n e t), (f.sub u).new⟩
def gK (Q : VK) : VK := fun v H => ∃ A : Addr → Prop, (∀ a, A a → ∃ u, H a = some u ∧ Pl u) ∧ ∀ H', Gst A H H' → Q v H'
theorem pe_ghost {X : Cx} {e : Expr} {t : TE} (h : PE X e t) : PE X e (fun σ H Q => t σ H (gK Q)) := ⟨fun pins s σ H Q I q => thn (h.run pins s σ H _ I q) fun u s1 ⟨v, H1, I1, r, A, hA, k⟩ => by
  obtain ⟨H', g, I'⟩ := Inv.gst I1 A hA
  exact ⟨v, H', I', r, k H' g⟩⟩
theorem pss_ghost {X : Cx} {b : List Stmt} {t : TS} (h : PSs X b t) : PSs X b (fun D σ H => t { D with rt := gK D.rt } σ H) := ⟨fun pins s σ H D I q => thn (h.run pins s σ H _ I q) fun f s1 hs => by
  cases f with
  | ret u =>
    obtain ⟨v, σ', H1, I1, r, A, hA, k⟩ := hs
    obtain ⟨H', g, I'⟩ := Inv.gst I1 A hA
    exact ⟨v, σ', H', I', r, k H' g⟩
  | next => exact hs
  | brk => exact hs
  | cont => exact hs⟩
/-- the ghost at values -/
def gR (R : RK) : RK := fun p S => ∃ (A : Addr → Prop) (q : PV) (S' : Sto), (∀ a, A a → S a ≠ none) ∧ Fz S A p q ∧ Sub S' S ∧ (∀ a, A a → S' a = none) ∧ R q S'
theorem vc_ghost {K : PySem.W.Frag} {L : Lc} {S : Sto} {H : Hp} {R : RK} {Q : VK} (q : VC K L S H R Q) : VC K L S H (gR R) (gK Q) := fun p S1 v H1 i st r ⟨A, p', S', hA, f, u, n, h⟩ => by
  refine ⟨A, fun a z => ?_, fun H' g => q p' S' v H' (i.gst g hA u) (g.rs st u n) (f.rv st g r) h⟩
  cases e : S1 a with
  | none => exact absurd e (hA a z)
  | some o => exact (st.mo a o e).at
def startP (N : List Str) (ps : List PV) : Slots := ps.map some ++ List.replicate (N.length - ps.length) none
def wfg (R : RK) : RK := fun p S => ∃ S', Sub S' S ∧ R p S'
def zfg (Z : ZK) : ZK := fun e S => ∃ S', Sub S' S ∧ Z e S'
/-- the lift's surroundings in a def -/
abbrev lcOf (T : List (Addr × Str)) (E : XK) : Lc := ⟨T, fun cls d _ H => E cls d H, J0⟩
theorem fn_ok {P : Program} {w : World} {K : PySem.W.Frag} {mg : Str → Option Value} {base : Heap} {x qual : Str} {params : Arguments} {body : List Stmt} {scope : Scope} {f : Addr} {fd : FuncData} {N pn : List Str} {lv n : Nat} {T : List (Addr × Str)} {sp : PSp} {wb : WS}
    (F : FunD K x qual params body scope [] [] f fd) (S : FnScope N pn scope) (hn : pn.length = n)
    (hb : ∀ (cdv : Value) (A : Around) (outer : List Env) (s : Shared) (H : Hp) (E : XK), Room lv (A.deeper (envOfC qual scope s.heap.objs.size f cdv)) → DSs (cxOf (CX P w) P w K mg base N qual scope f cdv A outer s H E) (lcOf T E) body wb)
    (pure : ∀ ps S R Z, ps.length = n → sp ps S R Z → wb { nx := fun _ S' => wfg R .non S', rt := gR R, ex := fun e _ S' => zfg Z e S' } (startP N ps) S) : FnOk P w K mg base (CX P w) (lv + 1) f fd pn (spL K T n sp) := by
  refine F.ok S (fun vs H Q E h => h.1.trans hn.symm) fun cdv A outer s H vs Q E hr ⟨hl, ps, S0, R, Z, r, st, h, q, z⟩ => ⟨_, pss_ghost (hb cdv A outer s H E hr), ?_⟩
  refine ⟨startP N ps, S0, _, ⟨?_, st, trivial⟩, pure ps S0 R Z (r.length.trans hl) h, ?_⟩
  · have := RSl.start N.length r
    exact this
  · refine ⟨fun ρ S1 σ H1 i A1 ⟨S', u, h1⟩ => q .non S' .non H1 (i.sub u) (A1.st.sub u) .non h1, vc_ghost (L := lcOf T E) q, fun _ _ _ _ _ _ z => z.elim, fun _ _ _ _ _ _ z => z.elim, fun e ρ S1 cls d σ H1 i A1 rx ⟨S', u, h1⟩ => z e S' cls d H1 (i.sub u) (A1.st.sub u) rx h1⟩

section
variable {X : Cx} {L : Lc} {a b c e iter tg : Expr} {wi : WI} {g : Tg} {t : WT} {pos : Pos} {body : List Stmt} {v : WS}
def wForL (ok : Sto → Prop) (g : Tg) (v : WS) (P : PEnds) : List PV → Slots → Sto → Prop
  | [], ρ, S => ok S ∧ P.nx ρ S
  | x :: r, ρ, S => ok S ∧ asg g x ρ S fun ρ' => v { P with nx := wForL ok g v P r, ct := wForL ok g v P r, bk := P.nx } ρ' S
def wFor (wi : WI) (g : Tg) (v : WS) : WS := fun P ρ S => wi ρ S (fun items ok S' => wForL ok g v P items ρ S') (fun e S' => P.ex e ρ S')
theorem wForL_ok {ok : Sto → Prop} {P : PEnds} {items : List PV} {ρ : Slots} {S : Sto} (h : wForL ok g v P items ρ S) : ok S := by
  cases items with
  | nil => exact h.1
  | cons x r => exact h.1
theorem drop_cons {α : Type} {xs : List α} {i : Nat} {x : α} (h : xs[i]? = some x) : xs.drop i = x :: xs.drop (i + 1) := by
  obtain ⟨h1, h2⟩ := List.getElem?_eq_some_iff.mp h
  rw [← h2]
  exact List.drop_eq_getElem_cons h1
theorem ds_for (hp : PassesOwn (model X.prog X.w) X.A X.env X.xe) (hc : X.calm = true) (hi : DI X L tg iter wi) (hg : TgOk X tg g) (hb : DSs X L body v) (hs : ∀ x, foldedSetIterable iter X.env x = pure x := by intro _; rfl) :
    DS X L (.For tg iter body [] pos) (wFor wi g v) := (ps_for hp hc hi hg hb hs).imp fun D σ H ⟨ρ, S, P, A, h, E⟩ => by
  refine ⟨ρ, S, _, _, A, h, fun items ok S1 J H1 i st yl h1 => ?_, E.zc A⟩
  refine ⟨fun j m σ2 H2 => m = items.length - j ∧ j ≤ items.length ∧ ∃ ρ2 S2, Fr S1 H1 S2 H2 ∧ At X.K L σ2 H2 ρ2 S2 ∧ wForL ok g v P (items.drop j) ρ2 S2, ⟨_, rfl, Nat.zero_le _, ρ, S1, .refl _ _, A.fr i st, h1⟩, ?_⟩
  rintro j m σ2 H2 ⟨rfl, hj, ρ2, S2, f2, A2, h2⟩
  by_cases hlt : j < items.length
  · obtain ⟨x, hx⟩ : ∃ x, items[j]? = some x := ⟨_, List.getElem?_eq_getElem hlt⟩
    have hok := wForL_ok h2
    rw [drop_cons hx] at h2
    obtain ⟨go, yd⟩ := yl.go j H2 S2 x hx f2.imm A2.st hok
    refine .inr ⟨go, fun σ' H' => ∃ ρ' S', Fr S1 H1 S' H' ∧ At X.K L σ' H' ρ' S' ∧ wForL ok g v P (items.drop (j + 1)) ρ' S', fun σ' H' ⟨ρ', S', f', A', h'⟩ => ⟨items.length - (j + 1), by omega, rfl, hlt, ρ', S', f', A', h'⟩, fun y H3 hy => ?_⟩
    obtain ⟨gr, rv⟩ := yd y H3 hy
    have f3 : Fr S2 H2 S2 H3 := .grow gr
    refine asg_of (A2.fr f3 (A2.st.grow gr)) rv h2.2 fun ρ4 σ4 A4 h4 => ⟨ρ4, S2, _, A4, h4, ?_⟩
    have f4 : Fr S1 H1 S2 H3 := f2.trans f3
    have E4 := E.fr (i.trans f4)
    exact ⟨fun ρ5 S5 σ5 H5 i5 A5 n5 => ⟨ρ5, S5, f4.trans i5, A5, n5⟩, E4.rt, E4.nx, fun ρ5 S5 σ5 H5 i5 A5 n5 => ⟨ρ5, S5, f4.trans i5, A5, n5⟩, E4.ex⟩
  · have e : j = items.length := by omega
    subst e
    rw [List.drop_length] at h2
    exact .inl ⟨yl.stop H2 S2 f2.imm A2.st h2.1, E.nx ρ2 S2 σ2 H2 (i.trans f2) A2 h2.2⟩
end
end PX
end L2

namespace L2
namespace PX
open PySem PySem.Spec PyProof.Rows

theorem Yl.of {K : PySem.W.Frag} {L : Lc} {J : It} {n : Nat} {G : Hp → Prop} {Y : Nat → Hp → V → Hp → Prop} {items : List PV} {ok : Sto → Prop} {H0 : Hp} (w : Walk J n G Y) (hn : items.length = n) (hg : ∀ H S, Imm H0 H → RSK K L H S → ok S → G H)
    (hy : ∀ i H S x v H', items[i]? = some x → Imm H0 H → RSK K L H S → ok S → Y i H v H' → Grow H H' ∧ RV K H' x v) : Yl K L items ok H0 J := by
  subst hn
  exact ⟨fun i H S x hx im st o => by
    have hi : i < items.length := (List.getElem?_eq_some_iff.mp hx).1
    exact ⟨w.goes i H hi (hg H S im st o), fun v H' y => hy i H S x v H' hx im st o (w.yields i H v H' hi (hg H S im st o) y)⟩, fun H S im st o => w.stops H (hg H S im st o)⟩
theorem yAt_of {K : PySem.W.Frag} {H H' : Hp} {xs : List PV} {vs : List V} {i : Nat} {x : PV} {v : V} (r : RVs K H xs vs) (hx : xs[i]? = some x) (y : YAt vs i H v H') : Grow H H' ∧ RV K H' x v := by
  obtain ⟨rfl, hv⟩ := y
  obtain ⟨v', h1, h2⟩ := r.get hx
  rw [hv] at h1; cases h1
  exact ⟨.refl _, h2⟩
/-- a new pair, its object known -/
def YPr (fx fy : Nat → Option V) : Nat → Hp → V → Hp → Prop := fun i H v H' => ∃ T o x y, v = .ref T ∧ o.dict = none ∧ H T = none ∧ H' = upd H T (.frz o (.tup [x, y])) ∧ fx i = some x ∧ fy i = some y
/-- a pair laid in a turn -/
theorem pair_turned {X : Cx} {pins : List (Addr × Obj)} {σ : L2.St} {H : Hp} {s : Shared} {h' : Heap} {t' : Nat} {x y : V} {u v : Value} {ch : List Addr} (I : Inv X pins σ H s)
    (k : ∀ b ob, b ∉ ch → s.heap.get? b = some ob → h'.get? b = some ob) (hf : ∀ b ∈ ch, FpOk X pins H b) (e : h'.get? s.heap.objs.size = some { cls := .type "tuple", data := .seq #[u, v] }) (r1 : RelV x u) (r2 : RelV y v) :
    Inv X pins σ (upd H s.heap.objs.size (.frz { cls := .type "tuple", data := .seq #[u, v] } (.tup [x, y]))) { s with heap := h', toks := t' } :=
  I.turnedNew (ch := ch) (fun b ob hb q => k b ob hb q) hf (Nat.le_refl _) ⟨e, Nat.le_of_ble_eq_true rfl, [u, v], .cons r1 (.cons r2 .nil), ⟨_, e, rfl, _, rfl⟩⟩
theorem yPair_of {K : PySem.W.Frag} {H H' : Hp} {fx fy : Nat → Option V} {i : Nat} {x y : PV} {v : V} (h : YPr fx fy i H v H') (h1 : ∀ u, fx i = some u → RV K H x u) (h2 : ∀ u, fy i = some u → RV K H y u) : Grow H H' ∧ RV K H' (.tup [x, y]) v := by
  obtain ⟨T, o, a, b, rfl, hd, hT, rfl, ha, hb⟩ := h
  have g : Grow H (upd H T (.frz o (.tup [a, b]))) := grow_upd hT
  exact ⟨g, .tup SqT.ofF (.new hd) (.cons ((h1 a ha).imm (.of g)) (.cons ((h2 b hb).imm (.of g)) .nil))⟩
/-- what a value is walked as -/
def itK (p : PV) (S : Sto) (R : List PV → (Sto → Prop) → Sto → Prop) : Prop := match p with
  | .lst xs => R xs (fun _ => True) S
  | .tup xs => R xs (fun _ => True) S
  | .str z => R (z.cps.toList.map fun c => PV.str ⟨#[c]⟩) (fun _ => True) S
  | .dct ks => R (ks.map fun q => match q.1 with
    | .inl i => PV.int i
    | .inr x => PV.str x) (fun _ => True) S
  | .ref a => match S a with
    | some (.lst xs) => R xs (fun S' => S' a = some (.lst xs)) S
    | _ => False
  | _ => False
def keyP : Key → PV
  | .inl i => .int i
  | .inr x => .str x
theorem rv_key {K : PySem.W.Frag} {H : Hp} (k : Key) : RV K H (keyP k) (kV k) := by cases k <;> constructor
section
variable {X : Cx} {L : Lc} {tg e a b : Expr} {we wa : WE} {wr : WA} {pos p tpos : Pos}
theorem pi_any {tl : TE} (hl : PE X e tl) : PI X tg e (fun σ H R => tl σ H fun x H1 => (∃ a xs, x = .ref a ∧ SqL X.K H1 a xs ∧ R (Itl X.K a) H1) ∨ (∃ a xs, x = .ref a ∧ SqT X.K H1 a xs ∧ R (Itt X.K a) H1) ∨ (∃ z, x = .str z ∧ R (Its z) H1) ∨
    ∃ d o kvs, x = .ref d ∧ H1 d = some (.frz o (.dK kvs)) ∧ R (Itk d o kvs) H1) := by
  refine ⟨fun pins s σ H R I h => ?_⟩
  refine thn (hl.run pins s σ H _ I h) fun v s1 ⟨x, H1, I1, r1, q1⟩ => ?_
  have mk : PE X e (fun σ' H' Q => ∃ (u : V), False) := ⟨fun pins s σ H Q I ⟨_, z⟩ => z.elim⟩
  rcases q1 with ⟨a, xs, rfl, hq, q⟩ | ⟨a, xs, rfl, hq, q⟩ | ⟨z, rfl, q⟩ | ⟨d, o, kvs, rfl, hq, q⟩
  · cases r1
    obtain ⟨its, rv, p, hz⟩ := I1.list hq
    refine wpAny_pyIter_list p.isList ?_
    refine ⟨s1.heap.objs.size, [s1.heap.objs.size], _, _, H1, rfl, I1.kept (t' := s1.toks) fun b o e => Heap.get?_push_of_some _ e, turn_list a _, ⟨_, Heap.get?_push_size _ rfl, rfl, rfl⟩, fun b hb => ?_, q⟩
    have e : b = s1.heap.objs.size := by simpa using hb
    subst e
    exact I1.fpOk (Nat.le_refl _) (I1.hok.fresh (Nat.le_refl _))
  · cases r1
    obtain ⟨its, rv, p, hz⟩ := I1.tuple hq
    refine wpAny_pyIter_tuple (show s1.heap.IsTuple a its.toArray from p) ?_
    refine ⟨s1.heap.objs.size, [s1.heap.objs.size], _, _, H1, rfl, I1.kept (t' := s1.toks) fun b o e => Heap.get?_push_of_some _ e, turn_tuple a _, ⟨_, Heap.get?_push_size _ rfl, rfl, rfl⟩, fun b hb => ?_, q⟩
    have e : b = s1.heap.objs.size := by simpa using hb
    subst e
    exact I1.fpOk (Nat.le_refl _) (I1.hok.fresh (Nat.le_refl _))
  · obtain ⟨t, rfl⟩ := r1
    refine wpAny_pyIter_strU ?_
    have hty : strIterType z = "str_ascii_iterator" ∨ strIterType z = "str_iterator" := by
      unfold strIterType
      split
      · exact .inl rfl
      · exact .inr rfl
    refine ⟨s1.heap.objs.size, [s1.heap.objs.size], _, _, H1, rfl, I1.kept (t' := s1.toks) fun b o e => Heap.get?_push_of_some _ e, turn_str _ z t (strIterType z) hty, ?_, fun b hb => ?_, q⟩
    · first
        | exact ⟨rfl, _, Heap.get?_push_size _ rfl, rfl, rfl⟩
        | exact ⟨_, Heap.get?_push_size _ rfl, rfl, rfl⟩
        | exact ⟨⟨_, Heap.get?_push_size _ rfl, rfl, rfl⟩, rfl⟩
    have e : b = s1.heap.objs.size := by simpa using hb
    subst e
    exact I1.fpOk (Nat.le_refl _) (I1.hok.fresh (Nat.le_refl _))
  · cases r1
    obtain ⟨hs, hgd, hx, es, ep, vs, hdt, hsz, kv, hm⟩ := I1.frzK hq
    refine iter_keys hs hgd hx hdt (pi_one (tk := s1.toks) I1 _ (turn_keys _ hdt) ⟨_, Heap.get?_push_size _ rfl, rfl, ?_⟩ q)
    rw [hsz] <;> rfl
def wIt (we : WE) : WI := fun ρ S R Z => we ρ S (fun p S' => itK p S' R) Z
theorem getElem?_of_map {α β : Type} {f : α → β} {xs : List α} {i : Nat} {y : β} (h : (xs.map f)[i]? = some y) : ∃ x, xs[i]? = some x ∧ y = f x := by
  rw [List.getElem?_map] at h
  cases e : xs[i]? with
  | none => rw [e] at h; cases h
  | some x => rw [e] at h; cases h; exact ⟨x, rfl, rfl⟩
/-- for .. in e -/
theorem di_seq (he : DE X L e we) : DI X L tg e (wIt we) := (pi_any he).imp fun σ H Q ⟨ρ, S, R, Z, A, h, q, hZ⟩ => by
  refine ⟨ρ, S, _, Z, A, h, fun p S1 v H1 i st r h1 => ?_, hZ⟩
  unfold itK at h1
  cases r with
  | @lst a vs xs hf hr =>
    refine .inl ⟨a, vs, rfl, hf.sq, q xs _ S1 _ H1 i st (Yl.of walk_list hr.length (fun H2 S2 im _ _ => (hf.imm im).sq) fun j H2 S2 x v H3 hx im _ _ y => yAt_of (hr.imm im) hx y) h1⟩
  | @tup a vs xs hf _ hr =>
    refine .inr (.inl ⟨a, vs, rfl, hf, q xs _ S1 _ H1 i st (Yl.of walk_tup hr.length (fun H2 S2 im _ _ => sqT_imm im hf) fun j H2 S2 x v H3 hx im _ _ y => yAt_of (hr.imm im) hx y) h1⟩)
  | str z =>
    refine .inr (.inr (.inl ⟨z, rfl, q _ _ S1 _ H1 i st (Yl.of walk_str (by simp) (fun _ _ _ _ _ => trivial) fun j H2 S2 x v H3 hx im _ _ y => ?_) h1⟩))
    obtain ⟨rfl, c, hc, rfl⟩ := y
    obtain ⟨c', h2, rfl⟩ := getElem?_of_map hx
    rw [Array.getElem?_toList, hc] at h2
    cases h2
    exact ⟨.refl _, .str _⟩
  | @dct a o gs ks hf he hr =>
    refine .inr (.inr (.inr ⟨a, o, gs, rfl, hf, q _ _ S1 _ H1 i st (Yl.of walk_keys (by have := congrArg List.length he; simpa using this) (fun H2 S2 im _ _ => im.frz _ _ _ hf) fun j H2 S2 x v H3 hx im _ _ y => ?_) h1⟩))
    obtain ⟨rfl, k, v', hk, rfl⟩ := y
    obtain ⟨⟨k', p'⟩, h2, rfl⟩ := getElem?_of_map hx
    have e1 : (ks.map (·.1))[j]? = some k' := by rw [List.getElem?_map, h2]; rfl
    have e2 : (gs.map (·.1))[j]? = some k := by rw [List.getElem?_map, hk]; rfl
    rw [he, e2] at e1
    cases e1
    exact ⟨.refl _, by have := rv_key (K := X.K) (H := H3) k; cases k <;> exact this⟩
  | ref a =>
    rcases dr_ref (S := S1) (a := a) with ⟨xs, h2, _⟩ | ⟨xs, h2, _⟩ | ⟨C, fs, h2, _⟩ | ⟨h2, _⟩
    · simp only [h2] at h1
      obtain ⟨vs, h3, h4⟩ := st.mo a _ h2
      refine .inl ⟨a, vs, rfl, SqL.of h3, q xs _ S1 _ H1 i st ⟨fun j H2 S2 x hx im st2 ok2 => ?_, fun H2 S2 im st2 ok2 => ?_⟩ h1⟩
      · obtain ⟨vs2, h5, h6⟩ := st2.mo a _ ok2
        have hj : j < vs2.length := by rw [← h6.length]; exact (List.getElem?_eq_some_iff.mp hx).1
        exact ⟨walk_list.goes j H2 hj (SqL.of h5), fun v H' y => yAt_of h6 hx (walk_list.yields j H2 v H' hj (SqL.of h5) y)⟩
      · obtain ⟨vs2, h5, h6⟩ := st2.mo a _ ok2
        rw [h6.length]
        exact walk_list.stops H2 (SqL.of h5)
    · simp only [h2] at h1
    · simp only [h2] at h1
    · simp only [h2] at h1
  | _ => exact h1.elim
def intB (p : PV) (k : Int → Prop) : Prop := match p with
  | .int i => k i
  | _ => False
theorem intB_of {p : PV} {k : Int → Prop} (h : intB p k) : ∃ i, p = .int i ∧ k i := by
  cases p with
  | int i => exact ⟨i, rfl, h⟩
  | _ => exact h.elim
theorem yl_range {K : PySem.W.Frag} {H : Hp} {lo : Int} {n : Nat} : Yl K L ((List.range n).map fun (k : Nat) => PV.int (lo + k)) (fun _ => True) H (Itr lo n) :=
  Yl.of walk_range (by simp) (fun _ _ _ _ _ => trivial) fun j H2 S2 x v H3 hx im _ _ y => by
    obtain ⟨rfl, rfl⟩ := y
    obtain ⟨k, h2, rfl⟩ := getElem?_of_map hx
    obtain ⟨h3, h4⟩ := List.getElem?_eq_some_iff.mp h2
    rw [List.getElem_range] at h4
    subst h4
    exact ⟨.refl _, .int _⟩
/-- range(n), range(a, b) -/
def wRng1 (wa : WE) : WI := fun ρ S R Z => wa ρ S (fun p S' => intB p fun j => (-(2 ^ 62) ≤ j ∧ j < 2 ^ 62) ∧ R ((List.range j.toNat).map fun (k : Nat) => PV.int (0 + k)) (fun _ => True) S') Z
def wRng2 (wa wb : WE) : WI := fun ρ S R Z => wa ρ S (fun p S1 => wb ρ S1 (fun q S' => intB p fun i => intB q fun j => (-(2 ^ 62) ≤ i ∧ i < 2 ^ 62 ∧ -(2 ^ 62) ≤ j ∧ j < 2 ^ 62) ∧ R ((List.range (j - i).toNat).map fun (k : Nat) => PV.int (i + k)) (fun _ => True) S') Z) Z
def on1 (k : PV → Sto → Prop) : List PV → Sto → Prop
  | [p], S => k p S
  | _, _ => False
def on2 (k : PV → PV → Sto → Prop) : List PV → Sto → Prop
  | [p, q], S => k p q S
  | _, _ => False
theorem on1_of {k : PV → Sto → Prop} {ps : List PV} {S : Sto} {K : PySem.W.Frag} {H : Hp} {vs : List V} (h : on1 k ps S) (r : RVs K H ps vs) : ∃ p v, ps = [p] ∧ vs = [v] ∧ RV K H p v ∧ k p S := by
  cases r with
  | nil => exact h.elim
  | cons r rs =>
    cases rs with
    | nil => exact ⟨_, _, rfl, rfl, r, h⟩
    | cons _ _ => exact h.elim
theorem on2_of {k : PV → PV → Sto → Prop} {ps : List PV} {S : Sto} {K : PySem.W.Frag} {H : Hp} {vs : List V} (h : on2 k ps S) (r : RVs K H ps vs) : ∃ p v q u, ps = [p, q] ∧ vs = [v, u] ∧ RV K H p v ∧ RV K H q u ∧ k p q S := by
  cases r with
  | nil => exact h.elim
  | cons r rs =>
    cases rs with
    | nil => exact h.elim
    | cons r2 rs =>
      cases rs with
      | nil => exact ⟨_, _, _, _, rfl, rfl, r, r2, h⟩
      | cons _ _ => exact h.elim
theorem di_range1 (hm : X.mg "range" = none) (ha : DE X L a wa) (hg : Gl X "range" := by rfl) (hs : starEach [a] X.env = [(false, eval a X.env)] := by rfl) : DI X L tg (.Call (.Name "range" p) [a] [] pos) (wRng1 wa) :=
  (pi_range1 hg hm (da_cons ha da_nil hs) hs).imp fun σ H Q ⟨ρ, S, R, Z, A, h, q, hZ⟩ => by
  refine ⟨ρ, S, on1 fun p S' => intB p fun j => (-(2 ^ 62) ≤ j ∧ j < 2 ^ 62) ∧ R ((List.range j.toNat).map fun (k : Nat) => PV.int (0 + k)) (fun _ => True) S', Z, A, h, fun ps S1 vs H1 i st r h1 => ?_, hZ⟩
  obtain ⟨p, v, rfl, rfl, rp, h1⟩ := on1_of h1 r
  obtain ⟨j, rfl, b, h1⟩ := intB_of h1
  cases rp
  exact ⟨j, rfl, b.1, b.2, q _ _ S1 _ H1 i st yl_range h1⟩
theorem di_range2 (hm : X.mg "range" = none) (ha : DE X L a wa) (hb : DE X L b we) (hg : Gl X "range" := by rfl) (hs : starEach [a, b] X.env = [(false, eval a X.env), (false, eval b X.env)] := by rfl) (hs2 : starEach [b] X.env = [(false, eval b X.env)] := by rfl) :
    DI X L tg (.Call (.Name "range" p) [a, b] [] pos) (wRng2 wa we) := (pi_range2 hg hm (da_cons ha (da_cons hb da_nil hs2) (by rw [hs, hs2])) hs hs2).imp fun σ H Q ⟨ρ, S, R, Z, A, h, q, hZ⟩ => by
  refine ⟨ρ, S, on2 fun p q S' => intB p fun i => intB q fun j => (-(2 ^ 62) ≤ i ∧ i < 2 ^ 62 ∧ -(2 ^ 62) ≤ j ∧ j < 2 ^ 62) ∧ R ((List.range (j - i).toNat).map fun (k : Nat) => PV.int (i + k)) (fun _ => True) S', Z, A, h, fun ps S1 vs H1 i st r h1 => ?_, hZ⟩
  obtain ⟨p, v, p2, v2, rfl, rfl, rp, rp2, h2⟩ := on2_of h1 r
  obtain ⟨i1, rfl, h3⟩ := intB_of h2
  obtain ⟨j, rfl, b, h4⟩ := intB_of h3
  cases rp
  cases rp2
  exact ⟨i1, j, rfl, b, q _ _ S1 _ H1 i st yl_range h4⟩

theorem meets_enumT {v : Value} {o : Obj} {H : Heap → Prop} (B : Begins v o H) :
    Meets (Builtin.«enumerate.__new__» ⟨[.type "enumerate", v], []⟩) (fun _ R s => H s.heap ∧
      R (.ok (.ret (.ref (s.heap.push o).objs.size))) { s with heap := (s.heap.push o).push { cls := .type "enumerate", data := .fields #[.none, .bool false, .ref s.heap.objs.size, rawInt 0, .none, .none] } }) :=
  .of_wp fun prog w A R s h => by
    obtain ⟨hp, g, d, tk, os⟩ := s; obtain ⟨h1, h⟩ := h
    have hsub := sub_enumerate
    have q1 : ∀ {A' : Around} {E : Value → Shared → Prop} {Q : Value → Shared → Prop}, Q (.ref hp.objs.size) ⟨hp.push o, g, d, tk, os⟩ → wpAny (model prog w) A' (pyIter v) Q E ⟨hp, g, d, tk, os⟩ :=
      fun q => B.iter prog w _ _ ⟨hp, g, d, tk, os⟩ _ h1 q
    wp_walk using q1
    refine wpAny_stack_any fun st => wpAny_pure ?_
    split
    · rename_i c _ _ _ _ _
      cases (c == Value.type "enumerate")
      · wp_walk using q1
        exact ⟨_, rfl, h⟩
      · wp_walk using q1
        exact ⟨_, rfl, h⟩
    · wp_walk using q1
      exact ⟨_, rfl, h⟩
theorem call_enumT {prog : Program} {w : World} {A : Around} {E : Value → Shared → Prop} {s : Shared} {v : Value} {o : Obj} {H : Heap → Prop} {Q : Value → Shared → Prop} (B : Begins v o H) (h1 : H s.heap)
    (h : ∀ h', IsEnum h' (s.heap.objs.size + 1) s.heap.objs.size 0 .none → h'.get? s.heap.objs.size = some o → h'.objs.size = s.heap.objs.size + 2 → (∀ b o, s.heap.get? b = some o → h'.get? b = some o) → Q (.ref (s.heap.objs.size + 1)) { s with heap := h' }) :
    wpAny (model prog w) A (call (.type "enumerate") [v]) Q E s := by
  refine callType_new F.called_enumerate (by decide) (F.typeCall_enumerate_1 _) (F.newCall_enumerate_1 _) (fun obj => F.args_object_init_2 obj _) F.entry_enumerate_new (meets_enumT B) ⟨h1, ?_⟩
  have hz : (s.heap.push o).objs.size = s.heap.objs.size + 1 := Heap.size_push ..
  show _ ∧ _
  rw [hz]
  have he : IsEnum ((s.heap.push o).push { cls := .type "enumerate", data := .fields #[.none, .bool false, .ref s.heap.objs.size, rawInt 0, .none, .none] }) (s.heap.objs.size + 1) s.heap.objs.size 0 .none := by
    have := Heap.get?_push_size (s.heap.push o) (o := { cls := .type "enumerate", data := .fields #[.none, .bool false, .ref s.heap.objs.size, rawInt 0, .none, .none] }) rfl
    rw [hz] at this; exact this
  refine ⟨⟨_, he, rfl⟩, h _ he (Heap.get?_push_of_some _ (Heap.get?_push_size _ B.free)) (by rw [Heap.size_push, hz]) fun b o x => Heap.get?_push_of_some _ (Heap.get?_push_of_some _ x)⟩
def IteT (K : PySem.W.Frag) (a : Addr) : It :=
  ⟨fun i H => ∃ xs x, SqT K H a xs ∧ xs[i]? = some x, fun i H v H' => ∃ T o x, v = .ref T ∧ o.dict = none ∧ H T = none ∧ H' = upd H T (.frz o (.tup [.int (i : Nat), x])) ∧ ∀ xs, SqT K H a xs → xs[i]? = some x, fun i H => ∃ xs, SqT K H a xs ∧ xs.length ≤ i⟩
theorem turn_enumT {P : Program} {w : World} {K : PySem.W.Frag} {elts : List Expr} {kk : Nat} {tpos : Pos} (a e it : Addr) :
    Turn P w K (.Tuple elts kk tpos) (IteT K a) [e, it] e (fun i h => (∃ old, IsEnum h e it ((i : Nat) : Int) old) ∧ h.IsTupleIter it a i ∧ e ≠ it ∧ a ≠ it ∧ a ≠ e) where
  mem := by simp
  obj := fun i h st b hb => by
    obtain ⟨⟨old, he⟩, ⟨o, ho, hc, hd⟩, _⟩ := st
    have e' : b = e ∨ b = it := by simpa using hb
    rcases e' with z | z
    · rw [z]; exact ⟨_, he, fun v q => nomatch q⟩
    · rw [z]; exact ⟨o, ho, fun v q => by rw [hd] at q; cases q⟩
  keep := fun i h h' st k => let ⟨⟨old, he⟩, hi, hne⟩ := st; ⟨⟨old, k e (by simp) _ he⟩, hi.at fun o q => k it (by simp) o q, hne⟩
  item := by
    intro X hP hw hK hc i pins s σ H E I hf st hg
    subst hP hw hK
    obtain ⟨⟨old, he⟩, hit, hne, hai, hae⟩ := st
    obtain ⟨xs, x, hq, hx⟩ := hg
    obtain ⟨its, rv, p, hz⟩ := I.tuple hq
    obtain ⟨u, hu, ru⟩ := rv.get hx
    have hel : e < s.heap.objs.size := Heap.lt_size he
    have hil : it < s.heap.objs.size := by obtain ⟨_, q, _⟩ := hit; exact Heap.lt_size q
    have D := Draws.tuple (prog := X.prog) (w := X.w) (A := X.A.in1) (by exact I.ok.hd hc) it a hai its.toArray
    refine wpAny_pyNext_enum_itemD D he ⟨hit, show s.heap.IsTuple a its.toArray from p⟩ (by simp; exact (List.getElem?_eq_some_iff.mp hu).1) hne (by simp; exact ⟨hne, fun z => hae z.symm⟩) fun y h' tk hy ho hit' hT hsz hk => ?_
    have ey : y = u := by
      have h1 : its.toArray[i]? = some y := hy
      have h2 : its.toArray[i]? = some u := by simpa using hu
      rw [h1] at h2; exact Option.some.inj h2
    subst ey
    refine ⟨_, rfl, wpAny_letOwnedTupleGo_enum (s := { s with heap := h', toks := tk + 1 }) ho fun h'' he' sb => ?_⟩
    have hT2 : h''.get? s.heap.objs.size = some { cls := .type "tuple", data := .seq #[.int i tk, y] } := (sb.2 _ (Nat.ne_of_gt hel)).trans hT
    have I1 := pair_turned (t' := tk + 1) (ch := [e, it]) (x := .int (i : Nat)) (y := x) I (fun b ob hb q => (sb.2 b (fun z => hb (by simp [z]))).trans (hk b ob (fun z => hb (by simp [z])) (fun z => hb (by simp [z])) q)) hf hT2 ⟨_, rfl⟩ ru
    refine ⟨.ref s.heap.objs.size, _, I1, rfl, ⟨_, _, x, rfl, rfl, I.hok.fresh (Nat.le_refl _), rfl, fun ys hy => by rw [I.tuple_inj hy hq]; exact hx⟩, ⟨⟨y, ?_⟩, hit'.1.at fun o q => (sb.2 it (Ne.symm hne)).trans q, hne, hai, hae⟩, fun b hb => ?_⟩
    · have e1 : ((i + 1 : Nat) : Int) = (i : Int) + 1 := by omega
      rw [e1]; exact he'
    · have hb' : b < s.heap.objs.size := by
        have e' : b = e ∨ b = it := by simpa using hb
        rcases e' with z | z
        · rw [z]; exact hel
        · rw [z]; exact hil
      rw [upd_ne (Nat.ne_of_lt hb')]
      exact (hf b hb).1
  done := by
    intro X hP hw hK hc i pins s σ H E I hf st hg
    subst hP hw hK
    obtain ⟨⟨old, he⟩, hit, hne, hai, hae⟩ := st
    obtain ⟨xs, hq, hx⟩ := hg
    obtain ⟨its, rv, p, hz⟩ := I.tuple hq
    obtain ⟨f0, f1, f2, f3, f4, f5⟩ := hf it (by simp)
    have hl := rv.length
    have hT : s.TypeIs (.ref e) "enumerate" := ⟨_, he, rfl⟩
    unfold pyNext
    refine wpAny_bind (wpAny_attempt (wpAny_callSpecial?_slot (name := Str.ofString "__next__") hT F.slot_enumerate_next
      (wpAny_call_entry F.slot_enumerate_next hT F.entry_enumerate_next ?_ (F.args_enumerate_next_1 _))))
    show wpAny _ _ (field (.ref e) 2 >>= _) _ _ _
    refine wpAny_bind (wpAny_field he rfl (x := .ref it) rfl ?_)
    refine wpAny_bind (wpAny_nextOf_tuple_end (by exact I.ok.hd hc) hit (show s.heap.IsTuple a its.toArray from p) (by simp; omega) fun h' x eb hx' => ?_)
    obtain ⟨o, ho, hcx⟩ := hx'
    refine wpAny_bind (wpAny_isInstance (T := "StopIteration") (b := true) ⟨o, ho, hcx⟩ isSubtype_stop ?_)
    exact wpAny_pure ⟨rfl, I.turned (t' := s.toks) (fun b o hb q => eb b o hb q) f0 f1 f3 f4 f5⟩
  self := fun A i s Q E st h => let ⟨⟨_, he⟩, _⟩ := st; wpAny_pyIter_enum he h
theorem walk_enumT {K : PySem.W.Frag} {a : Addr} {xs : List V} : Walk (IteT K a) xs.length (fun H => SqT K H a xs) (YPr (fun i => some (.int (i : Nat))) (fun i => xs[i]?)) := by
  refine ⟨fun i _ hi q => ⟨xs, xs[i], q, by simp [hi]⟩, fun _ q => ⟨xs, q, Nat.le_refl _⟩, fun i H v H' _ q y => ?_⟩
  obtain ⟨T, o, x, h1, h0, h2, h3, h4⟩ := y
  exact ⟨T, o, .int (i : Nat), x, h1, h0, h2, h3, rfl, h4 xs q⟩
/-- enumerate of a list: the pairs' objects known -/
def IteD (K : PySem.W.Frag) (a : Addr) : It :=
  ⟨(Ite K a).go, fun i H v H' => ∃ T o x, v = .ref T ∧ o.dict = none ∧ H T = none ∧ H' = upd H T (.frz o (.tup [.int (i : Nat), x])) ∧ ∀ xs, SqL K H a xs → xs[i]? = some x, (Ite K a).stop⟩
theorem turn_enumD {P : Program} {w : World} {K : PySem.W.Frag} {elts : List Expr} {kk : Nat} {tpos : Pos} (a e it : Addr) :
    Turn P w K (.Tuple elts kk tpos) (IteD K a) [e, it] e (fun i h => (∃ old, IsEnum h e it ((i : Nat) : Int) old) ∧ h.IsListIter it a i ∧ e ≠ it) where
  mem := (turn_enum (P := P) (w := w) (K := K) (elts := elts) (kk := kk) (tpos := tpos) a e it).mem
  obj := (turn_enum (P := P) (w := w) (K := K) (elts := elts) (kk := kk) (tpos := tpos) a e it).obj
  keep := (turn_enum (P := P) (w := w) (K := K) (elts := elts) (kk := kk) (tpos := tpos) a e it).keep
  done := (turn_enum (P := P) (w := w) (K := K) (elts := elts) (kk := kk) (tpos := tpos) a e it).done
  self := (turn_enum (P := P) (w := w) (K := K) (elts := elts) (kk := kk) (tpos := tpos) a e it).self
  item := by
    intro X hP hw hK _ i pins s σ H E I hf ⟨⟨old, he⟩, hit, hne⟩ ⟨xs, x, hq, hx⟩
    subst hP hw hK
    obtain ⟨its, rv, pl, _⟩ := I.list hq
    obtain ⟨u, hu, ru⟩ := rv.get hx
    have hel : e < s.heap.objs.size := Heap.lt_size he
    have hil : it < s.heap.objs.size := Heap.lt_size hit.choose_spec.1
    refine wpAny_pyNext_enum_item he hit pl.isList (x := u) (by simpa using hu) hne fun h1 ho hit1 hT _ hk => ⟨_, rfl, wpAny_letOwnedTupleGo_enum (s := { s with heap := h1, toks := s.toks + 1 }) ho fun h2 he2 sb => ?_⟩
    have I1 := pair_turned (t' := s.toks + 1) (ch := [e, it]) (x := .int (i : Nat)) (y := x) I (fun b ob hb q => (sb.2 b (fun z => hb (by simp [z]))).trans (hk b ob (fun z => hb (by simp [z])) (fun z => hb (by simp [z])) q)) hf ((sb.2 _ (Nat.ne_of_gt hel)).trans hT) ⟨_, rfl⟩ ru
    refine ⟨.ref s.heap.objs.size, _, I1, rfl, ⟨_, _, x, rfl, rfl, I.hok.fresh (Nat.le_refl _), rfl, fun ys hy => ?_⟩, ⟨⟨u, ?_⟩, hit1.at fun o q => (sb.2 it (Ne.symm hne)).trans q, hne⟩, fun b hb => ?_⟩
    · rw [I.list_inj hy hq]; exact hx
    · rw [show ((i + 1 : Nat) : Int) = (i : Int) + 1 by omega]; exact he2
    · have lt : b < s.heap.objs.size := by
        rcases List.mem_cons.mp hb with z | z
        · rw [z]; exact hel
        · rw [List.mem_singleton.mp z]; exact hil
      rw [upd_ne (Nat.ne_of_lt lt)]; exact (hf b hb).1
theorem walk_enumD {K : PySem.W.Frag} {a : Addr} {xs : List V} : Walk (IteD K a) xs.length (fun H => SqL K H a xs) (YPr (fun i => some (.int (i : Nat))) (fun i => xs[i]?)) :=
  ⟨fun i _ hi q => ⟨xs, xs[i], q, by simp [hi]⟩, fun _ q => ⟨xs, q, Nat.le_refl _⟩, fun i H v H' _ q ⟨T, o, x, h1, h0, h2, h3, h4⟩ => ⟨T, o, .int (i : Nat), x, h1, h0, h2, h3, rfl, h4 xs q⟩⟩
theorem pi_enumA {elts : List Expr} {kk : Nat} {ta : TA} (hg : Gl X "enumerate") (hm : X.mg "enumerate" = none) (ha : PA X [e] ta) (hs : starEach [e] X.env = [(false, eval e X.env)] := by rfl) :
    PI X (.Tuple elts kk tpos) (.Call (.Name "enumerate" p) [e] [] pos) (fun σ H R => ta σ H fun vs H1 => ∃ a, vs = [.ref a] ∧ ((∃ xs, SqL X.K H1 a xs ∧ R (IteD X.K a) H1) ∨ ∃ xs, SqT X.K H1 a xs ∧ R (IteT X.K a) H1)) := by
  refine ⟨fun pins s σ H R I h => ?_⟩
  refine Call_ (ld_blt I hg hm boot_enumerate (PyProof.Rows.callWith_type1 (thn (ha.run pos pins s σ H _ I h) fun us s1 ⟨vs, H1, I1, r1, a, ex, q1⟩ => ?_) hs rfl))
  subst ex
  cases r1 with
  | cons r rr =>
    cases rr
    cases r
    have fresh2 : ∀ b ∈ [s1.heap.objs.size + 1, s1.heap.objs.size], FpOk X pins H1 b := fun b hb => by
      have e' : b = s1.heap.objs.size + 1 ∨ b = s1.heap.objs.size := by simpa using hb
      have hle : s1.heap.objs.size ≤ b := by
        rcases e' with z | z
        · rw [z]; exact Nat.le_add_right _ _
        · rw [z]; exact Nat.le_refl _
      exact I1.fpOk hle (I1.hok.fresh hle)
    rcases q1 with ⟨xs, hq, q⟩ | ⟨xs, hq, q⟩
    · obtain ⟨its, rv, p', hz⟩ := I1.list hq
      refine call_enumerate_list p'.isList fun h' he hit hsz hk => wpAny_pyIter_enum he ?_
      have I2 : Inv X pins σ H1 { s1 with heap := h' } := I1.kept (t' := s1.toks) hk
      exact ⟨s1.heap.objs.size + 1, [s1.heap.objs.size + 1, s1.heap.objs.size], _, _, H1, rfl, I2, turn_enumD a (s1.heap.objs.size + 1) s1.heap.objs.size, ⟨⟨.none, he⟩, hit, Nat.succ_ne_self _⟩, fresh2, q⟩
    · obtain ⟨its, rv, p', hz⟩ := I1.tuple hq
      refine call_enumT (begins_tuple a its.toArray) (show s1.heap.IsTuple a its.toArray from p') fun h' he hit hsz hk => wpAny_pyIter_enum he ?_
      have I2 : Inv X pins σ H1 { s1 with heap := h' } := I1.kept (t' := s1.toks) hk
      have la : a < s1.heap.objs.size := p'.lt
      exact ⟨s1.heap.objs.size + 1, [s1.heap.objs.size + 1, s1.heap.objs.size], _, _, H1, rfl, I2, turn_enumT a (s1.heap.objs.size + 1) s1.heap.objs.size, ⟨⟨.none, he⟩, ⟨_, hit, rfl, rfl⟩, Nat.succ_ne_self _, Nat.ne_of_lt la, Nat.ne_of_lt (Nat.lt_succ_of_lt la)⟩, fresh2, q⟩
/-- the pairs of enumerate -/
def enumP (xs : List PV) : List PV := (List.range xs.length).map fun (i : Nat) => PV.tup [.int i, xs.getD i .non]
def wEnum (we : WE) : WI := fun ρ S R Z => we ρ S (fun p S' => match p with
  | .lst xs => R (enumP xs) (fun _ => True) S'
  | .tup xs => R (enumP xs) (fun _ => True) S'
  | _ => False) Z
theorem enumP_at {xs : List PV} {j : Nat} {x : PV} (h : (enumP xs)[j]? = some x) : ∃ y, xs[j]? = some y ∧ x = .tup [.int j, y] := by
  obtain ⟨k, h2, rfl⟩ := getElem?_of_map h
  obtain ⟨h3, h4⟩ := List.getElem?_eq_some_iff.mp h2
  rw [List.getElem_range] at h4
  subst h4
  have hj : j < xs.length := by simpa using h3
  exact ⟨xs[j], List.getElem?_eq_getElem hj, by simp [List.getD, List.getElem?_eq_getElem hj]⟩
theorem di_enum {elts : List Expr} {kk : Nat} (hm : X.mg "enumerate" = none) (ha : DE X L e we) (hg : Gl X "enumerate" := by rfl) (hs : starEach [e] X.env = [(false, eval e X.env)] := by rfl) :
    DI X L (.Tuple elts kk tpos) (.Call (.Name "enumerate" p) [e] [] pos) (wEnum we) := (pi_enumA hg hm (da_cons ha da_nil hs) hs).imp fun σ H Q ⟨ρ, S, R, Z, A, h, q, hZ⟩ => by
  refine ⟨ρ, S, on1 fun p S' => match p with
    | .lst xs => R (enumP xs) (fun _ => True) S'
    | .tup xs => R (enumP xs) (fun _ => True) S'
    | _ => False, Z, A, h, fun ps S1 vs H1 i st r h1 => ?_, hZ⟩
  obtain ⟨p, v, rfl, rfl, rp, h2⟩ := on1_of h1 r
  cases rp with
  | @lst a vs xs hf hr => exact ⟨a, rfl, .inl ⟨vs, hf.sq, q _ _ S1 _ H1 i st (Yl.of walk_enumD (by unfold enumP; simp [hr.length]) (fun H2 S2 im _ _ => (hf.imm im).sq) fun j H2 S2 x v H3 hx im _ _ y => by
      obtain ⟨y', h3, rfl⟩ := enumP_at hx
      exact yPair_of y (fun u e => by cases e; exact .int _) fun u e => by
        obtain ⟨v', h4, h5⟩ := (hr.imm im).get h3
        rw [e] at h4; cases h4; exact h5) h2⟩⟩
  | @tup a vs xs hf _ hr => exact ⟨a, rfl, .inr ⟨vs, hf, q _ _ S1 _ H1 i st (Yl.of walk_enumT (by unfold enumP; simp [hr.length]) (fun H2 S2 im _ _ => sqT_imm im hf) fun j H2 S2 x v H3 hx im _ _ y => by
      obtain ⟨y', h3, rfl⟩ := enumP_at hx
      exact yPair_of y (fun u e => by cases e; exact .int _) fun u e => by
        obtain ⟨v', h4, h5⟩ := (hr.imm im).get h3
        rw [e] at h4; cases h4; exact h5) h2⟩⟩
  | _ => exact h2.elim
end
end PX
end L2

namespace L2
namespace PX
open PySem PySem.Spec PyProof.Rows

theorem wipe_in {σ : L2.St} {i : Nat} : ∀ {vs : List Nat}, i ∈ vs → (wipe σ vs)[i]? = if i < σ.length then some none else none
  | v :: vs, h => by
    unfold wipe
    by_cases e : v = i
    · subst e
      by_cases hl : v < σ.length
      · rw [if_pos hl, List.getElem?_set_self (by rw [wipe_length]; exact hl)]
      · rw [if_neg hl, List.getElem?_eq_none (by rw [List.length_set, wipe_length]; omega)]
    · rw [List.getElem?_set_ne e]
      exact wipe_in (by
        rcases List.mem_cons.mp h with q | q
        · exact absurd q.symm e
        · exact q)
theorem wipe_congr {σ τ : L2.St} {vs : List Nat} (hl : σ.length = τ.length) (h : ∀ i, i ∉ vs → σ[i]? = τ[i]?) : wipe σ vs = wipe τ vs := by
  apply List.ext_getElem?
  intro i
  by_cases hi : i ∈ vs
  · rw [wipe_in hi, wipe_in hi, hl]
  · rw [wipe_out hi, wipe_out hi, h i hi]
def Tg.ixs : Tg → List Nat
  | .nm i => [i]
  | .tp is => is
theorem setMV_length : ∀ {is : List Nat} {vs : List V} {σ : L2.St}, (setMV σ is vs).length = σ.length
  | [], _, _ => by unfold setMV; rfl
  | i :: is, [], _ => by unfold setMV; rfl
  | i :: is, v :: vs, _ => by unfold setMV; rw [setMV_length, List.length_set]
theorem setMV_out : ∀ {is : List Nat} {vs : List V} {σ : L2.St} {j : Nat}, j ∉ is → (setMV σ is vs)[j]? = σ[j]?
  | [], _, _, _, _ => by unfold setMV; rfl
  | i :: is, [], _, _, _ => by unfold setMV; rfl
  | i :: is, v :: vs, _, j, h => by
    unfold setMV
    rw [setMV_out fun z => h (List.mem_cons_of_mem _ z), List.getElem?_set_ne fun z => h (by rw [z]; exact List.mem_cons_self)]
/-- what a target leaves of the slots, the own ones wiped -/
theorem gTg_wipe {K : PySem.W.Frag} {g : Tg} {own : List Nat} {v : V} {σ : L2.St} {H : Hp} {Q : L2.St → Hp → Prop} (ho : ∀ i ∈ g.ixs, i ∈ own) (h : gTg K g v (wipe σ own) H Q) : gTg K g v (wipe σ own) H fun σ2 H2 => wipe σ2 own = wipe σ own ∧ Q σ2 H2 := by
  have ww : ∀ {τ : L2.St}, τ.length = (wipe σ own).length → (∀ i, i ∉ own → τ[i]? = (wipe σ own)[i]?) → wipe τ own = wipe σ own := fun {τ} hl hi =>
    wipe_congr (by rw [hl, wipe_length]) fun i n => by rw [hi i n, wipe_out n]
  cases g with
  | nm i => exact ⟨ww (by simp) fun j n => List.getElem?_set_ne fun z => n (by rw [← z]; exact ho i (by simp [Tg.ixs])), h⟩
  | tp is =>
    obtain ⟨a, xs, e, hq, hl, k⟩ := h
    exact ⟨a, xs, e, hq, hl, ww setMV_length fun j n => setMV_out fun z => n (ho j z), k⟩
theorem RSl.wipe {K : PySem.W.Frag} {H : Hp} {ρ : Slots} {σ : L2.St} (h : RSl K H ρ σ) : ∀ (own : List Nat), RSl K H (wipeP ρ own) (L2.wipe σ own)
  | [] => h
  | i :: own => by
    have ih := RSl.wipe h own
    refine ⟨by unfold wipeP L2.wipe; simp [ih.len], fun j p e => ?_⟩
    unfold wipeP at e
    unfold L2.wipe
    by_cases hij : i = j
    · subst hij
      by_cases hl : i < (wipeP ρ own).length
      · rw [List.getElem?_set_self hl] at e; cases e
      · rw [List.getElem?_eq_none (by simp; omega)] at e; cases e
    · rw [List.getElem?_set_ne hij] at e ⊢
      exact ih.at_ j p e
theorem At.wipe {K : PySem.W.Frag} {L : Lc} {σ : L2.St} {H : Hp} {ρ : Slots} {S : Sto} (A : At K L σ H ρ S) (own : List Nat) : At K L (L2.wipe σ own) H (wipeP ρ own) S := ⟨A.sl.wipe own, A.st, A.j⟩
/-- a thing outside of the store is changed -/
theorem RS.out {G : Gk} {H : Hp} {S : Sto} {a : Addr} {o u : HO} (h : RS G H S) (n : S a = none) (e : H a = some o) (p : Pl o) : RS G (upd H a u) S :=
  ⟨fun b q eq => by
    have hb : b ≠ a := fun z => by rw [z, n] at eq; cases eq
    exact (h.mo b q eq).imm (imm_upd e p) (upd_ne hb), tabs_upd h.tab e p⟩
abbrev Lc.in_ (L : Lc) : Lc := ⟨L.T, fun _ _ _ _ => False, L.J⟩
theorem At.in_ {K : PySem.W.Frag} {L : Lc} {σ : L2.St} {H : Hp} {ρ : Slots} {S : Sto} (A : At K L σ H ρ S) : At K L.in_ σ H ρ S := ⟨A.sl, A.st, A.j⟩
def Z0 : ZK := fun _ _ => False
theorem zc0 {K : PySem.W.Frag} {L : Lc} {S : Sto} {H : Hp} {σ : L2.St} : ZC K L S H σ Z0 := fun _ _ _ _ _ _ _ _ z => z.elim
def wLcL (ok : Sto → Prop) (g : Tg) (t : WT) (we : WE) (ρ0 : Slots) (k : List PV → Sto → Prop) : List PV → List PV → Sto → Prop
  | [], acc, S => ok S ∧ k acc S
  | x :: r, acc, S => ok S ∧ asg g x ρ0 S fun ρ' => t ρ' S (fun b S2 => if b = true then we ρ' S2 (fun y S3 => acc.length < sizeLine ∧ wLcL ok g t we ρ0 k r (acc ++ [y]) S3) Z0 else wLcL ok g t we ρ0 k r acc S2) Z0
def wLc (wi : WI) (g : Tg) (t : WT) (we : WE) (own : List Nat) : WE := fun ρ S R Z => wi ρ S (fun items ok S1 => wLcL ok g t we (wipeP ρ own) (fun ys S2 => R (.lst ys) S2) items [] S1) Z
theorem wLcL_ok {ok : Sto → Prop} {g : Tg} {t : WT} {we : WE} {ρ0 : Slots} {k : List PV → Sto → Prop} {items acc : List PV} {S : Sto} (h : wLcL ok g t we ρ0 k items acc S) : ok S := by
  cases items with
  | nil => exact h.1
  | cons x r => exact h.1
def wYes : WT := fun _ S R _ => R true S
section
variable {X : Cx} {L : Lc} {elt tg iter c : Expr} {we : WE} {wi : WI} {t : WT} {g : Tg} {pos : Pos}
abbrev DTs (X : Cx) (L : Lc) (ifs : List Expr) (t : WT) : Prop := PTs X ifs (LT X.K L t)
theorem dts_nil : DTs X L [] wYes := ⟨fun pins s σ H Q I ⟨ρ, S, R, Z, A, h, q, hZ⟩ => pts_nil.run pins s σ H Q I (q true S H (.refl S H) A.st h)⟩
theorem dts_one (h : DT X L c t) : DTs X L [c] t := pts_one h
theorem lc_lift {own : List Nat} {σ : L2.St} {H : Hp} {Q : VK} (ho : ∀ i ∈ g.ixs, i ∈ own) (h : LE X.K L (wLc wi g t we own) σ H Q) : tLc (LI X.K L wi) (gTg X.K g) (LT X.K L.in_ t) (LE X.K L.in_ we) own σ H (gK Q) := by
  obtain ⟨ρ, S, R, Z, A, h, q, hZ⟩ := h
  refine ⟨ρ, S, _, Z, A, h, fun items ok S1 J H1 i st yl h1 D hD => ?_, hZ⟩
  have sD : S1 D = none := st.free hD
  have w0 : Imm H1 (upd H1 D (.lst [])) := .of (grow_upd hD)
  refine ⟨fun j m H2 => m = items.length - j ∧ j ≤ items.length ∧ ∃ S2 acc accV, Fr S1 H1 S2 H2 ∧ RSK X.K L H2 S2 ∧ H2 D = some (.lst accV) ∧ RVs X.K H2 acc accV ∧ S2 D = none ∧ wLcL ok g t we (wipeP ρ own) (fun ys S2 => R (.lst ys) S2) (items.drop j) acc S2,
    ⟨_, rfl, Nat.zero_le _, S1, [], [], .grow (grow_upd hD), st.grow (grow_upd hD), upd_same, .nil, sD, h1⟩, ?_⟩
  rintro j m H2 ⟨rfl, hj, S2, acc, accV, f2, st2, hD2, r2, sD2, h2⟩
  have fr2 := f2
  by_cases hlt : j < items.length
  · obtain ⟨x, hx⟩ : ∃ x, items[j]? = some x := ⟨_, List.getElem?_eq_getElem hlt⟩
    have hok := wLcL_ok h2
    rw [drop_cons hx] at h2
    obtain ⟨go, yd⟩ := yl.go j H2 S2 x hx fr2.imm st2 hok
    refine .inr ⟨go, fun H' => ∃ S' acc' accV', Fr S1 H1 S' H' ∧ RSK X.K L H' S' ∧ H' D = some (.lst accV') ∧ RVs X.K H' acc' accV' ∧ S' D = none ∧ wLcL ok g t we (wipeP ρ own) (fun ys S2 => R (.lst ys) S2) (items.drop (j + 1)) acc' S',
      fun H' h' => ⟨items.length - (j + 1), by omega, rfl, hlt, h'⟩, fun y H3 hy => gTg_wipe ho ?_⟩
    obtain ⟨gr, rv⟩ := yd y H3 hy
    have st3 := st2.grow gr
    have f3 : Fr S1 H1 S2 H3 := f2.trans (.grow gr)
    have A3 : At X.K L (L2.wipe σ own) H3 (wipeP ρ own) S2 := (A.fr (i.trans (fr2.trans (.grow gr))) st3).wipe own
    refine asg_of A3 rv h2.2 fun ρ4 σ4 A4 h4 => ?_
    refine ⟨ρ4, S2, _, Z0, A4.in_, h4, fun b S5 H5 i5 st5 h5 => ?_, zc0⟩
    have hD5 : H5 D = some (.lst accV) := i5.keep D _ sD2 (gr _ _ hD2) trivial
    have sD5 : S5 D = none := i5.new D _ sD2 (gr _ _ hD2) trivial
    have f5 := f3.trans i5
    have r5 := (r2.imm (.of gr)).imm i5.imm
    cases b with
    | false => exact iteF ⟨S5, acc, accV, f5, st5, hD5, r5, sD5, h5⟩
    | true =>
      refine iteT ⟨ρ4, S5, _, Z0, (A4.in_.fr i5 st5), h5, fun y S6 v6 H6 i6 st6 ry ⟨hz, h6⟩ => ?_, zc0⟩
      have hD6 : H6 D = some (.lst accV) := i6.keep D _ sD5 hD5 trivial
      have sD6 : S6 D = none := i6.new D _ sD5 hD5 trivial
      have im7 : Imm H6 (upd H6 D (.lst (accV ++ [v6]))) := imm_upd hD6 trivial
      have r6 := r5.imm i6.imm
      have f6 := f5.trans i6
      exact ⟨accV, hD6, by rw [← r6.length]; exact hz, S6, _, _, ⟨f6.imm.trans im7, fun a o n e t => by rw [upd_ne (by rintro rfl; rw [hD] at e; cases e)]; exact f6.keep a o n e t, f6.new⟩, st6.out sD6 hD6 trivial, upd_same, (r6.imm im7).append (.cons (ry.imm im7) .nil), sD6, h6⟩
  · have e : j = items.length := by omega
    subst e
    rw [List.drop_length] at h2
    refine .inl ⟨yl.stop H2 S2 fr2.imm st2 h2.1, fun a => a = D, fun a e => ⟨.lst accV, by cases e; exact hD2, trivial⟩, fun H' gh => ?_⟩
    obtain ⟨u, o, e1, _, e2⟩ := gh.ye D rfl
    rw [hD2] at e1; cases e1
    have fr' : Fr S1 H1 S2 H' := ⟨fr2.imm.trans gh.imm, fun a o n e t => (gh.no a (by rintro rfl; rw [hD] at e; cases e)).trans (fr2.keep a o n e t), fr2.new⟩
    refine q _ S2 _ H' (i.trans fr') (gh.rs st2 (fun a o e => e) fun a e => by cases e; exact sD2) (.lst (.inl ⟨o, e2⟩) (r2.imm gh.imm)) h2.2
/-- [e for x in xs if c] -/
theorem de_lc {scope : Scope} {ifs : List Expr} (own : List (Str × Nat)) (hc : X.calm = true) (hN : X.N.Nodup) (hi : DI X L tg iter wi) (ok : BlkOk X.N X.env.scope scope own)
    (hg : ∀ (s : Shared) (H : Hp) (C : Addr) (cl : List (Str × Addr)) (fp : List Addr), TgOk (X.blk s H scope (compEnvC scope cl C X.env) fp) tg g) (ht : ∀ (s : Shared) (H : Hp) (C : Addr) (cl : List (Str × Addr)) (fp : List Addr), DTs (X.blk s H scope (compEnvC scope cl C X.env) fp) L.in_ ifs t)
    (he : ∀ (s : Shared) (H : Hp) (C : Addr) (cl : List (Str × Addr)) (fp : List Addr), DE (X.blk s H scope (compEnvC scope cl C X.env) fp) L.in_ elt we) (ho : ∀ i ∈ g.ixs, i ∈ own.map (·.2) := by decide) (hs : ∀ x, foldedSetIterable iter X.env x = pure x := by intro _; rfl) :
    DE X L (.ListComp elt [⟨tg, iter, ifs, 0⟩] scope pos) (wLc wi g t we (own.map (·.2))) :=
  (pe_ghost (pe_lc (g := gTg X.K g) (tt := LT X.K L.in_ t) (te := LE X.K L.in_ we) hc hN hi ok hg ht he hs)).imp fun σ H Q h => lc_lift ho h
def gN (N : L2.St → Hp → Prop) : L2.St → Hp → Prop := fun σ H => ∃ A : Addr → Prop, (∀ a, A a → ∃ u, H a = some u ∧ Pl u) ∧ ∀ H', Gst A H H' → N σ H'
theorem ps_ghost {st : Stmt} {t : TS} (h : PS X st t) : PS X st (fun D σ H => t { D with nx := gN D.nx } σ H) := ⟨fun pins s σ H D I q => thn (h.run pins s σ H _ I q) fun f s1 hs => by
  cases f with
  | next =>
    obtain ⟨σ', H1, I1, A, hA, k⟩ := hs
    obtain ⟨H', g, I'⟩ := Inv.gst I1 A hA
    exact ⟨σ', H', I', k H' g⟩
  | ret u => exact hs
  | brk => exact hs
  | cont => exact hs⟩
/-- y = [..] on one line, y a local -/
theorem ds_setLc (i : Nat) {y : Str} {py spos : Pos} {scope : Scope} {ifs : List Expr} (own : List (Str × Nat)) (hc : X.calm = true) (hN : X.N.Nodup) (hi : DI X L tg iter wi) (ok : BlkOk X.N X.env.scope scope own)
    (hg : ∀ (s : Shared) (H : Hp) (C : Addr) (cl : List (Str × Addr)) (fp : List Addr), TgOk (X.blk s H scope (compEnvC scope cl C X.env) fp) tg g) (ht : ∀ (s : Shared) (H : Hp) (C : Addr) (cl : List (Str × Addr)) (fp : List Addr), DTs (X.blk s H scope (compEnvC scope cl C X.env) fp) L.in_ ifs t)
    (he : ∀ (s : Shared) (H : Hp) (C : Addr) (cl : List (Str × Addr)) (fp : List Addr), DE (X.blk s H scope (compEnvC scope cl C X.env) fp) L.in_ elt we) (ho : ∀ i ∈ g.ixs, i ∈ own.map (·.2) := by decide) (hy : X.N[i]? = some y := by rfl) (hyl : X.env.scope.names.lookup y = some .local := by rfl)
    (hsw : swapsWith (.ListComp elt [⟨tg, iter, ifs, 0⟩] scope pos) (some (.Name y py)) spos.line X.env = pure true := by exact sw_true rfl rfl rfl (by decide +kernel)) (hs : ∀ x, foldedSetIterable iter X.env x = pure x := by intro _; rfl) :
    DS X L (.Assign [.Name y py] (.ListComp elt [⟨tg, iter, ifs, 0⟩] scope pos) spos) (wSet i (wLc wi g t we (own.map (·.2)))) :=
  (ps_ghost (ps_setLc (g := gTg X.K g) (tt := LT X.K L.in_ t) (te := LE X.K L.in_ we) hc hN hy hyl hsw hi ok hg ht he hs)).imp fun D σ H h => by
    have h1 := ls_set h
    exact lc_lift (Q := fun x H1 => gName i x σ H1 D.nx) ho h1
end

def dget (ks : List (Key × PV)) (k : Key) : Option PV := (ks.find? fun kv => decide (kv.1 = k)).map (·.2)
def dput (ks : List (Key × PV)) (k : Key) (v : PV) : List (Key × PV) := if ks.any (fun kv => decide (kv.1 = k)) then ks.map (fun kv => if kv.1 = k then (kv.1, v) else kv) else ks ++ [(k, v)]
theorem dget_pos {p : Key × PV} {r : List (Key × PV)} {k : Key} (e : p.1 = k) : dget (p :: r) k = some p.2 := by simp [dget, List.find?_cons, e]
theorem dget_neg {p : Key × PV} {r : List (Key × PV)} {k : Key} (e : ¬ p.1 = k) : dget (p :: r) k = dget r k := by simp [dget, List.find?_cons, e]
theorem Pr.dget {K : PySem.W.Frag} {H : Hp} {k : Key} : ∀ {ks : List (Key × PV)} {gs : List (Key × V)}, Pr K H ks gs → (∀ p, dget ks k = some p → ∃ v, valV gs k = some v ∧ RV K H p v) ∧ (dget ks k = none → valV gs k = none)
  | [], gs, h => by
    cases gs with
    | nil => exact ⟨fun p e => by simp [PX.dget] at e, fun _ => rfl⟩
    | cons g gs => have := h.1; simp at this
  | (k', x) :: ks, gs, h => by
    obtain ⟨v, gs', rfl, r, h'⟩ := h.un
    by_cases e : k' = k
    · rw [dget_pos (p := (k', x)) e, valV_pos (p := (k', v)) e]
      exact ⟨fun p q => by cases q; exact ⟨v, rfl, r⟩, fun q => by cases q⟩
    · rw [dget_neg (p := (k', x)) e, valV_neg (p := (k', v)) e]
      exact Pr.dget h'
theorem dget_any (k : Key) : ∀ ks : List (Key × PV), (ks.any fun kv => decide (kv.1 = k)) = (dget ks k).isSome
  | [] => rfl
  | p :: r => by
    rw [List.any_cons]
    by_cases e : p.1 = k
    · simp only [dget_pos e, decide_eq_true e, Bool.true_or, Option.isSome_some]
    · rw [dget_neg e, decide_eq_false e, Bool.false_or]; exact dget_any k r
theorem Pr.map_put {K : PySem.W.Frag} {H : Hp} {k : Key} {p : PV} {v : V} (r : RV K H p v) : ∀ {ks : List (Key × PV)} {gs : List (Key × V)}, Pr K H ks gs → Pr K H (ks.map fun kv => if kv.1 = k then (kv.1, p) else kv) (gs.map fun kv => if kv.1 = k then (kv.1, v) else kv)
  | [], gs, h => by
    cases gs with
    | nil => exact h
    | cons g gs => have := h.1; simp at this
  | (k', x) :: ks, gs, h => by
    obtain ⟨u, gs', rfl, r', h'⟩ := h.un
    have ih := Pr.map_put (k := k) r h'
    rw [List.map_cons, List.map_cons]
    by_cases e : k' = k
    · rw [if_pos e, if_pos e]; exact .cons r ih
    · rw [if_neg e, if_neg e]; exact .cons r' ih
theorem Pr.append {κ : Type} {K : PySem.W.Frag} {H : Hp} {ks ls : List (κ × PV)} {gs hs : List (κ × V)} (h : Pr K H ks gs) (h' : Pr K H ls hs) : Pr K H (ks ++ ls) (gs ++ hs) := by
  refine ⟨by simp [h.1, h'.1], ?_⟩
  rw [List.map_append, List.map_append]
  exact h.2.append h'.2
theorem Pr.dput {K : PySem.W.Frag} {H : Hp} {k : Key} {p : PV} {v : V} {ks : List (Key × PV)} {gs : List (Key × V)} (h : Pr K H ks gs) (r : RV K H p v) : Pr K H (dput ks k p) (putK gs k v) := by
  have e : (ks.any fun kv => decide (kv.1 = k)) = (gs.any fun kv => decide (kv.1 = k)) := by
    rw [dget_any, valV_any]
    obtain ⟨h1, h2⟩ := h.dget (k := k)
    cases q : PX.dget ks k with
    | none => rw [h2 q]; rfl
    | some x => obtain ⟨u, hu, _⟩ := h1 x q; rw [hu]; rfl
  unfold PX.dput putK
  rw [e]
  split
  · exact h.map_put r
  · exact h.append (.cons r .nil)
def keyB (p : PV) (k : Key → Prop) : Prop := match p with
  | .int i => k (.inl i)
  | .str x => k (.inr x)
  | _ => False
theorem keyB_of {K : PySem.W.Frag} {H : Hp} {p : PV} {v : V} {k : Key → Prop} (r : RV K H p v) (h : keyB p k) : ∃ q, v = kV q ∧ p = keyP q ∧ k q := by
  cases r with
  | int i => exact ⟨.inl i, rfl, rfl, h⟩
  | str x => exact ⟨.inr x, rfl, rfl, h⟩
  | _ => exact h.elim
def wDcL (ok : Sto → Prop) (g : Tg) (t : WT) (wk wv : WE) (ρ0 : Slots) (k : List (Key × PV) → Sto → Prop) : List PV → List (Key × PV) → Sto → Prop
  | [], acc, S => ok S ∧ k acc S
  | x :: r, acc, S => ok S ∧ asg g x ρ0 S fun ρ' => t ρ' S (fun b S2 => if b = true then wk ρ' S2 (fun y S3 => wv ρ' S3 (fun z S4 => keyB y fun q => acc.length < sizeLine ∧ wDcL ok g t wk wv ρ0 k r (dput acc q z) S4) Z0) Z0 else wDcL ok g t wk wv ρ0 k r acc S2) Z0
def wDc (wi : WI) (g : Tg) (t : WT) (wk wv : WE) (own : List Nat) : WE := fun ρ S R Z => wi ρ S (fun items ok S1 => wDcL ok g t wk wv (wipeP ρ own) (fun ks S2 => R (.dct ks) S2) items [] S1) Z
theorem wDcL_ok {ok : Sto → Prop} {g : Tg} {t : WT} {wk wv : WE} {ρ0 : Slots} {k : List (Key × PV) → Sto → Prop} {items : List PV} {acc : List (Key × PV)} {S : Sto} (h : wDcL ok g t wk wv ρ0 k items acc S) : ok S := by
  cases items with
  | nil => exact h.1
  | cons x r => exact h.1
section
variable {X : Cx} {L : Lc} {kx vx tg iter c : Expr} {wk wv : WE} {wi : WI} {t : WT} {g : Tg} {pos : Pos}
theorem dc_lift {own : List Nat} {σ : L2.St} {H : Hp} {Q : VK} (ho : ∀ i ∈ g.ixs, i ∈ own) (h : LE X.K L (wDc wi g t wk wv own) σ H Q) : tDc (LI X.K L wi) (gTg X.K g) (LT X.K L.in_ t) (LE X.K L.in_ wk) (LE X.K L.in_ wv) own σ H (gK Q) := by
  obtain ⟨ρ, S, R, Z, A, h, q, hZ⟩ := h
  refine ⟨ρ, S, _, Z, A, h, fun items ok S1 J H1 i st yl h1 D hD => ?_, hZ⟩
  have sD : S1 D = none := st.free hD
  refine ⟨fun j m H2 => m = items.length - j ∧ j ≤ items.length ∧ ∃ S2 acc accV, Fr S1 H1 S2 H2 ∧ RSK X.K L H2 S2 ∧ H2 D = some (.dK accV) ∧ Pr X.K H2 acc accV ∧ S2 D = none ∧ wDcL ok g t wk wv (wipeP ρ own) (fun ys S2 => R (.dct ys) S2) (items.drop j) acc S2,
    ⟨_, rfl, Nat.zero_le _, S1, [], [], .grow (grow_upd hD), st.grow (grow_upd hD), upd_same, .nil, sD, h1⟩, ?_⟩
  rintro j m H2 ⟨rfl, hj, S2, acc, accV, f2, st2, hD2, r2, sD2, h2⟩
  by_cases hlt : j < items.length
  · obtain ⟨x, hx⟩ : ∃ x, items[j]? = some x := ⟨_, List.getElem?_eq_getElem hlt⟩
    have hok := wDcL_ok h2
    rw [drop_cons hx] at h2
    obtain ⟨go, yd⟩ := yl.go j H2 S2 x hx f2.imm st2 hok
    refine .inr ⟨go, fun H' => ∃ S' acc' accV', Fr S1 H1 S' H' ∧ RSK X.K L H' S' ∧ H' D = some (.dK accV') ∧ Pr X.K H' acc' accV' ∧ S' D = none ∧ wDcL ok g t wk wv (wipeP ρ own) (fun ys S2 => R (.dct ys) S2) (items.drop (j + 1)) acc' S',
      fun H' h' => ⟨items.length - (j + 1), by omega, rfl, hlt, h'⟩, fun y H3 hy => gTg_wipe ho ?_⟩
    obtain ⟨gr, rv⟩ := yd y H3 hy
    have st3 := st2.grow gr
    have f3 : Fr S1 H1 S2 H3 := f2.trans (.grow gr)
    have A3 : At X.K L (L2.wipe σ own) H3 (wipeP ρ own) S2 := (A.fr (i.trans (f2.trans (.grow gr))) st3).wipe own
    refine asg_of A3 rv h2.2 fun ρ4 σ4 A4 h4 => ?_
    refine ⟨ρ4, S2, _, Z0, A4.in_, h4, fun b S5 H5 i5 st5 h5 => ?_, zc0⟩
    have hD5 : H5 D = some (.dK accV) := i5.keep D _ sD2 (gr _ _ hD2) trivial
    have sD5 : S5 D = none := i5.new D _ sD2 (gr _ _ hD2) trivial
    have f5 := f3.trans i5
    have r5 := (r2.imm (.of gr)).imm i5.imm
    cases b with
    | false => exact iteF ⟨S5, acc, accV, f5, st5, hD5, r5, sD5, h5⟩
    | true =>
      refine iteT ⟨ρ4, S5, _, Z0, (A4.in_.fr i5 st5), h5, fun y S6 v6 H6 i6 st6 ry h6 => ?_, zc0⟩
      refine ⟨ρ4, S6, _, Z0, ((A4.in_.fr i5 st5).fr i6 st6), h6, fun z S7 v7 H7 i7 st7 rz h7 => ?_, zc0⟩
      have f67 := i6.trans i7
      have hD7 : H7 D = some (.dK accV) := f67.keep D _ sD5 hD5 trivial
      have sD7 : S7 D = none := f67.new D _ sD5 hD5 trivial
      obtain ⟨q1, rfl, rfl, hz, h8⟩ := keyB_of ry h7
      have im8 : Imm H7 (upd H7 D (.dK (putK accV q1 v7))) := imm_upd hD7 trivial
      have r7 := r5.imm f67.imm
      have f7 := f5.trans f67
      exact ⟨accV, q1, rfl, hD7, by rw [← r7.length]; exact hz, S7, _, _, ⟨f7.imm.trans im8, fun a o n e t => by rw [upd_ne (by rintro rfl; rw [hD] at e; cases e)]; exact f7.keep a o n e t, f7.new⟩, st7.out sD7 hD7 trivial, upd_same, (r7.imm im8).dput (rz.imm im8), sD7, h8⟩
  · have e : j = items.length := by omega
    subst e
    rw [List.drop_length] at h2
    refine .inl ⟨yl.stop H2 S2 f2.imm st2 h2.1, fun a => a = D, fun a e => ⟨.dK accV, by cases e; exact hD2, trivial⟩, fun H' gh => ?_⟩
    obtain ⟨u, o, e1, _, e2⟩ := gh.ye D rfl
    rw [hD2] at e1; cases e1
    have fr' : Fr S1 H1 S2 H' := ⟨f2.imm.trans gh.imm, fun a o n e t => (gh.no a (by rintro rfl; rw [hD] at e; cases e)).trans (f2.keep a o n e t), f2.new⟩
    have r' := r2.imm gh.imm
    exact q _ S2 _ H' (i.trans fr') (gh.rs st2 (fun a o e => e) fun a e => by cases e; exact sD2) (.dct e2 r'.1 r'.2) h2.2
theorem de_dc {scope : Scope} {ifs : List Expr} (own : List (Str × Nat)) (hc : X.calm = true) (hN : X.N.Nodup) (hi : DI X L tg iter wi) (ok : BlkOk X.N X.env.scope scope own)
    (hg : ∀ (s : Shared) (H : Hp) (C : Addr) (cl : List (Str × Addr)) (fp : List Addr), TgOk (X.blk s H scope (compEnvC scope cl C X.env) fp) tg g) (ht : ∀ (s : Shared) (H : Hp) (C : Addr) (cl : List (Str × Addr)) (fp : List Addr), DTs (X.blk s H scope (compEnvC scope cl C X.env) fp) L.in_ ifs t)
    (hk : ∀ (s : Shared) (H : Hp) (C : Addr) (cl : List (Str × Addr)) (fp : List Addr), DE (X.blk s H scope (compEnvC scope cl C X.env) fp) L.in_ kx wk)
    (he : ∀ (s : Shared) (H : Hp) (C : Addr) (cl : List (Str × Addr)) (fp : List Addr), DE (X.blk s H scope (compEnvC scope cl C X.env) fp) L.in_ vx wv) (ho : ∀ i ∈ g.ixs, i ∈ own.map (·.2) := by decide) (hs : ∀ x, foldedSetIterable iter X.env x = pure x := by intro _; rfl) :
    DE X L (.DictComp kx vx [⟨tg, iter, ifs, 0⟩] scope pos) (wDc wi g t wk wv (own.map (·.2))) :=
  (pe_ghost (pe_dc (g := gTg X.K g) (tt := LT X.K L.in_ t) (tk := LE X.K L.in_ wk) (tv := LE X.K L.in_ wv) hc hN hi ok hg ht hk he hs)).imp fun σ H Q h => dc_lift ho h
end
end PX
end L2

namespace L2
namespace PX
open PySem PySem.Spec PyProof.Rows

def putP (f : Str) (v : PV) : List (Str × PV) → List (Str × PV)
  | [] => [(f, v)]
  | (g, w) :: r => if g = f then (g, v) :: r else (g, w) :: putP f v r
theorem putF_cons (f g : Str) (v w : V) (r : List (Str × V)) : putF f v ((g, w) :: r) = if g = f then (g, v) :: r else (g, w) :: putF f v r := by
  first
    | rfl
    | (unfold putF; rfl)
    | (simp [putF])
theorem Pr.putP {K : PySem.W.Frag} {H : Hp} {f : Str} {p : PV} {v : V} (r : RV K H p v) : ∀ {ks : List (Str × PV)} {gs : List (Str × V)}, Pr K H ks gs → Pr K H (putP f p ks) (putF f v gs)
  | [], gs, h => by
    cases gs with
    | nil => exact .cons r .nil
    | cons g gs => have := h.1; simp at this
  | (k', x) :: ks, gs, h => by
    obtain ⟨u, gs', rfl, r', h'⟩ := h.un
    rw [putF_cons]
    unfold PX.putP
    by_cases e : k' = f
    · rw [if_pos e, if_pos e]; exact .cons r h'
    · rw [if_neg e, if_neg e]; exact .cons r' (Pr.putP r h')
theorem Pr.look {K : PySem.W.Frag} {H : Hp} {f : Str} : ∀ {ks : List (Str × PV)} {gs : List (Str × V)}, Pr K H ks gs → (∀ p, ks.lookup f = some p → ∃ v, gs.lookup f = some v ∧ RV K H p v) ∧ (ks.lookup f = none → gs.lookup f = none)
  | [], gs, h => by
    cases gs with
    | nil => exact ⟨fun p e => by simp at e, fun _ => rfl⟩
    | cons g gs => have := h.1; simp at this
  | (k', x) :: ks, gs, h => by
    obtain ⟨u, gs', rfl, r', h'⟩ := h.un
    rw [List.lookup_cons, List.lookup_cons]
    cases e : f == k' with
    | true => exact ⟨fun p q => by cases q; exact ⟨u, rfl, r'⟩, fun q => by cases q⟩
    | false => exact Pr.look h'
section
variable {X : Cx} {L : Lc} {pins : List (Addr × Obj)} {σ : L2.St} {H : Hp} {s : Shared} {a C dx : Addr} {A : Around} {E : Value → Shared → Prop}
theorem ins_getR {P : Program} {w : World} {h : Heap} {fs : List (Str × V)} (hok : HOk P w H h) (e : Rd H a (.ins C dx fs)) : ∃ mA, ObjM h a dx C mA ∧ (∀ f, RelO (fs.lookup f) (mA f)) ∧ PySem.Within mA (fs.map (·.1)) ∧ fs.length ≤ 1000 := by
  obtain ⟨d, z, ne, ob, mA, n, r, q⟩ := (show ObjOk P w H h a (.ins C dx fs) from e.ok hok)
  exact ⟨mA, ⟨ob, n, ne⟩, r, q, z⟩
theorem getattr_R {b : Bool} {f : Str} {v : V} {fs : List (Str × V)} {Q : Value → Shared → Prop} (I : Inv X pins σ H s) (e : Rd H a (.ins C dx fs)) (c : Cls X.K C) (n : NoAttr X.K C f) (l : fs.lookup f = some v)
    (h : ∀ u s', Inv X pins σ H s' → RelV v u → Q u s') : wpAny (model X.prog X.w) A (getAttr (.ref a) f b) Q E s := by
  obtain ⟨mA, O, r, _, _⟩ := ins_getR I.hok e
  obtain ⟨u, hu, ru⟩ := RelO.some_of (v := v) (o := mA f) (by rw [← l]; exact r f)
  exact get_map I.kIn O (c.get f) c.hd n hu (handed_of ru) (h u _ (I.tok _) ru)
theorem getmeth_R {m : Str} {g : Addr} {fs : List (Str × V)} {pl : Sem Bool} {Q : Value × List Value → Shared → Prop} (I : Inv X pins σ H s) (e : Rd H a (.ins C dx fs)) (c : Cls X.K C) (k : Meth X.K C m g) (l : fs.lookup m = none)
    (h : Q (.ref g, [.ref a]) s) : wpAny (model X.prog X.w) A (getMethod (.ref a) m pl) Q E s := by
  obtain ⟨mA, O, r, _, _⟩ := ins_getR I.hok e
  have hn : mA m = none := RelO.none_of (by rw [← l]; exact r m)
  exact get_meth I.kIn O (c.get m) k.at_ k.fn hn h
/-- an instance to be read -/
theorem rd_obj {S : Sto} {p : PV} {v : V} {fs : List (Str × PV)} (st : RSK X.K L H S) (r : RV X.K H p v) (e : dr S p = .obj C fs) : ∃ a dx gs, v = .ref a ∧ Rd H a (.ins C dx gs) ∧ Pr X.K H fs gs := by
  cases r with
  | ref a =>
    rcases dr_ref (S := S) (a := a) with ⟨ys, h1, h2⟩ | ⟨ys, h1, h2⟩ | ⟨C, fs, h1, h2⟩ | ⟨h1, h2⟩
    · rw [h2] at e; cases e
    · rw [h2] at e; cases e
    · rw [h2] at e; cases e
      obtain ⟨dx, gs, h3, h4⟩ := st.mo a _ h1
      exact ⟨a, dx, gs, rfl, .inl h3, h4⟩
    · rw [h2] at e; cases e
  | obj h e1 hr => cases e; exact ⟨_, _, _, rfl, .inr ⟨_, h⟩, e1, hr⟩
  | _ => cases e
end
/-- fields of classes of ours -/
def fldK (f : Str) (p : PV) (S : Sto) (R : RK) (ok : Addr → Prop) : Prop := match dr S p with
  | .obj C fs => ok C ∧ match fs.lookup f with
    | some v => R v S
    | none => False
  | _ => False
def wFld (Cs : List Addr) (f : Str) (we : WE) : WE := fun ρ S R Z => we ρ S (fun p S' => fldK f p S' R (· ∈ Cs)) Z
theorem fldK_of {f : Str} {p : PV} {S : Sto} {R : RK} {ok : Addr → Prop} (h : fldK f p S R ok) : ∃ C fs v, dr S p = .obj C fs ∧ ok C ∧ fs.lookup f = some v ∧ R v S := by
  unfold fldK at h
  cases e : dr S p with
  | obj C fs =>
    rw [e] at h
    obtain ⟨h1, h2⟩ := h
    cases q : fs.lookup f with
    | some v => simp only [q] at h2; exact ⟨C, fs, v, rfl, h1, q, h2⟩
    | none => simp only [q] at h2
  | _ => rw [e] at h; exact h.elim
section
variable {X : Cx} {L : Lc} {o e value a : Expr} {f m : Str} {pos pos' apos p : Pos} {we wo wv : WE} {es : List Expr} {wr : WA} {k : PSp}
theorem de_fld (Cs : List Addr) (hc : ∀ C ∈ Cs, Cls X.K C ∧ NoAttr X.K C f) (he : DE X L e we) (hb : attributeBase e f X.env (eval e X.env) = eval e X.env := by rfl) : DE X L (.Attribute e f pos) (wFld Cs f we) := by
  refine ⟨fun pins s σ H Q I ⟨ρ, S, R, Z, A, h, q, hZ⟩ => ?_⟩
  refine attr_of hb (lone he I A h hZ fun u s1 x H1 p S1 I1 rx i A1 r hk => ?_)
  obtain ⟨C, fs, v, e1, hC, l, hR⟩ := fldK_of hk
  obtain ⟨a, dx, gs, rfl, rd, pr⟩ := rd_obj (X := X) (L := L) A1.st r e1
  obtain rfl : u = Value.ref a := rx
  obtain ⟨v', l', rv⟩ := (pr.look (f := f)).1 v l
  exact getattr_R I1 rd (hc C hC).1 (hc C hC).2 l' fun u' s2 I2 ru => ⟨v', H1, I2, ru, q v S1 v' H1 i A1.st rv hR⟩
/-- o.f = e -/
def setFK (f : Str) (o v : PV) (S : Sto) (k : Sto → Prop) (ok : Addr → Prop) : Prop := match o with
  | .ref a => match S a with
    | some (.ins C fs) => ok C ∧ fs.length < 1000 ∧ k (updS S a (.ins C (putP f v fs)))
    | _ => False
  | _ => False
theorem setFK_of {f : Str} {o v : PV} {S : Sto} {k : Sto → Prop} {ok : Addr → Prop} (h : setFK f o v S k ok) : ∃ a C fs, o = .ref a ∧ S a = some (.ins C fs) ∧ ok C ∧ fs.length < 1000 ∧ k (updS S a (.ins C (putP f v fs))) := by
  unfold setFK at h
  cases o with
  | ref a =>
    dsimp only at h
    cases e : S a with
    | none => simp only [e] at h
    | some m =>
      cases m with
      | ins C fs => simp only [e] at h; exact ⟨a, C, fs, rfl, e, h⟩
      | _ => simp only [e] at h
  | _ => exact h.elim
def wSetF (Cs : List Addr) (f : Str) (wo wv : WE) : WS := fun P ρ S => wv ρ S (fun v S1 => wo ρ S1 (fun o S2 => setFK f o v S2 (fun S3 => P.nx ρ S3) (· ∈ Cs)) (fun e S' => P.ex e ρ S')) (fun e S' => P.ex e ρ S')
theorem ds_setF (Cs : List Addr) (hc : ∀ C ∈ Cs, Cls X.K C ∧ NoAttr X.K C f) (ho : DE X L o wo) (hv : DE X L value wv) (hs : swapsWith value (some (.Attribute o f pos')) pos.line X.env = pure false := by rfl) : DS X L (.Assign [.Attribute o f pos'] value pos) (wSetF Cs f wo wv) :=
  (ps_fld ho hv hs).imp fun D σ H ⟨ρ, S, P, A, h, E⟩ => by
  refine ⟨ρ, S, _, _, A, h, fun v S1 vv H1 i1 st1 rv h1 => ?_, E.zc A⟩
  refine ⟨ρ, S1, _, _, A.fr i1 st1, h1, fun o S2 ov H2 i2 st2 ro h2 => ?_, (E.zc A).fr i1⟩
  obtain ⟨a, C, fs, rfl, e, hC, hl, hk⟩ := setFK_of h2
  cases ro
  obtain ⟨dx, gs, h3, pr⟩ := st2.mo a _ e
  have im : Imm H2 (upd H2 a (.ins C dx (putF f vv gs))) := imm_upd h3 trivial
  have f3 : Fr S2 H2 (updS S2 a (.ins C (PX.putP f v fs))) (upd H2 a (.ins C dx (putF f vv gs))) := .put h3 trivial (by rw [e]; simp)
  have st3 : RSK X.K L (upd H2 a (.ins C dx (putF f vv gs))) (updS S2 a (.ins C (PX.putP f v fs))) := st2.put h3 trivial ⟨dx, _, upd_same, (pr.imm im).putP ((rv.imm i2.imm).imm im)⟩
  exact ⟨a, C, dx, gs, rfl, h3, (hc C hC).1, (hc C hC).2, by rw [← pr.length]; exact hl, E.nx ρ _ σ _ ((i1.trans i2).trans f3) (A.fr ((i1.trans i2).trans f3) st3) hk⟩
/-- o.m(..) of a class of ours -/
def methK (m : Str) (p : PV) (S : Sto) (ok : Addr → Prop) : Prop := match dr S p with
  | .obj C fs => ok C ∧ fs.lookup m = none
  | _ => False
theorem methK_of {m : Str} {p : PV} {S : Sto} {ok : Addr → Prop} (h : methK m p S ok) : ∃ C fs, dr S p = .obj C fs ∧ ok C ∧ fs.lookup m = none := by
  unfold methK at h
  cases e : dr S p with
  | obj C fs => rw [e] at h; exact ⟨C, fs, rfl, h⟩
  | _ => rw [e] at h; exact h.elim
def wMeth (C : Addr) (m : Str) (k : PSp) (wo : WE) (wr : WA) : WE := fun ρ S R Z => wo ρ S (fun p S1 => methK m p S1 (· = C) ∧ wr ρ S1 (fun ps S2 => k (p :: ps) S2 R Z) Z) Z
theorem de_meth {pl : Sem Bool} {C g : Addr} (cl : Cls X.K C) (hm : Meth X.K C m g) (hk : CallP X L (.ref g) k) (ho : DE X L o wo) (ha : DA X L (e :: es) wr)
    (hst : starEach (e :: es) X.env = (false, eval e X.env) :: starEach es X.env := by rfl) (hpl : (backTo pos (starEach es X.env)).any (·.1) = false := by rfl)
    (ht : eval (.Call (.Attribute o m apos) (e :: es) [] pos) X.env = (do
      let ov ← eval o X.env
      standAt apos.atName
      let (f, first) ← holding [ov] (getMethod ov m pl)
      callWith pos f first (backTo pos (starEach (e :: es) X.env)) (backToKw pos (keywordEach [] X.env))) := by first | rfl | exact mcall_line rfl rfl) : DE X L (.Call (.Attribute o m apos) (e :: es) [] pos) (wMeth C m k wo wr) := by
  refine ⟨fun pins s σ H Q I ⟨ρ, S, R, Z, A, h, q, hZ⟩ => ?_⟩
  refine PySem.W.methodCall_KW (pl := pl) (lone ho I A h hZ fun u s1 x H1 p S1 I1 rx i A1 r ⟨hmk, hk1⟩ => ?_) ht
  obtain ⟨C', fs, e1, rfl, l⟩ := methK_of hmk
  obtain ⟨a, dx, gs, rfl, rd, pr⟩ := rd_obj (X := X) (L := L) A1.st r e1
  obtain rfl : u = Value.ref a := rx
  refine getmeth_R I1 rd cl hm ((pr.look (f := m)).2 l) ?_
  refine PySem.W.callWith_K (first := [.ref a]) (h₀ := X.base) I.ok.mod.kin hm.kp (largs (k := fun ps S2 R Z => k (p :: ps) S2 R Z) ha I1 A1 hk1 (q.fr i) (hZ.fr i) pos fun us s2 xs ps S2 H2 I2 i2 rv st j rr hk2 q2 z2 => ⟨I2.kIn, ?_⟩) hst hpl
  exact hk pins s2 σ H2 (.ref a :: xs) (.ref a :: us) (p :: ps) S2 R Z Q I2 (.cons rfl rv) st j (.cons (r.imm i2.imm) rr) hk2 q2 z2
/-- C(..): a new instance, its __init__, then the ghost -/
def kMake (C : Addr) (sp : PSp) : PSp := fun ps S R Z => ∀ x, S x = none → sp (.ref x :: ps) (updS S x (.ins C [])) (fun v S2 => v = .non ∧ gR R (.ref x) S2) Z
theorem call_make {C f : Addr} {lv n : Nat} {fd : FuncData} {pn : List Str} {sp : PSp} (M : Mk X.K C f) (tk : Takes X L.W) (F : FnOk X.prog X.w X.K X.mg X.base (CX X.prog X.w) lv f fd pn (spL X.K L.T (n + 1) sp)) (hr : Room (lv + 1) X.A) (hb : Binds X.K fd pn []) :
    CallP X L (.ref C) (arN n (kMake C sp)) := by
  intro pins s σ H xs us ps S R Z Q I rv st j r ⟨hn, hk⟩ q z
  have hx0 : H (s.heap.objs.size + 1) = none := I.hok.fresh (Nat.le_succ _)
  have hd0 : H s.heap.objs.size = none := I.hok.fresh (Nat.le_refl _)
  have ne : s.heap.objs.size + 1 ≠ s.heap.objs.size := Nat.succ_ne_self _
  have I2 := Inv.made (C := C) I
  have g1 : Grow H (upd H s.heap.objs.size (.own (s.heap.objs.size + 1))) := grow_upd hd0
  have hx1 : upd H s.heap.objs.size (.own (s.heap.objs.size + 1)) (s.heap.objs.size + 1) = none := by rw [upd_ne ne]; exact hx0
  have st2 : RSK X.K L (upd (upd H s.heap.objs.size (.own (s.heap.objs.size + 1))) (s.heap.objs.size + 1) (.ins C s.heap.objs.size [])) (updS S (s.heap.objs.size + 1) (.ins C [])) :=
    (st.grow g1).new (m := .ins C []) hx1 ⟨_, [], upd_same, .nil⟩
  have f2 : Fr S H (updS S (s.heap.objs.size + 1) (.ins C [])) (upd (upd H s.heap.objs.size (.own (s.heap.objs.size + 1))) (s.heap.objs.size + 1) (.ins C s.heap.objs.size [])) := (Fr.grow g1).trans (.fresh hx1)
  have hs := hk _ (st.free hx0)
  have r2 : Vals (V.ref (s.heap.objs.size + 1) :: xs) (Value.ref (s.heap.objs.size + 1) :: us) := .cons rfl rv
  have hlp : xs.length = ps.length := r.length.symm
  have hsp : spL X.K L.T (n + 1) sp (V.ref (s.heap.objs.size + 1) :: xs) (upd (upd H s.heap.objs.size (.own (s.heap.objs.size + 1))) (s.heap.objs.size + 1) (.ins C s.heap.objs.size [])) (fun v H' => v = .non ∧ gK Q (.ref (s.heap.objs.size + 1)) H') (fun cls d H => L.W cls d σ H) := by
    refine ⟨?_, _, _, _, Z, .cons (.ref _) (r.imm f2.imm), st2, hs, fun p S' v H' f st' rp ⟨ep, hg⟩ => ?_, fun e S' cls d H' f st' rx hz => z e S' cls d H' (f2.trans f) st' rx hz⟩
    · simp [hlp, hn]
    · subst ep
      cases rp
      exact ⟨rfl, vc_ghost (q.fr f2) (.ref _) S' (.ref _) H' f st' (.ref _) hg⟩
  have hl : (Value.ref (s.heap.objs.size + 1) :: us ++ []).length = pn.length := by
    have e := F.len _ _ _ _ hsp
    rw [List.append_nil, ← e, ← r2.length]
  refine wpAny_call (make_map (f := f) I.kIn M.makes M.init (beq_iff_eq.mp M.fn) (codeAny_mono (F.run _ X.stack _ _ ⟨Value.ref (s.heap.objs.size + 1) :: us, []⟩ (Value.ref (s.heap.objs.size + 1) :: us) _ _ _ (hr.make C us [])
    (I2.env0.make C us []) (by have := hb _ (Value.ref (s.heap.objs.size + 1) :: us) I2.kIn hl; rwa [List.append_nil] at this) r2 hsp) fun r s' hq' => ?_))
  cases r with
  | error e => exact passAt tk σ pins _ _ e s' I2 hq'
  | ok fl =>
    cases fl with
    | ret u =>
      obtain ⟨v, H', I3, rv', ev, A, hA, k3⟩ := I2.after hq'
      subst ev
      obtain ⟨H'', g3, I4⟩ := Inv.gst I3 A hA
      exact ⟨rv', ⟨V.ref (s.heap.objs.size + 1), H'', I4, rfl, k3 H'' g3⟩⟩
    | next => exact False.elim hq'
    | brk => exact False.elim hq'
    | cont => exact False.elim hq'
end
end PX
end L2

namespace L2
namespace PX
open PySem PySem.Spec PyProof.Rows
theorem VC.now {K : PySem.W.Frag} {L : Lc} {S : Sto} {H : Hp} {R : RK} {Q : VK} {p : PV} {v : V} (q : VC K L S H R Q) (st : RSK K L H S) (r : RV K H p v) (h : R p S) : Q v H := q p S v H (.refl S H) st r h
/-- a new frozen list -/
theorem VC.newL {K : PySem.W.Frag} {L : Lc} {S : Sto} {H : Hp} {R : RK} {Q : VK} {xs : List PV} {vs : List V} {a : Addr} (q : VC K L S H R Q) (st : RSK K L H S) (r : RVs K H xs vs) (ha : H a = none) (h : R (.lst xs) S) : gK Q (.ref a) (upd H a (.lst vs)) := by
  have hs : S a = none := st.free ha
  have g0 : Grow H (upd H a (.lst vs)) := grow_upd ha
  refine ⟨fun b => b = a, fun b e => ⟨.lst vs, by cases e; exact upd_same, trivial⟩, fun H' gh => ?_⟩
  obtain ⟨u, o, e1, _, e2⟩ := gh.ye a rfl
  rw [upd_same] at e1; cases e1
  have g : Grow H H' := fun b o' e => by
    have n : b ≠ a := ne_of_none e ha
    rw [gh.no b n]; exact g0 b o' e
  exact q _ S _ H' (.grow g) (st.grow g) (.lst (.inl ⟨o, e2⟩) (r.imm (.of g))) h
/-- a new tuple -/
theorem VC.newT {K : PySem.W.Frag} {L : Lc} {S : Sto} {H : Hp} {R : RK} {Q : VK} {xs : List PV} {vs : List V} {a : Addr} (q : VC K L S H R Q) (st : RSK K L H S) (r : RVs K H xs vs) {o : Obj} (hd : o.dict = none) (ha : H a = none) (h : R (.tup xs) S) : Q (.ref a) (upd H a (.frz o (.tup vs))) :=
  q _ S _ _ (.grow (grow_upd ha)) (st.grow (grow_upd ha)) (.tup SqT.ofF (.new hd) (r.imm (.of (grow_upd ha)))) h
section
variable {X : Cx} {L : Lc} {pins : List (Addr × Obj)} {s : Shared} {σ : L2.St} {H : Hp} {Q : VK} {v : Value}
theorem ghostR {m : Sem Value} (h : wpAny (model X.prog X.w) X.A m (EP X pins σ (gK Q)) X.xe s) : wpAny (model X.prog X.w) X.A m (EP X pins σ Q) X.xe s :=
  thn h fun u s1 ⟨v, H1, I1, r, A, hA, k⟩ => by
    obtain ⟨H', g, I'⟩ := Inv.gst I1 A hA
    exact ⟨v, H', I', r, k H' g⟩
theorem opr_ghost {f : Value → Value → Sem Value} {r : R2} (ho : OpR X f r) : OpR X f (fun x y H Q => r x y H (gK Q)) := fun pins s σ H x y v u Q I rx ry h => ghostR (ho pins s σ H x y v u (gK Q) I rx ry h)
end
section
variable {X : Cx} {L : Lc} {H : Hp} {S : Sto} {p : PV} {v : V}
theorem d_int {i : Int} (r : RV X.K H p v) (e : dr S p = .int i) : v = .int i := (rd_flat (X := X) (S := S) r).1 i e
theorem d_str {i : Str} (r : RV X.K H p v) (e : dr S p = .str i) : v = .str i := (rd_flat (X := X) (S := S) r).2.1 i e
theorem d_bl {i : Bool} (r : RV X.K H p v) (e : dr S p = .bl i) : v = .bl i := (rd_flat (X := X) (S := S) r).2.2.1 i e
theorem d_non (r : RV X.K H p v) (e : dr S p = .non) : v = .non := (rd_flat (X := X) (S := S) r).2.2.2.1 e
theorem dr_non {p : PV} (h : ∀ a, p ≠ .ref a) : dr S p = p := by cases p <;> first | rfl | exact absurd rfl (h _)
end
/-- list + list, any two that are read -/
def rCatL (K : PySem.W.Frag) : R2 := fun x y H Q => ∃ l b xs zs, x = .ref l ∧ y = .ref b ∧ SqL K H l xs ∧ SqL K H b zs ∧ xs.length + zs.length ≤ sizeLine ∧ ∀ p, H p = none → Q (.ref p) (upd H p (.lst (xs ++ zs)))
theorem op_catL {X : Cx} : OpR X (binaryOp .Add) (rCatL X.K) := by
  intro pins s σ H x y v u Q I rx ry h
  obtain ⟨l, b, xs, zs, rfl, rfl, hH, hB, hz, q⟩ := h
  cases rx
  cases ry
  obtain ⟨its, r, pl, _⟩ := I.list hH
  obtain ⟨its2, r2, pl2, _⟩ := I.list hB
  obtain ⟨⟨cls, dd, data, sl⟩, ho, hc, n, hd⟩ := pl.isList
  obtain ⟨⟨cls2, dd2, data2, sl2⟩, ho2, hc2, n2, hd2⟩ := pl2.isList
  simp only at hc hd hc2 hd2
  subst hc hd hc2 hd2
  have h1 := r.length
  have h2 := r2.length
  have e : its.toArray ++ its2.toArray = (its ++ its2).toArray := by simp
  refine concat_meets ⟨_, ho, rfl⟩ ⟨_, ho2, rfl⟩ noFill_list_add seq_list_add PySem.F.slot_list_add PySem.F.entry_list_add (PySem.F.args_list_add_2 _ _) (list_addW l b its.toArray its2.toArray n n2 dd dd2 sl sl2 (by simp only [List.size_toArray]; omega)) ⟨ho, ho2, ?_⟩
  rw [e]
  exact ⟨.ref _, _, I.lnew (t' := s.toks) (r.append r2) (by rw [List.length_append]; omega), rfl, q _ I.fresh⟩
/-- t + u, the new one's object known -/
def rCatD (K : PySem.W.Frag) : R2 := fun x y H Q => ∃ a b xs ys, x = .ref a ∧ y = .ref b ∧ SqT K H a xs ∧ SqT K H b ys ∧ xs.length + ys.length ≤ sizeLine ∧ (xs = [] → Q (.ref b) H) ∧ (xs ≠ [] → ys = [] → Q (.ref a) H) ∧ (xs ≠ [] → ys ≠ [] → NewT Q H (xs ++ ys))
theorem op_catD {X : Cx} : OpR X (binaryOp .Add) (rCatD X.K) := by
  intro pins s σ H x y v u Q I rx ry ⟨a, b, xs, ys, ex, ey, ha, hb, hz, q0, q1, q2⟩
  by_cases w : xs = [] ∨ ys = []
  · exact op_catA pins s σ H x y v u Q I rx ry ⟨a, b, xs, ys, ex, ey, ha, hb, hz, q0, q1, fun n1 n2 => (w.elim n1 n2).elim⟩
  · obtain ⟨n1, n2⟩ := not_or.mp w
    subst ex ey
    cases rx
    cases ry
    obtain ⟨us, r1, t1, _⟩ := I.tuple ha
    obtain ⟨ws, r2, t2, _⟩ := I.tuple hb
    have hz2 : (xs ++ ys).length ≤ sizeLine := by rw [List.length_append]; exact hz
    exact HT.cat_tup t1 t2 (fun z => n1 (r1.nil_iff.mp z)) (fun z => (n2 (r2.nil_iff.mp z)).elim) (fun _ => ⟨.ref s.heap.objs.size, _, tup_laid I (r1.append r2) hz2, rfl, q2 n1 n2 _ _ rfl (I.hok.fresh (Nat.le_refl _))⟩) (by rw [← r1.length, ← r2.length]; exact hz)
def kAdd : K2 := fun p q S R => match dr S p, dr S q with
  | .int i, .int j => R (.int (i + j)) S
  | .str x, .str y => x.length + y.length ≤ sizeLine ∧ R (.str (x ++ y)) S
  | .tup xs, .tup ys => xs.length + ys.length ≤ sizeLine ∧ R (.tup (xs ++ ys)) S
  | .lst xs, .lst ys => xs.length + ys.length ≤ sizeLine ∧ R (.lst (xs ++ ys)) S
  | _, _ => False
section
variable {X : Cx} {L : Lc}
theorem o_add : Op2 X L (binaryOp .Add) kAdd := by
  intro pins s σ H x y v u p q S R Q I rx ry st r1 r2 hk hq
  unfold kAdd at hk
  split at hk
  · rename_i i j e1 e2
    have := d_int r1 e1
    have := d_int r2 e2
    subst x y
    exact op_add pins s σ H _ _ v u Q I rx ry ⟨i, j, rfl, rfl, hq.now st (.int _) hk⟩
  · rename_i i j e1 e2
    have := d_str r1 e1
    have := d_str r2 e2
    subst x y
    exact op_add_str pins s σ H _ _ v u Q I rx ry ⟨i, j, rfl, rfl, hk.1, hq.now st (.str _) hk.2⟩
  · rename_i xs ys e1 e2
    obtain ⟨a, vs, rfl, h1, d1, h2⟩ := rd_tupD (X := X) r1 e1
    obtain ⟨b, ws, rfl, h3, d3, h4⟩ := rd_tupD (X := X) r2 e2
    refine op_catD pins s σ H _ _ v u Q I rx ry ⟨a, b, vs, ws, rfl, rfl, h1, h3, by rw [← h2.length, ← h4.length]; exact hk.1, fun e => ?_, fun _ e => ?_, fun _ _ p o hd hp => hq.newT st (h2.append h4) hd hp hk.2⟩
    · subst e; cases h2; exact hq.now st (.tup h3 d3 h4) hk.2
    · subst e; cases h4
      have h6 := hk.2
      rw [List.append_nil] at h6
      exact hq.now st (.tup h1 d1 h2) h6
  · rename_i xs ys e1 e2
    obtain ⟨a, vs, rfl, h1, h2⟩ := rd_lst (X := X) st r1 e1
    obtain ⟨b, ws, rfl, h3, h4⟩ := rd_lst (X := X) st r2 e2
    exact opr_ghost op_catL pins s σ H _ _ v u Q I rx ry ⟨a, b, vs, ws, rfl, rfl, h1, h3, by rw [← h2.length, ← h4.length]; exact hk.1, fun p hp => hq.newL st (h2.append h4) hp hk.2⟩
  · exact hk.elim
/-- ints alone -/
def kI (C : Int → Int → Prop) (g : Int → Int → PV) : K2 := fun p q S R => match dr S p, dr S q with
  | .int i, .int j => C i j ∧ R (g i j) S
  | _, _ => False
theorem o_I {f : Value → Value → Sem Value} {C : Int → Int → Prop} {g : Int → Int → V} {g' : Int → Int → PV} (ho : OpR X f (rI C g)) (hg : ∀ K H i j, RV K H (g' i j) (g i j)) : Op2 X L f (kI C g') := by
  intro pins s σ H x y v u p q S R Q I rx ry st r1 r2 hk hq
  unfold kI at hk
  split at hk
  · rename_i i j e1 e2
    have := d_int r1 e1
    have := d_int r2 e2
    subst x y
    exact ho pins s σ H _ _ v u Q I rx ry ⟨i, j, rfl, rfl, hk.1, hq.now st (hg _ _ _ _) hk.2⟩
  · exact hk.elim
def kSub : K2 := kI (fun _ _ => True) fun i j => .int (i - j)
def kMul : K2 := kI CMul fun i j => .int (i * j)
def kDiv : K2 := kI CDiv fun i j => .int (i / j)
def kMod : K2 := kI (fun _ j => 0 < j) fun i j => .int (i % j)
def kPow : K2 := kI CPow fun i j => .int (i ^ j.toNat)
theorem rI_of {g : Int → Int → V} {f : Value → Value → Sem Value} (h : OpR X f (rI0 g)) : OpR X f (rI (fun _ _ => True) g) := fun pins s σ H x y v u Q I rx ry ⟨i, j, a, b, _, q⟩ => h pins s σ H x y v u Q I rx ry ⟨i, j, a, b, q⟩
theorem o_sub : Op2 X L (binaryOp .Sub) kSub := o_I (rI_of op_sub) fun _ _ _ _ => .int _
theorem o_mul : Op2 X L (binaryOp .Mult) kMul := o_I op_mul fun _ _ _ _ => .int _
theorem o_div : Op2 X L (binaryOp .FloorDiv) kDiv := o_I op_fdiv fun _ _ _ _ => .int _
theorem o_mod : Op2 X L (binaryOp .Mod) kMod := o_I op_mod fun _ _ _ _ => .int _
theorem o_pow : Op2 X L (binaryOp .Pow) kPow := o_I op_pow fun _ _ _ _ => .int _
def kNeg : K1 := fun p S R => match dr S p with
  | .int i => R (.int (-i)) S
  | _ => False
theorem o_neg : Op1 X L (unaryOp .USub) kNeg := by
  intro pins s σ H x v p S R Q I rx st r hk hq
  unfold kNeg at hk
  split at hk
  · rename_i i e
    have := d_int r e
    subst x
    exact un_neg pins s σ H _ v Q I rx ⟨i, rfl, hq.now st (.int _) hk⟩
  · exact hk.elim

/-- the order of texts -/
def ltS (a b : Str) : Bool := decide (a.cps.toList < b.cps.toList)
def kOrd (f : Int → Int → Bool) (g : Str → Str → Bool) : K2 := fun p q S R => match dr S p, dr S q with
  | .int i, .int j => R (.bl (f i j)) S
  | .str i, .str j => R (.bl (g i j)) S
  | _, _ => False
theorem o_ord {op : Value → Value → Sem Value} {f : Int → Int → Bool} {g : Str → Str → Bool} (hI : OpR X op (rI0 fun i j => .bl (f i j))) (hS : OpR X op (fun x y H Q => ∃ i j, x = .str i ∧ y = .str j ∧ Q (.bl (g i j)) H)) : Op2 X L op (kOrd f g) := by
  intro pins s σ H x y v u p q S R Q I rx ry st r1 r2 hk hq
  unfold kOrd at hk
  split at hk
  · rename_i i j e1 e2
    have := d_int r1 e1
    have := d_int r2 e2
    subst x y
    exact hI pins s σ H _ _ v u Q I rx ry ⟨i, j, rfl, rfl, hq.now st (.bl _) hk⟩
  · rename_i i j e1 e2
    have := d_str r1 e1
    have := d_str r2 e2
    subst x y
    exact hS pins s σ H _ _ v u Q I rx ry ⟨i, j, rfl, rfl, hq.now st (.bl _) hk⟩
  · exact hk.elim
def kLt : K2 := kOrd (fun i j => decide (i < j)) fun a b => ltS a b
def kLe : K2 := kOrd (fun i j => decide (i ≤ j)) fun a b => !ltS b a
def kGt : K2 := kOrd (fun i j => decide (j < i)) fun a b => ltS b a
def kGe : K2 := kOrd (fun i j => decide (j ≤ i)) fun a b => !ltS a b
theorem o_lt : Op2 X L (compareOp .Lt) kLt := o_ord op_lt op_lt_str
theorem o_le : Op2 X L (compareOp .LtE) kLe := o_ord op_le op_le_str
theorem o_gt : Op2 X L (compareOp .Gt) kGt := o_ord op_gt op_gt_str
theorem o_ge : Op2 X L (compareOp .GtE) kGe := o_ord op_ge op_ge_str

def kIs (neg : Bool) : K2 := fun p q S R => match q with
  | .non => match p with
    | .ty _ => False
    | .non => R (.bl (!neg)) S
    | _ => R (.bl neg) S
  | _ => False
theorem rv_non {H : Hp} {p : PV} {v : V} (r : RV X.K H p v) : (p = .non ↔ v = .non) := by cases r <;> simp
theorem kIs_of {neg : Bool} {p q : PV} {S : Sto} {R : RK} (h : kIs neg p q S R) : q = .non ∧ ((p = .non ∧ R (.bl (!neg)) S) ∨ (p ≠ .non ∧ R (.bl neg) S)) := by
  unfold kIs at h
  cases q with
  | non =>
    refine ⟨rfl, ?_⟩
    cases p with
    | non => exact .inl ⟨rfl, h⟩
    | ty _ => exact h.elim
    | _ => exact .inr ⟨(fun z => by cases z), h⟩
  | _ => exact h.elim
theorem o_is : Op2 X L (compareOp .Is) (kIs false) := by
  intro pins s σ H x y v u p q S R Q I rx ry st r1 r2 hk hq
  obtain ⟨eq, hw⟩ := kIs_of hk
  subst eq
  cases r2
  refine op_isN pins s σ H _ _ v u Q I rx ry ⟨rfl, ?_⟩
  rcases hw with ⟨ep, hk⟩ | ⟨hp, hk⟩
  · subst ep; cases r1; exact hq.now st (.bl _) hk
  · have e : decide (x = V.non) = false := decide_eq_false fun z => hp ((rv_non r1).mpr z)
    rw [e]; exact hq.now st (.bl _) hk
theorem o_isnot : Op2 X L (compareOp .IsNot) (kIs true) := by
  intro pins s σ H x y v u p q S R Q I rx ry st r1 r2 hk hq
  obtain ⟨eq, hw⟩ := kIs_of hk
  subst eq
  cases r2
  refine op_notN pins s σ H _ _ v u Q I rx ry ⟨rfl, ?_⟩
  rcases hw with ⟨ep, hk⟩ | ⟨hp, hk⟩
  · subst ep; cases r1; exact hq.now st (.bl _) hk
  · have e : decide (x = V.non) = false := decide_eq_false fun z => hp ((rv_non r1).mpr z)
    rw [e]; exact hq.now st (.bl _) hk
end

mutual
def toD : PV → Option PyData
  | .non => some .none
  | .bl b => some (.bool b)
  | .int i => some (.int i)
  | .str x => some (.str x)
  | .tup xs => (toDs xs).map .tuple
  | .lst xs => (toDs xs).map .list
  | _ => none
def toDs : List PV → Option (List PyData)
  | [] => some []
  | x :: xs => (toD x).bind fun d => (toDs xs).map (d :: ·)
end
mutual
theorem dp_of {K : PySem.W.Frag} {H : Hp} : ∀ (p : PV) (v : V) (d : PyData), RV K H p v → toD p = some d → Dp K H v d
  | .non, _, _, r, e => by cases r; simp [toD] at e; subst e; exact .non
  | .bl b, _, _, r, e => by cases r; simp [toD] at e; subst e; exact .bl b
  | .int b, _, _, r, e => by cases r; simp [toD] at e; subst e; exact .int b
  | .str b, _, _, r, e => by cases r; simp [toD] at e; subst e; exact .str b
  | .tup xs, _, _, r, e => by
    cases r with | tup h _ hr =>
    simp only [toD, Option.map_eq_some_iff] at e
    obtain ⟨ds, e1, rfl⟩ := e
    exact .tup h (dps_of xs _ ds hr e1)
  | .lst xs, _, _, r, e => by
    cases r with | lst h hr =>
    simp only [toD, Option.map_eq_some_iff] at e
    obtain ⟨ds, e1, rfl⟩ := e
    exact .lst h.sq (dps_of xs _ ds hr e1)
  | .ref _, _, _, _, e => by simp [toD] at e
  | .ty _, _, _, _, e => by simp [toD] at e
  | .dct _, _, _, _, e => by simp [toD] at e
  | .obj _ _, _, _, _, e => by simp [toD] at e
theorem dps_of {K : PySem.W.Frag} {H : Hp} : ∀ (p : List PV) (v : List V) (d : List PyData), RVs K H p v → toDs p = some d → DpAll K H v d
  | [], _, _, r, e => by cases r; simp [toDs] at e; subst e; exact .nil
  | x :: xs, _, _, r, e => by
    cases r with | cons r rs =>
    simp only [toDs, Option.bind_eq_some_iff, Option.map_eq_some_iff] at e
    obtain ⟨d, e1, ds, e2, rfl⟩ := e
    exact .cons (dp_of x _ d r e1) (dps_of xs _ ds rs e2)
end
section
variable {X : Cx} {L : Lc}
/-- a list of the store, too -/
theorem dp_dr {H : Hp} {S : Sto} {p : PV} {v : V} {d : PyData} (st : RSK X.K L H S) (r : RV X.K H p v) (e : toD (dr S p) = some d) : Dp X.K H v d := by
  cases r with
  | ref a =>
    rcases dr_ref (S := S) (a := a) with ⟨ys, h1, h2⟩ | ⟨ys, h1, h2⟩ | ⟨C, fs, h1, h2⟩ | ⟨h1, h2⟩
    · rw [h2] at e
      obtain ⟨vs, h3, h4⟩ := st.mo a _ h1
      simp only [toD, Option.map_eq_some_iff] at e
      obtain ⟨ds, e1, rfl⟩ := e
      exact .lst (SqL.of h3) (dps_of _ _ ds h4 e1)
    all_goals (rw [h2] at e; simp [toD] at e)
  | _ => rw [dr_non (fun a z => by cases z)] at e; exact dp_of _ _ d (by first | exact .non | exact .bl _ | exact .int _ | exact .str _ | exact .ty _ | exact .tup (by assumption) (by assumption) (by assumption) | exact .lst (by assumption) (by assumption) | exact .dct (by assumption) (by assumption) (by assumption) | exact .obj (by assumption) (by assumption) (by assumption)) e
def kEqD (neg : Bool) : K2 := fun p q S R => match toD (dr S p), toD (dr S q) with
  | some d, some e => SeqAt.shaped d = true ∧ SeqAt.shaped e = true ∧ R (.bl (PyData.eqv d e != neg)) S
  | _, _ => False
theorem o_eqD (hu : X.A.units + 64 < cLine) : Op2 X L (compareOp .Eq) (kEqD false) := by
  intro pins s σ H x y v u p q S R Q I rx ry st r1 r2 hk hq
  unfold kEqD at hk
  split at hk
  · rename_i d e e1 e2
    refine op_eqD hu pins s σ H _ _ v u Q I rx ry ⟨d, e, dp_dr st r1 e1, dp_dr st r2 e2, hk.1, hk.2.1, ?_⟩
    have h := hk.2.2
    rw [Bool.bne_false] at h
    exact hq.now st (.bl _) h
  · exact hk.elim
theorem o_neD (hu : X.A.units + 64 < cLine) : Op2 X L (compareOp .NotEq) (kEqD true) := by
  intro pins s σ H x y v u p q S R Q I rx ry st r1 r2 hk hq
  unfold kEqD at hk
  split at hk
  · rename_i d e e1 e2
    refine op_neD hu pins s σ H _ _ v u Q I rx ry ⟨d, e, dp_dr st r1 e1, dp_dr st r2 e2, hk.1, hk.2.1, ?_⟩
    have h := hk.2.2
    rw [Bool.bne_true] at h
    exact hq.now st (.bl _) h
  · exact hk.elim
end

def eqF : PV → PV → Bool
  | .non, .non => true
  | .bl a, .bl b => a == b
  | .bl a, .int b => (if a then 1 else 0) == b
  | .int a, .bl b => a == (if b then 1 else 0)
  | .int a, .int b => a == b
  | .str a, .str b => a == b
  | _, _ => false
def flatP : PV → Bool
  | .non => true
  | .bl _ => true
  | .int _ => true
  | .str _ => true
  | _ => false
theorem flat_rv {K : PySem.W.Frag} {H : Hp} {p : PV} {v : V} (r : RV K H p v) (h : flatP p = true) : flatV v = true := by cases r <;> first | rfl | cases h
theorem eqF_rv {K : PySem.W.Frag} {H : Hp} {p q : PV} {v u : V} (r : RV K H p v) (r2 : RV K H q u) (h : flatP p = true) (h2 : flatP q = true) : eqV v u = eqF p q := by
  cases r <;> first | cases h | skip
  all_goals (cases r2 <;> first | rfl | cases h2)
theorem inF_rv {K : PySem.W.Frag} {H : Hp} {x : PV} {v : V} (r : RV K H x v) (hx : flatP x = true) : ∀ {xs : List PV} {vs : List V}, RVs K H xs vs → xs.all flatP = true → vs.all flatV = true ∧ inV v vs = xs.any fun y => eqF y x
  | _, _, .nil, _ => ⟨rfl, rfl⟩
  | _, _, .cons r1 rs, h => by
    rw [List.all_cons, Bool.and_eq_true] at h
    obtain ⟨h1, h2⟩ := inF_rv r hx rs h.2
    refine ⟨by rw [List.all_cons, flat_rv r1 h.1, h1]; rfl, ?_⟩
    show (eqV _ _ || inV _ _) = _
    rw [eqF_rv r1 r h.1 hx, h2]; rfl
/-- the members of a tuple or list, the keys of a dict, the signs of a text -/
def kIn (neg : Bool) : K2 := fun p q S R => match dr S q with
  | .tup xs => flatP p = true ∧ xs.all flatP = true ∧ R (.bl (xs.any (fun y => eqF y p) != neg)) S
  | .lst xs => flatP p = true ∧ xs.all flatP = true ∧ R (.bl (xs.any (fun y => eqF y p) != neg)) S
  | .dct ks => match p with
    | .str k => R (.bl ((dget ks (.inr k)).isSome != neg)) S
    | .int k => R (.bl ((dget ks (.inl k)).isSome != neg)) S
    | _ => False
  | .str z => match p with
    | .str c => c.length = 1 ∧ R (.bl (z.cps.toList.contains (c.cps.getD 0 0) != neg)) S
    | _ => False
  | _ => False
section
variable {X : Cx} {L : Lc}
theorem rd_dct {H : Hp} {S : Sto} {p : PV} {v : V} {ks : List (Key × PV)} (st : RSK X.K L H S) (r : RV X.K H p v) (e : dr S p = .dct ks) : ∃ a gs, v = .ref a ∧ Rd H a (.dK gs) ∧ Pr X.K H ks gs := by
  cases r with
  | ref a =>
    rcases dr_ref (S := S) (a := a) with ⟨ys, h1, h2⟩ | ⟨ys, h1, h2⟩ | ⟨C, fs, h1, h2⟩ | ⟨h1, h2⟩
    · rw [h2] at e; cases e
    · rw [h2] at e; cases e
      obtain ⟨gs, h3, h4⟩ := st.mo a _ h1
      exact ⟨a, gs, rfl, .inl h3, h4⟩
    · rw [h2] at e; cases e
    · rw [h2] at e; cases e
  | dct h e1 hr => cases e; exact ⟨_, _, rfl, .inr ⟨_, h⟩, e1, hr⟩
  | _ => cases e
theorem Pr.some_eq {K : PySem.W.Frag} {H : Hp} {k : Key} {ks : List (Key × PV)} {gs : List (Key × V)} (h : Pr K H ks gs) : (valV gs k).isSome = (PX.dget ks k).isSome := by
  obtain ⟨h1, h2⟩ := h.dget (k := k)
  cases q : PX.dget ks k with
  | none => rw [h2 q]; rfl
  | some x => obtain ⟨u, hu, _⟩ := h1 x q; rw [hu]; rfl
theorem one_sign {c : Str} (h : c.length = 1) : c = ⟨#[c.cps.getD 0 0]⟩ := by
  obtain ⟨⟨l⟩⟩ := c
  match l, h with
  | [x], _ => rfl
theorem o_inA (neg : Bool) (op : CmpOp) (hS : OpR X (compareOp op) (rIn X.K neg)) (hC : OpR X (compareOp op) (fun x y H Q => ∃ (c : Nat) (z : Str), x = .str ⟨#[c]⟩ ∧ y = .str z ∧ Q (.bl (decide (c ∈ z.cps.toList) != neg)) H))
    (hD : ∀ (pins : List (Addr × Obj)) (s : Shared) (σ : L2.St) (H : Hp) (a : Addr) (y : V) (u : Value) (o : Option V) (Q : VK), Inv X pins σ H s → DGet H a y o → RelV y u → Q (.bl (o.isSome != neg)) H → wpAny (model X.prog X.w) X.A (compareOp op u (.ref a)) (EP X pins σ Q) X.xe s) :
    Op2 X L (compareOp op) (kIn neg) := by
  intro pins s σ H x y v u p q S R Q I rx ry st r1 r2 hk hq
  unfold kIn at hk
  have sw : ∀ b : Bool, (if neg then !b else b) = (b != neg) := fun b => by cases neg <;> cases b <;> rfl
  split at hk
  · rename_i xs e
    obtain ⟨a, vs, rfl, h1, h2⟩ := rd_tup (X := X) r2 e
    obtain ⟨h3, h4⟩ := inF_rv r1 hk.1 h2 hk.2.1
    refine hS pins s σ H _ _ v u Q I rx ry ⟨a, vs, rfl, .inr h1, flat_rv r1 hk.1, h3, ?_⟩
    rw [sw, h4]
    exact hq.now st (.bl _) hk.2.2
  · rename_i xs e
    obtain ⟨a, vs, rfl, h1, h2⟩ := rd_lst (X := X) st r2 e
    obtain ⟨h3, h4⟩ := inF_rv r1 hk.1 h2 hk.2.1
    refine hS pins s σ H _ _ v u Q I rx ry ⟨a, vs, rfl, .inl h1, flat_rv r1 hk.1, h3, ?_⟩
    rw [sw, h4]
    exact hq.now st (.bl _) hk.2.2
  · rename_i ks e
    obtain ⟨a, gs, rfl, h1, h2⟩ := rd_dct (X := X) st r2 e
    cases ry
    have key : ∀ k : Key, x = kV k → R (.bl ((dget ks k).isSome != neg)) S → wpAny (model X.prog X.w) X.A (compareOp op v (.ref a)) (EP X pins σ Q) X.xe s := fun k ek hR =>
      hD pins s σ H a x v (valV gs k) Q I (.inl ⟨gs, k, h1, ek, rfl⟩) rx (by rw [h2.some_eq]; exact hq.now st (.bl _) hR)
    cases r1 with
    | str k => exact key (.inr k) rfl hk
    | int k => exact key (.inl k) rfl hk
    | _ => exact hk.elim
  · rename_i z e
    have := d_str r2 e
    subst y
    cases r1 with
    | str c =>
      have ec := one_sign hk.1
      refine hC pins s σ H _ _ v u Q I (by rw [← ec]; exact rx) ry ⟨_, z, rfl, rfl, ?_⟩
      have h := hk.2
      have e2 : z.cps.toList.contains (c.cps.getD 0 0) = decide (c.cps.getD 0 0 ∈ z.cps.toList) := by rw [Bool.eq_iff_iff]; simp
      rw [e2] at h
      exact hq.now st (.bl _) h
    | _ => exact hk.elim
  · exact hk.elim
theorem o_in (hu : X.A.units + 1 < cLine) : Op2 X L (compareOp .In) (kIn false) :=
  o_inA false .In op_in_seq (fun pins s σ H x y v u Q I rx ry ⟨c, z, e1, e2, q⟩ => op_in_sign pins s σ H x y v u Q I rx ry ⟨c, z, e1, e2, by rw [Bool.bne_false] at q; exact q⟩)
    fun pins s σ H a y u o Q I g ry q => d_in hu I g ry fun s3 I3 => ⟨.bl o.isSome, H, I3, rfl, by rw [Bool.bne_false] at q; exact q⟩
theorem o_notin (hu : X.A.units + 1 < cLine) : Op2 X L (compareOp .NotIn) (kIn true) :=
  o_inA true .NotIn op_notIn_seq (fun pins s σ H x y v u Q I rx ry ⟨c, z, e1, e2, q⟩ => op_notIn_sign pins s σ H x y v u Q I rx ry ⟨c, z, e1, e2, by rw [Bool.bne_true] at q; exact q⟩)
    fun pins s σ H a y u o Q I g ry q => d_notIn hu I g ry fun s3 I3 => ⟨.bl (!o.isSome), H, I3, rfl, by rw [Bool.bne_true] at q; exact q⟩
end
end PX
end L2

namespace L2
namespace PX
open PySem PySem.Spec PyProof.Rows
theorem RVs.atI {K : PySem.W.Frag} {H : Hp} {xs : List PV} {vs : List V} {i : Int} {p : PV} (h : RVs K H xs vs) (e : atI xs i = some p) : ∃ v, atI vs i = some v ∧ RV K H p v := by
  unfold L2.atI at e ⊢
  rw [← h.length]
  cases q : ixN xs.length i with
  | none => rw [q] at e; cases e
  | some j => rw [q] at e; exact h.get e
def cutP (xs : List PV) (lo hi : Option Int) : List PV := (xs.drop (HT.sIx xs.length 0 lo)).take (HT.sIx xs.length xs.length hi - HT.sIx xs.length 0 lo)
theorem RVs.cut {K : PySem.W.Frag} {H : Hp} {xs : List PV} {vs : List V} (h : RVs K H xs vs) (lo hi : Option Int) : RVs K H (cutP xs lo hi) (cutV vs lo hi) := by
  unfold cutP cutV
  rw [← h.length]
  exact (h.drop _).take _
def kIx : K2 := fun p q S R => match dr S p with
  | .lst xs => match q with
    | .int i => ∃ z, atI xs i = some z ∧ R z S
    | _ => False
  | .tup xs => match q with
    | .int i => ∃ z, atI xs i = some z ∧ R z S
    | _ => False
  | .str x => match q with
    | .int i => x.length ≤ sizeLine ∧ ∃ c, atI x.cps.toList i = some c ∧ R (.str ⟨#[c]⟩) S
    | _ => False
  | .dct ks => match q with
    | .int i => ∃ z, dget ks (.inl i) = some z ∧ R z S
    | .str i => ∃ z, dget ks (.inr i) = some z ∧ R z S
    | _ => False
  | _ => False
section
variable {X : Cx} {L : Lc} {a b e o i value : Expr} {wa wb we wo wi wv : WE} {pos pos' p2 : Pos}
theorem o_ix (hu : X.A.units + 1 < cLine) (ve sl : Expr) (hs : ∀ o i, subscripted sl false o i = operate [o, i] (getItem o i)) : Op2 X L (fun v u => subscriptTail ve sl v u) kIx := by
  intro pins s σ H x y v u p q S R Q I rx ry st r1 r2 hk hq
  unfold kIx at hk
  have dct : ∀ (ks : List (Key × PV)) (k : Key) (z : PV), dr S p = .dct ks → y = kV k → dget ks k = some z → R z S → wpAny (model X.prog X.w) X.A (subscriptTail ve sl v u) (EP X pins σ Q) X.xe s := fun ks k z e ey hz hR => by
    obtain ⟨a, gs, rfl, h1, h2⟩ := rd_dct (X := X) st r1 e
    obtain rfl : v = Value.ref a := rx
    obtain ⟨w, hw, rw'⟩ := (h2.dget (k := k)).1 z hz
    have g : DGet H a y (some w) := .inl ⟨gs, k, h1, ey, hw.symm⟩
    exact PyProof.Rows.tail_any (dict_typeIs I g) PySem.F.slot_dict_getitem.lookup (d_getItem hu I g ry fun w' s3 I3 rw3 => ⟨w, H, I3, rw3, hq.now st rw' hR⟩) (hs _ _)
  split at hk
  · rename_i xs e
    split at hk
    · rename_i i
      cases r2
      obtain ⟨z, hz, hR⟩ := hk
      obtain ⟨a, vs, rfl, h1, h2⟩ := rd_lst (X := X) st r1 e
      obtain ⟨w, hw, rw'⟩ := h2.atI hz
      exact ix_list ve sl pins s σ H _ _ v u Q I rx ry ⟨a, vs, i, w, rfl, rfl, h1, hw, hq.now st rw' hR⟩ (hs _ _)
    · exact hk.elim
  · rename_i xs e
    split at hk
    · rename_i i
      cases r2
      obtain ⟨z, hz, hR⟩ := hk
      obtain ⟨a, vs, rfl, h1, h2⟩ := rd_tup (X := X) r1 e
      obtain ⟨w, hw, rw'⟩ := h2.atI hz
      exact ix_tup ve sl pins s σ H _ _ v u Q I rx ry ⟨a, vs, i, w, rfl, rfl, h1, hw, hq.now st rw' hR⟩ (hs _ _)
    · exact hk.elim
  · rename_i z e
    split at hk
    · rename_i i
      cases r2
      obtain ⟨hl, c, hc, hR⟩ := hk
      have := d_str r1 e
      subst x
      exact ix_str ve sl pins s σ H _ _ v u Q I rx ry ⟨z, i, c, rfl, rfl, hl, hc, hq.now st (.str _) hR⟩ (hs _ _)
    · exact hk.elim
  · rename_i ks e
    split at hk
    · rename_i i
      cases r2
      obtain ⟨z, hz, hR⟩ := hk
      exact dct ks (.inl i) z e rfl hz hR
    · rename_i i
      cases r2
      obtain ⟨z, hz, hR⟩ := hk
      exact dct ks (.inr i) z e rfl hz hR
    · exact hk.elim
  · exact hk.elim
theorem de_ix (hu : X.A.units + 1 < cLine) (ha : DE X L a wa) (hb : DE X L b wb) (hs : ∀ o i, subscripted b false o i = operate [o, i] (getItem o i) := by intro _ _; rfl) : DE X L (.Subscript a b pos) (wB kIx wa wb) := by
  refine ⟨fun pins s σ H Q I ⟨ρ, S, R, Z, A, h, q, hZ⟩ => ?_⟩
  exact Subscript_ (lbin (f := fun v u => subscriptTail a b v u) ha hb I A h hZ fun v u s2 x y H2 p q' S2 I2 rx ry i A2 r1 r2 hk => o_ix hu a b hs pins s2 σ H2 x y v u p q' S2 R Q I2 rx ry A2.st r1 r2 hk (q.fr i))
def kPut (o i v : PV) (S : Sto) (k : Sto → Prop) : Prop := match o with
  | .ref a => match S a with
    | some (.lst xs) => match i with
      | .int j => ∃ n, ixN xs.length j = some n ∧ k (updS S a (.lst (xs.set n v)))
      | _ => False
    | some (.dct ks) => match i with
      | .int j => ks.length < sizeLine ∧ k (updS S a (.dct (dput ks (.inl j) v)))
      | .str j => ks.length < sizeLine ∧ k (updS S a (.dct (dput ks (.inr j) v)))
      | _ => False
    | _ => False
  | _ => False
def wPut (wo wi wv : WE) : WS := fun P ρ S => wv ρ S (fun v S1 => wo ρ S1 (fun o S2 => wi ρ S2 (fun i S3 => kPut o i v S3 (fun S4 => P.nx ρ S4)) (fun e S' => P.ex e ρ S')) (fun e S' => P.ex e ρ S')) (fun e S' => P.ex e ρ S')
theorem ds_put (hu : X.A.units + 1 < cLine) (ho : DE X L o wo) (hi : DE X L i wi) (hv : DE X L value wv) (hs : swapsWith value (some (.Subscript o i pos')) pos.line X.env = pure false := by rfl) : DS X L (.Assign [.Subscript o i pos'] value pos) (wPut wo wi wv) := by
  refine ⟨fun pins s σ H D I ⟨ρ, S, P, A, h, E⟩ => ?_⟩
  have Z := E.zc A
  refine wpAny_Assign_Subscript (lone hv I A h Z fun r s1 x1 H1 v S1 I1 rr i1 A1 r1 h1 => lone ho I1 A1 h1 (Z.fr i1) fun u s2 x2 H2 o' S2 I2 ru i2 A2 r2 h2 => lone hi I2 A2 h2 ((Z.fr i1).fr i2) fun iv s3 x3 H3 i' S3 I3 ri i3 A3 r3 h3 => ?_) hs
  have r1' := (r1.imm i2.imm).imm i3.imm
  have r2' := r2.imm i3.imm
  have fr := (i1.trans i2).trans i3
  unfold kPut at h3
  have dct : ∀ (a : Addr) (ks : List (Key × PV)) (k : Key), x2 = .ref a → S3 a = some (.dct ks) → x3 = kV k → ks.length < sizeLine → P.nx ρ (updS S3 a (.dct (dput ks k v))) → wpAny (model X.prog X.w) X.A (setItem u iv r) (fun _ => SP X pins D .next) X.xe s3 := fun a ks k ea e ek hl hn => by
    subst ea
    obtain rfl : u = Value.ref a := ru
    obtain ⟨gs, h4, pr⟩ := A3.st.mo a _ e
    have f4 : Fr S3 H3 (updS S3 a (.dct (dput ks k v))) (upd H3 a (.dK (putK gs k x1))) := .put h4 trivial (by rw [e]; simp)
    have im := f4.imm
    have st4 : RSK X.K L (upd H3 a (.dK (putK gs k x1))) (updS S3 a (.dct (dput ks k v))) := A3.st.put h4 trivial ⟨_, upd_same, (pr.imm im).dput (r1'.imm im)⟩
    exact d_setItem hu I3 (.inl ⟨gs, k, h4, ek, by rw [← pr.length]; exact hl, rfl⟩) ri rr fun s4 I4 => ⟨σ, _, I4, E.nx ρ _ σ _ (fr.trans f4) (A.fr (fr.trans f4) st4) hn⟩
  cases r2 with
  | ref a =>
    dsimp only at h3
    split at h3
    · rename_i xs e
      split at h3
      · rename_i j
        cases r3
        obtain ⟨n, hn, h3⟩ := h3
        obtain ⟨vs, h4, h5⟩ := A3.st.mo a _ e
        have f4 : Fr S3 H3 (updS S3 a (.lst (xs.set n v))) (upd H3 a (.lst (vs.set n x1))) := .put h4 trivial (by rw [e]; simp)
        have im := f4.imm
        have st4 : RSK X.K L (upd H3 a (.lst (vs.set n x1))) (updS S3 a (.lst (xs.set n v))) := A3.st.put h4 trivial ⟨_, upd_same, (h5.imm im).set (r1'.imm im) n⟩
        exact thn (set_list pins s3 σ H3 (.ref a) (.int j) x1 u iv r (fun H' => H' = upd H3 a (.lst (vs.set n x1))) I3 ru ri rr ⟨a, vs, j, n, rfl, rfl, h4, by rw [← h5.length]; exact hn, rfl⟩) fun _ s4 ⟨H4, I4, e4⟩ => by
          subst e4
          exact ⟨σ, _, I4, E.nx ρ _ σ _ (fr.trans f4) (A.fr (fr.trans f4) st4) h3⟩
      · exact h3.elim
    · rename_i ks e
      split at h3
      · cases r3
        exact dct a ks (.inl _) rfl e rfl h3.1 h3.2
      · cases r3
        exact dct a ks (.inr _) rfl e rfl h3.1 h3.2
      · exact h3.elim
    · exact h3.elim
  | _ => exact h3.elim
abbrev WO := Slots → Sto → (Option Int → Sto → Prop) → ZK → Prop
def LO (K : PySem.W.Frag) (L : Lc) (w : WO) : TO := fun σ H Q => ∃ ρ S R Z, At K L σ H ρ S ∧ w ρ S R Z ∧ (∀ b S' H', Fr S H S' H' → RSK K L H' S' → R b S' → Q b H') ∧ ZC K L S H σ Z
abbrev DO (X : Cx) (L : Lc) (e : Option Expr) (w : WO) : Prop := PO X e (LO X.K L w)
def wNo : WO := fun _ S R _ => R none S
def wSo (we : WE) : WO := fun ρ S R Z => we ρ S (fun p S' => intB p fun i => R (some i) S') Z
theorem _root_.L2.PO.imp {X : Cx} {e : Option Expr} {t t' : TO} (h : PO X e t) (i : ∀ σ H Q, t' σ H Q → t σ H Q) : PO X e t' := ⟨fun pins s σ H Q I q => h.run pins s σ H Q I (i _ _ _ q)⟩
theorem do_none : DO X L none wNo := po_none.imp fun σ H Q ⟨ρ, S, R, Z, A, h, q, hZ⟩ => q none S H (.refl S H) A.st h
theorem do_some (h : DE X L e we) : DO X L (some e) (wSo we) := (po_some h).imp fun σ H Q ⟨ρ, S, R, Z, A, h, q, hZ⟩ => ⟨ρ, S, _, Z, A, h, fun p S1 v H1 i st r h1 => by
  obtain ⟨j, rfl, h1⟩ := intB_of h1
  cases r
  exact ⟨j, rfl, q _ S1 H1 i st h1⟩, hZ⟩
def kSl (p : PV) (lo hi : Option Int) (S : Sto) (R : RK) : Prop := match dr S p with
  | .lst xs => R (.lst (cutP xs lo hi)) S
  | .tup xs => R (.tup (cutP xs lo hi)) S
  | .str z => z.length ≤ sizeLine ∧ R (.str (cutS z lo hi)) S
  | _ => False
def wSl (we : WE) (wl wh : WO) : WE := fun ρ S R Z => we ρ S (fun p S1 => wl ρ S1 (fun lo S2 => wh ρ S2 (fun hi S3 => kSl p lo hi S3 R) Z) Z) Z
/-- t[lo:hi], a new one's object known -/
def rSlD (K : PySem.W.Frag) : V → Option Int → Option Int → Hp → VK → Prop := fun x lo hi H Q => ∃ a xs, x = .ref a ∧ SqT K H a xs ∧
  (HT.sIx xs.length 0 lo = 0 ∧ HT.sIx xs.length xs.length hi = xs.length → Q (.ref a) H) ∧ (¬ (HT.sIx xs.length 0 lo = 0 ∧ HT.sIx xs.length xs.length hi = xs.length) → NewT Q H (cutV xs lo hi))
theorem sl_tupD : SlR X (rSlD X.K) := by
  intro pins s σ H x v vl vu lo hi sl Q I rx hs pl pu ⟨a, xs, ex, hx, q1, q2⟩
  by_cases w : HT.sIx xs.length 0 lo = 0 ∧ HT.sIx xs.length xs.length hi = xs.length
  · exact sl_tupA pins s σ H x v vl vu lo hi sl Q I rx hs pl pu ⟨a, xs, ex, hx, q1, fun n => (n w).elim⟩
  · subst ex
    cases rx
    obtain ⟨us, r, ht, hz⟩ := I.tuple hx
    have hn : us.toArray.size = xs.length := by rw [List.size_toArray]; exact r.length.symm
    have hnew : Inv X pins σ _ _ := tup_laid (xs := cutV xs lo hi) I ((r.drop (HT.sIx xs.length 0 lo)).take (HT.sIx xs.length xs.length hi - HT.sIx xs.length 0 lo)) (Nat.le_trans (cutV_length xs lo hi) hz)
    refine ⟨"tuple", _, PyProof.Rows.slot_tuple_getitem.lookup, ht.typeIs, HT.getItem_tuple_cut ht hs pl pu (by rw [hn]; exact w) ?_ (by rw [hn]; exact hz)⟩
    rw [hn]
    exact ⟨.ref s.heap.objs.size, _, hnew, rfl, q2 w _ _ rfl (I.hok.fresh (Nat.le_refl _))⟩
def rSlAny (K : PySem.W.Frag) : V → Option Int → Option Int → Hp → VK → Prop := fun x lo hi H Q => rSlL K x lo hi H Q ∨ rSlD K x lo hi H Q ∨ rSlS x lo hi H Q
theorem sl_any : SlR X (rSlAny X.K) := sl_list.or (sl_tupD.or sl_str)
theorem de_slice {lo hi : Option Expr} {wl wh : WO} (he : DE X L e we) (hl : DO X L lo wl) (hh : DO X L hi wh) : DE X L (.Subscript e (.Slice lo hi none p2) pos) (wSl we wl wh) :=
  (pe_ghost (pe_slice sl_any he hl hh)).imp fun σ H Q ⟨ρ, S, R, Z, A, h, q, hZ⟩ => by
  refine ⟨ρ, S, _, Z, A, h, fun p S1 x H1 i1 st1 r1 h1 => ?_, hZ⟩
  refine ⟨ρ, S1, _, Z, A.fr i1 st1, h1, fun l S2 H2 i2 st2 h2 => ?_, hZ.fr i1⟩
  refine ⟨ρ, S2, _, Z, A.fr (i1.trans i2) st2, h2, fun u S3 H3 i3 st3 h3 => ?_, hZ.fr (i1.trans i2)⟩
  have r3 := (r1.imm i2.imm).imm i3.imm
  have q3 := q.fr ((i1.trans i2).trans i3)
  unfold kSl at h3
  split at h3
  · rename_i xs e
    obtain ⟨a, vs, rfl, h4, h5⟩ := rd_lst (X := X) st3 r3 e
    exact .inl ⟨a, vs, rfl, h4, fun p hp => q3.newL st3 (h5.cut l u) hp h3⟩
  · rename_i xs e
    obtain ⟨a, vs, rfl, h4, d4, h5⟩ := rd_tupD (X := X) r3 e
    have gg : ∀ {v H'}, Q v H' → gK Q v H' := fun {v H'} z => ⟨fun _ => False, fun _ w => w.elim, fun H2 g => by
      have e : H2 = H' := funext fun b => g.no b fun z => z
      rw [e]; exact z⟩
    refine .inr (.inl ⟨a, vs, rfl, h4, fun hw => gg (q3.now st3 (.tup h4 d4 ?_) h3), fun hw p o hd hp => gg (q3.newT st3 (h5.cut l u) hd hp h3)⟩)
    have e2 : cutV vs l u = vs := by
      unfold cutV
      rw [hw.1, hw.2]; simp
    have := h5.cut l u
    rw [e2] at this; exact this
  · rename_i z e
    have := d_str r3 e
    subst x
    have gg : ∀ {v H'}, Q v H' → gK Q v H' := fun {v H'} z => ⟨fun _ => False, fun _ w => w.elim, fun H2 g => by
      have e : H2 = H' := funext fun b => g.no b fun z => z
      rw [e]; exact z⟩
    exact .inr (.inr ⟨z, rfl, h3.1, gg (q3.now st3 (.str _) h3.2)⟩)
  · exact h3.elim
end
def p1 (k : PV → Sto → RK → Prop) : PSp := fun ps S R _ => match ps with
  | [p] => k p S R
  | _ => False
def p2 (k : PV → PV → Sto → RK → Prop) : PSp := fun ps S R _ => match ps with
  | [p, q] => k p q S R
  | _ => False
section
variable {X : Cx} {L : Lc}
theorem call1_of {f : Value} {k : PV → Sto → RK → Prop} (h : ∀ (pins : List (Addr × Obj)) (s : Shared) (σ : L2.St) (H : Hp) (x : V) (us : List Value) (p : PV) (S : Sto) (R : RK) (Q : VK), Inv X pins σ H s → Vals [x] us → RSK X.K L H S → RV X.K H p x → k p S R → VC X.K L S H R Q →
    wpAny (model X.prog X.w) X.A (call f us) (EP X pins σ Q) X.xe s) : CallP X L f (p1 k) := by
  intro pins s σ H xs us ps S R Z Q I rv st j r hk q z
  cases r with
  | nil => exact hk.elim
  | cons r rs =>
    cases rs with
    | cons _ _ => exact hk.elim
    | nil => exact h pins s σ H _ us _ S R Q I rv st r hk q
theorem call2_of {f : Value} {k : PV → PV → Sto → RK → Prop} (h : ∀ (pins : List (Addr × Obj)) (s : Shared) (σ : L2.St) (H : Hp) (x y : V) (us : List Value) (p p' : PV) (S : Sto) (R : RK) (Q : VK), Inv X pins σ H s → Vals [x, y] us → RSK X.K L H S → RV X.K H p x → RV X.K H p' y → k p p' S R → VC X.K L S H R Q →
    wpAny (model X.prog X.w) X.A (call f us) (EP X pins σ Q) X.xe s) : CallP X L f (p2 k) := by
  intro pins s σ H xs us ps S R Z Q I rv st j r hk q z
  cases r with
  | nil => exact hk.elim
  | cons r rs =>
    cases rs with
    | nil => exact hk.elim
    | cons r' rs =>
      cases rs with
      | cons _ _ => exact hk.elim
      | nil => exact h pins s σ H _ _ us _ _ S R Q I rv st r r' hk q
def kLen : PV → Sto → RK → Prop := fun p S R => match dr S p with
  | .str z => z.length ≤ sizeLine ∧ R (.int z.length) S
  | .lst xs => R (.int xs.length) S
  | .tup xs => R (.int xs.length) S
  | .dct xs => R (.int xs.length) S
  | _ => False
theorem c_len : CallP X L (.builtin "len") (p1 kLen) := call1_of fun pins s σ H x us p S R Q I rv st r hk q => by
  unfold kLen at hk
  split at hk
  · rename_i z e
    have := d_str r e
    subst x
    exact call_len pins s σ H _ us Q I rv ⟨_, z.length, rfl, ⟨hk.1, rfl⟩, q.now st (.int _) hk.2⟩
  · rename_i xs e
    obtain ⟨a, vs, rfl, h1, h2⟩ := rd_lst (X := X) st r e
    exact call_len pins s σ H _ us Q I rv ⟨_, xs.length, rfl, .inl ⟨vs, h1, h2.length⟩, q.now st (.int _) hk⟩
  · rename_i xs e
    obtain ⟨a, vs, rfl, h1, h2⟩ := rd_tup (X := X) r e
    exact call_len pins s σ H _ us Q I rv ⟨_, xs.length, rfl, .inr ⟨vs, h1, h2.length⟩, q.now st (.int _) hk⟩
  · rename_i ks e
    obtain ⟨a, gs, rfl, h1, h2⟩ := rd_dct (X := X) st r e
    rw [Vals.ref1 rv]
    exact d_len I h1 fun t s' I' => ⟨.int gs.length, H, I', ⟨t, rfl⟩, by rw [← h2.length]; exact q.now st (.int _) hk⟩
  · exact hk.elim
def kInt : PV → Sto → RK → Prop := fun p S R => match p with
  | .int i => R (.int i) S
  | .bl b => R (.int (if b then 1 else 0)) S
  | .str x => ∃ n, PySem.intText? x = some n ∧ x.length ≤ 640 ∧ R (.int n) S
  | _ => False
theorem c_int : CallP X L (.type "int") (p1 kInt) := call1_of fun pins s σ H x us p S R Q I rv st r hk q => by
  cases r with
  | int i => exact call_int1 pins s σ H _ us Q I rv (.inl ⟨_, rfl, q.now st (.int _) hk⟩)
  | bl b => exact call_int1 pins s σ H _ us Q I rv (.inr ⟨_, rfl, q.now st (.int _) hk⟩)
  | str x => obtain ⟨n, h1, h2, h3⟩ := hk; exact call_int_str pins s σ H _ us Q I rv ⟨_, n, rfl, h1, h2, q.now st (.int _) h3⟩
  | _ => exact hk.elim
def kAbs : PV → Sto → RK → Prop := fun p S R => match p with
  | .int i => R (.int (if i < 0 then -i else i)) S
  | _ => False
theorem c_abs : CallP X L (.builtin "abs") (p1 kAbs) := call1_of fun pins s σ H x us p S R Q I rv st r hk q => by
  cases r with
  | int i => exact call_abs pins s σ H _ us Q I rv ⟨_, rfl, q.now st (.int _) hk⟩
  | _ => exact hk.elim
def kStr : PV → Sto → RK → Prop := fun p S R => match p with
  | .int i => i.natAbs.log2 < 1920 ∧ R (.str (toString i)) S
  | .str x => R (.str x) S
  | _ => False
/-- flags -/
def blsOf : List PV → Option (List Bool)
  | [] => some []
  | .bl b :: r => (blsOf r).map (b :: ·)
  | _ :: _ => none
theorem blsOf_rv {K : PySem.W.Frag} {H : Hp} : ∀ {xs : List PV} {vs : List V} {bs : List Bool}, RVs K H xs vs → blsOf xs = some bs → vs = bs.map V.bl
  | _, _, _, .nil, e => by simp [blsOf] at e; subst e; rfl
  | _, _, _, .cons r rs, e => by
    cases r with
    | bl b =>
      simp only [blsOf, Option.map_eq_some_iff] at e
      obtain ⟨bs', e1, rfl⟩ := e
      rw [blsOf_rv rs e1]; rfl
    | _ => simp [blsOf] at e
def kAll : PV → Sto → RK → Prop := fun p S R => match dr S p with
  | .lst xs => match blsOf xs with
    | some bs => R (.bl (bs.all id)) S
    | none => False
  | _ => False
theorem c_all (hc : X.calm = true) : CallP X L (.builtin "all") (p1 kAll) := call1_of fun pins s σ H x us p S R Q I rv st r hk q => by
  unfold kAll at hk
  split at hk
  · rename_i xs e
    split at hk
    · rename_i bs eb
      obtain ⟨a, vs, rfl, h1, h2⟩ := rd_lst (X := X) st r e
      have := blsOf_rv h2 eb
      subst vs
      exact cr_all hc pins s σ H _ us Q I rv ⟨a, bs, rfl, h1, q.now st (.bl _) hk⟩
    · exact hk.elim
  · exact hk.elim
def kTup : PV → Sto → RK → Prop := fun p S R => match dr S p with
  | .lst xs => R (.tup xs) S
  | .tup xs => R (.tup xs) S
  | _ => False
/-- tuple(xs), a new one's object known -/
theorem call_tupleD : CallR X (.type "tuple") (fun xs H Q => ∃ p ys, xs = [.ref p] ∧ ((SqL X.K H p ys ∧ NewT Q H ys) ∨ (SqT X.K H p ys ∧ Q (.ref p) H))) := by
  intro pins s σ H xs us Q I r ⟨p, ys, ex, h⟩
  rcases h with ⟨hq, q⟩ | h
  · subst ex
    obtain ⟨u, rfl, rx⟩ := vals1 r
    cases rx
    obtain ⟨ws, rw', pl, hz⟩ := I.list hq
    have hlen := rw'.length
    refine call_tuple_list pl.isList (fun h1 kp => ?_) (by simp only [List.size_toArray] <;> omega)
    have I1 : Inv X pins σ H { s with heap := h1 } := I.kept (t' := s.toks) kp
    exact ⟨.ref h1.objs.size, _, tup_laid I1 rw' hz, rfl, q _ _ rfl (I1.hok.fresh (Nat.le_refl _))⟩
  · exact call_tuple_of pins s σ H xs us Q I r ⟨p, ys, ex, .inr h⟩
theorem c_tup : CallP X L (.type "tuple") (p1 kTup) := call1_of fun pins s σ H x us p S R Q I rv st r hk q => by
  unfold kTup at hk
  split at hk
  · rename_i xs e
    obtain ⟨a, vs, rfl, h1, h2⟩ := rd_lst (X := X) st r e
    exact call_tupleD pins s σ H _ us Q I rv ⟨a, vs, rfl, .inl ⟨h1, fun l o hd hl => q.newT st h2 hd hl hk⟩⟩
  · rename_i xs e
    obtain ⟨a, vs, rfl, h1, d1, h2⟩ := rd_tupD (X := X) r e
    exact call_tupleD pins s σ H _ us Q I rv ⟨a, vs, rfl, .inr ⟨h1, q.now st (.tup h1 d1 h2) hk⟩⟩
  · exact hk.elim
/-- list(xs): a new one of the store; one that stands still -/
def kList : PV → Sto → RK → Prop := fun p S R => match dr S p with
  | .lst xs => ∀ a, S a = none → R (.ref a) (updS S a (.lst xs))
  | .tup xs => ∀ a, S a = none → R (.ref a) (updS S a (.lst xs))
  | _ => False
def tagB : PV → Option String
  | .non => some "NoneType"
  | .bl _ => some "bool"
  | .int _ => some "int"
  | .str _ => some "str"
  | .tup _ => some "tuple"
  | .lst _ => some "list"
  | .dct _ => some "dict"
  | _ => none
def tyNames : List String := ["int", "bool", "str", "tuple", "list", "dict"]
def isTyB (a n : String) : Bool := a == n || (a == "bool" && n == "int")
theorem isTyB_ok {p : PV} {a n : String} (h : tagB p = some a) (hn : n ∈ tyNames) : kitB a n = some (isTyB a n) := by
  have ha : a ∈ ["NoneType", "bool", "int", "str", "tuple", "list", "dict"] := by
    cases p <;> simp only [tagB, Option.some.injEq, reduceCtorEq] at h <;> subst h <;> decide
  have key : ∀ a ∈ ["NoneType", "bool", "int", "str", "tuple", "list", "dict"], ∀ n ∈ tyNames, kitB a n = some (isTyB a n) := by decide +kernel
  exact key a ha n hn
/-- what isinstance asks of a class of ours -/
structure IsC (K : PySem.W.Frag) (C : Addr) : Prop where
  cl : Cls K C
  ha : PySem.W.findIn K (.ref C) "__class__" = some (some (.builtin "object.__class__"))
  hn : PySem.W.specialIn K (.builtin "object.__class__") "__get__" = some (some (.builtin "getset_descriptor.__get__"))
  ht : PySem.W.takesIn K (.builtin "object.__class__") = some true
  hm : PySem.W.mroIn K C (.type "object") = some true
abbrev TyN := String ⊕ Addr
def tyVal : TyN → Value
  | .inl n => .type n
  | .inr C => .ref C
def tyP : PV → Option TyN
  | .obj C _ => some (.inr C)
  | p => (tagB p).map Sum.inl
def clP : PV → Option TyN
  | .ty n => some (.inl n)
  | .ref C => some (.inr C)
  | _ => none
def ansI (F : TyN → TyN → Option Bool) (t c : TyN) : Option Bool := match t, c with
  | .inl a, .inl n => if n ∈ tyNames then some (isTyB a n) else F t c
  | .inr C, .inr D => if C = D then some true else F t c
  | _, _ => F t c
def kIsi (F : TyN → TyN → Option Bool) : PV → PV → Sto → RK → Prop := fun p q S R => match tyP (dr S p), clP q with
  | some t, some c => match ansI F t c with
    | some b => R (.bl b) S
    | none => False
  | _, _ => False
theorem kit_rv {pins : List (Addr × Obj)} {σ : L2.St} {H : Hp} {s : Shared} {S : Sto} {p : PV} {v : V} {u : Value} {t : TyN} (I : Inv X pins σ H s) (ru : RelV v u) (st : RSK X.K L H S) (r : RV X.K H p v) (ht : tyP (dr S p) = some t) (hC : ∀ C, t = .inr C → IsC X.K C) :
    ∃ P : Heap → Prop, PySem.W.KitX X.K u (tyVal t) P ∧ P s.heap ∧ u ≠ .builtin "__main__.__loader__#opaque" := by
  have base : ∀ {a : String}, TyX X.K H v (.type a) → t = .inl a → ∃ P : Heap → Prop, PySem.W.KitX X.K u (tyVal t) P ∧ P s.heap ∧ u ≠ .builtin "__main__.__loader__#opaque" := fun h e => by subst e; exact kit_of I ru h
  cases e : dr S p with
  | lst xs =>
    rw [e] at ht; simp [tyP, tagB] at ht
    obtain ⟨a, vs, rfl, h1, h2⟩ := rd_lst (X := X) st r e
    rcases h1 with (h1 | ⟨o, h1⟩) | ⟨o, _, _, h1, h3, _⟩
    · exact base (.base (.lst h1)) ht.symm
    · exact base (.base (.frz h1)) ht.symm
    · exact base (.kList h1 h3) ht.symm
  | tup xs =>
    rw [e] at ht; simp [tyP, tagB] at ht
    obtain ⟨a, vs, rfl, h1, h2⟩ := rd_tup (X := X) r e
    rcases h1 with (h1 | ⟨o, h1⟩) | h1
    · exact base (.base (.tup h1)) ht.symm
    · exact base (.fTuple h1) ht.symm
    · have h9 : ∃ o, X.K.lookup a = some o ∧ o.cls = .type "tuple" := by
        obtain ⟨o, h⟩ := h1
        first
          | exact ⟨o, h.1, h.2.1⟩
          | (obtain ⟨n, h⟩ := h; exact ⟨o, h.1, h.2.1⟩)
          | (obtain ⟨n, m, h⟩ := h; exact ⟨o, h.1, h.2.1⟩)
      obtain ⟨o, h5, h6⟩ := h9
      exact base (.kTuple h5 h6) ht.symm
  | dct ks =>
    rw [e] at ht; simp [tyP, tagB] at ht
    obtain ⟨a, gs, rfl, h1, h2⟩ := rd_dct (X := X) st r e
    rcases h1 with h1 | ⟨o, h1⟩
    · exact base (.base (.dK h1)) ht.symm
    · exact base (.fDict h1) ht.symm
  | obj C fs =>
    rw [e] at ht; simp [tyP] at ht
    subst ht
    have c := hC C rfl
    obtain ⟨a, dx, gs, rfl, rd, pr⟩ := rd_obj (X := X) (L := L) st r e
    obtain rfl : u = Value.ref a := ru
    obtain ⟨mA, O, _⟩ := ins_getR I.hok rd
    obtain ⟨od, J, _⟩ := O.look
    exact ⟨_, PySem.W.kitx_own (c.cl.get _) c.cl.hd c.ha c.hn c.ht c.hm, J, fun z => nomatch z⟩
  | non => rw [e] at ht; simp [tyP, tagB] at ht; have := d_non r e; subst v; exact base (.base .non) ht.symm
  | bl b => rw [e] at ht; simp [tyP, tagB] at ht; have := d_bl r e; subst v; exact base (.base (.bl _)) ht.symm
  | int b => rw [e] at ht; simp [tyP, tagB] at ht; have := d_int r e; subst v; exact base (.base (.int _)) ht.symm
  | str b => rw [e] at ht; simp [tyP, tagB] at ht; have := d_str r e; subst v; exact base (.base (.str _)) ht.symm
  | ref a => rw [e] at ht; simp [tyP, tagB] at ht
  | ty a => rw [e] at ht; simp [tyP, tagB] at ht
theorem c_isi {F : TyN → TyN → Option Bool} (Cs : List Addr) (hC : ∀ C ∈ Cs, IsC X.K C) (hF : ∀ t c b, F t c = some b → PySem.W.kitOne X.K (tyVal t) (tyVal c) = some b) (k : PV → PV → Sto → RK → Prop)
    (hk : ∀ p q S R, k p q S R → kIsi F p q S R ∧ ∀ C fs, dr S p = .obj C fs → C ∈ Cs) : CallP X L (.builtin "isinstance") (p2 k) := call2_of fun pins s σ H x y us p p' S R Q I rv st r r' hkk q => by
  obtain ⟨hk1, hk2⟩ := hk p p' S R hkk
  unfold kIsi at hk1
  split at hk1
  · rename_i t c et ec
    split at hk1
    · rename_i b eb
      obtain ⟨u1, u2, rfl, r1, r2⟩ := vals2 rv
      obtain ⟨P, K1, K2, hx⟩ := kit_rv I r1 st r et fun C eC => by
        cases ed : dr S p with
        | obj D fs =>
          rw [ed] at et; simp only [tyP, Option.some.injEq] at et
          subst et; cases eC
          exact hC _ (hk2 _ _ ed)
        | _ => rw [ed] at et; simp [tyP, tagB] at et <;> (subst et; cases eC)
      have eu : u2 = tyVal c := by
        cases r' <;> simp only [clP, Option.some.injEq, reduceCtorEq] at ec <;> subst ec <;> exact r2
      subst eu
      have one : PySem.W.kitOne X.K (tyVal t) (tyVal c) = some b := by
        unfold ansI at eb
        split at eb
        · rename_i a n
          split at eb
          · rename_i hn
            cases eb
            have ha : tagB (dr S p) = some a := by
              cases ed : dr S p <;> rw [ed] at et <;> simp_all [tyP]
            exact kit_ty (isTyB_ok ha hn)
          · exact hF _ _ _ eb
        · split at eb
          · rename_i e1
            cases eb
            subst e1
            unfold PySem.W.kitOne tyVal
            rw [if_pos (by simp)]
          · exact hF _ _ _ eb
        · exact hF _ _ _ eb
      exact PySem.W.kia_one K1 I.kIn K2 one hx fun tk => ⟨.bl b, H, I.tok tk, rfl, q.now st (.bl _) hk1⟩
    · exact hk1.elim
  · exact hk1.elim
end
end PX
end L2

namespace L2
namespace PX
open PySem PySem.Spec PyProof.Rows
def keyT (e : Int × Value) : Str := match e.2 with
  | .str k _ => k
  | _ => Str.empty
def GoodT (P : Program) (w : World) (e : Int × Value) : Prop := ∃ k tk, e.2 = Value.str k tk ∧ e.1 = (PySem.strKind P w).hash k
/-- the set of texts at a: its members, their number; it can be walked -/
def TxR (P : Program) (w : World) (h : Heap) (a : Addr) (S : Str → Bool) (n : Nat) : Prop :=
  ∃ o es ep t, h.get? a = some o ∧ o.ExactSet ∧ o.data = .set es ep t ∧ (∀ e ∈ es.toList, GoodT P w e) ∧ (es.toList.map keyT).Nodup ∧ (∀ k, S k = true ↔ k ∈ es.toList.map keyT) ∧
    es.size < scanBound ∧ t.fits es.size = true ∧ es.size = n ∧ Ris t.place.toList ∧ (w.params.followText "set-order" = true ∨ t.led = true)
section
variable {P : Program} {w : World} {h h' : Heap} {a : Addr} {S : Str → Bool} {n : Nat}
theorem TxR.at (R : TxR P w h a S n) (k : ∀ o, h.get? a = some o → h'.get? a = some o) : TxR P w h' a S n := by
  obtain ⟨o, es, ep, t, ho, r⟩ := R
  exact ⟨o, es, ep, t, k o ho, r⟩
theorem TxR.congr {S' : Str → Bool} {n' : Nat} (R : TxR P w h a S n) (e : ∀ k, S' k = S k) (en : n = n') : TxR P w h a S' n' := by
  have q : S' = S := funext e
  subst en
  rw [q]; exact R
end
section
variable {P : Program} {w : World} {A : Around} {E : Value → Shared → Prop} {s : Shared} {a : Addr} {S : Str → Bool} {n : Nat}
end
section
variable {prog : Program} {w : World} {A : Around} {R : Result → Shared → Prop} {I : Addr} {fp wr : List Addr} {G : Array GenState → Array GenState → Prop} {n : Nat} {P : Nat → Value → Prop} {St : Nat → Shared → Prop}
end
section
variable {P : Program} {w : World} {A : Around} {E : Value → Shared → Prop} {s : Shared}
end
end PX
end L2

namespace L2
namespace PX
open PySem PySem.Spec PyProof.Rows
def tyB (T : String) (p : PV) : Prop := match p with
  | .lst _ => T = "list"
  | .str _ => T = "str"
  | .dct _ => T = "dict"
  | .tup _ => T = "tuple"
  | _ => False
section
variable {X : Cx} {L : Lc}
theorem ty_at {pins : List (Addr × Obj)} {σ : L2.St} {H : Hp} {s : Shared} {S : Sto} {p : PV} {x : V} {v : Value} {T : String} (I : Inv X pins σ H s) (rx : RelV x v) (st : RSK X.K L H S) (r : RV X.K H p x) (h : tyB T (dr S p)) :
    s.TypeIs v T ∧ ∀ a, v = .ref a → ∃ ob, s.heap.get? a = some ob ∧ ob.dict = none := by
  unfold tyB at h
  split at h
  · rename_i xs e
    subst h
    obtain ⟨a, vs, rfl, h1, h2⟩ := rd_lst (X := X) st r e
    obtain rfl : v = Value.ref a := rx
    obtain ⟨its, _, pl, _⟩ := I.list h1
    refine ⟨pl.isList.typeIs, fun b e => ?_⟩
    cases e
    obtain ⟨o, n, e, c, hd, _⟩ := pl
    exact ⟨o, e, hd⟩
  · rename_i z e
    subst h
    have := d_str r e
    subst x
    obtain ⟨t, rfl⟩ := rx
    exact ⟨typeIs_str s z t, fun _ e => nomatch e⟩
  · rename_i ks e
    subst h
    obtain ⟨a, gs, rfl, h1, h2⟩ := rd_dct (X := X) st r e
    obtain rfl : v = Value.ref a := rx
    obtain ⟨_, _, vs, _, o, _, _, e1, ex, _⟩ := dk_rd I.hok h1
    exact ⟨⟨o, e1, ex.1⟩, fun b e => by cases e; exact ⟨o, e1, ex.2.1⟩⟩
  · rename_i xs e
    subst h
    obtain ⟨a, vs, rfl, h1, h2, _⟩ := rd_tupD (X := X) r e
    obtain rfl : v = Value.ref a := rx
    obtain ⟨its, _, ht, _⟩ := I.tuple h1
    exact ⟨ht.typeIs, fun b e => by cases e; exact h2.at I⟩
  · exact h.elim
abbrev MSp := PV → List PV → Sto → RK → Prop
def MtP (X : Cx) (L : Lc) (id : String) (k : MSp) : Prop :=
  ∀ (pins : List (Addr × Obj)) (s : Shared) (σ : L2.St) (H : Hp) (x : V) (xs : List V) (v : Value) (us : List Value) (p : PV) (ps : List PV) (S : Sto) (R : RK) (Q : VK), Inv X pins σ H s → RelV x v → Vals xs us → RSK X.K L H S → RV X.K H p x → RVs X.K H ps xs → k p ps S R → VC X.K L S H R Q →
    wpAny (model X.prog X.w) X.A (call (.builtin id) (v :: us)) (EP X pins σ Q) X.xe s
def wBM (T : String) (k : MSp) (wo : WE) (wr : WA) : WE := fun ρ S R Z => wo ρ S (fun p S1 => tyB T (dr S1 p) ∧ wr ρ S1 (fun ps S2 => k p ps S2 R) Z) Z
variable {o e : Expr} {es : List Expr} {wo : WE} {wr : WA} {k : MSp} {name : Str} {T id : String} {apos cpos : Pos}
theorem de_bm (pa : PlainAttrs T) (slot : Slot T name id) (hty : typeOf (.builtin id) = pure (.type "method_descriptor")) (hm : MtP X L id k) (ho : DE X L o wo) (ha : DA X L (e :: es) wr)
    (hbase : attributeBase o name X.env (eval o X.env) = eval o X.env := by rfl)
    (hfew : ((backTo cpos (starEach (e :: es) X.env)).all (fun x => !x.1) && (backToKw cpos (keywordEach [] X.env)).all (fun x => x.1.isSome)
      && decide ((e :: es).length + ([] : List Keyword).length + (if ([] : List Keyword).isEmpty then 0 else 1) < 30)) = true := by rfl)
    (hline : (apos.endLine == cpos.line) = true := by rfl) (hs : starEach (e :: es) X.env = (false, eval e X.env) :: starEach es X.env := by rfl) (hplain : (backTo cpos (starEach es X.env)).any (·.1) = false := by rfl) :
    DE X L (.Call (.Attribute o name apos) (e :: es) [] cpos) (wBM T k wo wr) := by
  refine ⟨fun pins s σ H Q I ⟨ρ, S, R, Z, A, h, q, hZ⟩ => ?_⟩
  refine wpAny_Call_method_late hbase hfew hline rfl (lone ho I A h hZ fun v s1 x H1 p S1 I1 rx i A1 r ⟨ty, hk1⟩ => ?_)
  obtain ⟨h1, h2⟩ := ty_at I1 rx A1.st r ty
  refine ⟨T, id, pa, slot, hty, h1, h2, ?_⟩
  have hA := largs (k := fun ps S2 R Z => k p ps S2 R) ha I1 A1 hk1 (q.fr i) (hZ.fr i) cpos (Qf := fun us s2 => wpAny (model X.prog X.w) X.A (call (.builtin id) (v :: us)) (EP X pins σ Q) X.xe s2) fun us s2 xs ps S2 H2 I2 i2 rv st j rr hk2 q2 z2 => hm pins s2 σ H2 x xs v us p ps S2 R Q I2 rx rv st (r.imm i2.imm) rr hk2 q2
  rw [hs] at hA ⊢
  refine Calls.callWith_builtin (by show (false || (backTo cpos (starEach es X.env)).any (·.1)) = false; rw [hplain] <;> rfl) (Calls.evalArgs_plain ?_)
  exact hA
/-- xs.append(x), xs of the store -/
def kApp : MSp := fun p ps S R => match p with
  | .ref a => match S a with
    | some (.lst xs) => match ps with
      | [y] => xs.length < sizeLine ∧ R .non (updS S a (.lst (xs ++ [y])))
      | _ => False
    | _ => False
  | _ => False
theorem m_app : MtP X L "list.append" kApp := by
  intro pins s σ H x xs v us p ps S R Q I rx rv st r rr hk q
  cases r with
  | ref a =>
    unfold kApp at hk
    dsimp only at hk
    split at hk
    · rename_i ys e
      split at hk
      · rename_i y
        cases rr with | cons ry rr =>
        cases rr
        obtain ⟨vs, h1, h2⟩ := st.mo a _ e
        rename_i yv
        have f : Fr S H (updS S a (.lst (ys ++ [y]))) (upd H a (.lst (vs ++ [yv]))) := .put h1 trivial (by rw [e]; simp)
        refine mt_append pins s σ H _ _ v us Q I rx rv ⟨a, vs, yv, rfl, rfl, h1, by rw [← h2.length]; exact hk.1, ?_⟩
        exact q _ _ _ _ f (st.put h1 trivial ⟨_, upd_same, (h2.imm f.imm).append (.cons (ry.imm f.imm) .nil)⟩) .non hk.2
      · exact hk.elim
    · exact hk.elim
  | _ => exact hk.elim
theorem de_append (ho : DE X L o wo) (ha : DA X L [e] wr) (hbase : attributeBase o "append" X.env (eval o X.env) = eval o X.env := by rfl)
    (hfew : ((backTo cpos (starEach [e] X.env)).all (fun x => !x.1) && (backToKw cpos (keywordEach [] X.env)).all (fun x => x.1.isSome)
      && decide ([e].length + ([] : List Keyword).length + (if ([] : List Keyword).isEmpty then 0 else 1) < 30)) = true := by rfl)
    (hline : (apos.endLine == cpos.line) = true := by rfl) (hs : starEach [e] X.env = (false, eval e X.env) :: starEach [] X.env := by rfl) (hplain : (backTo cpos (starEach [] X.env)).any (·.1) = false := by rfl) :
    DE X L (.Call (.Attribute o "append" apos) [e] [] cpos) (wBM "list" kApp wo wr) := de_bm F.plainAttrs_list F.slot_list_append F.type_list_append m_app ho ha hbase hfew hline hs hplain
def strsOf : List PV → Option (List Str)
  | [] => some []
  | .str b :: r => (strsOf r).map (b :: ·)
  | _ :: _ => none
theorem strsOf_rv {K : PySem.W.Frag} {H : Hp} : ∀ {xs : List PV} {vs : List V} {bs : List Str}, RVs K H xs vs → strsOf xs = some bs → vs = bs.map V.str
  | _, _, _, .nil, e => by simp [strsOf] at e; subst e; rfl
  | _, _, _, .cons r rs, e => by
    cases r with
    | str b =>
      simp only [strsOf, Option.map_eq_some_iff] at e
      obtain ⟨bs', e1, rfl⟩ := e
      rw [strsOf_rv rs e1]; rfl
    | _ => simp [strsOf] at e
def seqOf : PV → Option (List PV)
  | .lst xs => some xs
  | .tup xs => some xs
  | _ => none
theorem rd_seq {H : Hp} {S : Sto} {p : PV} {v : V} {xs : List PV} (st : RSK X.K L H S) (r : RV X.K H p v) (e : seqOf (dr S p) = some xs) : ∃ a vs, v = .ref a ∧ (SqL X.K H a vs ∨ SqT X.K H a vs) ∧ RVs X.K H xs vs := by
  cases q : dr S p with
  | lst ys =>
    rw [q] at e; cases e
    obtain ⟨a, vs, rfl, h1, h2⟩ := rd_lst (X := X) st r q
    exact ⟨a, vs, rfl, .inl h1, h2⟩
  | tup ys =>
    rw [q] at e; cases e
    obtain ⟨a, vs, rfl, h1, h2⟩ := rd_tup (X := X) r q
    exact ⟨a, vs, rfl, .inr h1, h2⟩
  | _ => rw [q] at e; simp [seqOf] at e
end
namespace NeK
section
variable {prog : Program} {w : World} {A : Around} {E : Value → Shared → Prop} {s : Shared} {K : PySem.W.Frag} {x C L f : Addr} {h₀ : Heap} {m : Str → Option Value} {ox : Obj} {od : Option Obj} {b tb : Value}
end
end NeK
/-- what == of a class of ours asks -/
structure EqC (K : PySem.W.Frag) (C f : Addr) : Prop where
  eq : PySem.W.findIn K (.ref C) "__eq__" = some (some (.ref f))
  fn : PySem.W.isFn K (.ref f) = true
  ne : PySem.W.findIn K (.ref C) "__ne__" = some (some (.builtin "object.__ne__"))
  ob : PySem.W.mroIn K C (.type "object") = some true
section
variable {X : Cx} {L : Lc}
mutual
theorem toD_noDict : ∀ (p : PV) (d : PyData), toD p = some d → d.hasDict = false
  | .non, _, e => by simp [toD] at e; subst e; rfl
  | .bl b, _, e => by simp [toD] at e; subst e; rfl
  | .int b, _, e => by simp [toD] at e; subst e; rfl
  | .str b, _, e => by simp [toD] at e; subst e; rfl
  | .tup xs, _, e => by
    simp only [toD, Option.map_eq_some_iff] at e
    obtain ⟨ds, e1, rfl⟩ := e
    simp only [PyData.hasDict]
    exact toDs_noDict xs ds e1
  | .lst xs, _, e => by
    simp only [toD, Option.map_eq_some_iff] at e
    obtain ⟨ds, e1, rfl⟩ := e
    simp only [PyData.hasDict]
    exact toDs_noDict xs ds e1
  | .ref _, _, e => by simp [toD] at e
  | .ty _, _, e => by simp [toD] at e
  | .dct _, _, e => by simp [toD] at e
  | .obj _ _, _, e => by simp [toD] at e
theorem toDs_noDict : ∀ (p : List PV) (d : List PyData), toDs p = some d → PyData.hasDictAll d = false
  | [], _, e => by simp [toDs] at e; subst e; rfl
  | x :: xs, _, e => by
    simp only [toDs, Option.bind_eq_some_iff, Option.map_eq_some_iff] at e
    obtain ⟨d, e1, ds, e2, rfl⟩ := e
    simp only [PyData.hasDictAll]
    rw [toD_noDict x d e1, toDs_noDict xs ds e2]; rfl
end
def kRepr : PV → Sto → RK → Prop := fun p S R => match toD (dr S p) with
  | some d => d.showable = true ∧ d.shown.length ≤ sizeLine ∧ d.depth ≤ 64 ∧ R (.str d.shown) S
  | none => False
theorem c_repr (hg : X.A.guards = some []) (hu : X.A.units + 66 < cLine) : CallP X L (.builtin "repr") (p1 kRepr) := call1_of fun pins s σ H x us p S R Q I rv st r hk q => by
  unfold kRepr at hk
  split at hk
  · rename_i d e
    obtain ⟨h1, h2, h3, h4⟩ := hk
    have dp := dp_dr st r e
    obtain ⟨u, rfl, rx⟩ := vals1 rv
    obtain ⟨as, rd⟩ := Dp.reads I d x u dp rx
    have nd := toD_noDict _ d e
    cases rd with
    | none => exact PySem.P.repr_of_none ⟨.str _, H, I.tok _, ⟨_, rfl⟩, q.now st (.str _) h4⟩
    | bool b => exact PySem.P.repr_of_bool ⟨.str _, H, I.tok _, ⟨_, rfl⟩, q.now st (.str _) h4⟩
    | int i t => exact PySem.P.repr_of_int (by simpa [PyData.showable] using h1) ⟨.str _, H, I.tok _, ⟨_, rfl⟩, q.now st (.str _) h4⟩
    | str z t => exact PySem.P.repr_of_str (hsz := h2) ⟨.str _, H, I.tok _, ⟨_, rfl⟩, q.now st (.str _) h4⟩
    | list k1 k2 k3 k4 => exact repr_of_reads' (hsz := h2) (.list k1 k2 k3 k4) h1 (fun z => by rw [nd] at z; cases z) hg (by omega) (fun _ _ z => z) fun h' u tk hk => ⟨.str _, H, I.kept hk, ⟨_, rfl⟩, q.now st (.str _) h4⟩
    | tuple k1 k2 k3 k4 => exact repr_of_reads' (hsz := h2) (.tuple k1 k2 k3 k4) h1 (fun z => by rw [nd] at z; cases z) hg (by omega) (fun _ _ z => z) fun h' u tk hk => ⟨.str _, H, I.kept hk, ⟨_, rfl⟩, q.now st (.str _) h4⟩
    | dict => simp [PyData.hasDict] at nd
  · exact hk.elim
end
end PX
end L2

namespace L2
namespace PX
open PySem PySem.Spec PyProof.Rows
section
variable {P : Program} {w : World} {A : Around} {E : Value → Shared → Prop} {s : Shared}
/-- sorted(v), v's items texts -/
theorem sorted_any {v : Value} {Q : Value → Shared → Prop} {Pss : List Str → Prop} {W : Shared → Prop}
    (hcol : ∀ Q' : List Value → Shared → Prop, (∀ s1 vs ss, W s1 → StrsAre vs ss → Pss ss → vs.length ≤ sizeLine → Q' vs s1) → wpAny (model P w) A.in1 (collect v) Q' E s)
    (hQ : ∀ s1 s' p (out : Array Value) (c : Nat) ss ss', W s1 → (∀ b o, s1.heap.get? b = some o → s'.heap.get? b = some o) → s'.gens = s1.gens → s'.os = s1.os → s1.heap.objs.size ≤ p →
      s'.heap.get? p = some (seqObj "list" out c) → Pss ss → StrsAre out.toList ss' → ss'.Perm ss → sortedS ss' = true → out.size ≤ sizeLine → Q (.ref p) s') :
    wpAny (model P w) A (call (.builtin "sorted") [v]) Q E s := by
  refine Calls.call_function_entry kind_sorted plain_sorted entry_sorted (args_sorted1 _) ?_
  unfold Builtin.«sorted»
  refine wpAny_bind (m := checkCount "sorted" 1 1 _) (wpAny_pure ?_)
  refine wpAny_bind (hcol _ fun s1 vs ss hW hS hP hL => ?_)
  refine wpAny_bind (wpAny_newList ?_ hL)
  have hoL : (s1.heap.push (seqObj "list" vs.toArray 0)).get? s1.heap.objs.size = some (seqObj "list" vs.toArray 0) := Heap.get?_push_size _ rfl
  refine wpAny_bind (wpAny_holding (wpAny_call_entry slot_list_sort ⟨_, hoL, rfl⟩ entry_list_sort (list_sort_treeKAny strKind_oneLt hoL hS.keysOf (fun v₁ v₂ rest e => keyKind_strs (by rw [← e]; exact hS)) hL fun st' a1 a2 => ⟨_, rfl, ?_⟩) (args_list_sort _)))
  obtain ⟨ss', h1, h2, h3⟩ := sorted_out_str hS a1 a2
  obtain ⟨c, hc⟩ := sortedHeap_at (vs := vs) (out := (arrOf st').map (·.2)) hoL
  refine wpAny_pure ⟨_, rfl, hQ s1 _ s1.heap.objs.size _ c ss ss' hW (fun b u q => ?_) rfl rfl (Nat.le_refl _) hc hP h1 h2 h3 ?_⟩
  · have hlt := Heap.lt_size q
    show (sortedHeap (s1.heap.push (seqObj "list" vs.toArray 0)) s1.heap.objs.size vs _).get? b = some u
    rw [sortedHeap_old (Nat.ne_of_lt hlt) (by rw [size_push']; exact Nat.lt_succ_of_lt hlt)]
    exact Heap.get?_push_of_some _ q
  · have e1 := StrsAre.len_eq h1
    have e2 := StrsAre.len_eq hS
    have e3 := h2.length_eq
    rw [← Array.length_toList]
    omega
end
section
variable {X : Cx} {L : Lc} {pins : List (Addr × Obj)} {σ : L2.St} {H : Hp} {s : Shared}
theorem vals_of_strsA : ∀ {us : List Value} {xs : List Str}, StrsAre us xs → Vals (xs.map V.str) us
  | _, _, .nil => .nil
  | _, _, .cons n t h => .cons ⟨t, rfl⟩ (vals_of_strsA h)
/-- what sorted gives, of texts -/
theorem sorted_fin {p : Addr} {out : Array Value} {c : Nat} {ss' : List Str} {s' : Shared} {Q : VK} (I : Inv X pins σ H s) (k : ∀ b o, s.heap.get? b = some o → s'.heap.get? b = some o) (g : s'.gens = s.gens) (ho : s'.os = s.os) (hp : s.heap.objs.size ≤ p)
    (hg : s'.heap.get? p = some (seqObj "list" out c)) (hS : StrsAre out.toList ss') (hz : out.size ≤ sizeLine) (q : H p = none → Q (.ref p) (upd H p (.lst (ss'.map V.str)))) : EP X pins σ Q (.ref p) s' := by
  have hn : H p = none := I.hok.fresh hp
  have hlen : (ss'.map V.str).length ≤ sizeLine := by rw [List.length_map, ← StrsAre.len_eq hS, Array.length_toList]; exact hz
  have J : Inv X pins σ (upd H p (.lst (ss'.map V.str))) { s with heap := s'.heap, gens := s'.gens, drawn := s'.drawn, toks := s'.toks } :=
    I.call (ch := []) (Un.laid k hp hn) (I.hok.laid k hp ⟨hlen, out.toList, c, vals_of_strsA hS, hg⟩) (by rw [g]; exact I.bare) (fun _ z => nomatch z)
  have e : s' = { s with heap := s'.heap, gens := s'.gens, drawn := s'.drawn, toks := s'.toks } := by
    cases s'
    cases s
    cases ho
    rfl
  rw [e]
  exact ⟨.ref p, _, J, rfl, q hn⟩
theorem cr_sortSeq : CallR X (.builtin "sorted") (fun vs H Q => ∃ (a : Addr) (ss : List Str), vs = [V.ref a] ∧ (SqL X.K H a (ss.map V.str) ∨ SqT X.K H a (ss.map V.str)) ∧
    ∀ (zs : List Str) (p : Addr), zs.Perm ss → sortedS zs = true → H p = none → Q (.ref p) (upd H p (.lst (zs.map V.str)))) := by
  intro pins s σ H vs us Q I r h
  obtain ⟨a, ss, rfl, hq, q⟩ := h
  rw [Vals.ref1 r]
  have key : ∀ (T : String) (ol : Obj) (its : List Value) (nl : Nat), (T = "list" ∨ T = "tuple") → s.heap.get? a = some ol → ol.cls = .type T → ol.data = .seq its.toArray nl → Vals (ss.map V.str) its → (ss.map V.str).length ≤ sizeLine →
      wpAny (model X.prog X.w) X.A (call (.builtin "sorted") [.ref a]) (EP X pins σ Q) X.xe s := fun T ol its nl hT ho hcl hd rv hz => by
    have hl := rv.length
    refine sorted_any (W := fun s1 => ∃ h', s1 = { s with heap := h' } ∧ ∀ b o, s.heap.get? b = some o → h'.get? b = some o) (Pss := fun ss' => ss' = ss) (fun Q' hQ' => ?_) fun s1 s' p out c ss1 ss' ⟨h', e1, k0⟩ k g' o' hp hg hP hS hpm hs hz2 => ?_
    · refine wpAny_collect_seq a hT ho hcl hd (fun h' k => ?_) (by rw [List.size_toArray, ← hl]; exact hz)
      exact hQ' { s with heap := h' } _ ss ⟨h', rfl, k⟩ (by rw [List.toList_toArray]; exact strs_of_vals rv) rfl (by rw [List.toList_toArray, ← hl]; exact hz)
    · subst hP
      subst e1
      exact sorted_fin (I.kept (t' := s.toks) k0) k g' o' hp hg hS hz2 fun hn => q ss' p hpm hs hn
  rcases hq with hq | hq
  · obtain ⟨its, rv, ⟨o, n, ho, hcl, _, hd⟩, hz⟩ := I.list hq
    exact key "list" o its n (.inl rfl) ho hcl hd rv hz
  · obtain ⟨its, rv, ⟨o, ho, hcl, n, hd⟩, hz⟩ := I.tuple hq
    exact key "tuple" o its n (.inr rfl) ho hcl hd rv hz
def kSorted : PV → Sto → RK → Prop := fun p S R => match seqOf (dr S p) with
  | some xs => match strsOf xs with
    | some ss => ∀ zs : List Str, zs.Perm ss → sortedS zs = true → R (.lst (zs.map PV.str)) S
    | none => False
  | none => False
theorem c_sorted : CallP X L (.builtin "sorted") (p1 kSorted) := call1_of fun pins s σ H x us p S R Q I rv st r hk q => by
  unfold kSorted at hk
  split at hk
  · rename_i xs e
    split at hk
    · rename_i ss es
      obtain ⟨a, vs, rfl, h1, h2⟩ := rd_seq st r e
      have := strsOf_rv h2 es
      subst vs
      exact ghostR (cr_sortSeq pins s σ H _ us (gK Q) I rv ⟨a, ss, rfl, h1, fun zs p hp hs hn => q.newL st (RVs.of_strs zs) hn (hk zs hp hs)⟩)
    · exact hk.elim
  · exact hk.elim
end
end PX
end L2

namespace L2
namespace PX
open PySem PySem.Spec PyProof.Rows LamX
/-- a promise where no guard stands -/
structure FnG (P : Program) (w : World) (K : PySem.W.Frag) (mg : Str → Option Value) (base : Heap) (CX : CXT) (k : Nat) (f : Addr) (fd : FuncData) (ps : List Str) (sp : Sp) : Prop where
  run : ∀ (A : Around) (outer : List Env) (s : Shared) (H : Hp) (args : Args) (us : List Value) (vs : List V) (Q : VK) (E : XK), Room k A → Env0 P w K mg base A outer s H → BindsTo s fd args (ps.zip us) → Vals vs us → sp vs H Q E → A.guards = some [] →
    codeAny (model P w) A (.call (.ref f) args) (CR CX outer P w H s Q E) s
/-- the code object of the def at f -/
def IsCd (K : PySem.W.Frag) (f : Addr) (cdv : Value) : Prop := ∃ (oc : Value) (od : Option Addr) (fd : FuncData) (osl : Array (Option Value)), K.lookup f = some ⟨oc, od, .func fd, osl⟩ ∧ fd.code = cdv ∧ ∃ c, cdv = .ref c
theorem fnG_of {CX : CXT} {P : Program} {w : World} {K : PySem.W.Frag} {mg : Str → Option Value} {base : Heap} {k : Nat} {f : Addr} {x qual : Str} {params : Arguments} {body : List Stmt} {scope : Scope} {fd : FuncData} {N ps : List Str} {sp : Sp}
    (F : FunD K x qual params body scope [] [] f fd) (S : FnScope N ps scope) (len : ∀ vs H Q E, sp vs H Q E → vs.length = ps.length)
    (hbody : ∀ (cdv : Value), IsCd K f cdv → ∀ (A : Around) (outer : List Env) (s : Shared) (H : Hp) (vs : List V) (Q : VK) (E : XK), Room k (A.deeper (envOfC qual scope s.heap.objs.size f cdv)) → A.guards = some [] → sp vs H Q E →
      ∃ t, PSs (cxOf CX P w K mg base N qual scope f cdv A outer s H E) body t ∧ t { nx := fun _ H' => Q .non H', rt := Q } (start N vs) H) : FnG P w K mg base CX (k + 1) f fd ps sp := by
  obtain ⟨oc, od, dV, kV, doc, pm, an, cdv, ct, osl, rfl, lk, hcd, _, _⟩ := F.ex
  refine ⟨fun A outer s H args us vs Q E hr e0 hb r hsp hg => ?_⟩
  have hl := len _ _ _ _ hsp
  have KX : K.In s.heap := e0.mod.kin.keeps fun b o e => (e0.bs b o e).1
  have lim : s.heap.NoLimit := e0.mod.nolimit.keeps fun b o e => (e0.bs b o e).1
  have hkind : ∀ y ∈ ps.zip us, scope.names.lookup y.1 = some .local ∨ (scope.names.lookup y.1 = some .cell ∧ ((cellsFrom (s.heap.objs.size + 1) scope.names []).lookup y.1).isSome = true) := fun ⟨n, v⟩ hy => by
    rcases S.par n (List.of_mem_zip hy).1 with q | q
    · exact .inl q
    · exact .inr ⟨q, PySem.W.cellsFrom_some _ _ _ (.inl q)⟩
  refine codeAny_call_function hr.depth (KX _ _ lk) rfl S.co S.gen rfl (PySem.W.codeRec_of KX hcd) (hb _ _ _ _ ?_)
  refine wpAny_newFunctionEnv_cells S.kind hkind fun env he s1 x => ?_
  subst he
  refine ⟨lim.keeps x.toInCall.keep, codeAny_func ?_⟩
  have hc2 : IsCd K f cdv := ⟨_, _, _, _, lk, rfl, by
    cases cdv with
    | ref c => exact ⟨c, rfl⟩
    | _ => cases hcd⟩
  obtain ⟨t, ht, hq⟩ := hbody cdv hc2 A outer s H vs Q E (hr.deeper _) hg hsp
  have I : Inv (cxOf CX P w K mg base N qual scope f cdv A outer s H E) [] (start N vs) H s1 := inv_start S hr.hd e0 hl r x
  refine wpAny_mono (ht.run [] s1 (start N vs) H _ I hq) (fun fl s' hs => ?_) fun e s' hs => hs
  have fin : ∀ {σ' : L2.St} {H' : Hp} {v : V} {u : Value}, Inv (cxOf CX P w K mg base N qual scope f cdv A outer s H E) [] σ' H' s' → RelV v u → Q v H' → CE outer P w H s Q u s' :=
    fun {σ' H' v u} J rv q => ⟨v, H', J.os, J.bare, J.base, J.hok, rv, q⟩
  cases fl with
  | ret u =>
    obtain ⟨v, σ', H', J, rv, q⟩ := hs
    exact fin J rv q
  | next =>
    obtain ⟨σ', H', J, q⟩ := hs
    exact fin (v := V.non) (u := Value.none) J rfl q
  | brk =>
    obtain ⟨_, _, _, q⟩ := hs
    exact False.elim q
  | cont =>
    obtain ⟨_, _, _, q⟩ := hs
    exact False.elim q
theorem law_callG {P : Program} {w : World} {K : PySem.W.Frag} {mg mb : Str → Option Value} {CX : CXT} {k : Nat} {fa a : Addr} {cs : List (Addr × Addr)} {fd : FuncData} {x : Str} {sp : Sp} {s₁ : Shared} {vs : List Value} {ns : List Int}
    (KX : K.In s₁.heap) (hns : s₁.heap.Ns mainGlobals mg) (hb : s₁.heap.Ns builtinsNs mb) (hbb : ∀ x : Str, x ≠ "__name__" → mb x = bootBuiltins x) (hlim : s₁.heap.NoLimit) (hg : s₁.gens = #[])
    (hT : ∀ p ∈ cs, s₁.heap.get? p.2 = some { cls := .none, data := .fields #[] }) (nT : ∀ p ∈ cs, K.lookup p.2 = none) (C : ∀ p ∈ cs, PySem.W.CodeHd s₁.heap p.1 p.2)
    (hbm : ∃ (bm : Addr) (ob : Obj), mg "__builtins__" = some (.ref bm) ∧ bm ≠ builtinsNs ∧ s₁.heap.get? bm = some ob ∧ ob.cls = .type "module" ∧ ob.dict = some builtinsNs ∧ ob.data = .plain)
    (ha : s₁.heap.get? a = some { cls := .type "list", data := .seq vs.toArray }) (hi : IntsAre vs ns) (hl : ns.length ≤ sizeLine) (hr : Room k callerA)
    (F : ∀ base : Heap, K.In base → base.Ns mainGlobals mg → (∀ p ∈ cs, TabB base mg p.1 p.2) → FnG P w K mg base CX k fa fd [x] sp) (hbind : ∀ (s : Shared) (u : Value), BindsTo s fd ⟨[u], []⟩ [(x, u)])
    (hsp : ∀ H : Hp, (∀ p ∈ cs, H p.2 = some (.tbl #[])) → FzL K H a (ns.map V.int) → sp [.ref a] H (fun v _ => v = .bl true) fun _ _ _ => False)
    (hCX : ∀ H e s', CX [] H s₁ (fun _ _ _ => False) e s' → False) :
    codeAny (model P w) callerA (.call (.ref fa) ⟨[.ref a], []⟩) (fun r s' => r = .ok (.ret (.bool true)) ∧ OldK s₁.heap s'.heap ∧ s'.os = s₁.os ∧ AllBare s'.gens) s₁ := by
  have rv := vals_ints hi
  have lenV := hi.length
  have isT : ∀ b : Addr, b ∈ cs.map (·.2) → s₁.heap.get? b = some { cls := .none, data := .fields #[] } := fun b hb => by
    obtain ⟨p, hp, e⟩ := List.mem_map.mp hb
    rw [← e]
    exact hT p hp
  have aT : a ∉ cs.map (·.2) := fun z => by
    have q := isT a z
    rw [ha] at q
    have z' : Data.seq vs.toArray _ = Data.fields #[] := congrArg Obj.data (Option.some.inj q)
    cases z'
  have memT : ∀ p ∈ cs, p.2 ∈ cs.map (·.2) := fun p hp => List.mem_map.mpr ⟨p, hp, rfl⟩
  -- from an abstract heap in which nothing but the script and the tables may be tracked
  have core : ∀ H : Hp, (∀ p ∈ cs, H p.2 = some (.tbl #[])) → (∀ b, H b = none ∨ b ∈ cs.map (·.2) ∨ ∃ o xs, H b = some (.frz o (.lst xs))) → FzL K H a (ns.map V.int) → HOk P w H s₁.heap → (∀ b, H b ≠ none → b = a ∨ b ∈ cs.map (·.2)) → (H a ≠ none → K.lookup a = none) →
      codeAny (model P w) callerA (.call (.ref fa) ⟨[.ref a], []⟩) (fun r s' => r = .ok (.ret (.bool true)) ∧ OldK s₁.heap s'.heap ∧ s'.os = s₁.os ∧ AllBare s'.gens) s₁ := by
    intro H hH hO hS hok hA hK
    have base_of : ∀ {b : Addr} {o : Obj}, s₁.heap.get? b = some o → H b = none → (hidT s₁.heap H).get? b = some o := fun e n => hidT_get e n
    have noD : ∀ {b : Addr} {o : Obj}, s₁.heap.get? b = some o → (∀ vs n, o.data ≠ .seq vs n) → o.data ≠ .fields #[] → H b = none := fun {b o} e h1 h2 => by
      cases q : H b with
      | none => rfl
      | some u =>
        rcases hA b (by rw [q]; simp) with e' | e'
        · rw [e', ha] at e
          cases e
          exact (h1 _ _ rfl).elim
        · rw [isT b e'] at e
          cases e
          exact (h2 rfl).elim
    have noA : ∀ {b : Addr} {o : Obj} {es : Array DictEntry} {ep : Nat}, s₁.heap.get? b = some o → o.data = .dict es ep → H b = none := fun {b o es ep} e d => by
      refine noD e (fun vs n z => ?_) fun z => ?_
      · rw [d] at z
        cases z
      · rw [d] at z
        cases z
    have nsK : ∀ {b : Addr} {m : Str → Option Value}, s₁.heap.Ns b m → (hidT s₁.heap H).Ns b m := fun {b m} ⟨o, es, ep, e, d, r⟩ => ⟨o, es, ep, base_of e (noA e d), d, r⟩
    have hKb : K.In (hidT s₁.heap H) := fun b o e => base_of (KX b o e) (by
      cases q : H b with
      | none => rfl
      | some u =>
        rcases hA b (by rw [q]; simp) with e' | e'
        · rw [e'] at e q
          rw [hK (by rw [q]; simp)] at e
          cases e
        · obtain ⟨p, hp, ep⟩ := List.mem_map.mp e'
          rw [← ep, nT p hp] at e
          cases e)
    have hM : L2.Mod K mg (hidT s₁.heap H) := ⟨hKb, nsK hns, ⟨mb, nsK hb, hbb⟩, let ⟨mc, h1, h2⟩ := hlim; ⟨mc, nsK h1, h2⟩⟩
    have TB : ∀ p ∈ cs, TabB (hidT s₁.heap H) mg p.1 p.2 := fun p hp => by
      have hTp := hT p hp
      refine ⟨?_, ?_, fun z => ?_⟩
      · obtain ⟨o, us, file, tf, flags, tg, inF, text, tt, e1, r1, r2, r3, r4, r5, r6, r7, r8, hne⟩ := C p hp
        refine ⟨o, us, file, tf, flags, tg, inF, text, tt, base_of e1 (noD e1 (fun vs n z => ?_) fun z => ?_), r1, r2, r3, r4, r5, r6, r7, r8, hne⟩
        · rw [r2] at z
          cases z
        · rw [r2] at z
          cases z
          simp at r3
      · obtain ⟨bm, ob, b1, b2, b3, b4, b5, b6⟩ := hbm
        have nG : bm ≠ mainGlobals := fun q => by
          obtain ⟨o, es, ep, e, hd, _⟩ := hns
          rw [q, e] at b3
          cases b3
          rw [hd] at b6
          cases b6
        have nP : bm ≠ p.2 := fun q => by
          rw [q, hTp] at b3
          cases b3
          cases b6
        refine ⟨bm, ob, b1, b2, nG, nP, base_of b3 (noD b3 (fun vs n z => ?_) fun z => ?_), b4, b5, b6⟩
        · rw [b6] at z
          cases z
        · rw [b6] at z
          cases z
      · obtain ⟨o, es, ep, e, hd, _⟩ := hns
        rw [z, hTp] at e
        cases e
        cases hd
    have e0 : Env0 P w K mg (hidT s₁.heap H) callerA [] s₁ H := ⟨rfl, hM, fun b o e => of_hidT e, Nat.le_of_eq (hidT_size _ _), trivial, fun b hb => absurd (show b ∈ ([] : List Addr) from hb) (by simp), hok, .of_eq hg⟩
    refine codeAny_mono ((F _ hKb (nsK hns) TB).run callerA [] s₁ H ⟨[.ref a], []⟩ [.ref a] [.ref a] _ _ hr e0 (hbind s₁ (.ref a)) (.cons rfl .nil) (hsp H hH hS) rfl) fun r s' h => ?_
    cases r with
    | error e => exact (hCX H e s' h).elim
    | ok fl =>
      cases fl with
      | next => exact False.elim h
      | brk => exact False.elim h
      | cont => exact False.elim h
      | ret u =>
        obtain ⟨v, H', os, bare, un, hok', r', q⟩ := h
        have q' : v = .bl true := q
        subst q'
        obtain rfl : u = Value.bool true := r'
        have key : ∀ b o, b ∉ cs.map (·.2) → s₁.heap.get? b = some o → s'.heap.get? b = some o := fun b o nb e => by
          cases q : H b with
          | none => exact un.keep b o e q (by intro z; exact absurd (show b ∈ ([] : List Addr) from z) (by simp)) (by simp)
          | some u =>
            rcases hO b with z | z | ⟨ob, xs, z⟩
            · rw [q] at z; cases z
            · exact absurd z nb
            · have z2 := un.frzs b ob _ z
              obtain ⟨e1, _⟩ := hok b _ z
              obtain ⟨e2, _⟩ := hok' b _ z2
              rw [e] at e1; cases e1
              exact e2
        have grown : ∀ p ∈ cs, ∃ more : Array Value, s'.heap.get? p.2 = some { cls := .none, data := .fields more } := fun p hp => by
          obtain ⟨more, z⟩ := un.tbls p.2 #[] (hH p hp)
          exact ⟨_, hok' p.2 _ z⟩
        refine ⟨rfl, ⟨fun b o e => ?_, fun b o e => ?_⟩, os, bare⟩
        · by_cases hb : b ∈ cs.map (·.2)
          · obtain ⟨p, hp, ep⟩ := List.mem_map.mp hb
            obtain ⟨more, hm⟩ := grown p hp
            rw [← ep] at e ⊢
            rw [hT p hp] at e
            cases e
            exact .inr (.inl ⟨((C p hp).tab (hT p hp)).isCodeTable, rfl, #[], more, rfl, by rw [Array.empty_append]; exact hm⟩)
          · exact .inl (key b o hb e)
        · by_cases hb : b ∈ cs.map (·.2)
          · obtain ⟨p, hp, ep⟩ := List.mem_map.mp hb
            obtain ⟨more, hm⟩ := grown p hp
            rw [← ep]
            exact ⟨_, hm⟩
          · exact ⟨o, key b o hb e⟩
  cases hk : K.lookup a with
  | some o =>
    have e := KX a o hk
    rw [ha] at e
    cases e
    refine core (fun b => if b ∈ cs.map (·.2) then some (.tbl #[]) else none) (fun p hp => if_pos (memT p hp)) (fun b => ?_) (.inr ⟨_, vs.toArray, _, hk, rfl, rfl, rfl, by rw [List.size_toArray, lenV]; exact hl, by simpa using rv⟩) (fun b u z => ?_) (fun b z => ?_) fun z => absurd (show (if a ∈ cs.map (·.2) then some (HO.tbl #[]) else none) = none from if_neg aT) z
    · by_cases hb : b ∈ cs.map (·.2)
      · exact .inr (.inl hb)
      · exact .inl (if_neg hb)
    · by_cases hb : b ∈ cs.map (·.2)
      · have z' := (if_pos hb).symm.trans z
        cases z'
        exact isT b hb
      · have z' := (if_neg hb).symm.trans z
        cases z'
    · by_cases hb : b ∈ cs.map (·.2)
      · exact .inr hb
      · exact absurd (if_neg hb) z
  | none =>
    refine core (fun b => if b = a then some (.frz { cls := .type "list", data := .seq vs.toArray } (.lst (ns.map V.int))) else if b ∈ cs.map (·.2) then some (.tbl #[]) else none) (fun p hp => (if_neg (show ¬ p.2 = a from fun z => aT (by rw [← z]; exact memT p hp))).trans (if_pos (memT p hp))) (fun b => ?_)
      (.inl ⟨{ cls := .type "list", data := .seq vs.toArray }, if_pos rfl⟩) (fun b u z => ?_) (fun b z => ?_) fun _ => hk
    · by_cases hb : b = a
      · exact .inr (.inr ⟨_, _, if_pos hb⟩)
      · by_cases hb2 : b ∈ cs.map (·.2)
        · exact .inr (.inl hb2)
        · exact .inl ((if_neg hb).trans (if_neg hb2))
    · by_cases hb : b = a
      · have z' := (if_pos hb).symm.trans z
        cases z'
        rw [hb]
        exact ⟨ha, by rw [List.length_map]; exact hl, vs, _, rv, ha⟩
      · have z1 := (if_neg hb).symm.trans z
        by_cases hb2 : b ∈ cs.map (·.2)
        · have z' := (if_pos hb2).symm.trans z1
          cases z'
          exact isT b hb2
        · have z' := (if_neg hb2).symm.trans z1
          cases z'
    · by_cases hb : b = a
      · exact .inl hb
      · by_cases hb2 : b ∈ cs.map (·.2)
        · exact .inr hb2
        · exact absurd ((if_neg hb).trans (if_neg hb2)) z

/-- what is known of the law's promise at the head's heap -/
def LawG (l : PySem.W.OpenLaw) (w : World) (K : PySem.W.Frag) (CX : CXT) (k n : Nat) (x : Str) (mg : Str → Option Value) (fa : Addr) (h : Heap) : Prop :=
  ∃ (fd : FuncData) (cs : List (Addr × Addr)) (sp : Sp), (∀ p ∈ cs, h.get? p.2 = some { cls := .none, data := .fields #[] }) ∧ (∀ p ∈ cs, K.lookup p.2 = none) ∧ (∀ p ∈ cs, PySem.W.CodeHd h p.1 p.2) ∧ (∀ (s : Shared) (u : Value), BindsTo s fd ⟨[u], []⟩ [(x, u)]) ∧
    (∀ (H : Hp) (a : Addr) (ns : List Int), ns.length ≤ n → (∀ z ∈ ns, Builtin.Int.intBits z ≤ 1048576) → (∀ p ∈ cs, H p.2 = some (.tbl #[])) → FzL K H a (ns.map V.int) → sp [.ref a] H (fun v _ => v = .bl true) fun _ _ _ => False) ∧
    ∀ base : Heap, K.In base → base.Ns mainGlobals mg → (∀ p ∈ cs, TabB base mg p.1 p.2) → FnG l.prog w K mg base CX k fa fd [x] sp
theorem walkG {l : PySem.W.OpenLaw} {n k : Nat} {q : Program} {loose : List Str} {XP : (Str → Option Value) → Heap → Prop} {YP : World → Heap → Prop} {d : DefRec} {CX : World → CXT} {x : Str}
    (hn : l.most = some n) (hn2 : n ≤ sizeLine) (hdf : d.params.defaults = []) (hr : Room k callerA)
    (F : ∀ (w : World) (mg : Str → Option Value) (fa : Addr) (h : Heap), YP w h → h.Ns mainGlobals mg → mg d.name = some (.ref fa) → ∃ K : PySem.W.Frag, K.In h ∧ LawG l w K (CX w) k n x mg fa h)
    (hCX : ∀ (w : World) (H : Hp) (s : Shared) (e : Value) (s' : Shared), CX w [] H s (fun _ _ _ => False) e s' → False) :
    PySem.W.WalkO q loose XP YP l.row.toRowW d [] (fun f vs => PySem.call f vs) := by
  refine Att.attach_callB hn hdf fun w s₀ s₁ mg mb fa o pm cd doc a vs ns G Y ho hd hcd hmg hobj hints hlen hbits hg => ?_
  obtain ⟨K, KX, fd, cs, sp, hT, nT, C, hb, hsp, hF⟩ := F w mg fa _ Y G.T.g hmg
  exact law_callG KX G.T.g G.T.b G.T.builtins G.T.nolimit hg hT nT C G.T.bmain hobj hints (Nat.le_trans hlen hn2) hr hF hb (fun H hH hS => hsp H a ns hlen hbits hH hS) fun H e s' => hCX w H s₁ e s'
end PX
end L2

namespace L2
namespace PX
open PySem PySem.Spec PyProof.Rows
structure Fx (fa : List He.Fa) (fn : List He.DefD) (K : PySem.W.Frag) (mg : Str → Option Value) : Prop where
  h : ∃ h : Heap, K.In h ∧ h.Ns mainGlobals mg
  c : He.SaysD fa fn K
section
variable {fa : List He.Fa} {fn : List He.DefD} {K : PySem.W.Frag} {mg : Str → Option Value}
theorem Fx.glo (f : Fx fa fn K mg) (i : Nat) {x : Str} (h : fa[i]? = some (.glo x) := by rfl) : mg x = some (.ref (He.ga K x)) := let ⟨_, X, G⟩ := f.h; He.glo_ok X G (f.c.fact i h)
theorem Fx.free (f : Fx fa fn K mg) (i : Nat) {x : Str} (h : fa[i]? = some (.free x) := by rfl) : mg x = none := let ⟨_, X, G⟩ := f.h; He.free_ok X G (f.c.fact i h)
theorem Fx.int (f : Fx fa fn K mg) (i : Nat) {x : Str} {n : Int} (h : fa[i]? = some (.int x n) := by rfl) : ∃ t, mg x = some (.int n t) := let ⟨_, X, G⟩ := f.h; He.int_ok X G (f.c.fact i h)
theorem Fx.str (f : Fx fa fn K mg) (i : Nat) {x z : Str} (h : fa[i]? = some (.str x z) := by rfl) : ∃ t, mg x = some (.str z t) := let ⟨_, X, G⟩ := f.h; He.str_ok X G (f.c.fact i h)
theorem Fx.cls (f : Fx fa fn K mg) (i : Nat) {x : Str} (h : fa[i]? = some (.cls x) := by rfl) : Cls K (He.ga K x) := He.cls_ok (f.c.fact i h)
theorem Fx.noat (f : Fx fa fn K mg) (i : Nat) {x a : Str} (h : fa[i]? = some (.noat x a) := by rfl) : NoAttr K (He.ga K x) a := He.noat_ok (f.c.fact i h)
theorem Fx.meth (f : Fx fa fn K mg) (i : Nat) {x m : Str} (h : fa[i]? = some (.meth x m) := by rfl) : Meth K (He.ga K x) m (He.ma K (He.ga K x) m) := He.meth_ok (f.c.fact i h)
theorem Fx.mkr (f : Fx fa fn K mg) (i : Nat) {x : Str} (h : fa[i]? = some (.mkr x) := by rfl) : Mk K (He.ga K x) (He.ma K (He.ga K x) "__init__") := He.mkr_ok (f.c.fact i h)
end
/-- a def with its promise -/
structure Fn (P : Program) (w : World) (K : PySem.W.Frag) (mg : Str → Option Value) (base : Heap) (T : List (Addr × Str)) (lv : Nat) (at_ : Str × Option Str) (pn : List Str) (sp : PSp) : Prop where
  ex : ∃ fd, FnOk P w K mg base (CX P w) lv (He.fAd K at_) fd pn (spL K T pn.length sp) ∧ Binds K fd pn [] ∧ PySem.W.keepIn K (.ref (He.fAd K at_)) = true
section
variable {X : Cx} {L : Lc} {lv : Nat} {at_ : Str × Option Str} {pn : List Str} {sp : PSp}
theorem Fn.call (f : Fn X.prog X.w X.K X.mg X.base L.T lv at_ pn sp) (tk : Takes X L.W) (hr : Room lv X.A) : CallP X L (.ref (He.fAd X.K at_)) (arN pn.length sp) := by
  obtain ⟨fd, F, b, _⟩ := f.ex
  exact call_fn (P := X.prog) tk F hr b
theorem Fn.kp (f : Fn X.prog X.w X.K X.mg X.base L.T lv at_ pn sp) : PySem.W.keepIn X.K (.ref (He.fAd X.K at_)) = true := let ⟨_, _, _, k⟩ := f.ex; k
/-- C(..) -/
theorem Fn.make {c : Str} {n : Nat} (f : Fn X.prog X.w X.K X.mg X.base L.T lv (c, some "__init__") pn sp) (hn : pn.length = n + 1) (M : Mk X.K (He.ga X.K c) (He.ma X.K (He.ga X.K c) "__init__")) (tk : Takes X L.W) (hr : Room (lv + 1) X.A) : CallP X L (.ref (He.ga X.K c)) (arN n (kMake (He.ga X.K c) sp)) := by
  obtain ⟨fd, F, b, _⟩ := f.ex
  rw [hn] at F
  exact call_make M tk F hr b
end
/-- what a class of ours answers to isinstance, told by one Bool -/
def isCB (K : PySem.W.Frag) (c : Str) : Bool := He.eqO (PySem.W.findIn K (.ref (He.ga K c)) "__class__") (some (some (.builtin "object.__class__"))) && (decide (PySem.W.specialIn K (.builtin "object.__class__") "__get__" = some (some (.builtin "getset_descriptor.__get__"))) &&
  (decide (PySem.W.takesIn K (.builtin "object.__class__") = some true) && decide (PySem.W.mroIn K (He.ga K c) (.type "object") = some true)))
theorem dput_fresh {ks : List (Key × PV)} {k : Key} {v : PV} (h : k ∉ ks.map (·.1)) : dput ks k v = ks ++ [(k, v)] := by
  unfold dput
  rw [if_neg]
  intro z
  obtain ⟨p, hp, e⟩ := List.any_eq_true.mp z
  exact h (List.mem_map.mpr ⟨p, hp, of_decide_eq_true e⟩)
theorem dget_mem {ks : List (Key × PV)} {k : Key} {v : PV} (nd : (ks.map (·.1)).Nodup) (h : (k, v) ∈ ks) : dget ks k = some v := by
  induction ks with
  | nil => cases h
  | cons p r ih =>
    by_cases e : p.1 = k
    · rw [dget_pos e]
      rcases List.mem_cons.mp h with q | q
      · rw [← q]
      · rw [List.map_cons, List.nodup_cons] at nd
        exact absurd (List.mem_map.mpr ⟨_, q, rfl⟩) (e ▸ nd.1)
    · rw [dget_neg e]
      rcases List.mem_cons.mp h with q | q
      · exact absurd (by rw [← q]) e
      · rw [List.map_cons, List.nodup_cons] at nd
        exact ih nd.2 q
end PX
end L2

namespace L2
namespace PX
open PySem PySem.Spec PyProof.Rows
def eqS : PV → PV → Option Bool
  | .non, .non => some true
  | .non, .int _ => some false
  | .int _, .non => some false
  | .non, .bl _ => some false
  | .bl _, .non => some false
  | .non, .str _ => some false
  | .str _, .non => some false
  | .int i, .int j => some (decide (i = j))
  | .bl i, .bl j => some (decide (i = j))
  | .str i, .str j => some (decide (i = j))
  | .int _, .str _ => some false
  | .str _, .int _ => some false
  | .bl _, .str _ => some false
  | .str _, .bl _ => some false
  | _, _ => none
def kEqA (neg : Bool) : K2 := fun p q S R => match eqS (dr S p) (dr S q) with
  | some b => R (.bl (b != neg)) S
  | none => kEqD neg p q S R
section
variable {X : Cx} {L : Lc}
theorem eqS_rv {H : Hp} {S : Sto} {p q : PV} {v u : V} {b : Bool} (r : RV X.K H p v) (r2 : RV X.K H q u) (e : eqS (dr S p) (dr S q) = some b) : scal v u = true ∧ decide (v = u) = b := by
  have hp : (∃ i, dr S p = .int i ∧ v = .int i) ∨ (∃ i, dr S p = .str i ∧ v = .str i) ∨ (∃ i, dr S p = .bl i ∧ v = .bl i) ∨ (dr S p = .non ∧ v = .non) := by
    cases h : dr S p with
    | int i => exact .inl ⟨i, rfl, d_int r h⟩
    | str i => exact .inr (.inl ⟨i, rfl, d_str r h⟩)
    | bl i => exact .inr (.inr (.inl ⟨i, rfl, d_bl r h⟩))
    | non => exact .inr (.inr (.inr ⟨rfl, d_non r h⟩))
    | _ => rw [h] at e; simp [eqS] at e
  have hq : (∃ i, dr S q = .int i ∧ u = .int i) ∨ (∃ i, dr S q = .str i ∧ u = .str i) ∨ (∃ i, dr S q = .bl i ∧ u = .bl i) ∨ (dr S q = .non ∧ u = .non) := by
    cases h : dr S q with
    | int i => exact .inl ⟨i, rfl, d_int r2 h⟩
    | str i => exact .inr (.inl ⟨i, rfl, d_str r2 h⟩)
    | bl i => exact .inr (.inr (.inl ⟨i, rfl, d_bl r2 h⟩))
    | non => exact .inr (.inr (.inr ⟨rfl, d_non r2 h⟩))
    | _ => rw [h] at e; cases hh : dr S p <;> rw [hh] at e <;> simp [eqS] at e
  rcases hp with ⟨i, h1, rfl⟩ | ⟨i, h1, rfl⟩ | ⟨i, h1, rfl⟩ | ⟨h1, rfl⟩ <;> rcases hq with ⟨j, h2, rfl⟩ | ⟨j, h2, rfl⟩ | ⟨j, h2, rfl⟩ | ⟨h2, rfl⟩ <;> rw [h1, h2] at e <;> simp [eqS] at e <;> subst e <;> first
    | exact ⟨rfl, by simp⟩
    | exact ⟨rfl, rfl⟩
    | (refine ⟨rfl, ?_⟩; rw [Bool.eq_iff_iff]; simp)
theorem o_eqA (hu : X.A.units + 64 < cLine) : Op2 X L (compareOp .Eq) (kEqA false) := by
  intro pins s σ H x y v u p q S R Q I rx ry st r1 r2 hk hq
  unfold kEqA at hk
  split at hk
  · rename_i b e
    obtain ⟨h1, h2⟩ := eqS_rv r1 r2 e
    refine op_eq pins s σ H _ _ v u Q I rx ry ⟨h1, ?_⟩
    rw [h2]
    rw [Bool.bne_false] at hk
    exact hq.now st (.bl _) hk
  · exact o_eqD hu pins s σ H x y v u p q S R Q I rx ry st r1 r2 hk hq
theorem o_neA (hu : X.A.units + 64 < cLine) : Op2 X L (compareOp .NotEq) (kEqA true) := by
  intro pins s σ H x y v u p q S R Q I rx ry st r1 r2 hk hq
  unfold kEqA at hk
  split at hk
  · rename_i b e
    obtain ⟨h1, h2⟩ := eqS_rv r1 r2 e
    refine op_ne pins s σ H _ _ v u Q I rx ry ⟨h1, ?_⟩
    rw [h2]
    rw [Bool.bne_true] at hk
    exact hq.now st (.bl _) hk
  · exact o_neD hu pins s σ H x y v u p q S R Q I rx ry st r1 r2 hk hq
/-- isinstance(x, T), T a builtin type, x no instance of ours -/
def kIsB : PV → PV → Sto → RK → Prop := fun p q S R => match tagB (dr S p), q with
  | some a, .ty n => n ∈ tyNames ∧ R (.bl (isTyB a n)) S
  | _, _ => False
theorem c_isB : CallP X L (.builtin "isinstance") (p2 kIsB) := c_isi (F := fun _ _ => none) [] (fun _ h => by cases h) (fun _ _ _ h => by cases h) kIsB fun p q S R h => by
  unfold kIsB at h
  split at h
  · rename_i a n e
    have e2 : tyP (dr S p) = some (.inl a) := by
      cases hh : dr S p <;> rw [hh] at e <;> simp [tagB] at e <;> subst e <;> rfl
    refine ⟨?_, fun C fs e3 => by rw [e3] at e; cases e⟩
    unfold kIsi
    rw [e2]
    show match ansI (fun _ _ => none) (.inl a) (.inl n) with
      | some b => R (.bl b) S
      | none => False
    unfold ansI
    dsimp only
    rw [if_pos h.1]
    exact h.2
  · exact h.elim
end
theorem bt_len : bootBuiltins "len" = some (.builtin "len") := by decide +kernel
theorem bt_abs : bootBuiltins "abs" = some (.builtin "abs") := by decide +kernel
theorem bt_all : bootBuiltins "all" = some (.builtin "all") := by decide +kernel
theorem bt_isinstance : bootBuiltins "isinstance" = some (.builtin "isinstance") := by decide +kernel
theorem bt_repr : bootBuiltins "repr" = some (.builtin "repr") := by decide +kernel
theorem bt_sorted : bootBuiltins "sorted" = some (.builtin "sorted") := by decide +kernel
theorem bt_int : bootBuiltins "int" = some (.type "int") := by decide +kernel
theorem bt_bool : bootBuiltins "bool" = some (.type "bool") := by decide +kernel
theorem bt_str : bootBuiltins "str" = some (.type "str") := by decide +kernel
theorem bt_tuple : bootBuiltins "tuple" = some (.type "tuple") := by decide +kernel
theorem bt_dict : bootBuiltins "dict" = some (.type "dict") := by decide +kernel
theorem Room_u1 {k : Nat} {A : Around} (r : Room k A) : A.units + 1 < cLine := by have := r.un; omega
theorem Room_u64 {k : Nat} {A : Around} (r : Room k A) : A.units + 64 < cLine := by have := r.un; omega
theorem Room_u66 {k : Nat} {A : Around} (r : Room k A) : A.units + 66 < cLine := by have := r.un; omega
/-- one class's field -/
theorem one_cls {K : PySem.W.Frag} {C : Addr} {f : Str} (c : Cls K C) (n : NoAttr K C f) : ∀ D ∈ [C], Cls K D ∧ NoAttr K D f := fun D h => by cases List.mem_singleton.mp h; exact ⟨c, n⟩
end PX
end L2

namespace L2
namespace PX
open PySem PySem.Spec PyProof.Rows
/-- a method call on one line -/
theorem mcall_eval {o : Expr} {m : Str} {apos pos : Pos} {args : List Expr} {env : Env} (hbase : attributeBase o m env (eval o env) = eval o env)
    (hf : methodCallForm (args.length + ([] : List Keyword).length) (backTo pos (starEach args env)) (backToKw pos (keywordEach [] env)) = true) (hl : (apos.endLine == pos.line) = true) :
    eval (.Call (.Attribute o m apos) args [] pos) env = (do
      let ov ← eval o env
      standAt apos.atName
      let (f, first) ← holding [ov] (getMethod ov m (plainOf o env))
      callWith pos f first (backTo pos (starEach args env)) (backToKw pos (keywordEach [] env))) := by
  rw [arm_eval_Call, hbase]
  refine congrArg (Bind.bind (eval o env)) (funext fun ov => congrArg (Bind.bind (standAt apos.atName)) (funext fun _ => ?_))
  exact mcall_line hf hl
section
variable {X : Cx} {L : Lc} {lv : Nat} {x m : Str} {pn : List Str} {sp : PSp} {e o : Expr} {es : List Expr} {wr : WA} {wo : WE} {p pos apos : Pos}
theorem Fn.calln {n : Nat} (f : Fn X.prog X.w X.K X.mg X.base L.T lv (x, none) pn sp) (hn : pn.length = n) (tk : Takes X L.W) (hr : Room lv X.A) : CallP X L (.ref (He.ga X.K x)) (arN n sp) := by
  subst hn; exact Fn.call f tk hr
theorem Fn.callm {n : Nat} {c : Str} (f : Fn X.prog X.w X.K X.mg X.base L.T lv (c, some m) pn sp) (hn : pn.length = n) (tk : Takes X L.W) (hr : Room lv X.A) : CallP X L (.ref (He.ma X.K (He.ga X.K c) m)) (arN n sp) := by
  subst hn; exact Fn.call f tk hr
theorem Fn.kpn (f : Fn X.prog X.w X.K X.mg X.base L.T lv (x, none) pn sp) : PySem.W.keepIn X.K (.ref (He.ga X.K x)) = true := f.kp
theorem de_fn (n : Nat) (f : Fn X.prog X.w X.K X.mg X.base L.T lv (x, none) pn sp) (tk : Takes X L.W) (hr : Room lv X.A) (g : X.mg x = some (.ref (He.ga X.K x))) (hn : pn.length = n) (ha : DA X L (e :: es) wr) (hg : Gl X x := by rfl) (hdb : (x == ("__debug__" : Str)) = false := by decide)
    (he : starEach (e :: es) X.env = (false, eval e X.env) :: starEach es X.env := by rfl) (hpl : (backTo pos (starEach es X.env)).any (·.1) = false := by rfl) : DE X L (.Call (.Name x p) (e :: es) [] pos) (wCall (arN n sp) wr) :=
  de_call (f.calln hn tk hr) g f.kpn ha hg hdb he hpl
theorem de_mk (n : Nat) (f : Fn X.prog X.w X.K X.mg X.base L.T lv (x, some "__init__") pn sp) (M : Mk X.K (He.ga X.K x) (He.ma X.K (He.ga X.K x) "__init__")) (tk : Takes X L.W) (hr : Room (lv + 1) X.A) (g : X.mg x = some (.ref (He.ga X.K x))) (hn : pn.length = n + 1) (ha : DA X L (e :: es) wr) (hg : Gl X x := by rfl) (hdb : (x == ("__debug__" : Str)) = false := by decide)
    (he : starEach (e :: es) X.env = (false, eval e X.env) :: starEach es X.env := by rfl) (hpl : (backTo pos (starEach es X.env)).any (·.1) = false := by rfl) : DE X L (.Call (.Name x p) (e :: es) [] pos) (wCall (arN n (kMake (He.ga X.K x) sp)) wr) :=
  de_call (f.make hn M tk hr) g M.kp ha hg hdb he hpl
theorem de_mth (n : Nat) {c : Str} (f : Fn X.prog X.w X.K X.mg X.base L.T lv (c, some m) pn sp) (cl : Cls X.K (He.ga X.K c)) (hm : Meth X.K (He.ga X.K c) m (He.ma X.K (He.ga X.K c) m)) (tk : Takes X L.W) (hr : Room lv X.A) (hn : pn.length = n) (ho : DE X L o wo) (ha : DA X L (e :: es) wr)
    (hst : starEach (e :: es) X.env = (false, eval e X.env) :: starEach es X.env := by rfl) (hpl : (backTo pos (starEach es X.env)).any (·.1) = false := by rfl)
    (hbase : attributeBase o m X.env (eval o X.env) = eval o X.env := by rfl)
    (hf : methodCallForm ((e :: es).length + ([] : List Keyword).length) (backTo pos (starEach (e :: es) X.env)) (backToKw pos (keywordEach [] X.env)) = true := by rfl) (hl : (apos.endLine == pos.line) = true := by rfl) : DE X L (.Call (.Attribute o m apos) (e :: es) [] pos) (wMeth (He.ga X.K c) m (arN n sp) wo wr) :=
  de_meth (pl := plainOf o X.env) cl hm (f.callm hn tk hr) ho ha hst hpl (mcall_eval hbase hf hl)
end
section
variable {X : Cx} {L : Lc} {elt tg iter c kx vx : Expr} {we wk wv : WE} {wi : WI} {t : WT} {g : Tg} {pos : Pos}
/-- comprehensions, the own slots told -/
theorem de_lcN {scope : Scope} {ifs : List Expr} (own : List (Str × Nat)) (ns : List Nat) (hns : own.map (·.2) = ns) (hc : X.calm = true) (hN : X.N.Nodup) (hi : DI X L tg iter wi) (ok : BlkOk X.N X.env.scope scope own)
    (hg : ∀ (s : Shared) (H : Hp) (C : Addr) (cl : List (Str × Addr)) (fp : List Addr), TgOk (X.blk s H scope (compEnvC scope cl C X.env) fp) tg g) (ht : ∀ (s : Shared) (H : Hp) (C : Addr) (cl : List (Str × Addr)) (fp : List Addr), DTs (X.blk s H scope (compEnvC scope cl C X.env) fp) L.in_ ifs t)
    (he : ∀ (s : Shared) (H : Hp) (C : Addr) (cl : List (Str × Addr)) (fp : List Addr), DE (X.blk s H scope (compEnvC scope cl C X.env) fp) L.in_ elt we) (ho : ∀ i ∈ g.ixs, i ∈ own.map (·.2) := by decide) (hs : ∀ x, foldedSetIterable iter X.env x = pure x := by intro _; rfl) :
    DE X L (.ListComp elt [⟨tg, iter, ifs, 0⟩] scope pos) (wLc wi g t we ns) := by
  subst hns; exact de_lc own hc hN hi ok hg ht he ho hs
theorem ds_setLcN (i : Nat) {y : Str} {py spos : Pos} {scope : Scope} {ifs : List Expr} (own : List (Str × Nat)) (ns : List Nat) (hns : own.map (·.2) = ns) (hc : X.calm = true) (hN : X.N.Nodup) (hi : DI X L tg iter wi) (ok : BlkOk X.N X.env.scope scope own)
    (hg : ∀ (s : Shared) (H : Hp) (C : Addr) (cl : List (Str × Addr)) (fp : List Addr), TgOk (X.blk s H scope (compEnvC scope cl C X.env) fp) tg g) (ht : ∀ (s : Shared) (H : Hp) (C : Addr) (cl : List (Str × Addr)) (fp : List Addr), DTs (X.blk s H scope (compEnvC scope cl C X.env) fp) L.in_ ifs t)
    (he : ∀ (s : Shared) (H : Hp) (C : Addr) (cl : List (Str × Addr)) (fp : List Addr), DE (X.blk s H scope (compEnvC scope cl C X.env) fp) L.in_ elt we) (ho : ∀ i ∈ g.ixs, i ∈ own.map (·.2) := by decide) (hy : X.N[i]? = some y := by rfl) (hyl : X.env.scope.names.lookup y = some .local := by rfl)
    (hsw : swapsWith (.ListComp elt [⟨tg, iter, ifs, 0⟩] scope pos) (some (.Name y py)) spos.line X.env = pure true := by exact sw_true rfl rfl rfl (by decide +kernel)) (hs : ∀ x, foldedSetIterable iter X.env x = pure x := by intro _; rfl) :
    DS X L (.Assign [.Name y py] (.ListComp elt [⟨tg, iter, ifs, 0⟩] scope pos) spos) (wSet i (wLc wi g t we ns)) := by
  subst hns; exact ds_setLc i own hc hN hi ok hg ht he ho hy hyl hsw hs
theorem de_dcN {scope : Scope} {ifs : List Expr} (own : List (Str × Nat)) (ns : List Nat) (hns : own.map (·.2) = ns) (hc : X.calm = true) (hN : X.N.Nodup) (hi : DI X L tg iter wi) (ok : BlkOk X.N X.env.scope scope own)
    (hg : ∀ (s : Shared) (H : Hp) (C : Addr) (cl : List (Str × Addr)) (fp : List Addr), TgOk (X.blk s H scope (compEnvC scope cl C X.env) fp) tg g) (ht : ∀ (s : Shared) (H : Hp) (C : Addr) (cl : List (Str × Addr)) (fp : List Addr), DTs (X.blk s H scope (compEnvC scope cl C X.env) fp) L.in_ ifs t)
    (hk : ∀ (s : Shared) (H : Hp) (C : Addr) (cl : List (Str × Addr)) (fp : List Addr), DE (X.blk s H scope (compEnvC scope cl C X.env) fp) L.in_ kx wk)
    (he : ∀ (s : Shared) (H : Hp) (C : Addr) (cl : List (Str × Addr)) (fp : List Addr), DE (X.blk s H scope (compEnvC scope cl C X.env) fp) L.in_ vx wv) (ho : ∀ i ∈ g.ixs, i ∈ own.map (·.2) := by decide) (hs : ∀ x, foldedSetIterable iter X.env x = pure x := by intro _; rfl) :
    DE X L (.DictComp kx vx [⟨tg, iter, ifs, 0⟩] scope pos) (wDc wi g t wk wv ns) := by
  subst hns; exact de_dc own hc hN hi ok hg ht hk he ho hs
end
end PX
end L2

namespace L2
namespace PX
open PySem PySem.Spec PyProof.Rows
section
variable {ρ : Slots} {S : Sto} {R : RK} {Z : ZK} {P : PEnds} {RB : Bool → Sto → Prop} {RA : List PV → Sto → Prop} {RI : List PV → (Sto → Prop) → Sto → Prop} {RO : Option Int → Sto → Prop} {p q : PV} {we wa wb wc wo wi wv : WE} {wr : WA} {t u : WT} {v z : WS} {i j : Nat} {k k' : K2} {k1 : K1} {sp : PSp} {wI : WI} {g : Tg} {own : List Nat} {ps : List PV} {wl wh : WO}
theorem Qa : wRet we P ρ S = we ρ S P.rt (fun e S' => P.ex e ρ S') := rfl
theorem Qb : wRetN P ρ S = P.rt .non S := rfl
theorem Qc : wNext P ρ S = P.nx ρ S := rfl
theorem Qd : wSeq v z P ρ S = v { P with nx := z P } ρ S := rfl
theorem Qe : wNever P ρ S = False := rfl
theorem Qg : wBrk P ρ S = P.bk ρ S := rfl
theorem Qh : wCnt P ρ S = P.ct ρ S := rfl
theorem Qi : wExpr we P ρ S = we ρ S (fun _ S' => P.nx ρ S') (fun e S' => P.ex e ρ S') := rfl
theorem Qj : wIfS t v z P ρ S = t ρ S (fun b S' => if b = true then v P ρ S' else z P ρ S') (fun e S' => P.ex e ρ S') := rfl
theorem Qk : wSet i we P ρ S = we ρ S (fun p S' => P.nx (ρ.set i (some p)) S') (fun e S' => P.ex e ρ S') := rfl
theorem Ql : wAsg g we P ρ S = we ρ S (fun p S' => asg g p ρ S' fun ρ' => P.nx ρ' S') (fun e S' => P.ex e ρ S') := rfl
def par2 (ps : List PV) (k : PV → PV → Prop) : Prop := match ps with
  | [p, q] => k p q
  | _ => False
theorem par2_two {k : PV → PV → Prop} : par2 [p, q] k = k p q := rfl
theorem Qm : wPar i j wr P ρ S = wr ρ S (fun ps S' => par2 ps fun p q => P.nx ((ρ.set i (some p)).set j (some q)) S') (fun e S' => P.ex e ρ S') := by
  have e : (fun (ps : List PV) (S' : Sto) => par2 ps fun p q => P.nx ((ρ.set i (some p)).set j (some q)) S') = fun ps S' => match ps with
      | [p, q] => P.nx ((ρ.set i (some p)).set j (some q)) S'
      | _ => False := by
    funext ps S'
    unfold par2
    rcases ps with _ | ⟨a, _ | ⟨b, _ | ⟨c, r⟩⟩⟩ <;> rfl
  rw [e]
  rfl
theorem Qn : wFor wI g v P ρ S = wI ρ S (fun items ok S' => wForL ok g v P items ρ S') (fun e S' => P.ex e ρ S') := rfl
theorem Qo {Cs : List Addr} {f : Str} : wSetF Cs f wo wv P ρ S = wv ρ S (fun v S1 => wo ρ S1 (fun o S2 => setFK f o v S2 (fun S3 => P.nx ρ S3) (· ∈ Cs)) (fun e S' => P.ex e ρ S')) (fun e S' => P.ex e ρ S') := rfl
theorem Qp : wPut wo wi wv P ρ S = wv ρ S (fun v S1 => wo ρ S1 (fun o S2 => wi ρ S2 (fun i S3 => kPut o i v S3 (fun S4 => P.nx ρ S4)) (fun e S' => P.ex e ρ S')) (fun e S' => P.ex e ρ S')) (fun e S' => P.ex e ρ S') := rfl
def opt (o : Option PV) (k : PV → Prop) : Prop := match o with
  | some p => k p
  | none => False
theorem Qq {k : PV → Prop} : opt (some p) k = k p := rfl
theorem Qr : wVar i ρ S R Z = opt (gs ρ i) fun p => R p S := by
  show (match gs ρ i with
    | some p => R p S
    | none => False) = _
  unfold opt
  cases gs ρ i <;> rfl
theorem Qs : wC p ρ S R Z = R p S := rfl
theorem Qt : wB k wa wb ρ S R Z = wa ρ S (fun p S1 => wb ρ S1 (fun q S2 => k p q S2 R) Z) Z := rfl
theorem Qu : w1 k1 wa ρ S R Z = wa ρ S (fun p S1 => k1 p S1 R) Z := rfl
theorem Qv {w : WE} : tst w ρ S RB Z = w ρ S (kB RB) Z := rfl
theorem Qw {b : Bool} : kB RB (.bl b) S = RB b S := rfl
theorem Qx : wTru wa ρ S RB Z = wa ρ S (fun p S1 => ∃ k, TruP S1 p k ∧ RB k S1) Z := rfl
theorem Qy : wNotT t ρ S RB Z = t ρ S (fun b S1 => RB (!b) S1) Z := rfl
theorem Qz : wAndT t u ρ S RB Z = t ρ S (fun b S1 => if b = true then u ρ S1 RB Z else RB false S1) Z := rfl
theorem Q0 : wOrT t u ρ S RB Z = t ρ S (fun b S1 => if b = true then RB true S1 else u ρ S1 RB Z) Z := rfl
def truK (S : Sto) (p : PV) (k : Bool → Prop) : Prop := ∃ b, TruP S p b ∧ k b
theorem truK_bl {b : Bool} {k : Bool → Prop} : truK S (.bl b) k = k b := propext ⟨fun ⟨c, h, h2⟩ => by
  have e : c = b := h
  rw [← e]; exact h2, fun h => ⟨b, rfl, h⟩⟩
theorem Q3 : wAndV wa wb ρ S R Z = wa ρ S (fun p S1 => truK S1 p fun k => if k = true then wb ρ S1 R Z else R p S1) Z := rfl
theorem Q4 : wOrV wa wb ρ S R Z = wa ρ S (fun p S1 => truK S1 p fun k => if k = true then R p S1 else wb ρ S1 R Z) Z := rfl
theorem Q5 : wNotV wa ρ S R Z = wa ρ S (fun p S1 => truK S1 p fun k => R (.bl (!k)) S1) Z := rfl
theorem Q6 : wIf t wa wb ρ S R Z = t ρ S (fun b S1 => if b = true then wa ρ S1 R Z else wb ρ S1 R Z) Z := rfl
def chK (z : PV) (a : Prop) (b : Prop) : Prop := match z with
  | .bl true => a
  | .bl false => b
  | _ => False
theorem chK_bl {b : Bool} {x y : Prop} : chK (.bl b) x y = if b = true then x else y := by cases b <;> simp [chK]
theorem Q7 : wCh k k' wa wb wc ρ S R Z = wa ρ S (fun p S1 => wb ρ S1 (fun q S2 => k p q S2 fun z S3 => chK z (wc ρ S3 (fun r S4 => k' q r S4 R) Z) (R (.bl false) S3)) Z) Z := rfl
theorem Q8 : wNil ρ S RA Z = RA [] S := rfl
theorem Q9 : wCons wa wr ρ S RA Z = wa ρ S (fun p S1 => wr ρ S1 (fun ps S2 => RA (p :: ps) S2) Z) Z := rfl
theorem Ya : wTup wr ρ S R Z = wr ρ S (fun ps S1 => ps.length ≤ sizeLine ∧ R (.tup ps) S1) Z := rfl
theorem Yb : wLst wr ρ S R Z = wr ρ S (fun ps S1 => ps.length ≤ sizeLine ∧ ∀ a, S1 a = none → R (.ref a) (updS S1 a (.lst ps))) Z := rfl
theorem Yc : wLstF wr ρ S R Z = wr ρ S (fun ps S1 => ps.length ≤ sizeLine ∧ R (.lst ps) S1) Z := rfl
theorem Yd : wCall sp wr ρ S R Z = wr ρ S (fun ps S' => sp ps S' R Z) Z := rfl
theorem Ye {n : Nat} : arN n sp ps S R Z = (ps.length = n ∧ sp ps S R Z) := rfl
theorem Yf {k : PV → Sto → RK → Prop} : p1 k [p] S R Z = k p S R := rfl
theorem Yg {k : PV → PV → Sto → RK → Prop} : p2 k [p, q] S R Z = k p q S R := rfl
theorem Yh {C : Addr} {m : Str} : wMeth C m sp wo wr ρ S R Z = wo ρ S (fun p S1 => methK m p S1 (· = C) ∧ wr ρ S1 (fun ps S2 => sp (p :: ps) S2 R Z) Z) Z := rfl
theorem Yi {T : String} {k : MSp} : wBM T k wo wr ρ S R Z = wo ρ S (fun p S1 => tyB T (dr S1 p) ∧ wr ρ S1 (fun ps S2 => k p ps S2 R) Z) Z := rfl
theorem Yj {Cs : List Addr} {f : Str} : wFld Cs f we ρ S R Z = we ρ S (fun p S' => fldK f p S' R (· ∈ Cs)) Z := rfl
theorem Yk : wLc wI g t we own ρ S R Z = wI ρ S (fun items ok S1 => wLcL ok g t we (wipeP ρ own) (fun ys S2 => R (.lst ys) S2) items [] S1) Z := rfl
theorem Ym : wDc wI g t wa wb own ρ S R Z = wI ρ S (fun items ok S1 => wDcL ok g t wa wb (wipeP ρ own) (fun ys S2 => R (.dct ys) S2) items [] S1) Z := rfl
theorem Yn : wIt we ρ S RI Z = we ρ S (fun p S' => itK p S' RI) Z := rfl
theorem Yo : wRng1 wa ρ S RI Z = wa ρ S (fun p S' => intB p fun j => (-(2 ^ 62) ≤ j ∧ j < 2 ^ 62) ∧ RI ((List.range j.toNat).map fun (k : Nat) => PV.int (0 + k)) (fun _ => True) S') Z := rfl
theorem Yp : wRng2 wa wb ρ S RI Z = wa ρ S (fun p S1 => wb ρ S1 (fun q S' => intB p fun i => intB q fun j => (-(2 ^ 62) ≤ i ∧ i < 2 ^ 62 ∧ -(2 ^ 62) ≤ j ∧ j < 2 ^ 62) ∧ RI ((List.range (j - i).toNat).map fun (k : Nat) => PV.int (i + k)) (fun _ => True) S') Z) Z := rfl
theorem Yq {n : Int} {f : Int → Prop} : intB (.int n) f = f n := rfl
theorem Yr : wSl we wl wh ρ S R Z = we ρ S (fun p S1 => wl ρ S1 (fun lo S2 => wh ρ S2 (fun hi S3 => kSl p lo hi S3 R) Z) Z) Z := rfl
theorem Ys : wNo ρ S RO Z = RO none S := rfl
theorem Yt : wSo we ρ S RO Z = we ρ S (fun p S' => intB p fun i => RO (some i) S') Z := rfl
theorem Yu : wYes ρ S RB Z = RB true S := rfl
theorem Yv {f : Slots → Prop} : asg (.nm i) p ρ S f = f (ρ.set i (some p)) := rfl
theorem Yw {x : Option PV} {r : Slots} : gs (x :: r) 0 = x := rfl
theorem Yx {x : Option PV} {r : Slots} {n : Nat} : gs (x :: r) (n + 1) = gs r n := rfl
/-- what stands in the store, by its kind -/
theorem Yy {n : Int} : dr S (.int n) = .int n := rfl
theorem Yz {x : Str} : dr S (.str x) = .str x := rfl
theorem Y0 {b : Bool} : dr S (.bl b) = .bl b := rfl
theorem Y1 : dr S .non = .non := rfl
theorem Y2 {xs : List PV} : dr S (.tup xs) = .tup xs := rfl
theorem Y3 {xs : List PV} : dr S (.lst xs) = .lst xs := rfl
theorem Y4 {xs : List (Key × PV)} : dr S (.dct xs) = .dct xs := rfl
theorem Y5 {C : Addr} {fs : List (Str × PV)} : dr S (.obj C fs) = .obj C fs := rfl
theorem dr_refL {a : Addr} {xs : List PV} (h : S a = some (.lst xs)) : dr S (.ref a) = .lst xs := by simp only [dr, h]
theorem dr_refI {a C : Addr} {fs : List (Str × PV)} (h : S a = some (.ins C fs)) : dr S (.ref a) = .obj C fs := by simp only [dr, h]
theorem Y6 {m n : Int} : kLt (.int m) (.int n) S R = R (.bl (decide (m < n))) S := rfl
theorem Y7 {m n : Int} : kLe (.int m) (.int n) S R = R (.bl (decide (m ≤ n))) S := rfl
theorem Y8 {m n : Int} : kGt (.int m) (.int n) S R = R (.bl (decide (n < m))) S := rfl
theorem Y9 {m n : Int} : kGe (.int m) (.int n) S R = R (.bl (decide (n ≤ m))) S := rfl
theorem Ja {m n : Str} : kLt (.str m) (.str n) S R = R (.bl (ltS m n)) S := rfl
theorem Jb {m n : Int} : kAdd (.int m) (.int n) S R = R (.int (m + n)) S := rfl
theorem Jc {m n : Str} : kAdd (.str m) (.str n) S R = (m.length + n.length ≤ sizeLine ∧ R (.str (m ++ n)) S) := rfl
theorem Jd {m n : List PV} : kAdd (.tup m) (.tup n) S R = (m.length + n.length ≤ sizeLine ∧ R (.tup (m ++ n)) S) := rfl
theorem Je {m n : List PV} : kAdd (.lst m) (.lst n) S R = (m.length + n.length ≤ sizeLine ∧ R (.lst (m ++ n)) S) := rfl
theorem Jf {m n : Int} : kSub (.int m) (.int n) S R = R (.int (m - n)) S := by show (True ∧ _) = _; simp
theorem Jg {m n : Int} : kMul (.int m) (.int n) S R = (CMul m n ∧ R (.int (m * n)) S) := rfl
theorem Jh {m n : Int} : kDiv (.int m) (.int n) S R = (CDiv m n ∧ R (.int (m / n)) S) := rfl
theorem Ji {m n : Int} : kMod (.int m) (.int n) S R = (0 < n ∧ R (.int (m % n)) S) := rfl
theorem Jj {m n : Int} : kPow (.int m) (.int n) S R = (CPow m n ∧ R (.int (m ^ n.toNat)) S) := rfl
theorem Jk {m : Int} : kNeg (.int m) S R = R (.int (-m)) S := rfl
theorem Jl {m n : Int} {b : Bool} : kEqA b (.int m) (.int n) S R = R (.bl (decide (m = n) != b)) S := rfl
theorem Jm {m n : Str} {b : Bool} : kEqA b (.str m) (.str n) S R = R (.bl (decide (m = n) != b)) S := rfl
theorem Jn {b : Bool} : kIs b .non .non S R = R (.bl (!b)) S := rfl
theorem Jo {b : Bool} {n : Int} : kIs b (.int n) .non S R = R (.bl b) S := rfl
theorem Jp {b : Bool} {n : List PV} : kIs b (.tup n) .non S R = R (.bl b) S := rfl
theorem Jq {b : Bool} {C : Addr} {n : List (Str × PV)} : kIs b (.obj C n) .non S R = R (.bl b) S := rfl
theorem Jr {xs : List PV} {n : Int} : kIx (.lst xs) (.int n) S R = ∃ z, atI xs n = some z ∧ R z S := rfl
theorem Js {xs : List PV} {n : Int} : kIx (.tup xs) (.int n) S R = ∃ z, atI xs n = some z ∧ R z S := rfl
theorem Jt {x : Str} {n : Int} : kIx (.str x) (.int n) S R = (x.length ≤ sizeLine ∧ ∃ c, atI x.cps.toList n = some c ∧ R (.str ⟨#[c]⟩) S) := rfl
theorem Ju {ks : List (Key × PV)} {n : Str} : kIx (.dct ks) (.str n) S R = ∃ z, dget ks (.inr n) = some z ∧ R z S := rfl
theorem k_ix_ref {a : Addr} {xs : List PV} {n : Int} (h : S a = some (.lst xs)) : kIx (.ref a) (.int n) S R = ∃ z, atI xs n = some z ∧ R z S := by
  unfold kIx
  rw [dr_refL h]
theorem Jw {x : Str} : kLen (.str x) S R = (x.length ≤ sizeLine ∧ R (.int x.length) S) := rfl
theorem Jx {x : List PV} : kLen (.lst x) S R = R (.int x.length) S := rfl
theorem Jy {x : List PV} : kLen (.tup x) S R = R (.int x.length) S := rfl
theorem k_len_ref {a : Addr} {xs : List PV} (h : S a = some (.lst xs)) : kLen (.ref a) S R = R (.int xs.length) S := by
  unfold kLen
  rw [dr_refL h]
theorem Jz {n : Int} : kInt (.int n) S R = R (.int n) S := rfl
theorem J1 {n : Bool} : kInt (.bl n) S R = R (.int (if n then 1 else 0)) S := rfl
theorem J2 {n : Int} : kAbs (.int n) S R = R (.int (if n < 0 then -n else n)) S := rfl
theorem J3 {n : Int} : kStr (.int n) S R = (n.natAbs.log2 < 1920 ∧ R (.str (toString n)) S) := rfl
theorem J4 {n : Str} : kStr (.str n) S R = R (.str n) S := rfl
theorem J5 {n : List PV} : kTup (.lst n) S R = R (.tup n) S := rfl
theorem k_tup_ref {a : Addr} {xs : List PV} (h : S a = some (.lst xs)) : kTup (.ref a) S R = R (.tup xs) S := by
  unfold kTup
  rw [dr_refL h]
theorem strsOf_map : ∀ bs : List Str, strsOf (bs.map PV.str) = some bs
  | [] => rfl
  | b :: bs => by simp [strsOf, strsOf_map bs]
end
end PX
end L2
namespace L2
namespace PX
open PySem PySem.Spec PyProof.Rows
/-- how a def's body ends -/
abbrev fin (R : RK) (Z : ZK) : PEnds := { nx := fun _ S' => wfg R .non S', rt := gR R, ex := fun e _ S' => zfg Z e S' }
theorem gR_now {R : RK} {p : PV} {S : Sto} (h : R p S) : gR R p S := ⟨fun _ => False, p, S, fun _ z => z.elim, .same p, fun _ _ e => e, fun _ z => z.elim, h⟩
theorem wfg_now {R : RK} {p : PV} {S : Sto} (h : R p S) : wfg R p S := ⟨S, fun _ _ e => e, h⟩
/-- leaving more of the store behind -/
theorem gR_sub {R : RK} {p : PV} {S S' : Sto} (u : Sub S' S) (h : R p S') : gR R p S := ⟨fun _ => False, p, S', fun _ z => z.elim, .same p, u, fun _ z => z.elim, h⟩
end PX
end L2
namespace L2
namespace PX
open PySem PySem.Spec PyProof.Rows
section
variable {S : Sto} {R : RK} {RI : List PV → (Sto → Prop) → Sto → Prop}
theorem J6 {z : Str} : itK (.str z) S RI = RI (z.cps.toList.map fun c => PV.str ⟨#[c]⟩) (fun _ => True) S := rfl
theorem J7 {xs : List PV} : itK (.tup xs) S RI = RI xs (fun _ => True) S := rfl
theorem J8 {xs : List PV} : itK (.lst xs) S RI = RI xs (fun _ => True) S := rfl
theorem blsOf_mapF {α : Type} (b : α → Bool) : ∀ xs : List α, blsOf (xs.map fun x => PV.bl (b x)) = some (xs.map b)
  | [] => rfl
  | x :: xs => by simp [blsOf, blsOf_mapF b xs]
theorem k_allM {α : Type} {b : α → Bool} {xs : List α} : kAll (.lst (xs.map fun x => PV.bl (b x))) S R = R (.bl (xs.all b)) S := by
  unfold kAll
  rw [Y3]
  simp only [blsOf_mapF, List.all_map]
  rfl
end
/-- the same over what the items stand for -/
theorem wLcL_allM {α : Type} {ok : Sto → Prop} {g : Tg} {we : WE} {ρ0 : Slots} {k : List PV → Sto → Prop} (it f : α → PV) {S : Sto} (hok : ok S) (xs : List α)
    (hE : ∀ x ∈ xs, ∀ (R : PV → Sto → Prop), R (f x) S → asg g (it x) ρ0 S fun ρ' => we ρ' S R Z0) (hl : xs.length ≤ sizeLine) (hk : k (xs.map f) S) : wLcL ok g wYes we ρ0 k (xs.map it) [] S := by
  have key : ∀ (ys : List α) (acc : List PV), (∀ x ∈ ys, x ∈ xs) → acc.length + ys.length ≤ sizeLine → k (acc ++ ys.map f) S → wLcL ok g wYes we ρ0 k (ys.map it) acc S := by
    intro ys
    induction ys with
    | nil => intro acc _ _ hk; rw [List.map_nil, List.append_nil] at hk; exact ⟨hok, hk⟩
    | cons x r ih =>
      intro acc hm hl hk
      rw [List.length_cons] at hl
      refine ⟨hok, hE x (hm x List.mem_cons_self) (fun y S3 => acc.length < sizeLine ∧ wLcL ok g wYes we ρ0 k (r.map it) (acc ++ [y]) S3) ⟨by omega, ih (acc ++ [f x]) (fun y hy => hm y (List.mem_cons_of_mem _ hy)) (by rw [List.length_append, List.length_singleton]; omega) ?_⟩⟩
      rw [List.append_assoc]
      exact hk
  exact key xs [] (fun _ h => h) (by simpa using hl) (by simpa using hk)
theorem atI_nn {α : Type} {xs : List α} {i : Int} {j : Nat} {v : α} (hi : i = (j : Int)) (h : xs[j]? = some v) : atI xs i = some v := by subst hi; exact atI_nat h
end PX
end L2
namespace L2
namespace PX
open PySem PySem.Spec PyProof.Rows
section
variable {S : Sto} {R : RK} {p q : PV}
theorem any_eqF (x : Str) : ∀ ts : List Str, ((ts.map PV.str).any fun y => eqF y (.str x)) = decide (x ∈ ts)
  | [] => by simp
  | t :: ts => by
    rw [List.map_cons, List.any_cons, any_eqF x ts]
    show ((t == x) || _) = _
    rw [Bool.eq_iff_iff, Bool.or_eq_true, beq_iff_eq, decide_eq_true_iff, decide_eq_true_iff, List.mem_cons]
    exact ⟨fun h => h.imp Eq.symm id, fun h => h.imp Eq.symm id⟩
theorem all_flatS : ∀ ts : List Str, (ts.map PV.str).all flatP = true
  | [] => rfl
  | t :: ts => by rw [List.map_cons, List.all_cons, all_flatS ts]; rfl
theorem k_in_strs {neg : Bool} {x : Str} {ts : List Str} (h : seqOf (dr S q) = some (ts.map PV.str)) : kIn neg (.str x) q S R = R (.bl (decide (x ∈ ts) != neg)) S := by
  unfold kIn
  cases e : dr S q with
  | tup xs =>
    rw [e] at h
    have e2 : xs = ts.map PV.str := Option.some.inj h
    subst e2
    simp only [any_eqF, all_flatS]
    exact propext ⟨fun z => z.2.2, fun z => ⟨rfl, trivial, z⟩⟩
  | lst xs =>
    rw [e] at h
    have e2 : xs = ts.map PV.str := Option.some.inj h
    subst e2
    simp only [any_eqF, all_flatS]
    exact propext ⟨fun z => z.2.2, fun z => ⟨rfl, trivial, z⟩⟩
  | _ => rw [e] at h; cases h
theorem J9 {neg : Bool} {x : Str} {ks : List (Key × PV)} : kIn neg (.str x) (.dct ks) S R = R (.bl ((dget ks (.inr x)).isSome != neg)) S := rfl
end
end PX
end L2
namespace L2
namespace PX
open PySem PySem.Spec PyProof.Rows
section
variable {S : Sto} {R : RK} {p q : PV}
theorem k_app {a : Addr} {xs : List PV} {y : PV} (h : S a = some (.lst xs)) : kApp (.ref a) [y] S R = (xs.length < sizeLine ∧ R .non (updS S a (.lst (xs ++ [y])))) := by
  unfold kApp
  simp only [h]
theorem k_fldI {f : Str} {a C : Addr} {Cs : List Addr} {fs : List (Str × PV)} {v : PV} (h : S a = some (.ins C fs)) (l : fs.lookup f = some v) (hc : C ∈ Cs) : fldK f (.ref a) S R (· ∈ Cs) = R v S := by
  unfold fldK
  simp only [dr_refI h, l]
  exact propext ⟨fun z => z.2, fun z => ⟨hc, z⟩⟩
theorem k_fldO {f : Str} {C : Addr} {Cs : List Addr} {fs : List (Str × PV)} {v : PV} (l : fs.lookup f = some v) (hc : C ∈ Cs) : fldK f (.obj C fs) S R (· ∈ Cs) = R v S := by
  unfold fldK
  simp only [Y5, l]
  exact propext ⟨fun z => z.2, fun z => ⟨hc, z⟩⟩
theorem k_setF {f : Str} {a C : Addr} {Cs : List Addr} {fs : List (Str × PV)} {v : PV} {k : Sto → Prop} (h : S a = some (.ins C fs)) (hc : C ∈ Cs) (hl : fs.length < 1000) : setFK f (.ref a) v S k (· ∈ Cs) = k (updS S a (.ins C (putP f v fs))) := by
  unfold setFK
  simp only [h]
  exact propext ⟨fun z => z.2.2, fun z => ⟨hc, hl, z⟩⟩
theorem k_methI {m : Str} {a C : Addr} {fs : List (Str × PV)} (h : S a = some (.ins C fs)) (l : fs.lookup m = none) : methK m (.ref a) S (· = C) = True := by
  unfold methK
  simp only [dr_refI h, l]
  exact propext ⟨fun _ => trivial, fun _ => ⟨trivial, trivial⟩⟩
theorem k_tyB_ref {a : Addr} {xs : List PV} (h : S a = some (.lst xs)) : tyB "list" (dr S (.ref a)) = True := by
  rw [dr_refL h]; exact propext ⟨fun _ => trivial, fun _ => rfl⟩
end
/-- {t: [] for t in ts} -/
theorem dc_lists {ρ0 : Slots} {i : Nat} {k : List (Key × PV) → Sto → Prop} (hg : ∀ p, gs (ρ0.set i (some p)) i = some p) {S : Sto} {ts : List Str} (nd : ts.Nodup) (hz : ts.length ≤ sizeLine)
    (hk : ∀ (As : List (Str × Addr)) (S' : Sto), As.map Prod.fst = ts → (As.map Prod.snd).Nodup → (∀ p ∈ As, S p.2 = none) → (∀ p ∈ As, S' p.2 = some (.lst [])) → (∀ b, b ∉ As.map Prod.snd → S' b = S b) → k (As.map fun p => (.inr p.1, .ref p.2)) S') :
    wDcL (fun _ => True) (.nm i) wYes (wVar i) (wLst wNil) ρ0 k (ts.map PV.str) [] S := by
  have key : ∀ (rest done : List Str) (As : List (Str × Addr)) (S1 : Sto), ts = done ++ rest → As.map Prod.fst = done → (As.map Prod.snd).Nodup → (∀ p ∈ As, S p.2 = none) → (∀ p ∈ As, S1 p.2 = some (.lst [])) → (∀ b, b ∉ As.map Prod.snd → S1 b = S b) →
      wDcL (fun _ => True) (.nm i) wYes (wVar i) (wLst wNil) ρ0 k (rest.map PV.str) (As.map fun p => (.inr p.1, .ref p.2)) S1 := by
    intro rest
    induction rest with
    | nil =>
      intro done As S1 e h1 h2 h3 h4 h5
      rw [List.append_nil] at e
      exact ⟨trivial, hk As S1 (by rw [h1, e]) h2 h3 h4 h5⟩
    | cons t r ih =>
      intro done As S1 e h1 h2 h3 h4 h5
      refine ⟨trivial, ?_⟩
      simp only [↓Yv, ↓Yu, if_true, ↓Qr, hg, ↓Qq, ↓Yb, ↓Q8]
      refine ⟨by rw [sizeLine_eq]; decide, fun a ha => ⟨?_, ?_⟩⟩
      · rw [List.length_map]
        have h6 := congrArg List.length h1
        have h7 := congrArg List.length e
        rw [List.length_map] at h6
        rw [List.length_append, List.length_cons] at h7
        omega
      · have hn : a ∉ As.map Prod.snd := fun z => by
          obtain ⟨q, hq, eq⟩ := List.mem_map.mp z
          rw [← eq, h4 q hq] at ha; cases ha
        have hS : S a = none := by rw [← h5 a hn]; exact ha
        have ht : t ∉ done := by
          rw [e] at nd
          exact fun z => (List.nodup_append.mp nd).2.2 t z t List.mem_cons_self rfl
        rw [dput_fresh (fun z => ht (by
          rw [← h1]
          obtain ⟨q, hq, eq⟩ := List.mem_map.mp z
          obtain ⟨q', hq', eq'⟩ := List.mem_map.mp hq
          rw [← eq'] at eq
          cases eq
          exact List.mem_map.mpr ⟨q', hq', rfl⟩))]
        have := ih (done ++ [t]) (As ++ [(t, a)]) (updS S1 a (.lst [])) (by rw [e, List.append_assoc]; rfl) (by rw [List.map_append, h1]; rfl) (by
          rw [List.map_append]
          exact List.nodup_append.mpr ⟨h2, by simp, fun x hx y hy => by
            rcases List.mem_singleton.mp (show y ∈ [a] from hy) with rfl
            exact fun z => hn (z ▸ hx)⟩) (fun p hp => by
          rcases List.mem_append.mp hp with q | q
          · exact h3 p q
          · rcases List.mem_singleton.mp q with rfl; exact hS) (fun p hp => by
          rcases List.mem_append.mp hp with q | q
          · rw [updS_ne (fun z => hn (by rw [← z]; exact List.mem_map.mpr ⟨p, q, rfl⟩))]; exact h4 p q
          · rcases List.mem_singleton.mp q with rfl; exact updS_same) (fun b hb => by
          rw [List.map_append, List.mem_append] at hb
          rw [updS_ne (fun z => hb (.inr (List.mem_singleton.mpr z)))]
          exact h5 b fun z => hb (.inl z))
        rw [List.map_append] at this
        exact this
  exact key ts [] [] S rfl rfl List.nodup_nil (fun p hp => (by cases hp)) (fun p hp => (by cases hp)) fun b _ => rfl
end PX
end L2
namespace L2
namespace PX
open PySem PySem.Spec PyProof.Rows
/-- {k(x): v(x) for x in xs}, the keys all different -/
theorem dc_pure {α : Type} {ok : Sto → Prop} {g : Tg} {wk wv : WE} {ρ0 : Slots} {k : List (Key × PV) → Sto → Prop} (it vl : α → PV) (ky : α → Str) {S : Sto} (hok : ok S) (xs : List α) (nd : (xs.map ky).Nodup)
    (hE : ∀ x ∈ xs, ∀ (R : Key → PV → Sto → Prop), R (.inr (ky x)) (vl x) S → asg g (it x) ρ0 S fun ρ' => wk ρ' S (fun y S3 => wv ρ' S3 (fun z S4 => keyB y fun q => R q z S4) Z0) Z0) (hl : xs.length ≤ sizeLine) (hk : k (xs.map fun x => (.inr (ky x), vl x)) S) :
    wDcL ok g wYes wk wv ρ0 k (xs.map it) [] S := by
  have key : ∀ (rest done : List α), xs = done ++ rest → wDcL ok g wYes wk wv ρ0 k (rest.map it) (done.map fun x => (.inr (ky x), vl x)) S := by
    intro rest
    induction rest with
    | nil => intro done e; rw [List.append_nil] at e; rw [← e]; exact ⟨hok, hk⟩
    | cons x r ih =>
      intro done e
      have hx : x ∈ xs := by rw [e]; exact List.mem_append_right _ List.mem_cons_self
      refine ⟨hok, hE x hx (fun q z S4 => (done.map fun x => ((.inr (ky x) : Key), vl x)).length < sizeLine ∧ wDcL ok g wYes wk wv ρ0 k (r.map it) (dput (done.map fun x => (.inr (ky x), vl x)) q z) S4) ⟨?_, ?_⟩⟩
      · have h7 := congrArg List.length e
        rw [List.length_append, List.length_cons] at h7
        rw [List.length_map]
        omega
      · rw [dput_fresh (fun z => by
          obtain ⟨q, hq, eq⟩ := List.mem_map.mp z
          obtain ⟨q', hq', eq'⟩ := List.mem_map.mp hq
          rw [← eq'] at eq
          have e1 : ky q' = ky x := Sum.inr.inj eq
          rw [e, List.map_append] at nd
          exact (List.nodup_append.mp nd).2.2 (ky q') (List.mem_map.mpr ⟨q', hq', rfl⟩) (ky x) (List.mem_map.mpr ⟨x, List.mem_cons_self, rfl⟩) e1)]
        have := ih (done ++ [x]) (by rw [e, List.append_assoc]; rfl)
        rw [List.map_append] at this
        exact this
  exact key xs [] rfl
end PX
end L2
namespace L2
namespace PX
open PySem PySem.Spec PyProof.Rows
def notKey (f : Str) : List (Str × PV) → Bool
  | [] => true
  | (g, _) :: r => !decide (g = f) && notKey f r
theorem putP_new {f : Str} {v : PV} : ∀ {fs : List (Str × PV)}, notKey f fs = true → putP f v fs = fs ++ [(f, v)]
  | [], _ => rfl
  | (g, w) :: r, h => by
    unfold notKey at h
    rw [Bool.and_eq_true] at h
    unfold putP
    have n : g ≠ f := by simpa using h.1
    rw [if_neg n, putP_new h.2]; rfl
end PX
end L2
namespace L2
namespace PX
open PySem PySem.Spec PyProof.Rows
section
variable {ρ : Slots} {S : Sto} {R : RK} {Z : ZK} {RI : List PV → (Sto → Prop) → Sto → Prop} {we : WE}
def enK (p : PV) (S : Sto) (RI : List PV → (Sto → Prop) → Sto → Prop) : Prop := match p with
  | .lst xs => RI (enumP xs) (fun _ => True) S
  | .tup xs => RI (enumP xs) (fun _ => True) S
  | _ => False
theorem Qaa : wEnum we ρ S RI Z = we ρ S (fun p S' => enK p S' RI) Z := by
  unfold wEnum enK
  rfl
theorem Qab {xs : List PV} : enK (.tup xs) S RI = RI (enumP xs) (fun _ => True) S := rfl
theorem Qac {xs : List PV} : enK (.lst xs) S RI = RI (enumP xs) (fun _ => True) S := rfl
theorem Qad {is : List Nat} {ps : List PV} {f : Slots → Prop} : asg (.tp is) (.tup ps) ρ S f = (ps.length = is.length ∧ f (setM ρ is ps)) := rfl
theorem setM_nil {ps : List PV} : setM ρ [] ps = ρ := by cases ps <;> rfl
theorem setM_cons {i : Nat} {is : List Nat} {p : PV} {ps : List PV} : setM ρ (i :: is) (p :: ps) = setM (ρ.set i (some p)) is ps := rfl
end
/-- a loop by an invariant -/
theorem wForL_inv {α : Type} {ok : Sto → Prop} {g : Tg} {v : WS} {P : PEnds} (it : α → PV) (I : List α → Slots → Sto → Prop)
    (hI : ∀ x r ρ S, I (x :: r) ρ S → ok S ∧ ∀ N : Slots → Sto → Prop, (∀ ρ' S', I r ρ' S' → N ρ' S') → asg g (it x) ρ S fun ρ' => v { P with nx := N, ct := N, bk := P.nx } ρ' S) (hN : ∀ ρ S, I [] ρ S → ok S ∧ P.nx ρ S) :
    ∀ (xs : List α) (ρ : Slots) (S : Sto), I xs ρ S → wForL ok g v P (xs.map it) ρ S
  | [], ρ, S, h => hN ρ S h
  | x :: r, ρ, S, h => by
    obtain ⟨h1, h2⟩ := hI x r ρ S h
    exact ⟨h1, h2 (wForL ok g v P (r.map it)) fun ρ' S' h' => wForL_inv it I hI hN r ρ' S' h'⟩
end PX
end L2

namespace L2
namespace PX
open PySem PySem.Spec PyProof.Rows
def wLcM (wi : WI) (g : Tg) (t : WT) (we : WE) (own : List Nat) : WE := fun ρ S R Z => wi ρ S (fun items ok S1 => wLcL ok g t we (wipeP ρ own) (fun ys S2 => ∀ a, S2 a = none → R (.ref a) (updS S2 a (.lst ys))) items [] S1) Z
section
variable {X : Cx} {L : Lc} {elt tg iter c : Expr} {we : WE} {wi : WI} {t : WT} {g : Tg} {pos : Pos}
theorem Qae {wI : WI} {own : List Nat} {ρ : Slots} {S : Sto} {R : RK} {Z : ZK} : wLcM wI g t we own ρ S R Z = wI ρ S (fun items ok S1 => wLcL ok g t we (wipeP ρ own) (fun ys S2 => ∀ a, S2 a = none → R (.ref a) (updS S2 a (.lst ys))) items [] S1) Z := rfl
end
end PX
end L2

namespace L2
namespace PX
open PySem PySem.Spec PyProof.Rows ClX
section
variable {X : Cx} {pins : List (Addr × Obj)} {σ : L2.St} {H : Hp} {s : Shared}
theorem Inv.ghostX {d : Addr} {gs : List (Str × V)} {o : Obj} (I : Inv X pins σ H s) (hd : H d = some (.xd gs)) (ho : s.heap.get? d = some o) : Inv X pins σ (upd H d (.frz o (.xd gs))) s := by
  have non : ∀ a, H a = none → upd H d (.frz o (.xd gs)) a = none := fun a e => by
    rw [upd_ne fun z => by rw [z, hd] at e; cases e]; exact e
  have np : ∀ a w, H a = some w → (∀ fs, w ≠ .xd fs) → upd H d (.frz o (.xd gs)) a = some w := fun a w e n => by
    rw [upd_ne fun z => by rw [z, hd] at e; cases e; exact n _ rfl]; exact e
  have ok : ∀ a u, ObjOk X.prog X.w H s.heap a u → ObjOk X.prog X.w (upd H d (.frz o (.xd gs))) s.heap a u := fun a u x => x.stay (fun b v _ q => q) (fun b q => np b _ q fun _ z => (nomatch z)) fun b xs q => np b _ q fun _ z => (nomatch z)
  refine ⟨I.ok, I.os, I.bare, ⟨I.base.keep, I.base.slot, fun b o e n hx => non b (I.base.free b o e n hx), I.base.there, fun b xs e => np b _ (I.base.tups b xs e) fun _ z => (nomatch z), fun b o u e => np b _ (I.base.frzs b o u e) fun _ z => (nomatch z), fun b ps e => ?_⟩,
    I.loc, I.cell, non _ I.free, fun x c e => non _ (I.freeC x c e), fun p hp => ?_, fun a u e => ?_, I.len⟩
  · obtain ⟨more, q⟩ := I.base.tbls b ps e
    exact ⟨more, np b _ q fun _ z => (nomatch z)⟩
  · obtain ⟨h1, h2, h3⟩ := I.pin p hp
    exact ⟨h1, non _ h2, h3⟩
  · by_cases ha : a = d
    · subst ha
      rw [upd_same] at e; cases e
      exact ⟨ho, ok a _ (I.hok a _ hd)⟩
    · rw [upd_ne ha] at e
      exact ok a u (I.hok a u e)
def frK (Q : XK) : XK := fun cls d H => match d with
  | none => Q cls none H
  | some dd => ∃ gs, H dd = some (.xd gs) ∧ ∀ o, Q cls (some dd) (upd H dd (.frz o (.xd gs)))
theorem pmk_frz {e : Expr} {t : L2.St → Hp → XK → Prop} (h : PMk X e t) : PMk X e (fun σ H Q => t σ H (frK Q)) := fun pins s σ H Q I q => thn (h pins s σ H _ I q) fun u s' ⟨a, oe, vs, sI, H', cls, d, eu, J, k, hne, ha, hz, hd, h1, na, os, ag, r, q⟩ => by
  cases d with
  | none => exact ⟨a, oe, vs, sI, H', cls, none, eu, J, k, hne, ha, hz, hd, h1, na, os, ag, r, q⟩
  | some dd =>
    obtain ⟨gs, hg, q⟩ := q
    have hx : ObjOk X.prog X.w H' sI.heap dd (.xd gs) := J.hok dd _ hg
    obtain ⟨mA, hns, hr⟩ := hx
    obtain ⟨od, ho, hl⟩ := lookIn_ns hns
    exact ⟨a, oe, vs, sI, _, cls, some dd, eu, Inv.ghostX J hg ho, k, hne, ha, hz, hd, h1, (by rw [upd_ne fun z => by rw [z, hg] at na; cases na]; exact na), os, ag, r, q od⟩
end
def oexB (K : PySem.W.Frag) (C : Addr) : Bool := (match K.lookup C with
  | some ⟨.type "type", _, .cls cd, sl⟩ => (match cd.mro, sl.toList with
    | .ref C' :: bm, [_, _, _, _, some (.builtin n), _] => C' == C && n == "ValueError.__new__" && !cd.hasDel && cd.hasDict && PySem.HandSPX.refsVE bm
    | _, _ => false)
  | _ => false) && (decide (PySem.W.findIn K (.ref C) "__setattr__" = some (some (.builtin "object.__setattr__"))) && (decide (PySem.W.subIn K (.ref C) (.type "BaseException") = some true) && (decide (PySem.W.typeIn K (.ref C) = some (.type "type")) && PySem.W.keepIn K (.ref C))))
theorem oexB_ok {K : PySem.W.Frag} {C : Addr} (h : oexB K C = true) : OexC K C := by
  obtain ⟨q, h⟩ := Bool.and_eq_true_iff.mp h
  obtain ⟨h2, h⟩ := Bool.and_eq_true_iff.mp h
  obtain ⟨h3, h⟩ := Bool.and_eq_true_iff.mp h
  obtain ⟨h4, h5⟩ := Bool.and_eq_true_iff.mp h
  refine ⟨?_, of_decide_eq_true h2, of_decide_eq_true h3, of_decide_eq_true h4, h5⟩
  split at q
  · rename_i dd cd sl ho
    split at q
    · rename_i C' bm k0 k1 k2 k3 n k5 hm hs
      simp only [Bool.and_eq_true, beq_iff_eq, Bool.not_eq_true'] at q
      obtain ⟨⟨⟨⟨rfl, rfl⟩, hdel⟩, hdd⟩, ht⟩ := q
      obtain ⟨nm, bs, mro, ns, qn, hd, sn, sub, ab, col, del⟩ := cd
      dsimp only at hm hdel hdd
      subst hm hdel hdd
      have hsl : sl = #[k0, k1, k2, k3, some (.builtin "ValueError.__new__"), k5] := by
        obtain ⟨l⟩ := sl
        simp only at hs
        rw [hs]
      subst hsl
      exact ⟨nm, qn, ns, bs, bm, sn, sub, ab, col, dd, k0, k1, k2, k3, k5, ho, ht⟩
    · cases q
  · cases q
/-- __init__ of the class -/
def iniB (K : PySem.W.Frag) (C fI : Addr) : Bool := decide (PySem.W.findIn K (.ref C) "__init__" = some (some (.ref fI))) && decide (PySem.W.typeIn K (.ref fI) = some (.type "function"))
/-- D.__init__ read off the class -/
def clfB (K : PySem.W.Frag) (D : Addr) (m : Str) (f : Addr) : Bool := PySem.W.readsIn K D (.type "type") && (decide (PySem.W.specialIn K (.ref D) "__getattribute__" = some (some (.builtin "type.__getattribute__"))) && (match PySem.W.findCls K (.ref D) (.type "type") m with
  | some (.val u) => decide (u = .ref f)
  | _ => false))
theorem clfB_ok {K : PySem.W.Frag} {D f : Addr} {m : Str} (h : clfB K D m f = true) : CRead K D (.type "type") ∧ CVal K D (.type "type") m (.ref f) (.ref f) := by
  obtain ⟨h1, h⟩ := Bool.and_eq_true_iff.mp h
  obtain ⟨h2, h3⟩ := Bool.and_eq_true_iff.mp h
  refine ⟨⟨h1, of_decide_eq_true h2⟩, ?_, rfl⟩
  split at h3
  · rename_i u e
    rw [e, of_decide_eq_true h3]
  · cases h3
section
variable {P : Program} {w : World} {K : PySem.W.Frag} {mg : Str → Option Value} {base : Heap}
theorem passesF {X : Cx} : Passes (CX X.prog X.w) X (fun _ _ _ => False) := fun _ _ _ _ _ _ _ ⟨_, _, _, _, _, _, _, _, _, _, _, _, z⟩ => z.elim
/-- a promise of a def at the level of the heap -/
structure FnH (P : Program) (w : World) (K : PySem.W.Frag) (mg : Str → Option Value) (base : Heap) (lv : Nat) (at_ : Str × Option Str) (pn : List Str) (sp : Sp) : Prop where
  ex : ∃ fd, FnOk P w K mg base (CX P w) lv (He.fAd K at_) fd pn sp ∧ Binds K fd pn [] ∧ PySem.W.keepIn K (.ref (He.fAd K at_)) = true
/-- D.m(e, ..), a def of the class read off it -/
theorem pe_clf {X : Cx} {k : Nat} {D f : Addr} {fd : FuncData} {ps : List Str} {sp : Sp} {x m : Str} {e : Expr} {es : List Expr} {t : TA} {np apos pos : Pos} {pl : Sem Bool} (hg : Gl X x) (hm : X.mg x = some (.ref D)) (r : CRead X.K D (.type "type")) (c : CVal X.K D (.type "type") m (.ref f) (.ref f))
    (F : FnOk X.prog X.w X.K X.mg X.base (CX X.prog X.w) k f fd ps sp) (hr : Room k X.A) (hb : Binds X.K fd ps []) (hk : PySem.W.keepIn X.K (.ref f) = true) (ha : PA X (e :: es) t) (hdb : (x == ("__debug__" : Str)) = false := by decide)
    (hst : starEach (e :: es) X.env = (false, eval e X.env) :: starEach es X.env := by rfl) (hpl : (backTo pos (starEach es X.env)).any (·.1) = false := by rfl)
    (ht : eval (.Call (.Attribute (.Name x np) m apos) (e :: es) [] pos) X.env = (do
      let ov ← eval (.Name x np) X.env
      standAt apos.atName
      let (f, first) ← holding [ov] (getMethod ov m pl)
      callWith pos f first (backTo pos (starEach (e :: es) X.env)) (backToKw pos (keywordEach [] X.env))) := by rfl) :
    PE X (.Call (.Attribute (.Name x np) m apos) (e :: es) [] pos) (fun σ H Q => t σ H fun vs H1 => sp vs H1 Q fun _ _ _ => False) := by
  refine ⟨fun pins s σ H Q I h => ?_⟩
  refine PySem.W.methodCall_KW (pl := pl) (ld_glob I hg hm ?_ hdb) ht
  refine PySem.W.method_cls I.kIn r.ga (getcval_ok I r c fun s2 I2 => ?_)
  refine PySem.W.callWith_K (h₀ := X.base) I2.ok.mod.kin hk (thn (ha.run pos pins s2 σ H _ I2 h) fun us s3 ⟨vs, H2, I3, rv, q2⟩ => ⟨I3.kIn, ?_⟩) hst hpl
  exact run_fn F hr hb .nil passesF I3 rv (by rw [List.append_nil]; exact q2)
/-- __init__(self) of the first class over ValueError -/
def spX0 (K : PySem.W.Frag) : Sp := fun vs H Q _ => ∃ a C, vs = [.ref a] ∧ OexC K C ∧ H a = some (exo a C none) ∧ Q .non H
/-- __init__(self, v) of a class over it, v kept by the name f -/
def spX1 (K : PySem.W.Frag) (f : Str) : Sp := fun vs H Q _ => ∃ a C v, vs = [.ref a, v] ∧ OexC K C ∧ PySem.W.findIn K (.ref C) f = some none ∧ H a = some (exo a C none) ∧ ∀ dx, H dx = none → dx ≠ a → Q .non (upd (upd H dx (exd dx [(f, v)])) a (exo a C (some dx)))
theorem fnX0 {x qual : Str} {params : Arguments} {body : List Stmt} {scope : Scope} {f : Addr} {fd : FuncData} {N : List Str} (F : FunD K x qual params body scope [] [] f fd) (S : FnScope N ["self"] scope)
    (hb : ∀ (cdv : Value) (A : Around) (outer : List Env) (s : Shared) (H : Hp) (E : XK), PSs (cxOf (CX P w) P w K mg base N qual scope f cdv A outer s H E) body (tSeq (tDrop (tVeI K (tCons (tVar 0) tNil))) tNext)) : FnOk P w K mg base (CX P w) 1 f fd ["self"] (spX0 K) := by
  refine F.ok S (fun vs H Q E ⟨a, C, e, _⟩ => by rw [e]; rfl) fun cdv A outer s H vs Q E hr ⟨a, C, e, T, h1, q⟩ => ⟨_, hb cdv A outer s H E, ?_⟩
  subst e
  exact ⟨.ref a, rfl, a, C, [], rfl, Nat.zero_le _, T, h1, q⟩
theorem fnX1 {x qual fld : Str} {params : Arguments} {body : List Stmt} {scope : Scope} {f : Addr} {fd : FuncData} {N pn : List Str} (F : FunD K x qual params body scope [] [] f fd) (S : FnScope N pn scope) (hn : pn.length = 2)
    (hb : ∀ (cdv : Value) (A : Around) (outer : List Env) (s : Shared) (H : Hp) (E : XK), Room 1 (A.deeper (envOfC qual scope s.heap.objs.size f cdv)) →
      PSs (cxOf (CX P w) P w K mg base N qual scope f cdv A outer s H E) body (tSeq (tDrop (fun σ H Q => tCons (tVar 0) tNil σ H fun vs H1 => spX0 K vs H1 Q fun _ _ _ => False)) (tSeq (tOst K fld (tVar 0) (tVar 1)) tNext))) : FnOk P w K mg base (CX P w) 2 f fd pn (spX1 K fld) := by
  refine F.ok S (fun vs H Q E ⟨a, C, v, e, _⟩ => by rw [e]; exact hn.symm) fun cdv A outer s H vs Q E hr ⟨a, C, v, e, T, hno, h1, q⟩ => ⟨_, hb cdv A outer s H E hr, ?_⟩
  subst e
  exact ⟨.ref a, rfl, a, C, rfl, T, h1, v, rfl, .ref a, rfl, a, C, rfl, T, hno, .inl ⟨h1, fun dx n ne => q dx n ne⟩⟩
end
def wRaise1 (C : Addr) (f : Str) (we : WE) : WS := fun P ρ S => we ρ S (fun p S' => P.ex ⟨C, [(f, p)]⟩ ρ S') (fun e S' => P.ex e ρ S')
section
variable {X : Cx} {L : Lc}
theorem ds_raise1 {lv : Nat} {C : Addr} {f x : Str} {at_ : Str × Option Str} {pn : List Str} {e : Expr} {we : WE} {p cpos pos : Pos} (hc : X.calm = true) (tk : Takes X L.W) (T : OexC X.K C) (ini : iniB X.K C (He.fAd X.K at_) = true) (hno : PySem.W.findIn X.K (.ref C) f = some none)
    (F : FnH X.prog X.w X.K X.mg X.base lv at_ pn (spX1 X.K f)) (hr : Room (lv + 1) X.A) (hm : X.mg x = some (.ref C)) (he : DE X L e we) (hg : Gl X x := by rfl) (hdb : (x == ("__debug__" : Str)) = false := by decide)
    (hs1 : starEach [e] X.env = (false, eval e X.env) :: starEach [] X.env := by rfl) : DS X L (.Raise (some (.Call (.Name x p) [e] [] cpos)) none pos) (wRaise1 C f we) := by
  obtain ⟨fd, F, hb, _⟩ := F.ex
  obtain ⟨i1, i2⟩ := Bool.and_eq_true_iff.mp ini
  refine (ps_raise hc tk (pmk_frz (pmk_oex (dvs := []) T (of_decide_eq_true i1) (of_decide_eq_true i2) F hr hb .nil passesF hg hm (da_cons he da_nil hs1) hdb hs1))).imp fun D σ H ⟨ρ, S, P, A, h, E⟩ => ?_
  refine ⟨ρ, S, fun ps S' => match ps with
    | [q] => P.ex ⟨C, [(f, q)]⟩ ρ S'
    | _ => False, fun e S' => P.ex e ρ S', A, h, fun ps S1 vs H1 i st rv hq => ?_, E.zc A⟩
  obtain ⟨q, rfl⟩ : ∃ q, ps = [q] := by
    rcases ps with _ | ⟨q, _ | ⟨r, t⟩⟩
    · exact hq.elim
    · exact ⟨q, rfl⟩
    · exact hq.elim
  cases rv with | cons r rr =>
  cases rr
  rename_i v
  refine ⟨Nat.succ_le_succ (Nat.zero_le _), fun a ha => ⟨a, C, v, rfl, T, hno, upd_same, fun dx hdx ne => ⟨rfl, dx, [(f, v)], upd_same, ?_, ?_, [(f, v)], upd_same, fun o => ?_⟩⟩⟩
  · rw [upd_ne ne]; exact upd_same
  · rw [upd_ne ne] at hdx; exact hdx
  have hdx' : H1 dx = none := by rw [upd_ne ne] at hdx; exact hdx
  have gr : Grow H1 (upd (upd (del (upd (upd (upd H1 a (exo a C none)) dx (exd dx [(f, v)])) a (exo a C (some dx))) a) dx (.xd [(f, v)])) dx (.frz o (.xd [(f, v)]))) := fun b u e => by
    have n1 : b ≠ dx := fun z => by rw [z, hdx'] at e; cases e
    have n2 : b ≠ a := fun z => by rw [z, ha] at e; cases e
    rw [upd_ne n1, upd_ne n1, del_ne n2, upd_ne n2, upd_ne n1, upd_ne n2]; exact e
  have i2 : Fr S H S1 _ := i.trans (.grow gr)
  exact E.ex _ ρ S1 _ _ σ _ i2 (A.fr i2 (st.grow gr)) ⟨rfl, o, [(f, v)], upd_same, .cons (r.imm (.of gr)) .nil⟩ hq
def wTryA (K : PySem.W.Frag) (body : WS) (i : Nat) (C : Addr) (su : Addr → Exc → WS) : WS := fun P ρ S => body { P with ex := fun e ρ' S' => ∃ b, PySem.W.exmOne K (.ref e.cls) (.ref C) = some b ∧
  (b = true → ∀ a, su a e { nx := fun ρ2 S2 => P.nx (ρ2.set i none) S2, rt := P.rt, bk := fun ρ2 S2 => P.bk (ρ2.set i none) S2, ct := fun ρ2 S2 => P.ct (ρ2.set i none) S2 } (ρ'.set i (some (.ref a))) S') ∧ (b = false → P.ex e ρ' S') } ρ S
def Lsu (K : PySem.W.Frag) (L : Lc) (e : Exc) (cls : Value) (d : Option Addr) : Lc := ⟨L.T, fun _ _ _ _ => False, ⟨fun H => L.J.p H ∧ RX K H e cls d, fun H H' i h => ⟨L.J.st _ _ i h.1, h.2.imm i⟩⟩⟩
def Lbd (L : Lc) (W : WX) : Lc := ⟨L.T, W, L.J⟩
theorem ds_tryA (i : Nat) {n x : Str} {C : Addr} {body suite : List Stmt} {b₀ : Stmt} {np pos pos' : Pos} {wb : WS} {su : Addr → Exc → WS} (hs : X.stack = X.env :: X.outer) (hf : X.env.frame = some X.env.locals) (hN : X.N.Nodup) (hi : X.N[i]? = some n) (hln : X.env.kindOf n = some .local)
    (hm : X.mg x = some (.ref C)) (tk : Takes X L.W) (hb : ∀ (W : WX) (pn : List (Addr × Obj)) (xe : Value → Shared → Prop), Takes (X.tr pn xe) W → DSs (X.tr pn xe) (Lbd L W) body wb)
    (hsu : ∀ (a : Addr) (oe : Obj) (cls : Value) (d : Option Addr) (pn : List (Addr × Obj)) (e : Exc), Zc cls d oe → (∃ vs, oe.data = .fields vs) → DSs (X.suite a ((a, oe) :: pn)) (Lsu X.K L e cls d) (b₀ :: suite) (su a e))
    (hg : Gl X x := by rfl) (hdb : (x == ("__debug__" : Str)) = false := by decide) :
    DS X L (.Try body [.ExceptHandler (some (.Name x np)) (some n) (b₀ :: suite) pos'] [] [] pos) (wTryA X.K wb i C su) := by
  have hsu' : ∀ (a : Addr) (oe : Obj) (cls : Value) (d : Option Addr) (pn : List (Addr × Obj)), Zc cls d oe → (∃ vs, oe.data = .fields vs) → PSs (X.suite a ((a, oe) :: pn)) (b₀ :: suite) (fun D σ H => ∃ e, LS X.K (Lsu X.K L e cls d) (su a e) D σ H) :=
    fun a oe cls d pn hz hf => ⟨fun pins s σ H D I ⟨e, h⟩ => (hsu a oe cls d pn e hz hf).run pins s σ H D I h⟩
  refine (ps_try_as hs hf hN hi hln ⟨hg, hdb, .inl hm⟩ tk (tb := fun W => LS X.K (Lbd L W) wb) (fun W pn xe tk' _ => hb W pn xe tk') hsu').imp fun D σ H ⟨ρ, S, P, A, h, E⟩ => ?_
  refine ⟨ρ, S, _, ⟨A.sl, A.st, A.j⟩, h, ⟨fun ρ1 S1 σ1 H1 i1 A1 h1 => E.nx ρ1 S1 σ1 H1 i1 ⟨A1.sl, A1.st, A1.j⟩ h1, E.rt, fun ρ1 S1 σ1 H1 i1 A1 h1 => E.bk ρ1 S1 σ1 H1 i1 ⟨A1.sl, A1.st, A1.j⟩ h1, fun ρ1 S1 σ1 H1 i1 A1 h1 => E.ct ρ1 S1 σ1 H1 i1 ⟨A1.sl, A1.st, A1.j⟩ h1, ?_⟩⟩
  intro e ρ1 S1 cls d σ1 H1 i1 A1 rx ⟨b, hb1, hyes, hno⟩
  refine ⟨b, by rw [rx.1]; exact hb1, fun z a na => ⟨e, ρ1.set i (some (.ref a)), S1, _, ⟨A1.sl.set (.ref a), A1.st, A1.j, rx⟩, hyes z a, ?_⟩, fun z => E.ex e ρ1 S1 cls d σ1 H1 i1 ⟨A1.sl, A1.st, A1.j⟩ rx (hno z)⟩
  refine ⟨fun ρ2 S2 σ2 H2 i2 A2 h2 => E.nx _ S2 _ H2 (i1.trans i2) ⟨A2.sl.wipe [i], A2.st, A2.j.1⟩ h2, fun p S2 v H2 i2 => E.rt p S2 v H2 (i1.trans i2), fun ρ2 S2 σ2 H2 i2 A2 h2 => E.bk _ S2 _ H2 (i1.trans i2) ⟨A2.sl.wipe [i], A2.st, A2.j.1⟩ h2, fun ρ2 S2 σ2 H2 i2 A2 h2 => E.ct _ S2 _ H2 (i1.trans i2) ⟨A2.sl.wipe [i], A2.st, A2.j.1⟩ h2, fun _ _ _ _ _ _ _ _ _ _ z => z⟩
def wExF (K : PySem.W.Frag) (i : Nat) (a : Addr) (e : Exc) (f : Str) : WE := fun ρ S R _ => gs ρ i = some (.ref a) ∧ XfC K e.cls ∧ PySem.W.findIn K (.ref e.cls) f = some none ∧ ∃ p, e.fs.lookup f = some p ∧ R p S
def wExI (K : PySem.W.Frag) (i : Nat) (a : Addr) (e : Exc) (D : Addr) : WE := fun ρ S R _ => gs ρ i = some (.ref a) ∧ ExcC K e.cls ∧ ∃ b, PySem.W.kitOne K (.ref e.cls) (.ref D) = some b ∧ R (.bl b) S
theorem call_isEd {a : Addr} {oe : Obj} {cls : Value} {d : Option Addr} {pn : List (Addr × Obj)} {ex : Exc} (hz : Zc cls d oe) (hf : ∃ vs, oe.data = .fields vs) : CallR (X.suite a ((a, oe) :: pn)) (.builtin "isinstance")
    (fun xs H Q => RX X.K H ex cls d ∧ ExcC X.K ex.cls ∧ ∃ (D : Addr) (b : Bool), xs = [.ref a, .ref D] ∧ PySem.W.kitOne X.K (.ref ex.cls) (.ref D) = some b ∧ Q (.bl b) H) := by
  intro pins s σ H xs us Q I r ⟨rx, C, D, b, exs, e, q⟩
  subst exs
  obtain ⟨u, v, rfl, ru, rv⟩ := vals2 r
  obtain rfl : u = Value.ref a := ru
  obtain rfl : v = Value.ref D := rv
  obtain ⟨ec, rx2⟩ := rx
  subst ec
  obtain ⟨hget, _⟩ := I.pin (a, oe) (List.mem_append.mpr (.inl List.mem_cons_self))
  obtain ⟨vs, hv⟩ := hf
  obtain ⟨od, J⟩ : ∃ od, PySem.W.InstAt s.heap a oe ex.cls od := by
    cases d with
    | none => exact ⟨none, hget, hz.1, by unfold PySem.W.notCls; rw [hv] <;> rfl, by rw [hz.2]; trivial⟩
    | some dd =>
      obtain ⟨o, gs', hfr, _⟩ := rx2
      obtain ⟨ho0, _⟩ : s.heap.get? dd = some o ∧ ObjOk X.prog X.w H s.heap dd (.xd gs') := I.hok dd _ hfr
      exact ⟨some o, hget, hz.1, by unfold PySem.W.notCls; rw [hv] <;> rfl, by rw [hz.2]; exact ho0⟩
  have hcl : (PySem.W.clsIn X.K ex.cls).isSome = true := by
    obtain ⟨cd, hc, _⟩ := PySem.W.any_some C.hd
    rw [hc]; rfl
  exact PySem.W.kia_one (PySem.W.kitx_exc hcl C.hg C.hk C.hs C.ha C.hn C.ht C.hm) I.kIn J e (fun z => nomatch z) fun tk => ⟨.bl b, H, I.kept (t' := tk) fun _ _ z => z, rfl, q⟩
theorem de_exi (i : Nat) {a : Addr} {oe : Obj} {cls : Value} {d : Option Addr} {pn : List (Addr × Obj)} {ex : Exc} {n y : Str} {D : Addr} {np yp p pos : Pos} (hz : Zc cls d oe) (hf : ∃ vs, oe.data = .fields vs) (hm : X.mg "isinstance" = none) (hD : X.mg y = some (.ref D))
    (hN : X.N[i]? = some n := by rfl) (hv : Vis X.env.scope n := by first | exact Or.inl rfl | exact Or.inr (Or.inl rfl) | exact Or.inr (Or.inr rfl)) (hgi : Gl X "isinstance" := by rfl) (hgy : Gl X y := by rfl) (hd : (n == ("__debug__" : Str)) = false := by decide) (hcd : (n == ("__classdict__" : Str)) = false := by decide) (hdy : (y == ("__debug__" : Str)) = false := by decide)
    (he : starEach [.Name n np, .Name y yp] X.env = (false, eval (.Name n np) X.env) :: starEach [.Name y yp] X.env := by rfl) (he2 : starEach [.Name y yp] X.env = (false, eval (.Name y yp) X.env) :: starEach [] X.env := by rfl) (hpl : (backTo pos (starEach [.Name y yp] X.env)).any (·.1) = false := by rfl) :
    DE (X.suite a ((a, oe) :: pn)) (Lsu X.K L ex cls d) (.Call (.Name "isinstance" p) [.Name n np, .Name y yp] [] pos) (wExI X.K i a ex D) := by
  have h := pe_callB (X := X.suite a ((a, oe) :: pn)) (p := p) (pos := pos) (call_isEd (X := X) (ex := ex) (pn := pn) hz hf) hgi hm boot_isinstance (pa_cons (pe_var (X := X.suite a ((a, oe) :: pn)) (i := i) (pos := np) hN hv hd hcd) (pa_cons (pe_glob (X := X.suite a ((a, oe) :: pn)) (v := .ref D) (pos := yp) hgy hD rfl hdy) pa_nil he2) he) (by decide) (by decide) he hpl
  refine h.imp fun σ H Q ⟨ρ, S, R, Z, A, ⟨h1, C, b, hk, hR⟩, q, hZ⟩ => ?_
  obtain ⟨v, e1, r1⟩ := A.sl.at_ i _ (gs_eq h1)
  cases r1
  exact ⟨.ref a, e1, A.j.2, C, D, b, rfl, hk, q (.bl b) S (.bl b) H (.refl S H) A.st (.bl b) hR⟩
end
end PX
end L2

namespace L2
namespace PX
open PySem PySem.Spec PyProof.Rows
section
variable {X : Cx} {L : Lc} {e o : Expr} {we wo : WE} {wr : WA} {pos cpos apos : Pos}
def wNevE : WE := fun _ _ _ _ => False
def wLits (ps : List PV) : WA := fun _ S RA _ => RA ps S
theorem RVs.erase {K : PySem.W.Frag} {H : Hp} : ∀ {xs : List PV} {vs : List V} (j : Nat), RVs K H xs vs → RVs K H (xs.eraseIdx j) (vs.eraseIdx j)
  | _, _, _, .nil => .nil
  | _, _, 0, .cons _ r => r
  | _, _, j + 1, .cons h r => .cons h (RVs.erase j r)
def kPop : MSp := fun p ps S R => match p, ps with
  | .ref a, [.int i] => (match S a with
    | some (.lst xs) => ∃ (j : Nat) (y : PV), i = (j : Int) ∧ xs[j]? = some y ∧ xs.length ≤ sizeLine ∧ R y (updS S a (.lst (xs.eraseIdx j)))
    | _ => False)
  | _, _ => False
theorem seqIx_nat {j n : Nat} (h : j < n) : seqIndex? (j : Int) n = some j := by
  have e : (if (j : Int) < 0 then (j : Int) + n else j) = j := if_neg (by omega)
  unfold seqIndex?
  rw [e]
  show (if (decide (0 ≤ (j : Int)) && decide ((j : Int) < n)) = true then some (j : Int).toNat else none) = some j
  rw [decide_eq_true (show 0 ≤ (j : Int) by omega), decide_eq_true (show (j : Int) < n by omega)]
  rfl
theorem m_pop : MtP X L "list.pop" kPop := by
  intro pins s σ H x xs v us p ps S R Q I rx rv st r rr hk q
  unfold kPop at hk
  split at hk
  · rename_i a i
    cases r with | ref =>
    split at hk
    · rename_i ys e
      obtain ⟨j, y, rfl, hy, hz, hR⟩ := hk
      cases rr with | cons ry rr =>
      cases rr
      cases ry
      obtain ⟨vs, h1, h2⟩ := st.mo a _ e
      obtain ⟨yv, hv, ryv⟩ := h2.get hy
      have hj : j < vs.length := (List.getElem?_eq_some_iff.mp hv).1
      have hl := h2.length
      rw [sizeLine_eq] at hz
      have f : Fr S H (updS S a (.lst (ys.eraseIdx j))) (upd H a (.lst (vs.eraseIdx j))) := .put h1 trivial (by rw [e]; simp)
      refine mt_popAt pins s σ H _ _ v us Q I rx rv ⟨a, vs, j, j, yv, rfl, rfl, h1, by omega, by omega, seqIx_nat hj, hv, ?_⟩
      exact q _ _ _ _ f (st.put h1 trivial ⟨_, upd_same, (h2.imm f.imm).erase j⟩) (ryv.imm f.imm) hR
    · exact hk.elim
  · exact hk.elim
theorem de_pop (ho : DE X L o wo) (ha : DA X L [e] wr) (hbase : attributeBase o "pop" X.env (eval o X.env) = eval o X.env := by rfl)
    (hfew : ((backTo cpos (starEach [e] X.env)).all (fun x => !x.1) && (backToKw cpos (keywordEach [] X.env)).all (fun x => x.1.isSome)
      && decide ([e].length + ([] : List Keyword).length + (if ([] : List Keyword).isEmpty then 0 else 1) < 30)) = true := by rfl)
    (hline : (apos.endLine == cpos.line) = true := by rfl) (hs : starEach [e] X.env = (false, eval e X.env) :: starEach [] X.env := by rfl) (hplain : (backTo cpos (starEach [] X.env)).any (·.1) = false := by rfl) :
    DE X L (.Call (.Attribute o "pop" apos) [e] [] cpos) (wBM "list" kPop wo wr) := de_bm F.plainAttrs_list F.slot_list_pop F.type_list_pop m_pop ho ha hbase hfew hline hs hplain
def kMax2 : PV → PV → Sto → RK → Prop := fun p q S R => match p, q with
  | .int i, .int j => R (.int (if j > i then j else i)) S
  | _, _ => False
def kMin2 : PV → PV → Sto → RK → Prop := fun p q S R => match p, q with
  | .int i, .int j => R (.int (if j < i then j else i)) S
  | _, _ => False
theorem c_max2 (hc : X.calm = true) : CallP X L (.builtin "max") (p2 kMax2) := call2_of fun pins s σ H x y us p p' S R Q I rv st r r' hk q => by
  unfold kMax2 at hk
  split at hk
  · cases r; cases r'
    exact call_max2 hc pins s σ H _ us Q I rv ⟨_, _, rfl, q.now st (.int _) hk⟩
  · exact hk.elim
theorem c_min2 (hc : X.calm = true) : CallP X L (.builtin "min") (p2 kMin2) := call2_of fun pins s σ H x y us p p' S R Q I rv st r r' hk q => by
  unfold kMin2 at hk
  split at hk
  · cases r; cases r'
    exact call_min2 hc pins s σ H _ us Q I rv ⟨_, _, rfl, q.now st (.int _) hk⟩
  · exact hk.elim
def kRev (p : PV) (S : Sto) (R : RK) : Prop := match dr S p with
  | .lst xs => R (.lst xs.reverse) S
  | _ => False
def wRev (we : WE) : WE := fun ρ S R Z => we ρ S (fun p S1 => kRev p S1 R) Z
theorem VC.newD0 {K : PySem.W.Frag} {L : Lc} {S : Sto} {H : Hp} {R : RK} {Q : VK} {a : Addr} (q : VC K L S H R Q) (st : RSK K L H S) (ha : H a = none) (h : R (.dct []) S) : gK Q (.ref a) (upd H a (.dK [])) := by
  have hs : S a = none := st.free ha
  have g0 : Grow H (upd H a (.dK [])) := grow_upd ha
  refine ⟨fun b => b = a, fun b e => ⟨.dK [], by cases e; exact upd_same, trivial⟩, fun H' gh => ?_⟩
  obtain ⟨u, o, e1, _, e2⟩ := gh.ye a rfl
  rw [upd_same] at e1; cases e1
  have g : Grow H H' := fun b o' e => by
    have n : b ≠ a := ne_of_none e ha
    rw [gh.no b n]; exact g0 b o' e
  exact q _ S _ H' (.grow g) (st.grow g) (.dct (gs := []) e2 rfl .nil) h
def wDct0 : WE := fun _ S R _ => R (.dct []) S
theorem de_dct0 : DE X L (.Dict [] [] pos) wDct0 := (pe_ghost pe_dnewK).imp fun σ H Q ⟨ρ, S, R, Z, A, h, q, hZ⟩ => fun p hp => q.newD0 A.st hp h
def par3 (ps : List PV) (k : PV → PV → PV → Prop) : Prop := match ps with
  | [p, q, r] => k p q r
  | _ => False
theorem par3_three {p q r : PV} {k : PV → PV → PV → Prop} : par3 [p, q, r] k = k p q r := rfl
def wPar3 (i j l : Nat) (wr : WA) : WS := fun P ρ S => wr ρ S (fun ps S' => par3 ps fun p q r => P.nx (((ρ.set i (some p)).set j (some q)).set l (some r)) S') (fun e S' => P.ex e ρ S')
theorem ds_par3 (i j l : Nat) {a b c : Expr} {x y z : Str} {px py pz pt : Pos} {kt k2 pt2} (hc : X.calm = true) (hN : X.N.Nodup) (ha : DA X L [a, b, c] wr) (hi : X.N[i]? = some x := by rfl) (hj : X.N[j]? = some y := by rfl) (hl : X.N[l]? = some z := by rfl)
    (hij : i ≠ j := by decide) (hil : i ≠ l := by decide) (hjl : j ≠ l := by decide)
    (hx : X.env.scope.names.lookup x = some .local := by rfl) (hy : X.env.scope.names.lookup y = some .local := by rfl) (hz : X.env.scope.names.lookup z = some .local := by rfl)
    (hw : swappedStores [.Tuple [.Name x px, .Name y py, .Name z pz] kt pt] (.Tuple [a, b, c] k2 pt2) X.env = pure (some [x, y, z]) := by rfl)
    (hs : swapsWithSole [.Tuple [.Name x px, .Name y py, .Name z pz] kt pt] (.Tuple [a, b, c] k2 pt2) pos.line X.env = pure false := by rfl) :
    DS X L (.Assign [.Tuple [.Name x px, .Name y py, .Name z pz] kt pt] (.Tuple [a, b, c] k2 pt2) pos) (wPar3 i j l wr) := (ps_par3 hc hN hi hj hl hij hil hjl hx hy hz ha hw hs).imp fun D σ H ⟨ρ, S, P, A, h, E⟩ =>
  ⟨ρ, S, _, _, A, h, fun ps S' vs H' f st r n => by
    obtain ⟨p, q, t, rfl⟩ : ∃ p q t, ps = [p, q, t] := by
      rcases ps with _ | ⟨p, _ | ⟨q, _ | ⟨t, _ | ⟨u, r⟩⟩⟩⟩
      · exact n.elim
      · exact n.elim
      · exact n.elim
      · exact ⟨p, q, t, rfl⟩
      · exact n.elim
    cases r with | cons r1 r => cases r with | cons r2 r => cases r with | cons r3 r =>
    cases r
    exact ⟨_, _, _, rfl, E.nx _ S' _ H' f ((((A.fr f st).set r1).set r2).set r3) n⟩, E.zc A⟩
end
section
variable {X : Cx} {L : Lc}
def kAddM : K2 := fun p q S R => match dr S p, dr S q with
  | .lst xs, .lst ys => xs.length + ys.length ≤ sizeLine ∧ ∀ a, S a = none → R (.ref a) (updS S a (.lst (xs ++ ys)))
  | _, _ => False
end
def excCB (K : PySem.W.Frag) (D : Addr) : Bool := decide (PySem.W.findIn K (.ref D) "__getattribute__" = some (some (.builtin "BaseException.__getattribute__"))) && (decide (PySem.W.findIn K (.ref D) "__getattr__" = some none) && (decide (PySem.W.subIn K (.ref D) (.type "BaseException") = some true) &&
  (PySem.W.hasDictIn K D && (decide (PySem.W.findIn K (.ref D) "__class__" = some (some (.builtin "object.__class__"))) && (decide (PySem.W.specialIn K (.builtin "object.__class__") "__get__" = some (some (.builtin "getset_descriptor.__get__"))) &&
  (decide (PySem.W.takesIn K (.builtin "object.__class__") = some true) && decide (PySem.W.mroIn K D (.type "object") = some true)))))))
theorem excCB_ok {K : PySem.W.Frag} {D : Addr} (h : excCB K D = true) : ExcC K D := by
  obtain ⟨h1, h⟩ := He.ba h
  obtain ⟨h2, h⟩ := He.ba h
  obtain ⟨h3, h⟩ := He.ba h
  obtain ⟨h4, h⟩ := He.ba h
  obtain ⟨h5, h⟩ := He.ba h
  obtain ⟨h6, h⟩ := He.ba h
  obtain ⟨h7, h8⟩ := He.ba h
  exact ⟨of_decide_eq_true h1, of_decide_eq_true h2, of_decide_eq_true h3, h4, of_decide_eq_true h5, of_decide_eq_true h6, of_decide_eq_true h7, of_decide_eq_true h8⟩
theorem bt_max : bootBuiltins "max" = some (.builtin "max") := by decide +kernel
theorem bt_min : bootBuiltins "min" = some (.builtin "min") := by decide +kernel
section
variable {ρ : Slots} {S : Sto} {R : RK} {Z : ZK} {P : PEnds} {we wo : WE} {wr : WA} {i j l : Nat} {C : Addr} {f : Str}
theorem Qaf {ps : List PV} {RA : List PV → Sto → Prop} : wLits ps ρ S RA Z = RA ps S := rfl
theorem Qag : wPar3 i j l wr P ρ S = wr ρ S (fun ps S' => par3 ps fun p q r => P.nx (((ρ.set i (some p)).set j (some q)).set l (some r)) S') (fun e S' => P.ex e ρ S') := rfl
theorem Qah : wRev we ρ S R Z = we ρ S (fun p S1 => kRev p S1 R) Z := rfl
theorem Qai : wDct0 ρ S R Z = R (.dct []) S := rfl
theorem Qaj : wNevE ρ S R Z = False := rfl
theorem Qak : wRaise1 C f we P ρ S = we ρ S (fun p S' => P.ex ⟨C, [(f, p)]⟩ ρ S') (fun e S' => P.ex e ρ S') := rfl
theorem Qal {K : PySem.W.Frag} {a : Addr} {e : Exc} : wExF K i a e f ρ S R Z = (gs ρ i = some (.ref a) ∧ XfC K e.cls ∧ PySem.W.findIn K (.ref e.cls) f = some none ∧ ∃ p, e.fs.lookup f = some p ∧ R p S) := rfl
theorem Qam {K : PySem.W.Frag} {a : Addr} {e : Exc} {D : Addr} : wExI K i a e D ρ S R Z = (gs ρ i = some (.ref a) ∧ ExcC K e.cls ∧ ∃ b, PySem.W.kitOne K (.ref e.cls) (.ref D) = some b ∧ R (.bl b) S) := rfl
theorem Qan {K : PySem.W.Frag} {body : WS} {su : Addr → Exc → WS} : wTryA K body i C su P ρ S = body { P with ex := fun e ρ' S' => ∃ b, PySem.W.exmOne K (.ref e.cls) (.ref C) = some b ∧
  (b = true → ∀ a, su a e { nx := fun ρ2 S2 => P.nx (ρ2.set i none) S2, rt := P.rt, bk := fun ρ2 S2 => P.bk (ρ2.set i none) S2, ct := fun ρ2 S2 => P.ct (ρ2.set i none) S2 } (ρ'.set i (some (.ref a))) S') ∧ (b = false → P.ex e ρ' S') } ρ S := rfl
theorem Qao {xs : List PV} : kRev (.lst xs) S R = R (.lst xs.reverse) S := rfl
theorem Qap {xs ys : List PV} : kAddM (.lst xs) (.lst ys) S R = (xs.length + ys.length ≤ sizeLine ∧ ∀ a, S a = none → R (.ref a) (updS S a (.lst (xs ++ ys)))) := rfl
theorem Qaq {m n : Int} : kMax2 (.int m) (.int n) S R = R (.int (if n > m then n else m)) S := rfl
theorem Qar {m n : Int} : kMin2 (.int m) (.int n) S R = R (.int (if n < m then n else m)) S := rfl
theorem k_pop {a : Addr} {xs : List PV} {n : Nat} {y : PV} (h : S a = some (.lst xs)) (hy : xs[n]? = some y) (hz : xs.length ≤ sizeLine) : kPop (.ref a) [.int n] S R = R y (updS S a (.lst (xs.eraseIdx n))) := by
  unfold kPop
  simp only [h]
  exact propext ⟨fun ⟨j, y', e, h1, _, h2⟩ => by
    have e : n = j := Int.ofNat.inj e
    subst e
    rw [hy] at h1; cases h1; exact h2, fun h2 => ⟨n, y, rfl, hy, hz, h2⟩⟩
end
end PX
end L2

namespace L2
namespace PX
open PySem PySem.Spec PyProof.Rows
def kY (n : Nat) (g : Addr → Option Obj) : PySem.W.Frag := He.frT g (cStatics :: He.asD g n)
structure SaysY (fa : List He.Fa) (fn : List He.DefD) (ex : PySem.W.Frag → Bool) (w : World) (K : PySem.W.Frag) : Prop where
  t : He.SaysT fa fn [] w K
  more : ex K = true
end PX
end L2

namespace L2
namespace PX
open PySem PySem.Spec PyProof.Rows
section
variable {X : Cx} {L : Lc} {e o : Expr} {we wo : WE} {wr : WA} {pos cpos apos : Pos}
theorem cnt_rv {K : PySem.W.Frag} {H : Hp} {y : PV} {yv : V} (ry : RV K H y yv) (fy : flatP y = true) : ∀ {xs : List PV} {vs : List V} {us : List Value}, RVs K H xs vs → Vals vs us → xs.all flatP = true → us.countP (eqU yv) = xs.countP fun x => eqF x y
  | _, _, _, .nil, .nil, _ => rfl
  | _, _, _, .cons r rs, .cons u us, h => by
    rw [List.all_cons, Bool.and_eq_true] at h
    rw [List.countP_cons, List.countP_cons, cnt_rv ry fy rs us h.2, eqU_of u (flat_rv r h.1), eqF_rv r ry h.1 fy]
theorem flats_rv {K : PySem.W.Frag} {H : Hp} : ∀ {xs : List PV} {vs : List V}, RVs K H xs vs → xs.all flatP = true → vs.all flatV = true
  | _, _, .nil, _ => rfl
  | _, _, .cons r rs, h => by
    rw [List.all_cons, Bool.and_eq_true] at h
    rw [List.all_cons, flat_rv r h.1, flats_rv rs h.2]; rfl
def kCntL : MSp := fun p ps S R => match ps with
  | [y] => (match dr S p with
    | .lst xs => flatP y = true ∧ xs.all flatP = true ∧ R (.int ((xs.countP fun x => eqF x y : Nat) : Int)) S
    | _ => False)
  | _ => False
theorem m_cntL : MtP X L "list.count" kCntL := by
  intro pins s σ H x zs v us p ps S R Q I rx rxs st r rr hk q
  unfold kCntL at hk
  split at hk
  · rename_i y
    split at hk
    · rename_i xs ep
      obtain ⟨fy, fxs, hR⟩ := hk
      cases rr with | cons ry rr =>
      cases rr
      rename_i yv
      obtain ⟨a, vs, rfl, hs, rv⟩ := rd_lst (X := X) st r ep
      cases rx
      obtain ⟨u, rfl, ru⟩ := rxs.one
      obtain ⟨its, rvs, ⟨⟨cls, dd, data, sl⟩, n, ho, hc, hdn, hd⟩, hlen⟩ := I.list hs
      simp only at hc hd
      subst hc hd
      refine call_meets PySem.F.slot_list_count ⟨_, ho, rfl⟩ PySem.F.entry_list_count (PySem.F.args_list_count_2 _ _)
        (SeqAt.list_countAt a its.toArray n dd sl u (eqU yv)) ⟨ho, fun w hw => mem_eqAt ru (flat_rv ry fy) rvs (flats_rv rv fxs) w (by simpa using hw), ?_⟩
      have ec : its.toArray.toList.countP (eqU yv) = xs.countP fun x => eqF x y := cnt_rv ry fy rv rvs fxs
      rw [ec]
      exact ⟨.int _, H, I.tok _, ⟨s.toks, rfl⟩, q.now st (.int _) hR⟩
    · exact hk.elim
  · exact hk.elim
def kCntT : MSp := fun p ps S R => match ps with
  | [y] => (match dr S p with
    | .tup xs => flatP y = true ∧ xs.all flatP = true ∧ R (.int ((xs.countP fun x => eqF x y : Nat) : Int)) S
    | _ => False)
  | _ => False
theorem m_cntT : MtP X L "tuple.count" kCntT := by
  intro pins s σ H x zs v us p ps S R Q I rx rxs st r rr hk q
  unfold kCntT at hk
  split at hk
  · rename_i y
    split at hk
    · rename_i xs ep
      obtain ⟨fy, fxs, hR⟩ := hk
      cases rr with | cons ry rr =>
      cases rr
      rename_i yv
      obtain ⟨a, vs, rfl, hs, rv⟩ := rd_tup (X := X) r ep
      cases rx
      obtain ⟨u, rfl, ru⟩ := rxs.one
      obtain ⟨its, rvs, ht, hlen⟩ := I.tuple hs
      obtain ⟨⟨cls, dd, data, sl⟩, ho, hc, n, hd⟩ := ht
      simp only at hc hd
      subst hc hd
      refine call_meets PySem.F.slot_tuple_count ⟨_, ho, rfl⟩ PySem.F.entry_tuple_count (PySem.F.args_tuple_count_2 _ _)
        (SeqAt.tuple_countAt a its.toArray n dd sl u (eqU yv)) ⟨ho, fun w hw => mem_eqAt ru (flat_rv ry fy) rvs (flats_rv rv fxs) w (by simpa using hw), ?_⟩
      have ec : its.toArray.toList.countP (eqU yv) = xs.countP fun x => eqF x y := cnt_rv ry fy rv rvs fxs
      rw [ec]
      exact ⟨.int _, H, I.tok _, ⟨s.toks, rfl⟩, q.now st (.int _) hR⟩
    · exact hk.elim
  · exact hk.elim
theorem de_cntL (ho : DE X L o wo) (ha : DA X L [e] wr) (hbase : attributeBase o "count" X.env (eval o X.env) = eval o X.env := by rfl)
    (hfew : ((backTo cpos (starEach [e] X.env)).all (fun x => !x.1) && (backToKw cpos (keywordEach [] X.env)).all (fun x => x.1.isSome)
      && decide ([e].length + ([] : List Keyword).length + (if ([] : List Keyword).isEmpty then 0 else 1) < 30)) = true := by rfl)
    (hline : (apos.endLine == cpos.line) = true := by rfl) (hs : starEach [e] X.env = (false, eval e X.env) :: starEach [] X.env := by rfl) (hplain : (backTo cpos (starEach [] X.env)).any (·.1) = false := by rfl) :
    DE X L (.Call (.Attribute o "count" apos) [e] [] cpos) (wBM "list" kCntL wo wr) := de_bm F.plainAttrs_list F.slot_list_count F.type_list_count m_cntL ho ha hbase hfew hline hs hplain
theorem de_cntT (ho : DE X L o wo) (ha : DA X L [e] wr) (hbase : attributeBase o "count" X.env (eval o X.env) = eval o X.env := by rfl)
    (hfew : ((backTo cpos (starEach [e] X.env)).all (fun x => !x.1) && (backToKw cpos (keywordEach [] X.env)).all (fun x => x.1.isSome)
      && decide ([e].length + ([] : List Keyword).length + (if ([] : List Keyword).isEmpty then 0 else 1) < 30)) = true := by rfl)
    (hline : (apos.endLine == cpos.line) = true := by rfl) (hs : starEach [e] X.env = (false, eval e X.env) :: starEach [] X.env := by rfl) (hplain : (backTo cpos (starEach [] X.env)).any (·.1) = false := by rfl) :
    DE X L (.Call (.Attribute o "count" apos) [e] [] cpos) (wBM "tuple" kCntT wo wr) := de_bm F.plainAttrs_tuple F.slot_tuple_count F.type_tuple_count m_cntT ho ha hbase hfew hline hs hplain
def kIdx : MSp := fun p ps S R => match ps with
  | [y] => (match dr S p with
    | .lst xs => flatP y = true ∧ xs.all flatP = true ∧ ∃ (j : Nat) (z : PV), xs[j]? = some z ∧ eqF z y = true ∧ (∀ (m : Nat) z', m < j → xs[m]? = some z' → eqF z' y = false) ∧ R (.int (j : Nat)) S
    | _ => False)
  | _ => False
theorem m_idx : MtP X L "list.index" kIdx := by
  intro pins s σ H x zs v us p ps S R Q I rx rxs st r rr hk q
  unfold kIdx at hk
  split at hk
  · rename_i y
    split at hk
    · rename_i xs ep
      obtain ⟨fy, fxs, j, z, hz, hzy, hno, hR⟩ := hk
      cases rr with | cons ry rr =>
      cases rr
      rename_i yv
      obtain ⟨a, vs, rfl, hs, rv⟩ := rd_lst (X := X) st r ep
      cases rx
      obtain ⟨zv, hzv, rz⟩ := rv.get hz
      have fz : flatP z = true := List.all_eq_true.mp fxs z (List.mem_of_getElem? hz)
      refine mt_index pins s σ H (.ref a) _ (.ref a) us Q I rfl rxs ⟨a, vs, yv, j, zv, rfl, rfl, hs, flat_rv ry fy, flats_rv rv fxs, hzv, by rw [eqF_rv rz ry fz fy]; exact hzy, fun m z' hm hz' => ?_, q.now st (.int _) hR⟩
      obtain ⟨w, hw, rw'⟩ := rv.getV hz'
      have fw : flatP w = true := List.all_eq_true.mp fxs w (List.mem_of_getElem? hw)
      rw [eqF_rv rw' ry fw fy]
      exact hno m w hm hw
    · exact hk.elim
  · exact hk.elim
theorem de_idx (ho : DE X L o wo) (ha : DA X L [e] wr) (hbase : attributeBase o "index" X.env (eval o X.env) = eval o X.env := by rfl)
    (hfew : ((backTo cpos (starEach [e] X.env)).all (fun x => !x.1) && (backToKw cpos (keywordEach [] X.env)).all (fun x => x.1.isSome)
      && decide ([e].length + ([] : List Keyword).length + (if ([] : List Keyword).isEmpty then 0 else 1) < 30)) = true := by rfl)
    (hline : (apos.endLine == cpos.line) = true := by rfl) (hs : starEach [e] X.env = (false, eval e X.env) :: starEach [] X.env := by rfl) (hplain : (backTo cpos (starEach [] X.env)).any (·.1) = false := by rfl) :
    DE X L (.Call (.Attribute o "index" apos) [e] [] cpos) (wBM "list" kIdx wo wr) := de_bm F.plainAttrs_list F.slot_list_index F.type_list_index m_idx ho ha hbase hfew hline hs hplain
def intsOf' : List PV → Option (List Int)
  | [] => some []
  | .int n :: r => (intsOf' r).map (n :: ·)
  | _ => none
theorem ints_rv {K : PySem.W.Frag} {H : Hp} : ∀ {xs : List PV} {vs : List V} {ns : List Int}, RVs K H xs vs → intsOf' xs = some ns → vs = ns.map V.int
  | _, _, _, .nil, h => by cases h; rfl
  | .int n :: r, _, ns, .cons (.int _) rs, h => by
    unfold intsOf' at h
    obtain ⟨ms, h1, rfl⟩ := Option.map_eq_some_iff.mp h
    rw [List.map_cons, ints_rv rs h1]
def kSum : PV → Sto → RK → Prop := fun p S R => match dr S p with
  | .lst xs => (match intsOf' xs with
    | some ns => R (.int ns.sum) S
    | none => False)
  | _ => False
theorem c_sum (hc : X.calm = true) : CallP X L (.builtin "sum") (p1 kSum) := call1_of fun pins s σ H x us p S R Q I rv st r hk q => by
  unfold kSum at hk
  split at hk
  · rename_i xs ep
    split at hk
    · rename_i ns en
      obtain ⟨a, vs, rfl, hs, rvs⟩ := rd_lst (X := X) st r ep
      have ev := ints_rv rvs en
      subst ev
      exact cr_sum hc pins s σ H _ us Q I rv ⟨a, ns, rfl, hs, q.now st (.int _) hk⟩
    · exact hk.elim
  · exact hk.elim
theorem bt_sum : bootBuiltins "sum" = some (.builtin "sum") := by decide +kernel
end
end PX
end L2

namespace L2
namespace PX
open PySem PySem.Spec PyProof.Rows
section
variable {X : Cx} {L : Lc}
theorem mk_bare {pins : List (Addr × Obj)} {σ : L2.St} {H1 H2 : Hp} {hp hp2 h2 : Heap} {g1 g2 : Array GenState} {d1 d2 : Drawn} {t1 t2 : Nat} {os1 os2 : OsState} {a C : Addr} (I1 : Inv X pins σ H1 ⟨hp, g1, d1, t1, os1⟩)
    (ha : hp.objs.size ≤ a) (k : ∀ b o, hp.get? b = some o → hp2.get? b = some o) (un : Un (frs X.stack) [] (upd H1 a (exo a C none)) H2 hp2 h2) (hok : HOk X.prog X.w H2 h2) (ho : os2 = os1) (hb : AllBare g2) (ea : H2 a = some (exo a C none)) :
    ∃ (t0 : Addr) (G : Heap), Inv X pins σ (del H2 a) ⟨G, g2, d2, t2, os2⟩ ∧ (∀ b o, G.get? b = some o → h2.get? b = some o) ∧ G.get? a = none ∧ h2.get? a = some ({ cls := .ref C, dict := none, data := .fields #[.ref t0, .none, .none, .none, .bool false, .none] } : Obj) := by
  obtain ⟨t0, hoe⟩ := exo_at hok ea
  have hn : H1 a = none := I1.hok.fresh ha
  obtain ⟨G, q1, q2⟩ := restrict h2 fun b => decide (b ≠ a)
  have gk : ∀ b, b ≠ a → G.get? b = h2.get? b := fun b hb => q1 b (decide_eq_true hb)
  have ge : G.get? a = none := q2 a (by simp)
  have old : ∀ {b : Addr} {o : Obj}, hp.get? b = some o → b ≠ a := fun {b o} z => Nat.ne_of_lt (Nat.lt_of_lt_of_le (Heap.lt_size z) ha)
  have up : ∀ {b : Addr}, b ≠ a → H1 b = none → upd H1 a (exo a C none) b = none := fun {b} hb n => (upd_ne hb).trans n
  have im : ∀ {b : Addr} {v : HO}, H1 b = some v → upd H1 a (exo a C none) b = some v := fun {b v} z => (upd_ne (ne_of_none z hn)).trans z
  have U : Un (frs X.stack) [] H1 (del H2 a) hp G :=
    ⟨fun b o z n hf hx => (gk b (old z)).trans (un.keep b o (k b o z) (up (old z) n) hf hx),
     fun b o z n hf hx => by rw [gk b (old z)]; exact un.slot b o (k b o z) (up (old z) n) hf hx,
     fun b o z n hx => (del_ne (old z)).trans (un.free b o (k b o z) (up (old z) n) hx),
     fun b o z hx => by rw [gk b (old z)]; exact un.there b o (k b o z) hx,
     fun b xs z => (del_ne (ne_of_none z hn)).trans (un.tups b xs (im z)),
     fun b o v z => (del_ne (ne_of_none z hn)).trans (un.frzs b o v (im z)),
     fun b ps z => by rw [del_ne (ne_of_none z hn)]; exact un.tbls b ps (im z)⟩
  have hok3 : HOk X.prog X.w (del H2 a) G := fun b o z => by
    have hba : b ≠ a := fun e => by rw [e, del_same] at z; cases z
    rw [del_ne hba] at z
    have noa : ∀ {c : Addr}, H2 c = some (.own b) → c ≠ a := fun {c} hc => at_ne ea hc exo_own
    refine (hok b o z).stay (fun c v hc y => ?_) (fun c hc => (del_ne (noa hc)).trans hc) fun c xs hc => (del_ne (at_ne ea hc exo_tup)).trans hc
    have hca : c ≠ a := hc.elim (fun e => e ▸ hba) noa
    exact (gk c hca).trans y
  have J : Inv X pins σ (del H2 a) ⟨G, g2, d2, t2, os2⟩ := I1.call' (ch := []) ho U hok3 hb (fun b z => absurd z (by simp))
  refine ⟨t0, G, J, fun b o z => ?_, ge, hoe⟩
  by_cases hba : b = a
  · rw [hba, ge] at z; cases z
  · exact (gk b hba).symm.trans z
def tMk0 (C : Addr) (sp : Sp) : L2.St → Hp → XK → Prop := fun σ H1 Q => ∀ a, H1 a = none → sp [.ref a] (upd H1 a (exo a C none)) (fun v H2 => v = .non ∧ H2 a = some (exo a C none) ∧ Q (.ref C) none (del H2 a)) (fun _ _ _ => False)
theorem pmk_oex0 {x : Str} {C fI : Addr} {k : Nat} {fd : FuncData} {ps : List Str} {sp : Sp} {p pos : Pos} (T : OexC X.K C) (iC : PySem.W.findIn X.K (.ref C) "__init__" = some (some (.ref fI))) (tI : PySem.W.typeIn X.K (.ref fI) = some (.type "function"))
    (F1 : FnOk X.prog X.w X.K X.mg X.base (CX X.prog X.w) k fI fd ps sp) (hr : Room (k + 1) X.A) (hb : Binds X.K fd ps []) (hg : Gl X x) (hm : X.mg x = some (.ref C)) (hdb : (x == ("__debug__" : Str)) = false := by decide) :
    PMk X (.Call (.Name x p) [] [] pos) (tMk0 C sp) := by
  intro pins s σ H Q I h
  obtain ⟨nm, q, N, bs, bm, sn, sub, ab, col, dd, k0, k1, k2, k3, k5, hC, hbm⟩ := T.cls
  refine wpAny_Call_Name_kw (ld_glob I hg hm ?_ hdb)
  refine PySem.W.callWith_K0 I.kIn T.kC ?_
  show wpAny _ _ (call (.ref C) []) _ _ _
  obtain ⟨hp, g, dr, tk, os⟩ := s
  have hsz : hp.objs.size ≤ hp.objs.size + 1 := Nat.le_succ _
  have hn : H (hp.objs.size + 1) = none := I.hok.fresh hsz
  have hq := h (hp.objs.size + 1) hn
  have kk : ∀ b o, hp.get? b = some o → ((hp.push (PySem.W.kdv_tup [])).push (PySem.HandSPX.excO C hp.objs.size)).get? b = some o := fun b o e => Heap.get?_push_of_some _ (Heap.get?_push_of_some _ e)
  have hget : ((hp.push (PySem.W.kdv_tup [])).push (PySem.HandSPX.excO C hp.objs.size)).get? (hp.objs.size + 1) = some (PySem.HandSPX.excO C hp.objs.size) := by heap_get
  have I2 : Inv X pins σ (upd H (hp.objs.size + 1) (exo (hp.objs.size + 1) C none)) ⟨(hp.push (PySem.W.kdv_tup [])).push (PySem.HandSPX.excO C hp.objs.size), g, dr, tk, os⟩ :=
    I.laid (t' := tk) (a := hp.objs.size + 1) (o := exo (hp.objs.size + 1) C none) (h' := (hp.push (PySem.W.kdv_tup [])).push (PySem.HandSPX.excO C hp.objs.size)) kk hsz (exo_ok hget)
  have r2 : Vals [V.ref (hp.objs.size + 1)] [Value.ref (hp.objs.size + 1)] := .cons rfl .nil
  have hl : ([Value.ref (hp.objs.size + 1)] ++ []).length = ps.length := by
    have e := r2.length
    rw [F1.len _ _ _ _ hq] at e
    exact e.symm
  refine wpAny_call (PySem.HandSPX.call_own F.excBase_ValueError (fun Y => PySem.HandSPX.refsVE_contains Y bm hbm) (I.kIn _ _ hC) (PySem.W.looks_findIn I.kIn iC) (fun self => PySem.W.bind_fn I.kIn self tI) (Nat.zero_le _)
    (codeAny_mono (F1.run _ X.stack _ _ ⟨[Value.ref (hp.objs.size + 1)], []⟩ [Value.ref (hp.objs.size + 1)] _ _ (fun _ _ _ => False) (hr.make C [] []) (I2.env0.make C [] []) (hb _ [Value.ref (hp.objs.size + 1)] I2.kIn hl) r2 hq) fun r s' hq' => ?_))
  cases r with
  | error er => exact passesF pins σ _ _ er s' I2 hq'
  | ok fl =>
    cases fl with
    | ret u =>
      obtain ⟨v, H2, os2, bare2, un2, hok2, rv, ev, ea, q2⟩ := hq'
      subst ev
      obtain ⟨h2, g2, d2, t2, os'⟩ := s'
      obtain ⟨t0, G, J, kG, ge, hoe⟩ := mk_bare (d2 := d2) (t2 := t2) I hsz kk un2 hok2 os2 bare2 ea
      exact ⟨rv, ⟨hp.objs.size + 1, _, _, ⟨G, g2, d2, t2, os'⟩, _, .ref C, none, rfl, J, kG, ge, hoe, ⟨rfl, rfl⟩, rfl, rfl, del_same, rfl, bare2, raises_own T.exC T.tyC, q2⟩⟩
    | next => exact False.elim hq'
    | brk => exact False.elim hq'
    | cont => exact False.elim hq'
def wRaise0 (C : Addr) : WS := fun P ρ S => P.ex ⟨C, []⟩ ρ S
theorem ds_raise0 {lv : Nat} {C : Addr} {x : Str} {at_ : Str × Option Str} {p cpos pos : Pos} (hc : X.calm = true) (tk : Takes X L.W) (T : OexC X.K C) (ini : iniB X.K C (He.fAd X.K at_) = true)
    (F : FnH X.prog X.w X.K X.mg X.base lv at_ ["self"] (spX0 X.K)) (hr : Room (lv + 1) X.A) (hm : X.mg x = some (.ref C)) (hg : Gl X x := by rfl) (hdb : (x == ("__debug__" : Str)) = false := by decide) :
    DS X L (.Raise (some (.Call (.Name x p) [] [] cpos)) none pos) (wRaise0 C) := by
  obtain ⟨fd, F, hb, _⟩ := F.ex
  obtain ⟨i1, i2⟩ := Bool.and_eq_true_iff.mp ini
  refine (ps_raise hc tk (pmk_oex0 T (of_decide_eq_true i1) (of_decide_eq_true i2) F hr hb hg hm hdb)).imp fun D σ H ⟨ρ, S, P, A, h, E⟩ => fun a ha => ⟨a, C, rfl, T, upd_same, rfl, upd_same, ?_⟩
  have e : del (upd H a (exo a C none)) a = H := funext fun b => by
    by_cases hb : b = a
    · rw [hb, del_same, ha]
    · rw [del_ne hb, upd_ne hb]
  rw [e]
  exact E.ex _ ρ S _ _ σ H (.refl S H) A ⟨rfl, rfl⟩ h
end
theorem Qas {C : Addr} {P : PEnds} {ρ : Slots} {S : Sto} : wRaise0 C P ρ S = P.ex ⟨C, []⟩ ρ S := rfl
end PX
end L2

namespace L2
namespace PX
open PySem PySem.Spec PyProof.Rows LamX
section
variable {X : Cx} {pins : List (Addr × Obj)} {σ : L2.St} {H : Hp} {s : Shared}
theorem pe_act2 {CXg : CXT} {Eg : XK} {Ng : List Str} {qg : Str} {sg : Scope} {g f c' : Addr} {cdg pm ctv : Value} {params : Arguments} {body : Expr} {scope : Scope} {k i : Nat} {a : Str} {pn : List (Addr × Obj)} {xe : Value → Shared → Prop} {W : WX} {tb : XK → TE} {p1 p2 : Pos}
    (I : Inv X pins σ H s) (L : LamS X.env.scope scope) (hf : s.heap.get? f = some (PySem.W.kla_obj "<lambda>" (X.env.qual ++ "<lambda>") params body scope (cloFrom X.env.cells scope.names []) pm c' ctv)) (hfn : H f = none) (hfr : f ∉ frs X.stack)
    (hbind : bindArgs (PySem.W.kla_fn "<lambda>" (X.env.qual ++ "<lambda>") params body scope (cloFrom X.env.cells scope.names []) pm (.ref c') ctv) ⟨[], []⟩ = pure [])
    (tk : Takes ((cxOf CXg X.prog X.w X.K X.mg X.base Ng qg sg g cdg X.A X.stack s H Eg).tr pn xe) W) (hr : Room (k + 1) (X.A.deeper (envOfC qg sg s.heap.objs.size g cdg)))
    (hbody : ∀ (A : Around) (outer : List Env) (s : Shared) (H : Hp) (E : XK), Room k (A.deeper (lamEnv X scope s.heap.objs.size f c')) → PE (lamCx X A outer s H E scope f c') body (tb E))
    (hN : Ng[i]? = some a) (hv : Vis sg a) (hd : (a == ("__debug__" : Str)) = false := by decide) (hcd : (a == ("__classdict__" : Str)) = false := by decide) :
    PE ((cxOf CXg X.prog X.w X.K X.mg X.base Ng qg sg g cdg X.A X.stack s H Eg).tr pn xe) (.Call (.Name a p1) [] [] p2)
      (fun σZ HZ Q => σZ[i]? = some (some (.ref f)) ∧ HZ c' = some (CodeO c' (X.env.qual ++ "<lambda>")) ∧ tb (fun cls d H' => W cls d σZ H') σ HZ Q) := by
  refine ⟨fun pinsZ sZ σZ HZ Q IZ h => ?_⟩
  obtain ⟨hs, hc, ht⟩ := h
  refine wpAny_Call_Name_kw (thn ((pe_var (pos := p1) (i := i) hN hv hd hcd).run pinsZ sZ σZ HZ (fun v H1 => v = .ref f ∧ H1 = HZ) IZ ⟨.ref f, hs, rfl, rfl⟩) fun u s1 ⟨v, H1, I1, r1, q1⟩ => ?_)
  obtain ⟨ev, eH⟩ := q1
  subst ev
  rw [eH] at I1
  obtain rfl : u = Value.ref f := r1
  have of1 : s1.heap.get? f = some (PySem.W.kla_obj "<lambda>" (X.env.qual ++ "<lambda>") params body scope (cloFrom X.env.cells scope.names []) pm c' ctv) := I1.base.keep f _ hf hfn hfr (fun z => nomatch (show f ∈ ([] : List Addr) from z))
  refine PySem.W.callWith_F0 ⟨_, _, _, _, of1⟩ ?_
  have un : Un (frs X.stack) [] H HZ s.heap s1.heap := I1.base
  obtain ⟨⟨oc, vs, t, hoc, hdc, hvc⟩, _, _⟩ := I1.hok c' _ hc
  have rc : codeAny (model X.prog X.w) (X.A.deeper (envOfC qg sg s.heap.objs.size g cdg)) (.call (.ref f) ⟨[], []⟩) (CR (L2.CX X.prog X.w) (envOfC qg sg s.heap.objs.size g cdg :: X.stack) X.prog X.w HZ s1 Q (fun cls d H' => W cls d σZ H')) s1 := by
    refine PySem.W.kla_callFunE hr.depth of1 rfl L.co L.gen rfl ⟨c', oc, vs, t, rfl, hoc, hdc, hvc⟩ ?_
    rw [hbind]
    refine wpAny_pure (wpAny_newFunctionEnv (fun y hy => (L.own y hy).2) (fun y hy => absurd hy (by simp)) (fun h₁ hns hsb => ⟨I1.nolimit.fresh _ hsb, ?_⟩) L.kind)
    show codeAny _ _ (.expr body (lamEnv X scope s1.heap.objs.size f c')) _ _
    have kp : ∀ b o, s1.heap.get? b = some o → h₁.get? b = some o := fun b o e => hsb.extBut b o (Nat.ne_of_lt (Heap.lt_size e)) (Heap.get?_push_of_some _ e)
    have J : Inv (lamCx X (X.A.deeper (envOfC qg sg s.heap.objs.size g cdg)) (envOfC qg sg s.heap.objs.size g cdg :: X.stack) s1 HZ (fun cls d H' => W cls d σZ H') scope f c') [] σ HZ { s1 with heap := h₁, toks := s1.toks + ([] : List (Str × Value)).length } :=
      lam_start2 I L I1.env0 hr.hd un hns kp
    refine PySem.W.kla_codeExpr (wpAny_mono ((hbody _ _ s1 HZ _ (hr.deeper _)).run [] _ _ HZ Q J ht) (fun v s' hq => ?_) fun e s' hq => hq)
    obtain ⟨w', H', J', rv, q⟩ := hq
    exact ⟨w', H', J'.os, J'.bare, J'.base, J'.hok, rv, q⟩
  refine wpAny_call (codeAny_mono rc fun r s' hq => ?_)
  cases r with
  | error e => exact tk e s' (XE.of_call I1 (fun cls d H' h => h) hq)
  | ok fl =>
    cases fl with
    | ret u => exact I1.after hq
    | next => exact False.elim hq
    | brk => exact False.elim hq
    | cont => exact False.elim hq
end
/-- what a def (x, at g) that got a thunk makes of the thunk's reading tl -/
def Gives2 (P : Program) (w : World) (K : PySem.W.Frag) (mg : Str → Option Value) (base : Heap) (lv : Nat) (Ng : List Str) (x : Str) (sg : Scope) (g : Addr) (cdg : Value) (bg : List Stmt) (a : Str) (TT : (XK → Hp → VK → Prop) → Addr → Str → Hp → VK → Prop) : Prop :=
  ∀ (A : Around) (outer : List Env) (f c' : Addr) (q : Str) (s : Shared) (H : Hp) (Q : VK) (tl : XK → Hp → VK → Prop), Room lv (A.deeper (envOfC x sg s.heap.objs.size g cdg)) →
    (∀ (W : WX) (pn : List (Addr × Obj)) (xe : Value → Shared → Prop) (p1 p2 : Pos), Takes ((cxOf C8.CX0 P w K mg base Ng x sg g cdg A outer s H C8.E0).tr pn xe) W →
      PE ((cxOf C8.CX0 P w K mg base Ng x sg g cdg A outer s H C8.E0).tr pn xe) (.Call (.Name a p1) [] [] p2) (fun σZ HZ Q => σZ[0]? = some (some (.ref f)) ∧ HZ c' = some (CodeO c' q) ∧ tl (fun cls d H' => W cls d σZ H') HZ Q)) →
    H c' = some (CodeO c' q) → TT tl c' q H Q →
    ∃ t, PSs (cxOf C8.CX0 P w K mg base Ng x sg g cdg A outer s H C8.E0).nox bg t ∧ t { nx := fun _ H' => Q .non H', rt := Q } (L2.start Ng [.ref f]) H
theorem Gives2.mono {P : Program} {w : World} {K : PySem.W.Frag} {mg : Str → Option Value} {base : Heap} {lv lv' : Nat} {Ng : List Str} {x : Str} {sg : Scope} {g : Addr} {cdg : Value} {bg : List Stmt} {a : Str} {TT : (XK → Hp → VK → Prop) → Addr → Str → Hp → VK → Prop} (h : Gives2 P w K mg base lv Ng x sg g cdg bg a TT) (hl : lv ≤ lv') : Gives2 P w K mg base lv' Ng x sg g cdg bg a TT :=
  fun A outer f c' q s H Q tl hr => h A outer f c' q s H Q tl (hr.mono hl)
def tLam2 (T : List (Addr × Str)) (TT : (XK → Hp → VK → Prop) → Hp → VK → Prop) (t : XK → TE) : TE := fun σ H Q => Tabs T H ∧ ∀ H1, ExtN H H1 → Tabs T H1 → TT (fun E H' Q' => t E σ H' Q') H1 Q
section
variable {X : Cx}
theorem pe_lamcall2 {T : List (Addr × Str)} {TT : (XK → Hp → VK → Prop) → Addr → Str → Hp → VK → Prop} {x a : Str} {g c P : Addr} {k : Nat} {pg : Arguments} {bg : List Stmt} {sg : Scope} {dV kV doc pm cdv ct oc : Value} {an od : Option Addr} {osl : Array (Option Value)} {Ng : List Str}
    {params : Arguments} {body : Expr} {scope : Scope} {t : XK → TE} {p lpos pos : Pos} (hg : Gl X x) (hm : X.mg x = some (.ref g)) (hk : PySem.W.keepIn X.K (.ref g) = true)
    (lk : X.K.lookup g = some ⟨oc, od, .func (PySem.W.fnOf x x pg bg sg dV kV doc pm an cdv ct), osl⟩) (hcg : PySem.W.codeIn X.K cdv x = true) (hb : L2.Binds X.K (PySem.W.fnOf x x pg bg sg dV kV doc pm an cdv ct) [a] []) (Sg : FnScope Ng [a] sg) (hNg : Ng[0]? = some a) (hva : Vis sg a)
    (hG : Gives2 X.prog X.w X.K X.mg X.base (k + 1) Ng x sg g cdv bg a TT)
    (TB : TabB X.base X.mg c P) (hcode : X.env.code = .ref c) (hmT : (P, X.env.qual ++ "<lambda>") ∈ T) (hu : ∀ p ∈ T, p.1 = P → p.2 = X.env.qual ++ "<lambda>") (hr : Room (k + 2) X.A) (L : LamS X.env.scope scope) (hdef : defaultsOf params X.env = ([], []))
    (hbind : ∀ (q : Str) (cl : List (Str × Addr)) (pm cv ctv : Value), bindArgs (PySem.W.kla_fn "<lambda>" q params body scope cl pm cv ctv) ⟨[], []⟩ = pure [])
    (hbody : ∀ (A : Around) (outer : List Env) (s : Shared) (H : Hp) (E : XK) (f c' : Addr), Room k (A.deeper (lamEnv X scope s.heap.objs.size f c')) → PE (lamCx X A outer s H E scope f c') body (t E))
    (hdb : (x == ("__debug__" : Str)) = false := by decide) (hd : (a == ("__debug__" : Str)) = false := by decide) (hcd : (a == ("__classdict__" : Str)) = false := by decide) :
    PE X (.Call (.Name x p) [.Lambda params body scope lpos] [] pos) (tLam2 T (fun tl H Q => ∀ c', H c' = some (CodeO c' (X.env.qual ++ "<lambda>")) → TT tl c' (X.env.qual ++ "<lambda>") H Q) t) := by
  refine ⟨fun pins s σ H Q I h => ?_⟩
  obtain ⟨hT, h⟩ := h
  refine wpAny_Call_Name_kw (ld_glob I hg hm ?_ hdb)
  refine PySem.W.callWith_K (h₀ := X.base) I.ok.mod.kin hk ?_ (by rfl) (by rfl)
  show wpAny _ _ (spliced ((false, eval (.Lambda params body scope lpos) X.env) :: backTo pos (starEach [] X.env))) _ _ s
  refine Calls.spliced_cons (lam_make2 I TB hcode hmT hu hT hdef (L.has I.ok) fun f c' pm' ctv H1 s' I1 eN T1 hf hfn hfr hco => ?_)
  refine Calls.spliced_nil ⟨I1.kIn, ?_⟩
  have rc : codeAny (model X.prog X.w) X.A (.call (.ref g) ⟨[.ref f], []⟩) (CR C8.CX0 X.stack X.prog X.w H1 s' Q C8.E0) s' := by
    refine run_ofS (N := Ng) (ps := [a]) (us := [.ref f]) (vs := [.ref f]) lk hcg Sg hr I1.env0 (hb s' [.ref f] I1.kIn rfl) (.cons rfl .nil) rfl fun hr' => ?_
    obtain ⟨t', ht', hq'⟩ := hG X.A X.stack f c' (X.env.qual ++ "<lambda>") s' H1 Q (fun E H' Q' => t E σ H' Q') hr' (fun W pn xe p1 p2 tk => pe_act2 (i := 0) I1 L hf hfn hfr (hbind _ _ _ _ _) tk hr' (fun A outer s H E hr2 => hbody A outer s H E f c' hr2) hNg hva hd hcd) hco (h H1 eN T1 c' hco)
    exact ⟨t', ht'.nox, hq'⟩
  refine wpAny_call (codeAny_mono rc fun r s2 hq => ?_)
  cases r with
  | error e => exact (show False from hq).elim
  | ok fl =>
    cases fl with
    | ret u => exact I1.after hq
    | next => exact False.elim hq
    | brk => exact False.elim hq
    | cont => exact False.elim hq
end
/-- a thunk's reading: the store, what to tell, what to raise -/
abbrev Th := Sto → RK → ZK → Prop
abbrev TSp := Th → Sto → RK → Prop
def wThk (f : Addr) (tl : Th) : WE := fun ρ S R Z => gs ρ 0 = some (.ref f) ∧ tl S R Z
def wLam (k : TSp) (wb : WE) : WE := fun ρ S R _ => k (fun S' R' Z' => wb ρ S' R' Z') S R
/-- tl (over the layer) keeps what tp says, from H on -/
def ThOk (K : PySem.W.Frag) (T : List (Addr × Str)) (H : Hp) (tl : XK → Hp → VK → Prop) (tp : Th) : Prop := ∀ (E : XK) (S1 : Sto) (R1 : RK) (Z1 : ZK) (H1 : Hp) (Q1 : VK), Imm H H1 → RS ⟨K, T⟩ H1 S1 → tp S1 R1 Z1 →
  (∀ p S' v H', Fr S1 H1 S' H' → RS ⟨K, T⟩ H' S' → RV K H' p v → R1 p S' → Q1 v H') → (∀ e S' cls d H', Fr S1 H1 S' H' → RS ⟨K, T⟩ H' S' → RX K H' e cls d → Z1 e S' → E cls d H') → tl E H1 Q1
def TTP (K : PySem.W.Frag) (T : List (Addr × Str)) (k : TSp) (tl : XK → Hp → VK → Prop) (H : Hp) (Q : VK) : Prop :=
  ∃ (tp : Th) (S : Sto) (R : RK), RS ⟨K, T⟩ H S ∧ k tp S R ∧ (∀ p S' v H', Fr S H S' H' → RS ⟨K, T⟩ H' S' → RV K H' p v → R p S' → Q v H') ∧ ThOk K T H tl tp
def Jth (H : Hp) (c' : Addr) (q : Str) : Jv := ⟨fun H1 => Imm H H1 ∧ H1 c' = some (CodeO c' q), fun _ _ i h => ⟨h.1.trans i, i.ext _ _ h.2⟩⟩
theorem de_thk {Y : Cx} {e : Expr} {W : WX} {T : List (Addr × Str)} {H0 : Hp} {c' f : Addr} {q : Str} {tl : XK → Hp → VK → Prop} {tp : Th} (ok : ThOk Y.K T H0 tl tp)
    (act : PE Y e (fun σ H Q => σ[0]? = some (some (.ref f)) ∧ H c' = some (CodeO c' q) ∧ tl (fun cls d H' => W cls d σ H') H Q)) : DE Y ⟨T, W, Jth H0 c' q⟩ e (wThk f tp) :=
  act.imp fun σ H Q ⟨ρ, S, R, Z, A, ⟨h0, h1⟩, q, hZ⟩ => by
    obtain ⟨v, e1, r1⟩ := A.sl.at_ 0 _ (gs_eq h0)
    cases r1
    exact ⟨e1, A.j.2, ok _ S R Z H Q A.j.1 A.st h1 q hZ⟩
/-- a def of one thunk -/
structure FnW (P : Program) (w : World) (K : PySem.W.Frag) (mg : Str → Option Value) (base : Heap) (T : List (Addr × Str)) (lv : Nat) (at_ : Str × Option Str) (x a : Str) (sp : TSp) : Prop where
  ex : ∃ (pg : Arguments) (bg : List Stmt) (sg : Scope) (dV kV doc pm cdv ct oc : Value) (an od : Option Addr) (osl : Array (Option Value)) (Ng : List Str),
    K.lookup (He.fAd K at_) = some ⟨oc, od, .func (PySem.W.fnOf x x pg bg sg dV kV doc pm an cdv ct), osl⟩ ∧ PySem.W.codeIn K cdv x = true ∧ L2.Binds K (PySem.W.fnOf x x pg bg sg dV kV doc pm an cdv ct) [a] [] ∧ FnScope Ng [a] sg ∧ Ng[0]? = some a ∧ Vis sg a ∧
      PySem.W.keepIn K (.ref (He.fAd K at_)) = true ∧ Gives2 P w K mg base lv Ng x sg (He.fAd K at_) cdv bg a (fun tl c' q H Q => TTP K T sp tl H Q)
theorem fnW_of {P : Program} {w : World} {K : PySem.W.Frag} {mg : Str → Option Value} {base : Heap} {T : List (Addr × Str)} {lv : Nat} {at_ : Str × Option Str} {x a : Str} {sp : TSp} {pg : Arguments} {bg : List Stmt} {sg : Scope} {fd : FuncData} {Ng : List Str} {wb : WE → WS}
    (F : FunD K x x pg bg sg [] [] (He.fAd K at_) fd) (S : FnScope Ng [a] sg) (hNg : Ng[0]? = some a) (hva : Vis sg a) (hbn : Binds K fd [a] [])
    (hb : ∀ (cdg : Value) (A : Around) (outer : List Env) (s : Shared) (H : Hp) (J : Jv) (we : WE), Room lv (A.deeper (envOfC x sg s.heap.objs.size (He.fAd K at_) cdg)) →
      (∀ (W : WX) (pn : List (Addr × Obj)) (xe : Value → Shared → Prop) (p1 p2 : Pos), Takes ((cxOf C8.CX0 P w K mg base Ng x sg (He.fAd K at_) cdg A outer s H C8.E0).tr pn xe) W → DE ((cxOf C8.CX0 P w K mg base Ng x sg (He.fAd K at_) cdg A outer s H C8.E0).tr pn xe) ⟨T, W, J⟩ (.Call (.Name a p1) [] [] p2) we) →
      DSs (cxOf C8.CX0 P w K mg base Ng x sg (He.fAd K at_) cdg A outer s H C8.E0).nox ⟨T, fun _ _ _ _ => False, J⟩ bg (wb we))
    (pure : ∀ f tp S R, sp tp S R → wb (wThk f tp) { nx := fun _ S' => R .non S', rt := R } (startP Ng [.ref f]) S) : FnW P w K mg base T lv at_ x a sp := by
  obtain ⟨oc, od, dV, kV, doc, pm, an, cdv, ct, osl, rfl, lk, hcd, _, _⟩ := F.ex
  refine ⟨pg, bg, sg, dV, kV, doc, pm, cdv, ct, oc, an, od, osl, Ng, lk, hcd, hbn, S, hNg, hva, F.kp, ?_⟩
  intro A outer f c' q s H Q tl hr act hc ⟨tp, S0, R, st, h, hq, ok⟩
  refine ⟨_, hb cdv A outer s H (Jth H c' q) (wThk f tp) hr fun W pn xe p1 p2 tk => de_thk ok (act W pn xe p1 p2 tk), ?_⟩
  refine ⟨startP Ng [.ref f], S0, _, ⟨?_, st, .refl H, hc⟩, pure f tp S0 R h, ?_⟩
  · exact RSl.start Ng.length (.cons (.ref f) .nil)
  · exact ⟨fun ρ S1 σ H1 i A1 h1 => hq .non S1 .non H1 i A1.st .non h1, hq, fun _ _ _ _ _ _ z => z, fun _ _ _ _ _ _ z => z, fun _ _ _ _ _ _ _ _ _ _ z => z⟩
theorem extN_imm {H H1 : Hp} (e : ExtN H H1) : Imm H H1 := ⟨fun a xs h => e a _ h fun _ z => (nomatch z), fun a o u h => e a _ h fun _ z => (nomatch z), fun a f h => e a _ h fun _ z => (nomatch z)⟩
theorem nt_ne {o : HO} (t : Nt o) : ∀ ps, o ≠ .tbl ps := fun ps z => by rw [z] at t; exact t
theorem extN_fr {H H1 : Hp} (S : Sto) (e : ExtN H H1) : Fr S H S H1 := ⟨extN_imm e, fun a o _ h t => e a o h (nt_ne t), fun _ _ h _ _ => h⟩
theorem extN_rs {K : PySem.W.Frag} {T : List (Addr × Str)} {S : Sto} {H H1 : Hp} (e : ExtN H H1) (t : Tabs T H1) (h : RS ⟨K, T⟩ H S) : RS ⟨K, T⟩ H1 S := ⟨fun a o q => by
  obtain ⟨u, hu, p⟩ := (h.mo a o q).at
  have hu1 : H1 a = some u := e a u hu fun ps z => by rw [z] at p; exact p
  exact (h.mo a o q).imm (extN_imm e) (hu1.trans hu.symm), t⟩
section
variable {X : Cx} {L : Lc}
/-- what the maker of a lambda must have -/
structure LamM (X : Cx) (T : List (Addr × Str)) (c P : Addr) : Prop where
  tb : TabB X.base X.mg c P
  code : X.env.code = .ref c
  mem : (P, X.env.qual ++ "<lambda>") ∈ T
  uni : ∀ p ∈ T, p.1 = P → p.2 = X.env.qual ++ "<lambda>"
theorem de_lam {lv k : Nat} {at_ : Str × Option Str} {x a : Str} {sp : TSp} {c P : Addr} {params : Arguments} {body : Expr} {scope : Scope} {wb : WE} {p lpos pos : Pos} (M : LamM X L.T c P) (F : FnW X.prog X.w X.K X.mg X.base L.T lv at_ x a sp) (hlv : lv ≤ k + 1) (hr : Room (k + 2) X.A) (hm : X.mg x = some (.ref (He.fAd X.K at_)))
    (hbody : ∀ (A : Around) (outer : List Env) (s : Shared) (H : Hp) (E : XK) (f c' : Addr), Room k (A.deeper (lamEnv X scope s.heap.objs.size f c')) → Takes (lamCx X A outer s H E scope f c') (fun cls d _ H' => E cls d H') → DE (lamCx X A outer s H E scope f c') ⟨L.T, fun cls d _ H' => E cls d H', L.J⟩ body wb)
    (hS : lamSB X.env.scope scope = true := by kernel_rfl) (hg : Gl X x := by rfl) (hdef : defaultsOf params X.env = ([], []) := by rfl)
    (hbind : ∀ (q : Str) (cl : List (Str × Addr)) (pm cv ctv : Value), bindArgs (PySem.W.kla_fn "<lambda>" q params body scope cl pm cv ctv) ⟨[], []⟩ = pure [] := by intros; rfl)
    (hdb : (x == ("__debug__" : Str)) = false := by decide) (hd : (a == ("__debug__" : Str)) = false := by decide) (hcd : (a == ("__classdict__" : Str)) = false := by decide) :
    DE X L (.Call (.Name x p) [.Lambda params body scope lpos] [] pos) (wLam sp wb) := by
  obtain ⟨pg, bg, sg, dV, kV, doc, pm, cdv, ct, oc, an, od, osl, Ng, lk, hcg, hbn, Sg, hNg, hva, hk, hG⟩ := F.ex
  refine (pe_lamcall2 (t := fun E => LE X.K ⟨L.T, fun cls d _ H' => E cls d H', L.J⟩ wb) hg hm hk lk hcg hbn Sg hNg hva (hG.mono hlv) M.tb M.code M.mem M.uni hr (lamS_by hS) hdef hbind (fun A outer s H E f c' hr => hbody A outer s H E f c' hr (takes_of rfl rfl rfl rfl)) hdb hd hcd).imp fun σ H Q ⟨ρ, S, R, Z, A, h, q, hZ⟩ => ⟨A.st.tab, fun H1 e t c' hc => ?_⟩
  refine ⟨_, S, R, extN_rs e t A.st, h, fun p S' v H' f => q p S' v H' ((extN_fr S e).trans f), fun E S1 R1 Z1 H2 Q1 i st h1 q1 z1 => ?_⟩
  exact ⟨ρ, S1, R1, Z1, ⟨A.sl.imm ((extN_imm e).trans i), st, L.J.st _ _ ((extN_imm e).trans i) A.j⟩, h1, q1, z1⟩
end
end PX
end L2

namespace L2
namespace PX
open PySem PySem.Spec PyProof.Rows LamX
theorem IsCd.eq {K : PySem.W.Frag} {p : Str × Option Str} {cdv : Value} (h : IsCd K (He.fAd K p) cdv) : cdv = .ref (He.cT K p).1 := by
  obtain ⟨oc, od, fd, osl, lk, e, c, ec⟩ := h
  subst ec
  show Value.ref c = .ref (He.codeOf K p)
  rw [He.codeOf_eq lk e]
theorem fn_okC {P : Program} {w : World} {K : PySem.W.Frag} {mg : Str → Option Value} {base : Heap} {x qual : Str} {params : Arguments} {body : List Stmt} {scope : Scope} {f : Addr} {fd : FuncData} {N pn : List Str} {lv n : Nat} {T : List (Addr × Str)} {sp : PSp} {wb : WS}
    (F : FunD K x qual params body scope [] [] f fd) (S : FnScope N pn scope) (hn : pn.length = n)
    (hb : ∀ (cdv : Value), IsCd K f cdv → ∀ (A : Around) (outer : List Env) (s : Shared) (H : Hp) (E : XK), Room lv (A.deeper (envOfC qual scope s.heap.objs.size f cdv)) → DSs (cxOf (CX P w) P w K mg base N qual scope f cdv A outer s H E) (lcOf T E) body wb)
    (pure : ∀ ps S R Z, ps.length = n → sp ps S R Z → wb { nx := fun _ S' => wfg R .non S', rt := gR R, ex := fun e _ S' => zfg Z e S' } (startP N ps) S) : FnOk P w K mg base (CX P w) (lv + 1) f fd pn (spL K T n sp) := by
  obtain ⟨oc, od, dV, kV, doc, pm, an, cdv, ct, osl, rfl, lk, hcd, _, _⟩ := F.ex
  have hc2 : IsCd K f cdv := ⟨_, _, _, _, lk, rfl, He.codeIn_ref hcd⟩
  refine fn_of lk hcd S (fun vs H Q E h => h.1.trans hn.symm) fun A outer s H vs Q E hr ⟨hl, ps, S0, R, Z, r, st, h, q, z⟩ => ⟨_, pss_ghost (hb cdv hc2 A outer s H E hr), ?_⟩
  refine ⟨startP N ps, S0, _, ⟨?_, st, trivial⟩, pure ps S0 R Z (r.length.trans hl) h, ?_⟩
  · have := RSl.start N.length r
    exact this
  · refine ⟨fun ρ S1 σ H1 i A1 ⟨S', u, h1⟩ => q .non S' .non H1 (i.sub u) (A1.st.sub u) .non h1, vc_ghost (L := lcOf T E) q, fun _ _ _ _ _ _ z => z.elim, fun _ _ _ _ _ _ z => z.elim, fun e ρ S1 cls d σ H1 i A1 rx ⟨S', u, h1⟩ => z e S' cls d H1 (i.sub u) (A1.st.sub u) rx h1⟩
theorem fn_okGC {P : Program} {w : World} {K : PySem.W.Frag} {mg : Str → Option Value} {base : Heap} {x qual : Str} {params : Arguments} {body : List Stmt} {scope : Scope} {f : Addr} {fd : FuncData} {N pn : List Str} {lv n : Nat} {T : List (Addr × Str)} {sp : PSp} {wb : WS}
    (F : FunD K x qual params body scope [] [] f fd) (S : FnScope N pn scope) (hn : pn.length = n)
    (hb : ∀ (cdv : Value), IsCd K f cdv → ∀ (A : Around) (outer : List Env) (s : Shared) (H : Hp) (E : XK), Room lv (A.deeper (envOfC qual scope s.heap.objs.size f cdv)) → A.guards = some [] → DSs (cxOf (CX P w) P w K mg base N qual scope f cdv A outer s H E) (lcOf T E) body wb)
    (pure : ∀ ps S R Z, ps.length = n → sp ps S R Z → wb { nx := fun _ S' => wfg R .non S', rt := gR R, ex := fun e _ S' => zfg Z e S' } (startP N ps) S) : FnG P w K mg base (CX P w) (lv + 1) f fd pn (spL K T n sp) := by
  refine fnG_of F S (fun vs H Q E h => h.1.trans hn.symm) fun cdv hc2 A outer s H vs Q E hr hg ⟨hl, ps, S0, R, Z, r, st, h, q, z⟩ => ⟨_, pss_ghost (hb cdv hc2 A outer s H E hr hg), ?_⟩
  refine ⟨startP N ps, S0, _, ⟨?_, st, trivial⟩, pure ps S0 R Z (r.length.trans hl) h, ?_⟩
  · have := RSl.start N.length r
    exact this
  · refine ⟨fun ρ S1 σ H1 i A1 ⟨S', u, h1⟩ => q .non S' .non H1 (i.sub u) (A1.st.sub u) .non h1, vc_ghost (L := lcOf T E) q, fun _ _ _ _ _ _ z => z.elim, fun _ _ _ _ _ _ z => z.elim, fun e ρ S1 cls d σ H1 i A1 rx ⟨S', u, h1⟩ => z e S' cls d H1 (i.sub u) (A1.st.sub u) rx h1⟩
/-- the tables of the makers of lambdas -/
def tbLs (K : PySem.W.Frag) (tf : List (He.Defn × Str)) : List (Addr × Str) := tf.map fun p => ((He.cT K p.1).2, p.2)
/-- no two makers' tables are one with unlike names -/
def tabUB (K : PySem.W.Frag) (tf : List (He.Defn × Str)) : Bool := tf.all fun p => tf.all fun q => !decide ((He.cT K p.1).2 = (He.cT K q.1).2) || decide (p.2 = q.2)
theorem lamM_of {X : Cx} {tf : List (He.Defn × Str)} {p : He.Defn} {q : Str} (hu : tabUB X.K tf = true) (TB : ∀ p ∈ tf, TabB X.base X.mg (He.cT X.K p.1).1 (He.cT X.K p.1).2) (hm : (p, q) ∈ tf) (hc : X.env.code = .ref (He.cT X.K p).1) (hq : X.env.qual ++ "<lambda>" = q) :
    LamM X (tbLs X.K tf) (He.cT X.K p).1 (He.cT X.K p).2 := by
  refine ⟨TB _ hm, hc, by rw [hq]; exact List.mem_map.mpr ⟨(p, q), hm, rfl⟩, fun r hr e => ?_⟩
  obtain ⟨t, ht, rfl⟩ := List.mem_map.mp hr
  have h1 := List.all_eq_true.mp (List.all_eq_true.mp hu t ht) (p, q) hm
  simp only [Bool.or_eq_true, Bool.not_eq_true', decide_eq_false_iff_not, decide_eq_true_eq] at h1
  rw [hq]
  rcases h1 with h1 | h1
  · exact absurd e h1
  · exact h1
structure SaysZ (fa : List He.Fa) (fn : List He.DefD) (tf : List (He.Defn × Str)) (ex : PySem.W.Frag → Bool) (w : World) (h : Heap) (K : PySem.W.Frag) : Prop where
  t : He.SaysT fa fn [] w K
  more : ex K = true
  hd : ∀ p ∈ tf, PySem.W.codeHdIn K (He.cT K p.1).1 (He.cT K p.1).2 = true
  out : ∀ p ∈ tf, K.lookup (He.cT K p.1).2 = none
  empty : ∀ p ∈ tf, h.get? (He.cT K p.1).2 = some { cls := .none, data := .fields #[] }
def obsZ (n : Nat) (fa : List He.Fa) (fn : List He.DefD) (tf : List (He.Defn × Str)) (ex : PySem.W.Frag → Bool) (g : Addr → Option Obj) : He.AlT × Bool := (He.obsT fa fn [] (kY n g), ex (kY n g) && He.tabsB g (tf.map (·.1)) (kY n g))
theorem saysZ_of {n : Nat} {fa : List He.Fa} {fn : List He.DefD} {tf : List (He.Defn × Str)} {ex : PySem.W.Frag → Bool} {w : World} {h : Heap} (e : obsZ n fa fn tf ex h.get? = (He.valT fn [] w, true)) : SaysZ fa fn tf ex w h (kY n h.get?) := by
  have e1 : He.obsT fa fn [] (kY n h.get?) = He.valT fn [] w := congrArg Prod.fst e
  have e2 : (ex (kY n h.get?) && He.tabsB h.get? (tf.map (·.1)) (kY n h.get?)) = true := congrArg Prod.snd e
  obtain ⟨h1, h2⟩ := He.ba e2
  have key : ∀ p ∈ tf, PySem.W.codeHdIn (kY n h.get?) (He.cT (kY n h.get?) p.1).1 (He.cT (kY n h.get?) p.1).2 = true ∧ ∃ o, h.get? (He.cT (kY n h.get?) p.1).2 = some o ∧ He.emptyTab o = true := fun p hp => by
    obtain ⟨h3, h4⟩ := He.ba (List.all_eq_true.mp h2 p.1 (List.mem_map.mpr ⟨p, hp, rfl⟩))
    refine ⟨h3, ?_⟩
    cases q : h.get? (He.cT (kY n h.get?) p.1).2 with
    | none =>
      rw [q] at h4
      cases h4
    | some o =>
      rw [q] at h4
      exact ⟨o, rfl, h4⟩
  exact ⟨e1, h1, fun p hp => (key p hp).1, fun p hp => by
    obtain ⟨_, o, q, z⟩ := key p hp
    exact He.frT_none q z, fun p hp => by
    obtain ⟨_, o, q, z⟩ := key p hp
    rw [q, He.emptyTab_eq z]⟩
def hookZ (n : Nat) (fa : List He.Fa) (fn : List He.DefD) (tf : List (He.Defn × Str)) (ex : PySem.W.Frag → Bool) : PySem.W.Hook where
  α := He.AlT × Bool
  obs s := obsZ n fa fn tf ex s.heap.get?
  val w := (He.valT fn [] w, true)
  says w h := ∃ K : PySem.W.Frag, K.In h ∧ SaysZ fa fn tf ex w h K
  of w s e := ⟨kY n s.heap.get?, He.frT_in, saysZ_of e⟩
  keeps w h h' := fun ⟨K, hK, c⟩ k => ⟨K, PySem.W.Frag.In.keeps hK k, ⟨c.t, c.more, c.hd, c.out, fun p hp => k _ _ (c.empty p hp)⟩⟩
theorem obsZ_eq {n : Nat} {fa : List He.Fa} {fn : List He.DefD} {tf : List (He.Defn × Str)} {ex : PySem.W.Frag → Bool} {g : Addr → Option Obj} {s : Shared} (h : ∀ a, g a = s.heap.get? a) : obsZ n fa fn tf ex g = (hookZ n fa fn tf ex).obs s := by
  rw [show g = s.heap.get? from funext h]; rfl
/-- the tables at the head's end -/
theorem tabs0 {K : PySem.W.Frag} {tf : List (He.Defn × Str)} {H : Hp} (h : ∀ p ∈ tf.map (fun p => He.cT K p.1), H p.2 = some (.tbl #[])) : Tabs (tbLs K tf) H := fun r hr => by
  obtain ⟨p, hp, rfl⟩ := List.mem_map.mp hr
  exact .nil (h _ (List.mem_map.mpr ⟨p, hp, rfl⟩))
end PX
end L2

namespace L2
namespace PX
open PySem PySem.Spec PyProof.Rows ClX
section
variable {X : Cx} {L : Lc}
def dmrg (kvs : List (Key × PV)) : List (Key × PV) := kvs.foldl (fun acc kv => dput acc kv.1 kv.2) []
def kDictP : PV → Sto → RK → Prop := fun p S R => ∃ kvs : List (Key × PV), dr S p = .lst (kvs.map fun kv => .tup [keyP kv.1, kv.2]) ∧ R (.dct (dmrg kvs)) S
theorem key_rv {K : PySem.W.Frag} {H : Hp} {k : Key} {v : V} (r : RV K H (keyP k) v) : v = kV k := by
  cases k with
  | inl i => cases r; rfl
  | inr i => cases r; rfl
theorem pairs_rv {K : PySem.W.Frag} {H : Hp} : ∀ {kvs : List (Key × PV)} {vs : List V}, RVs K H (kvs.map fun kv => .tup [keyP kv.1, kv.2]) vs →
    ∃ (ps : List Addr) (gs : List (Key × V)), vs = ps.map V.ref ∧ Paired (fun p kv => SqT K H p [kV kv.1, kv.2]) ps gs ∧ Pr K H kvs gs
  | [], vs, r => by
    cases r
    exact ⟨[], [], rfl, .nil, .nil⟩
  | kv :: kvs, vs, r => by
    cases r with | cons r rr =>
    obtain ⟨ps, gs, rfl, h2, h3⟩ := pairs_rv rr
    cases r with | @tup a us xs hs _ hr =>
    cases hr with | cons r1 hr =>
    cases hr with | cons r2 hr =>
    cases hr
    have e := key_rv r1
    subst e
    rename_i v2
    exact ⟨a :: ps, (kv.1, v2) :: gs, rfl, .cons hs h2, .cons r2 h3⟩
theorem Pr.mrg {K : PySem.W.Frag} {H : Hp} : ∀ {kvs : List (Key × PV)} {gs : List (Key × V)} {acc : List (Key × PV)} {ga : List (Key × V)}, Pr K H acc ga → Pr K H kvs gs → Pr K H (kvs.foldl (fun acc kv => PX.dput acc kv.1 kv.2) acc) (mergeK ga gs)
  | [], gs, acc, ga, h, r => by
    have : gs = [] := List.length_eq_zero_iff.mp r.length.symm
    subst this
    exact h
  | (k, x) :: kvs, gs, acc, ga, h, r => by
    obtain ⟨v, gs', rfl, rv, r'⟩ := r.un
    have z := Pr.mrg (Pr.dput (k := k) h rv) r'
    exact z
theorem VC.newD {K : PySem.W.Frag} {L : Lc} {S : Sto} {H : Hp} {R : RK} {Q : VK} {a : Addr} {ks : List (Key × PV)} {gs : List (Key × V)} (q : VC K L S H R Q) (st : RSK K L H S) (pr : Pr K H ks gs) (ha : H a = none) (h : R (.dct ks) S) : gK Q (.ref a) (upd H a (.dK gs)) := by
  have g0 : Grow H (upd H a (.dK gs)) := grow_upd ha
  refine ⟨fun b => b = a, fun b e => ⟨.dK gs, by cases e; exact upd_same, trivial⟩, fun H' gh => ?_⟩
  obtain ⟨u, o, e1, _, e2⟩ := gh.ye a rfl
  rw [upd_same] at e1; cases e1
  have g : Grow H H' := fun b o' e => by
    have n : b ≠ a := ne_of_none e ha
    rw [gh.no b n]; exact g0 b o' e
  exact q _ S _ H' (.grow g) (st.grow g) (.dct e2 pr.1 (pr.2.imm (.of g))) h
theorem c_dictP (hcalm : X.calm = true) : CallP X L (.type "dict") (p1 kDictP) := call1_of fun pins s σ H x us p S R Q I rv st r hk q => by
  obtain ⟨kvs, e, hk⟩ := hk
  obtain ⟨a, vs, rfl, h1, h2⟩ := rd_lst (X := X) st r e
  obtain ⟨ps, gs, rfl, h3, h4⟩ := pairs_rv h2
  exact ghostR (call_dictP hcalm pins s σ H _ us (gK Q) I rv ⟨a, ps, gs, rfl, h1, h3, fun p hp => q.newD st (Pr.mrg .nil h4) hp hk⟩)
def wExIT (K : PySem.W.Frag) (i : Nat) (a : Addr) (e : Exc) (D : String) : WE := fun ρ S R _ => gs ρ i = some (.ref a) ∧ ExcC K e.cls ∧ ∃ b, PySem.W.kitOne K (.ref e.cls) (.type D) = some b ∧ R (.bl b) S
theorem call_isEdT {a : Addr} {oe : Obj} {cls : Value} {d : Option Addr} {pn : List (Addr × Obj)} {ex : Exc} (hz : Zc cls d oe) (hf : ∃ vs, oe.data = .fields vs) : CallR (X.suite a ((a, oe) :: pn)) (.builtin "isinstance")
    (fun xs H Q => RX X.K H ex cls d ∧ ExcC X.K ex.cls ∧ ∃ (D : String) (b : Bool), xs = [.ref a, .ty D] ∧ PySem.W.kitOne X.K (.ref ex.cls) (.type D) = some b ∧ Q (.bl b) H) := by
  intro pins s σ H xs us Q I r ⟨rx, C, D, b, exs, e, q⟩
  subst exs
  obtain ⟨u, v, rfl, ru, rv⟩ := vals2 r
  obtain rfl : u = Value.ref a := ru
  obtain rfl : v = Value.type D := rv
  obtain ⟨ec, rx2⟩ := rx
  subst ec
  obtain ⟨hget, _⟩ := I.pin (a, oe) (List.mem_append.mpr (.inl List.mem_cons_self))
  obtain ⟨vs, hv⟩ := hf
  obtain ⟨od, J⟩ : ∃ od, PySem.W.InstAt s.heap a oe ex.cls od := by
    cases d with
    | none => exact ⟨none, hget, hz.1, by unfold PySem.W.notCls; rw [hv] <;> rfl, by rw [hz.2]; trivial⟩
    | some dd =>
      obtain ⟨o, gs', hfr, _⟩ := rx2
      obtain ⟨ho0, _⟩ : s.heap.get? dd = some o ∧ ObjOk X.prog X.w H s.heap dd (.xd gs') := I.hok dd _ hfr
      exact ⟨some o, hget, hz.1, by unfold PySem.W.notCls; rw [hv] <;> rfl, by rw [hz.2]; exact ho0⟩
  have hcl : (PySem.W.clsIn X.K ex.cls).isSome = true := by
    obtain ⟨cd, hc, _⟩ := PySem.W.any_some C.hd
    rw [hc]; rfl
  exact PySem.W.kia_one (PySem.W.kitx_exc hcl C.hg C.hk C.hs C.ha C.hn C.ht C.hm) I.kIn J e (fun z => nomatch z) fun tk => ⟨.bl b, H, I.kept (t' := tk) fun _ _ z => z, rfl, q⟩
theorem de_exiT (i : Nat) {a : Addr} {oe : Obj} {cls : Value} {d : Option Addr} {pn : List (Addr × Obj)} {ex : Exc} {n y : Str} {D : String} {np yp p pos : Pos} (hz : Zc cls d oe) (hf : ∃ vs, oe.data = .fields vs) (hm : X.mg "isinstance" = none) (hD : X.mg y = none) (hv : bootBuiltins y = some (.type D))
    (hN : X.N[i]? = some n := by rfl) (hvi : Vis X.env.scope n := by first | exact Or.inl rfl | exact Or.inr (Or.inl rfl) | exact Or.inr (Or.inr rfl)) (hgi : Gl X "isinstance" := by rfl) (hgy : Gl X y := by rfl) (hd : (n == ("__debug__" : Str)) = false := by decide) (hcd : (n == ("__classdict__" : Str)) = false := by decide) (hny : y ≠ "__name__" := by decide) (hdy : (y == ("__debug__" : Str)) = false := by decide)
    (he : starEach [.Name n np, .Name y yp] X.env = (false, eval (.Name n np) X.env) :: starEach [.Name y yp] X.env := by rfl) (he2 : starEach [.Name y yp] X.env = (false, eval (.Name y yp) X.env) :: starEach [] X.env := by rfl) (hpl : (backTo pos (starEach [.Name y yp] X.env)).any (·.1) = false := by rfl) :
    DE (X.suite a ((a, oe) :: pn)) (Lsu X.K L ex cls d) (.Call (.Name "isinstance" p) [.Name n np, .Name y yp] [] pos) (wExIT X.K i a ex D) := by
  have hy : PE (X.suite a ((a, oe) :: pn)) (.Name y yp) (fun σ H Q => Q (.ty D) H) := ⟨fun pins s σ H Q I q => ld_blt I hgy hD hv ⟨.ty D, H, I, rfl, q⟩ hny hdy⟩
  have h := pe_callB (X := X.suite a ((a, oe) :: pn)) (p := p) (pos := pos) (call_isEdT (X := X) (ex := ex) (pn := pn) hz hf) hgi hm boot_isinstance (pa_cons (pe_var (X := X.suite a ((a, oe) :: pn)) (i := i) (pos := np) hN hvi hd hcd) (pa_cons hy pa_nil he2) he) (by decide) (by decide) he hpl
  refine h.imp fun σ H Q ⟨ρ, S, R, Z, A, ⟨h1, C, b, hk, hR⟩, q, hZ⟩ => ?_
  obtain ⟨v, e1, r1⟩ := A.sl.at_ i _ (gs_eq h1)
  cases r1
  exact ⟨.ref a, e1, A.j.2, C, D, b, rfl, hk, q (.bl b) S (.bl b) H (.refl S H) A.st (.bl b) hR⟩
theorem bt_ValueError : bootBuiltins "ValueError" = some (.type "ValueError") := by decide +kernel
end
end PX
end L2

namespace L2
namespace PX
open PySem PySem.Spec PyProof.Rows
section
variable {X : Cx} {L : Lc}
def kIsG (K : PySem.W.Frag) (Cs : List Addr) : PV → PV → Sto → RK → Prop := fun p q S R => match dr S p, q with
  | .obj D _, .ref D' => D ∈ Cs ∧ ∃ b, PySem.W.kitOne K (.ref D) (.ref D') = some b ∧ R (.bl b) S
  | _, _ => False
def blK (p : PV) (S : Sto) (k : Bool → Sto → Prop) : Prop := match p with
  | .bl c => k c S
  | _ => False
def kEqG (neg : Bool) (K : PySem.W.Frag) (Cs : List Addr) (sp : PSp) : K2 := fun p q S R => match dr S p, dr S q with
  | .obj D _, .obj D' _ => D ∈ Cs ∧ PySem.W.notFirst K D (.ref D') = true ∧ sp [p, q] S (fun z S' => blK z S' fun c S'' => R (.bl (c != neg)) S'') (fun _ _ => False)
  | _, _ => False
def kRep : K2 := fun p q S R => match dr S p, q with
  | .lst xs, .int k => 0 ≤ k ∧ k ≤ 1000 ∧ xs.length ≤ 1000 ∧ R (.lst (List.replicate k.toNat xs).flatten) S
  | .tup xs, .int k => xs ≠ [] ∧ 2 ≤ k ∧ k ≤ 1000 ∧ xs.length ≤ 1000 ∧ R (.tup (List.replicate k.toNat xs).flatten) S
  | _, _ => False
end
end PX
end L2

namespace L2
namespace PX
open PySem PySem.Spec PyProof.Rows
section
variable {ρ : Slots} {S : Sto} {R : RK} {Z : ZK} {P : PEnds} {p q : PV} {we wa wb : WE} {wr : WA} {i : Nat} {K : PySem.W.Frag}
theorem Qat {k : TSp} : wLam k we ρ S R Z = k (fun S' R' Z' => we ρ S' R' Z') S R := rfl
theorem Qau {f : Addr} {tl : Th} : wThk f tl ρ S R Z = (gs ρ 0 = some (.ref f) ∧ tl S R Z) := rfl
theorem Qav {a : Addr} {e : Exc} {D : String} : wExIT K i a e D ρ S R Z = (gs ρ i = some (.ref a) ∧ ExcC K e.cls ∧ ∃ b, PySem.W.kitOne K (.ref e.cls) (.type D) = some b ∧ R (.bl b) S) := rfl
theorem Qaw {Cs : List Addr} {D D' : Addr} {fs : List (Str × PV)} : kIsG K Cs (.obj D fs) (.ref D') S R = (D ∈ Cs ∧ ∃ b, PySem.W.kitOne K (.ref D) (.ref D') = some b ∧ R (.bl b) S) := rfl
theorem Qax {c : Bool} {k : Bool → Sto → Prop} : blK (.bl c) S k = k c S := rfl
theorem Qay {neg : Bool} {Cs : List Addr} {sp : PSp} {D D' : Addr} {fs fs' : List (Str × PV)} : kEqG neg K Cs sp (.obj D fs) (.obj D' fs') S R = (D ∈ Cs ∧ PySem.W.notFirst K D (.ref D') = true ∧ sp [.obj D fs, .obj D' fs'] S (fun z S' => blK z S' fun c S'' => R (.bl (c != neg)) S'') (fun _ _ => False)) := rfl
theorem Qaz {xs : List PV} {k : Int} : kRep (.lst xs) (.int k) S R = (0 ≤ k ∧ k ≤ 1000 ∧ xs.length ≤ 1000 ∧ R (.lst (List.replicate k.toNat xs).flatten) S) := rfl
theorem Qa0 {xs : List PV} {k : Int} : kRep (.tup xs) (.int k) S R = (xs ≠ [] ∧ 2 ≤ k ∧ k ≤ 1000 ∧ xs.length ≤ 1000 ∧ R (.tup (List.replicate k.toNat xs).flatten) S) := rfl
/-- a thing that is no instance, with a text that is not too long -/
def Pn (p : PV) : Prop := (tagB p).isSome = true ∧ ∀ x, p = .str x → x.length ≤ sizeLine
def isA (p : PV) (n : String) : Bool := match tagB p with
  | some a => isTyB a n
  | none => false
theorem dr_pn (h : Pn p) : dr S p = p := by
  cases p <;> first | rfl | (have := h.1; simp [tagB] at this)
theorem k_isB_pn {n : String} (hn : n ∈ tyNames) (h : Pn p) : kIsB p (.ty n) S R = R (.bl (isA p n)) S := by
  obtain ⟨a, ha⟩ := Option.isSome_iff_exists.mp h.1
  unfold kIsB isA
  rw [dr_pn h, ha]
  exact propext ⟨fun z => z.2, fun z => ⟨hn, z⟩⟩
theorem pn_int {n : Int} : Pn (.int n) := ⟨rfl, fun x e => by cases e⟩
theorem pn_bl {n : Bool} : Pn (.bl n) := ⟨rfl, fun x e => by cases e⟩
theorem pn_non : Pn .non := ⟨rfl, fun x e => by cases e⟩
theorem pn_tup {xs : List PV} : Pn (.tup xs) := ⟨rfl, fun x e => by cases e⟩
theorem pn_lst {xs : List PV} : Pn (.lst xs) := ⟨rfl, fun x e => by cases e⟩
theorem pn_dct {xs : List (Key × PV)} : Pn (.dct xs) := ⟨rfl, fun x e => by cases e⟩
theorem pn_str {x : Str} (h : x.length ≤ sizeLine) : Pn (.str x) := ⟨rfl, fun y e => by cases e; exact h⟩
end
theorem isA_str {x : Str} : isA (.str x) "str" = true := by simp [isA, tagB, isTyB]
theorem isA_tup {x : List PV} : isA (.tup x) "tuple" = true := by simp [isA, tagB, isTyB]
theorem isA_int {x : Int} : isA (.int x) "int" = true := by simp [isA, tagB, isTyB]
theorem isA_int_b {x : Int} : isA (.int x) "bool" = false := by simp [isA, tagB, isTyB]
theorem pn_str_or {p : PV} (h : Pn p) : (∃ x, p = .str x ∧ x.length ≤ sizeLine) ∨ (isA p "str" = false ∧ ∀ x, p ≠ .str x) := by
  cases p with
  | str x => exact .inl ⟨x, rfl, h.2 x rfl⟩
  | _ => exact .inr ⟨by simp [isA, tagB, isTyB], fun x e => by cases e⟩
theorem pn_tup_or {p : PV} (h : Pn p) : (∃ x, p = .tup x) ∨ (isA p "tuple" = false ∧ ∀ x, p ≠ .tup x) := by
  cases p with
  | tup x => exact .inl ⟨x, rfl⟩
  | _ => exact .inr ⟨by simp [isA, tagB, isTyB], fun x e => by cases e⟩
theorem pn_int_or {p : PV} (h : Pn p) : (∃ x, p = .int x) ∨ ((isA p "int" && !isA p "bool") = false ∧ ∀ x, p ≠ .int x) := by
  cases p with
  | int x => exact .inl ⟨x, rfl⟩
  | _ => exact .inr ⟨by simp [isA, tagB, isTyB], fun x e => by cases e⟩
theorem wLcL_filt {α : Type} {ok : Sto → Prop} {g : Tg} {t : WT} {we : WE} {ρ0 : Slots} {k : List PV → Sto → Prop} (it f : α → PV) (c : α → Bool) {S : Sto} (hok : ok S) (xs : List α)
    (hE : ∀ x ∈ xs, ∀ (R : PV → Sto → Prop) (N : Sto → Prop), (c x = true → R (f x) S) → (c x = false → N S) → asg g (it x) ρ0 S fun ρ' => t ρ' S (fun b S2 => if b = true then we ρ' S2 R Z0 else N S2) Z0) (hl : xs.length ≤ sizeLine) (hk : k ((xs.filter c).map f) S) : wLcL ok g t we ρ0 k (xs.map it) [] S := by
  have key : ∀ (ys : List α) (acc : List PV), (∀ x ∈ ys, x ∈ xs) → acc.length + ys.length ≤ sizeLine → k (acc ++ (ys.filter c).map f) S → wLcL ok g t we ρ0 k (ys.map it) acc S := by
    intro ys
    induction ys with
    | nil => intro acc _ _ hk; rw [List.filter_nil, List.map_nil, List.append_nil] at hk; exact ⟨hok, hk⟩
    | cons x r ih =>
      intro acc hm hl hk
      rw [List.length_cons] at hl
      refine ⟨hok, hE x (hm x List.mem_cons_self) (fun y S3 => acc.length < sizeLine ∧ wLcL ok g t we ρ0 k (r.map it) (acc ++ [y]) S3) (fun S3 => wLcL ok g t we ρ0 k (r.map it) acc S3) (fun hc => ⟨by omega, ih (acc ++ [f x]) (fun y hy => hm y (List.mem_cons_of_mem _ hy)) (by rw [List.length_append, List.length_singleton]; omega) ?_⟩) (fun hc => ih acc (fun y hy => hm y (List.mem_cons_of_mem _ hy)) (by omega) ?_)⟩
      · rw [List.filter_cons_of_pos hc, List.map_cons] at hk
        rw [List.append_assoc]
        exact hk
      · rw [List.filter_cons_of_neg (by rw [hc]; decide)] at hk
        exact hk
  exact key xs [] (fun _ h => h) (by simpa using hl) (by simpa using hk)
theorem u1_of {n k : Nat} (h : n + 16 * k + 200 < cLine) : n + 1 < cLine := by omega
theorem u64_of {n k : Nat} (h : n + 16 * k + 200 < cLine) : n + 64 < cLine := by omega
def kListF : PV → Sto → RK → Prop := fun p S R => match seqOf (dr S p) with
  | some xs => R (.lst xs) S
  | none => False
section
variable {X : Cx} {L : Lc}
end
theorem Qa1 {xs : List PV} {S : Sto} {R : RK} : kListF (.tup xs) S R = R (.lst xs) S := rfl
theorem Qa2 {xs : List PV} {S : Sto} {R : RK} : kListF (.lst xs) S R = R (.lst xs) S := rfl
end PX
end L2

namespace L2
namespace PX
open PySem PySem.Spec PyProof.Rows
section
variable {X : Cx} {L : Lc} {pos : Pos}
def wTryO (K : PySem.W.Frag) (body : WS) (C : Addr) (su : WS) : WS := fun P ρ S => body { P with ex := fun e ρ' S' => ∃ b, PySem.W.exmOne K (.ref e.cls) (.ref C) = some b ∧
  (b = true → su { nx := P.nx, rt := P.rt, bk := P.bk, ct := P.ct } ρ' S') ∧ (b = false → P.ex e ρ' S') } ρ S
def kGet2 (p q z : PV) (S : Sto) (R : RK) : Prop := match dr S p with
  | .dct ks => (match q with
    | .str k => R ((dget ks (.inr k)).getD z) S
    | .int k => R ((dget ks (.inl k)).getD z) S
    | _ => False)
  | _ => False
def isDct (p : PV) (S : Sto) : Prop := match dr S p with
  | .dct _ => True
  | _ => False
def wGet2 (wo wk wd : WE) : WE := fun ρ S R Z => wo ρ S (fun p S1 => isDct p S1 ∧ wk ρ S1 (fun q S2 => wd ρ S2 (fun z S3 => kGet2 p q z S3 R) Z) Z) Z
def wPairs : List (Key × WE) → Slots → Sto → (List (Key × PV) → Sto → Prop) → ZK → Prop
  | [], _, S, R, _ => R [] S
  | (k, w) :: r, ρ, S, R, Z => w ρ S (fun p S1 => wPairs r ρ S1 (fun kvs S2 => R ((k, p) :: kvs) S2) Z) Z
def wDisp (ws : List (Key × WE)) : WE := fun ρ S R Z => ws.length ≤ 15 ∧ wPairs ws ρ S (fun kvs S' => R (.dct (dmrg kvs)) S') Z
structure DPs (X : Cx) (L : Lc) (pos : Pos) (keys : List (Option Expr)) (values : List Expr) (ws : List (Key × WE)) : Prop where
  ex : ∃ trs, PPs X pos keys values trs ∧ ∀ σ H Q, (∃ ρ S R Z, At X.K L σ H ρ S ∧ wPairs ws ρ S R Z ∧ (∀ kvs S' gs H', kvs.length = ws.length → Fr S H S' H' → RSK X.K L H' S' → Pr X.K H' kvs gs → R kvs S' → Q (gs.map fun kv => (kV kv.1, kv.2)) H') ∧ ZC X.K L S H σ Z) → tPairs trs σ H Q
def zipP (xs ys : List PV) : List PV := (xs.zip ys).map fun p => PV.tup [p.1, p.2]
def zip2 (R : List PV → (Sto → Prop) → Sto → Prop) (p q : PV) (S : Sto) : Prop := match p, q with
  | .lst xs, .lst ys => R (zipP xs ys) (fun _ => True) S
  | _, _ => False
def wZip (wa wb : WE) : WI := fun ρ S R Z => wa ρ S (fun p S1 => wb ρ S1 (fun q S2 => zip2 R p q S2) Z) Z
end
section
variable {ρ : Slots} {S : Sto} {R : RK} {Z : ZK} {P : PEnds} {p q : PV} {we wa wb wd : WE} {K : PySem.W.Frag} {RI : List PV → (Sto → Prop) → Sto → Prop}
theorem Qa3 {body su : WS} {C : Addr} : wTryO K body C su P ρ S = body { P with ex := fun e ρ' S' => ∃ b, PySem.W.exmOne K (.ref e.cls) (.ref C) = some b ∧
  (b = true → su { nx := P.nx, rt := P.rt, bk := P.bk, ct := P.ct } ρ' S') ∧ (b = false → P.ex e ρ' S') } ρ S := rfl
theorem Qa4 : wGet2 wa wb wd ρ S R Z = wa ρ S (fun p S1 => isDct p S1 ∧ wb ρ S1 (fun q S2 => wd ρ S2 (fun z S3 => kGet2 p q z S3 R) Z) Z) Z := rfl
theorem Qa5 {ks : List (Key × PV)} : isDct (.dct ks) S = True := rfl
theorem Qa6 {ks : List (Key × PV)} {x : Str} {z : PV} : kGet2 (.dct ks) (.str x) z S R = R ((dget ks (.inr x)).getD z) S := rfl
theorem Qa7 {ws : List (Key × WE)} : wDisp ws ρ S R Z = (ws.length ≤ 15 ∧ wPairs ws ρ S (fun kvs S' => R (.dct (dmrg kvs)) S') Z) := rfl
theorem Qa8 {R : List (Key × PV) → Sto → Prop} : wPairs [] ρ S R Z = R [] S := rfl
theorem Qa9 {R : List (Key × PV) → Sto → Prop} {k : Key} {w : WE} {r : List (Key × WE)} : wPairs ((k, w) :: r) ρ S R Z = w ρ S (fun p S1 => wPairs r ρ S1 (fun kvs S2 => R ((k, p) :: kvs) S2) Z) Z := rfl
theorem Qba : wZip wa wb ρ S RI Z = wa ρ S (fun p S1 => wb ρ S1 (fun q S2 => zip2 RI p q S2) Z) Z := rfl
theorem Qbb {xs ys : List PV} : zip2 RI (.lst xs) (.lst ys) S = RI (zipP xs ys) (fun _ => True) S := rfl
theorem Qbc {m n : Str} : kLe (.str m) (.str n) S R = R (.bl (!ltS n m)) S := rfl
end
end PX
end L2

namespace L2
namespace PX
open PySem PySem.Spec PyProof.Rows
/-- a def of the module, where no guard stands -/
structure FnN (P : Program) (w : World) (K : PySem.W.Frag) (mg : Str → Option Value) (base : Heap) (T : List (Addr × Str)) (lv : Nat) (at_ : Str × Option Str) (pn : List Str) (sp : PSp) : Prop where
  ex : ∃ fd, FnG P w K mg base (CX P w) lv (He.fAd K at_) fd pn (spL K T pn.length sp) ∧ Binds K fd pn [] ∧ PySem.W.keepIn K (.ref (He.fAd K at_)) = true
section
variable {X : Cx} {L : Lc} {lv : Nat} {x : Str} {at_ : Str × Option Str} {pn : List Str} {sp : PSp} {e : Expr} {es : List Expr} {wr : WA} {p pos : Pos}
theorem FnN.call (f : FnN X.prog X.w X.K X.mg X.base L.T lv at_ pn sp) (tk : Takes X L.W) (hr : Room lv X.A) (hg : X.A.guards = some []) : CallP X L (.ref (He.fAd X.K at_)) (arN pn.length sp) := by
  obtain ⟨fd, F, b, _⟩ := f.ex
  intro pins s σ H xs us ps S R Z Q I rv st j r ⟨hn, hk⟩ q z
  have hp : PassesAt (CX X.prog X.w) X σ (fun cls d H => L.W cls d σ H) := fun pins H s e s' I c => tk e s' (XE.of_call I (fun cls d H' h => h) c)
  have hs : spL X.K L.T pn.length sp xs H Q (fun cls d H => L.W cls d σ H) := ⟨r.length.symm.trans hn, ps, S, R, Z, r, st, hk, q, z⟩
  have hl : us.length = pn.length := by rw [← rv.length]; exact r.length.symm.trans hn
  have hl' : (us ++ ([] : List Value)).length = pn.length := by rw [List.append_nil]; exact hl
  refine wpAny_call (codeAny_mono (F.run X.A X.stack s H ⟨us, []⟩ us xs Q (fun cls d H => L.W cls d σ H) hr I.env0 (by have := b s us I.kIn hl'; rwa [List.append_nil] at this) rv hs hg) fun r s' hq => ?_)
  cases r with
  | error e => exact hp pins H s e s' I hq
  | ok fl =>
    cases fl with
    | ret u => exact I.after hq
    | next => exact False.elim hq
    | brk => exact False.elim hq
    | cont => exact False.elim hq
theorem FnN.kpn (f : FnN X.prog X.w X.K X.mg X.base L.T lv (x, none) pn sp) : PySem.W.keepIn X.K (.ref (He.ga X.K x)) = true := let ⟨_, _, _, k⟩ := f.ex; k
theorem FnN.calln {n : Nat} (f : FnN X.prog X.w X.K X.mg X.base L.T lv (x, none) pn sp) (hn : pn.length = n) (tk : Takes X L.W) (hr : Room lv X.A) (hg : X.A.guards = some []) : CallP X L (.ref (He.ga X.K x)) (arN n sp) := by
  subst hn; exact FnN.call f tk hr hg
end
end PX
end L2

namespace L2
namespace PX
open PySem PySem.Spec PyProof.Rows
section
variable {X : Cx} {L : Lc}
end
end PX
end L2

namespace GQ
open PySem PySem.Spec PyProof.Rows PySem.SeqAt
open AutoSeq1 (wpAny_loadPart')
open MeetsSeq MeetsSeq2 MeetsSeq3 SeqRoads2
section
variable {prog : Program} {w : World} {A : Around} {R : Except Value Flow → Shared → Prop}
end
section
variable {prog : Program} {w : World} {A : Around} {E : Value → Shared → Prop} {s : Shared}
end
end GQ
namespace L2
namespace PX
open PySem PySem.Spec PyProof.Rows
section
variable {X : Cx} {L : Lc}
end
end PX
end L2

namespace L2
namespace PX
open PySem PySem.Spec PyProof.Rows
section
variable {X : Cx} {L : Lc} {c a b : Expr} {pos : _} {tA ta tb : TT}
end
def wIfT (t ta tb : WT) : WT := fun ρ S R Z => t ρ S (fun k S1 => if k = true then ta ρ S1 R Z else tb ρ S1 R Z) Z
section
variable {X : Cx} {L : Lc} {c a b : Expr} {pos : _} {t ta tb : WT}
end
section
variable {ρ : Slots} {S : Sto} {Z} {RB : Bool → Sto → Prop} {t ta tb : WT}
theorem Qbd : wIfT t ta tb ρ S RB Z = t ρ S (fun k S1 => if k = true then ta ρ S1 RB Z else tb ρ S1 RB Z) Z := rfl
end
end PX
end L2

namespace L2
namespace PX
open PySem PySem.Spec PyProof.Rows
namespace NeK
section
variable {prog : Program} {w : World} {A : Around} {E : Value → Shared → Prop} {s : Shared} {K : PySem.W.Frag} {x y C D f : Addr} {ox oy : Obj} {od od' : Option Obj}
end
end NeK
section
variable {X : Cx} {L : Lc}
end
end PX
end L2


namespace HT
open PySem PySem.W PySem.Calls PyProof.Rows HandSHeadRun
section
variable (st : SharedT → Thread → Option (SharedT × Thread)) (n0 : Nat) (ann : Option Value)
end
noncomputable def t0 : Obj := { cls := .type "tuple", data := .seq #[] }
noncomputable def f0 : Obj := { cls := .none, data := .fields #[] }
noncomputable def E (x : Str) (t : Nat) (v : Value) : Str × Nat × Value := (x, t, v)
noncomputable def co (nm qn : Str) (tok : Nat) (line x4 x5 x6 x7 : Int) (a : Nat) (b : Bool) (x10 : Int) : Obj :=
  { cls := .type "code", data := .fields #[.str nm tok, .str qn (tok + 1), .str "/claim/cut.py" (tok + 2), .int line 0, .int x4 0, .int x5 0, .int x6 0, .int x7 0, .ref a, .bool b, .int x10 0, .ref (a + 1), .none, .none, .none, .ref (a + 2), .int (tok + 3) 0, .int line 0, .str "/claim/cut.py" (tok + 4)] }
end HT
namespace HT
open PySem PySem.W PySem.Calls PyProof.Rows HandSHeadRun
end HT
namespace HT
open PySem PySem.W PySem.Calls PyProof.Rows HandSHeadRun
end HT
namespace HT
open PySem PySem.W PySem.Calls PyProof.Rows HandSHeadRun
end HT

namespace L2
namespace PX
open PySem PySem.Spec PyProof.Rows
structure SaysG (fa : List He.Fa) (fn : List He.DefD) (ts : List He.Tab) (ex : PySem.W.Frag → Bool) (w : World) (K : PySem.W.Frag) : Prop where
  t : He.SaysT fa fn ts w K
  more : ex K = true
def relSI : PV → Value → Bool
  | .str x, .str y _ => decide (y = x)
  | .int i, .int j _ => decide (j = i)
  | _, _ => false
def keyIs (e : DictEntry) (x : Str) : Bool := match e.key with
  | .str k _ => decide (k = x)
  | _ => false
def allE : List DictEntry → List (Str × PV) → Bool
  | [], [] => true
  | e :: es, kv :: kvs => keyIs e kv.1 && (relSI kv.2 e.val && allE es kvs)
  | _, _ => false
def gtB (K : PySem.W.Frag) (a : Addr) (kvs : List (Str × PV)) : Bool := match K.lookup a with
  | some ⟨_, _, .dict es _, _⟩ => allE es.toList kvs
  | _ => false
def lookS : List (Str × PV) → Str → Option PV
  | [], _ => none
  | kv :: r, z => if kv.1 = z then some kv.2 else lookS r z
theorem keyIs_str {e : DictEntry} {x : Str} (h : keyIs e x = true) : ∃ t, e.key = .str x t := by
  unfold keyIs at h
  split at h
  · rename_i k t hk; rw [hk, of_decide_eq_true h]; exact ⟨t, rfl⟩
  · cases h
theorem allE_find : ∀ {es : List DictEntry} {kvs : List (Str × PV)} (z : Str), allE es kvs = true → es.any (fun e => e.refKey) = false ∧ (match lookS kvs z with
    | some p => ∃ e, es.find? (fun d => d.key.isStr z) = some e ∧ relSI p e.val = true
    | none => es.find? (fun d => d.key.isStr z) = none)
  | [], [], z, _ => ⟨rfl, rfl⟩
  | [], _ :: _, _, h => by cases h
  | _ :: _, [], _, h => by cases h
  | e :: es, kv :: kvs, z, h => by
    obtain ⟨h1, h2⟩ := Bool.and_eq_true_iff.mp (show (keyIs e kv.1 && (relSI kv.2 e.val && allE es kvs)) = true from h)
    obtain ⟨h2, h3⟩ := Bool.and_eq_true_iff.mp h2
    obtain ⟨t, hk⟩ := keyIs_str h1
    obtain ⟨i1, i2⟩ := allE_find z h3
    have nr : e.refKey = false := by unfold DictEntry.refKey; rw [hk]
    refine ⟨by rw [List.any_cons, nr, i1]; rfl, ?_⟩
    have ei : e.key.isStr z = decide (kv.1 = z) := by rw [hk]; unfold Value.isStr; first | rfl | (rw [Bool.eq_iff_iff]; simp)
    unfold lookS
    rw [List.find?_cons, ei]
    by_cases c : kv.1 = z
    · rw [if_pos c, decide_eq_true c]; exact ⟨e, rfl, h2⟩
    · rw [if_neg c, decide_eq_false c]; exact i2
structure GT (K : PySem.W.Frag) (w : World) (a : Addr) (kvs : List (Str × PV)) : Prop where
  d : ∃ es n, KDict K w a es n
  b : gtB K a kvs = true
theorem GT.ns {K : PySem.W.Frag} {w : World} {a : Addr} {kvs : List (Str × PV)} (g : GT K w a kvs) (z : Str) : ∃ r, PySem.W.nsIn K a z = some r ∧ (match lookS kvs z with
    | some p => ∃ u, r = some u ∧ relSI p u = true
    | none => r = none) := by
  obtain ⟨⟨es, n, D⟩, hb⟩ := g
  unfold gtB at hb
  rw [D.at_] at hb
  obtain ⟨h1, h2⟩ := allE_find z hb
  unfold PySem.W.nsIn
  rw [D.at_]
  dsimp only
  cases hl : lookS kvs z with
  | some p =>
    rw [hl] at h2
    obtain ⟨e, he, hr⟩ := h2
    rw [he]
    exact ⟨_, rfl, _, rfl, hr⟩
  | none =>
    rw [hl] at h2
    rw [h2, h1]
    exact ⟨_, rfl, rfl⟩
def kInG (neg : Bool) (ks : List (Str × PV)) (a : Addr) : K2 := fun p q S R => ∃ z, p = .str z ∧ q = .ref a ∧ R (.bl ((lookS ks z).isSome != neg)) S
def wGetG (ks : List (Str × PV)) (a : Addr) (wo wk wd : WE) : WE := fun ρ S R Z => wo ρ S (fun p S1 => p = .ref a ∧ wk ρ S1 (fun q S2 => wd ρ S2 (fun d S3 => ∃ z, q = .str z ∧ R ((lookS ks z).getD d) S3) Z) Z) Z
section
variable {X : Cx} {L : Lc} {pos : Pos}
def wDct1 (wk wv : WE) : WE := fun ρ S R Z => wk ρ S (fun p S1 => wv ρ S1 (fun v S2 => ∃ z, p = .str z ∧ ∀ a, S2 a = none → R (.ref a) (updS S2 a (.dct [(.inr z, v)]))) Z) Z
end
section
variable {ρ : Slots} {S : Sto} {R : RK} {Z : ZK} {wo wk wd : WE}
theorem Qbe : wDct1 wk wd ρ S R Z = wk ρ S (fun p S1 => wd ρ S1 (fun v S2 => ∃ z, p = .str z ∧ ∀ a, S2 a = none → R (.ref a) (updS S2 a (.dct [(.inr z, v)]))) Z) Z := rfl
theorem Qbf {ks : List (Str × PV)} {a : Addr} : wGetG ks a wo wk wd ρ S R Z = wo ρ S (fun p S1 => p = .ref a ∧ wk ρ S1 (fun q S2 => wd ρ S2 (fun d S3 => ∃ z, q = .str z ∧ R ((lookS ks z).getD d) S3) Z) Z) Z := rfl
theorem Qbg {neg : Bool} {ks : List (Str × PV)} {a : Addr} {z : Str} : kInG neg ks a (.str z) (.ref a) S R = R (.bl ((lookS ks z).isSome != neg)) S := by
  refine propext ⟨fun ⟨y, e, _, h⟩ => ?_, fun h => ⟨z, rfl, rfl, h⟩⟩
  cases e; exact h
end
end PX
end L2

namespace L2
namespace PX
open PySem PySem.Spec PyProof.Rows
def wAugI (f : Int → Int → Int) (i : Nat) (we : WE) : WS := fun P ρ S => ∃ n, gs ρ i = some (.int n) ∧ we ρ S (fun q S' => ∃ m, q = .int m ∧ P.nx (ρ.set i (some (.int (f n m)))) S') (fun e S' => P.ex e ρ S')
section
variable {X : Cx} {L : Lc} {e : Expr} {we : WE} {pos : Pos}
theorem Qbh {f : Int → Int → Int} {i : Nat} {P : PEnds} {ρ : Slots} {S : Sto} : wAugI f i we P ρ S = ∃ n, gs ρ i = some (.int n) ∧ we ρ S (fun q S' => ∃ m, q = .int m ∧ P.nx (ρ.set i (some (.int (f n m)))) S') (fun e S' => P.ex e ρ S') := rfl
end
section
variable {X : Cx} {L : Lc} {o : Expr} {wo : WE} {apos cpos : Pos}
end
end PX
end L2

namespace L2
namespace PX
open PySem PySem.Spec PyProof.Rows
def zipT2 (R : List PV → (Sto → Prop) → Sto → Prop) (p q : PV) (S : Sto) : Prop := match p, q with
  | .tup xs, .tup ys => R (zipP xs ys) (fun _ => True) S
  | _, _ => False
def wZipT (wa wb : WE) : WI := fun ρ S R Z => wa ρ S (fun p S1 => wb ρ S1 (fun q S2 => zipT2 R p q S2) Z) Z
section
variable {X : Cx} {L : Lc} {pos : Pos}
theorem Qbi {ρ : Slots} {S : Sto} {Z : ZK} {wa wb : WE} {RI : List PV → (Sto → Prop) → Sto → Prop} : wZipT wa wb ρ S RI Z = wa ρ S (fun p S1 => wb ρ S1 (fun q S2 => zipT2 RI p q S2) Z) Z := rfl
theorem Qbj {S : Sto} {xs ys : List PV} {RI : List PV → (Sto → Prop) → Sto → Prop} : zipT2 RI (.tup xs) (.tup ys) S = RI (zipP xs ys) (fun _ => True) S := rfl
end
end PX
end L2

namespace L2
namespace PX
open PySem PySem.Spec PyProof.Rows
namespace RT
open HT
section
variable {prog : Program} {w : World} {A : Around} {E : Value → Shared → Prop} {s : Shared}
end
end RT
section
variable {X : Cx} {L : Lc} {e : Expr} {we : WE} {pos : Pos}
def kRevT (p : PV) (S : Sto) (R : RK) : Prop := match p with
  | .tup xs => R (.tup xs.reverse) S
  | _ => False
def wRevT (we : WE) : WE := fun ρ S R Z => we ρ S (fun p S1 => kRevT p S1 R) Z
theorem Qbk {ρ : Slots} {S : Sto} {R : RK} {Z : ZK} : wRevT we ρ S R Z = we ρ S (fun p S1 => kRevT p S1 R) Z := rfl
theorem Qbl {S : Sto} {xs : List PV} {R : RK} : kRevT (.tup xs) S R = R (.tup xs.reverse) S := rfl
end
end PX
end L2

namespace L2
namespace PX
open PySem PySem.Spec PyProof.Rows
end PX
end L2

namespace L2
namespace PX
open PySem PySem.W PySem.Spec PyProof.Rows
end PX
end L2

namespace Law_k04
open PySem PySem.Spec PyProof.Rows L2 L2.PX
abbrev netCs (K : PySem.W.Frag) : List Addr := [He.ga K "Net"]
def tf : List (He.Defn × Str) := [(("_law_refused_right", none), "_law_refused_right.<locals>.<lambda>"), (("law", none), "law.<locals>.<lambda>")]
def tbl (K : PySem.W.Frag) : List (Addr × Str) := tbLs K tf
def small : List Nat := ("abcdefghijklmnopqrstuvwxyz" : Str).cps.toList
/-- a name of a town or road -/
def nameB (x : Str) : Bool := decide (1 ≤ x.length) && (decide (x.length ≤ 8) && x.cps.toList.all (small.contains ·))
structure Road where
  name : Str
  bgn : Str
  fin : Str
  len : Int
  room : Int
  deriving DecidableEq
def roadP (r : Road) : PV := .tup [.str r.name, .str r.bgn, .str r.fin, .int r.len, .int r.room]
def roadB (ts : List Str) (r : Road) : Bool := nameB r.name && nameB r.bgn && nameB r.fin && decide (r.bgn ≠ r.fin) && decide (r.bgn ∈ ts) && decide (r.fin ∈ ts) && decide (-1000 ≤ r.len) && decide (r.len ≤ 1000) && decide (0 ≤ r.room) && decide (r.room ≤ 1000)
def townsP (ts : List Str) : PV := .tup (ts.map PV.str)
def roadsP (rs : List Road) : PV := .tup (rs.map roadP)
abbrev UpS (ts : List Str) : Prop := ts.Pairwise (fun a b => ltS a b = true)
/-- a net of whatever size -/
structure NetW (ts : List Str) (rs : List Road) : Prop where
  tn : ∀ t ∈ ts, nameB t = true
  ta : UpS ts
  tl : ts.length ≤ 1000
  rn : ∀ r ∈ rs, roadB ts r = true
  ra : rs.Pairwise (fun a b => ltS a.name b.name = true)
  rl : rs.length ≤ 1000
/-- a net that stands -/
structure NetOk (ts : List Str) (rs : List Road) : Prop where
  tn : ∀ t ∈ ts, nameB t = true
  ta : UpS ts
  tl : ts.length ≤ 40
  rn : ∀ r ∈ rs, roadB ts r = true
  ra : rs.Pairwise (fun a b => ltS a.name b.name = true)
  rl : rs.length ≤ 120
def namedP (rs : List Road) : List (Key × PV) := rs.map fun r => (.inr r.name, roadP r)
def outsP (ts : List Str) (rs : List Road) (f : Road → Str → Bool) : List (Key × PV) := ts.map fun t => (.inr t, .lst ((rs.filter fun r => f r t).map roadP))
def netP (C : Addr) (ts : List Str) (rs : List Road) : PV := .obj C [("towns", townsP ts), ("roads", roadsP rs), ("named", .dct (namedP rs)), ("outs", .dct (outsP ts rs fun r t => r.bgn == t)), ("ins", .dct (outsP ts rs fun r t => r.fin == t)),
  ("ties", .dct (outsP ts rs fun r t => r.bgn == t || r.fin == t))]
def isNm : PV → Bool
  | .str x => nameB x
  | _ => false
def isTupP (p : PV) (n : Int) : Bool := match p with
  | .tup xs => decide ((xs.length : Int) = n)
  | _ => false
def inI (p : PV) (a b : Int) : Bool := match p with
  | .int i => decide (a ≤ i) && decide (i ≤ b)
  | _ => false
def asRoad : PV → Option Road
  | .tup [.str a, .str b, .str c, .int d, .int e] => some ⟨a, b, c, d, e⟩
  | _ => none
def roadQ (ts : List Str) (p : PV) : Bool := match asRoad p with
  | some r => roadB ts r
  | none => false
def nmsOk : PV → Bool
  | .tup (a :: b :: c :: _) => isNm a && isNm b && isNm c
  | _ => false
def PnT (p : PV) : Prop := Pn p ∧ ∀ xs, p = .tup xs → ∀ x ∈ xs, Pn x
def PnTT (p : PV) : Prop := Pn p ∧ ∀ xs, p = .tup xs → ∀ x ∈ xs, PnT x
def sp_is_integer (_ : PySem.W.Frag) : PSp := fun ps S R _ => ∃ p, ps = [p] ∧ Pn p ∧ R (.bl (isA p "int" && !isA p "bool")) S
def sp_is_within (_ : PySem.W.Frag) : PSp := fun ps S R _ => ∃ p a b, ps = [p, .int a, .int b] ∧ Pn p ∧ R (.bl (inI p a b)) S
def sp_is_name (_ : PySem.W.Frag) : PSp := fun ps S R _ => ∃ p, ps = [p] ∧ Pn p ∧ R (.bl (isNm p)) S
def sp_is_tuple (_ : PySem.W.Frag) : PSp := fun ps S R _ => ∃ p n, ps = [p, .int n] ∧ Pn p ∧ R (.bl (isTupP p n)) S
def sp_does_ascend (_ : PySem.W.Frag) : PSp := fun ps S R _ => ∃ (p : PV) (ss : List Str), ps = [p] ∧ p = townsP ss ∧ ss.length ≤ 1000 ∧ R (.bl (decide (UpS ss))) S
def sp_is_road (_ : PySem.W.Frag) : PSp := fun ps S R _ => ∃ p q ts, ps = [p, q] ∧ (seqOf (dr S p) = some (ts.map PV.str) ∨ nmsOk q = false) ∧ PnT q ∧ R (.bl (roadQ ts q)) S
inductive Kd where
  | o | i | t
  deriving DecidableEq
def Kd.cond (k : Kd) (t : Str) (r : Road) : Bool := match k with
  | .o => r.bgn == t
  | .i => r.fin == t
  | .t => r.bgn == t || r.fin == t
abbrev Cell := (Kd × Str) × Addr
def dictOf (cells : List Cell) (k : Kd) : List (Key × PV) := (cells.filter fun c => c.1.1 == k).map fun c => (.inr c.1.2, .ref c.2)
def cont (rs : List Road) (k : Kd) (t : Str) : List PV := (rs.filter fun r => k.cond t r).map roadP
def keptF (ts : List Str) (rs : List Road) (cells : List Cell) : List (Str × PV) := [("towns", townsP ts), ("roads", roadsP rs), ("named", .dct (namedP rs)), ("outs", .dct (dictOf cells .o)), ("ins", .dct (dictOf cells .i)), ("ties", .dct (dictOf cells .t))]
structure Kept (C a : Addr) (ts : List Str) (rs : List Road) (S S' : Sto) (cells : List Cell) : Prop where
  nd : (cells.map Prod.snd).Nodup
  na : a ∉ cells.map Prod.snd
  new : ∀ c ∈ cells, S c.2 = none
  keys : ∀ k : Kd, (cells.filter fun c => c.1.1 == k).map (fun c => c.1.2) = ts
  ins : S' a = some (.ins C (keptF ts rs cells))
  hold : ∀ c ∈ cells, S' c.2 = some (.lst (cont rs c.1.1 c.1.2))
  oth : ∀ b, b ≠ a → b ∉ cells.map Prod.snd → S' b = S b
def sp_Net_keep (K : PySem.W.Frag) : PSp := fun ps S R _ => ∃ C a ts rs, ps = [.ref a, townsP ts, roadsP rs] ∧ C ∈ netCs K ∧ S a = some (.ins C []) ∧ NetW ts rs ∧ ∀ S' cells, Kept C a ts rs S S' cells → R .non S'
def townsF (p : PV) : Option (List Str) := match p with
  | .tup xs => (match strsOf xs with
    | some ss => if ss.length ≤ 40 ∧ ss.all nameB = true ∧ UpS ss then some ss else none
    | none => none)
  | _ => none
def aheadB : Option Str → Str → Bool
  | none, _ => true
  | some n, m => ltS n m
def roadsF (ts : List Str) : Nat → Option Str → List PV → Option Nat
  | _, _, [] => none
  | k, prev, y :: r => match asRoad y with
    | some d => if roadB ts d = true ∧ aheadB prev d.name = true then roadsF ts (k + 1) (some d.name) r else some k
    | none => some k
/-- the part of the first fault -/
def netFault (p q : PV) : Option PV := match townsF p with
  | none => some (.str "towns")
  | some ts => match q with
    | .tup ys => if ys.length ≤ 120 then (roadsF ts 0 none ys).map fun n => PV.int n else some (.str "roads")
    | _ => some (.str "roads")
abbrev badNet (K : PySem.W.Frag) (f : PV) : Exc := ⟨He.ga K "BadNet", [("part", f)]⟩
def sp_Net___init__ (K : PySem.W.Frag) : PSp := fun ps S R Z => ∃ a p q, ps = [.ref a, p, q] ∧ S a = some (.ins (He.ga K "Net") []) ∧ PnT p ∧ PnTT q ∧ match netFault p q with
  | none => ∀ ts rs S' cells, p = townsP ts → q = roadsP rs → NetOk ts rs → Kept (He.ga K "Net") a ts rs S S' cells → R .non S'
  | some f => Z (badNet K f) S
/-- the net as a value -/
abbrev netK (K : PySem.W.Frag) (ts : List Str) (rs : List Road) : PV := netP (He.ga K "Net") ts rs
abbrev exc0 (K : PySem.W.Frag) (c : Str) : Exc := ⟨He.ga K c, []⟩
def isIn (ts : List Str) : PV → Bool
  | .str x => decide (x ∈ ts)
  | _ => false
def sp_check_town (K : PySem.W.Frag) : PSp := fun ps S R Z => ∃ C ts rs p, ps = [netP C ts rs, p] ∧ C ∈ netCs K ∧ Pn p ∧ if isIn ts p = true then R .non S else Z (exc0 K "NoTown") S
abbrev Net2 := List Str × List Road
/-- what a deed tells: a net, or what it raises -/
inductive Dn where
  | net (s : Net2)
  | raw (s : Net2)
  | er (c : Str) (fs : List (Str × PV))
def srtS (ts : List Str) : List Str := ts.mergeSort fun a b => !ltS b a
def HandAt (a : Addr) (S : Sto) : Prop := ∃ (cells : List Int) (i : Nat) (d f g : Int), S a = some (.lst [.lst (cells.map PV.int), .int i, .int d, .int f, .int g])
def Off (a : Addr) (S S' : Sto) : Prop := ∀ x, x ≠ a → S' x = S x
def sp__law_hand (_ : PySem.W.Frag) : PSp := fun ps S R _ => ∃ ns : List Int, ps = [.lst (ns.map PV.int)] ∧ ∀ a S', S a = none → HandAt a S' → Off a S S' → R (.ref a) S'
def sp__law_draw (_ : PySem.W.Frag) : PSp := fun ps S R _ => ∃ a m, ps = [.ref a, .int m] ∧ HandAt a S ∧ 0 < m ∧ m < 100000 ∧ ∀ n S', 0 ≤ n → n < m → HandAt a S' → Off a S S' → R (.int n) S'
def sp__law_any (_ : PySem.W.Frag) : PSp := fun ps S R _ => ∃ a xs q, ps = [.ref a, q] ∧ ((seqOf q = some xs) ∨ ∃ r, q = .ref r ∧ r ≠ a ∧ S r = some (.lst xs)) ∧ HandAt a S ∧ 0 < xs.length ∧ xs.length < 100000 ∧ ∀ x ∈ xs, ∀ S', HandAt a S' → Off a S S' → R x S'
def pool7 : List Str := ("a" : Str) :: ("b" : Str) :: ("c" : Str) :: ("dd" : Str) :: ("e" : Str) :: ("fog" : Str) :: ("g" : Str) :: []
def names8 : List Str := ("p" : Str) :: ("q" : Str) :: ("r" : Str) :: ("s" : Str) :: ("t" : Str) :: ("u" : Str) :: ("vv" : Str) :: ("w" : Str) :: []
def sp__law_parts (_ : PySem.W.Frag) : PSp := fun ps S R _ => ∃ a m f, ps = [.ref a, .int m, .int f] ∧ HandAt a S ∧ (0 ≤ m ∧ m ≤ 7) ∧ (0 ≤ f ∧ f ≤ 8) ∧ ∀ ts rs S', NetOk ts rs → ts.length ≤ 8 → rs.length ≤ 8 → (∀ t ∈ ts, t ∈ pool7) → (∀ r ∈ rs, r.name ∈ names8) → HandAt a S' → Off a S S' → R (.tup [townsP ts, roadsP rs]) S'
def isStrP : PV → Bool
  | .str _ => true
  | _ => false
def isNames : PV → Bool
  | .tup xs => xs.all isStrP
  | _ => false
def Few (p : PV) : Prop := ∀ xs, p = .tup xs → xs.length ≤ 1000
def sp_is_names (_ : PySem.W.Frag) : PSp := fun ps S R _ => ∃ p, ps = [p] ∧ PnT p ∧ Few p ∧ R (.bl (isNames p)) S
def sp_far_end (_ : PySem.W.Frag) : PSp := fun ps S R _ => ∃ r x, ps = [roadP r, .str x] ∧ R (.str (if r.bgn = x then r.fin else r.bgn)) S
abbrev findR (rs : List Road) (n : Str) : Option Road := rs.find? fun q => decide (q.name = n)
/-- where names lead from x, by ways or either way about -/
def goR (rs : List Road) (tie : Bool) : Str → List Str → Option (List Str)
  | _, [] => some []
  | x, n :: ns => match findR rs n with
    | none => none
    | some q => if q.bgn = x then (goR rs tie q.fin ns).map (q.fin :: ·) else if tie = true ∧ q.fin = x then (goR rs tie q.bgn ns).map (q.bgn :: ·) else none
def wayP : Option (List Str) → PV
  | some ts => townsP ts
  | none => .non
def wayR (rs : List Road) (tie : Bool) (x : Str) (ns : List Str) : Option (List Str) := (goR rs tie x ns).map (x :: ·)
def sp_raw_ends (K : PySem.W.Frag) : PSp := fun ps S R _ => ∃ C ts rs x ns, ps = [netP C ts rs, .str x, townsP ns] ∧ C ∈ netCs K ∧ ns.length ≤ 1000 ∧ R (wayP (wayR rs false x ns)) S
def sp_raw_walked (K : PySem.W.Frag) : PSp := fun ps S R _ => ∃ C ts rs x ns, ps = [netP C ts rs, .str x, townsP ns] ∧ C ∈ netCs K ∧ ns.length ≤ 1000 ∧ R (wayP (wayR rs true x ns)) S
def endsK (K : PySem.W.Frag) (R : RK) (Z : ZK) (S : Sto) (ts : List Str) (rs : List Road) (tie : Bool) (p q : PV) : Prop :=
  if isIn ts p = true then (if isNames q = true then ∀ x ns, p = .str x → q = townsP ns → R (wayP (wayR rs tie x ns)) S else Z (exc0 K "NoNames") S) else Z (exc0 K "NoTown") S
def sp_ends_by (K : PySem.W.Frag) : PSp := fun ps S R Z => ∃ C ts rs p q, ps = [netP C ts rs, p, q] ∧ C ∈ netCs K ∧ Pn p ∧ PnT q ∧ Few q ∧ endsK K R Z S ts rs false p q
def sp_ends_walked (K : PySem.W.Frag) : PSp := fun ps S R Z => ∃ C ts rs p q, ps = [netP C ts rs, p, q] ∧ C ∈ netCs K ∧ Pn p ∧ PnT q ∧ Few q ∧ endsK K R Z S ts rs true p q
def lenR (rs : List Road) (n : Str) : Int := match findR rs n with
  | some q => q.len
  | none => 0
def lenOf (rs : List Road) (ns : List Str) : Int := (ns.map (lenR rs)).sum
def sp_raw_length (K : PySem.W.Frag) : PSp := fun ps S R _ => ∃ C ts rs ns, ps = [netP C ts rs, townsP ns] ∧ C ∈ netCs K ∧ ns.length ≤ 1000 ∧ (∀ n ∈ ns, n ∈ rs.map Road.name) ∧ R (.int (lenOf rs ns)) S
def lensK (K : PySem.W.Frag) (R : RK) (Z : ZK) (S : Sto) (rs : List Road) (q : PV) : Prop :=
  if isNames q = true then ∀ ns, q = townsP ns → (if (ns.all fun n => decide (n ∈ rs.map Road.name)) = true then R (.int (lenOf rs ns)) S else Z (exc0 K "NoRoad") S) else Z (exc0 K "NoNames") S
def sp_length_of (K : PySem.W.Frag) : PSp := fun ps S R Z => ∃ C ts rs q, ps = [netP C ts rs, q] ∧ C ∈ netCs K ∧ PnT q ∧ Few q ∧ lensK K R Z S rs q
def wordOf (K : PySem.W.Frag) (e : Exc) (w : PV) : Prop := (e = exc0 K "NoTown" ∧ w = .str "town") ∨ (e = exc0 K "NoNames" ∧ w = .str "names") ∨ (e = exc0 K "NoRoad" ∧ w = .str "road")
def sp__law_word (K : PySem.W.Frag) : TSp := fun tp S R => ∀ (R' : RK) (Z' : ZK), (∀ p S', R (.str "let") S' → R' p S') → (∀ e S' w, wordOf K e w → R w S' → Z' e S') → tp S R' Z'
def sp__law_gone (_ : PySem.W.Frag) : PSp := fun ps S R _ => ∃ rs x ns b, ps = [roadsP rs, .str x, townsP ns, .bl b] ∧ (rs.map Road.name).Nodup ∧ rs.length ≤ 1000 ∧ ns.length ≤ 1000 ∧ R (wayP (wayR rs b x ns)) S
def sp__law_names (_ : PySem.W.Frag) : PSp := fun ps S R _ => ∃ a ts rs x, ps = [.ref a, townsP ts, roadsP rs, .str x] ∧ HandAt a S ∧ NetOk ts rs ∧ ∀ ns S', ns.length ≤ 20 → (∀ n ∈ ns, n.length ≤ 8) → HandAt a S' → Off a S S' → R (townsP ns) S'
def sp__law_refused_right (K : PySem.W.Frag) : PSp := fun ps S R _ => ∃ a C ts rs, ps = [.ref a, netP C ts rs, townsP ts] ∧ C ∈ netCs K ∧ HandAt a S ∧ NetOk ts rs ∧ (∀ t ∈ ts, t ∈ pool7) ∧ (∀ r ∈ rs, r.name ∈ names8) ∧ ∀ S', HandAt a S' → Off a S S' → R (.bl true) S'
def sp_law (_ : PySem.W.Frag) : PSp := fun ps S R _ => ∃ ns : List Int, ps = [.lst (ns.map PV.int)] ∧ R (.bl true) S


def exB (K : PySem.W.Frag) : Bool := isCB K "Net" && tabUB K tf && oexB K (He.ga K "NoRoad") && iniB K (He.ga K "NoRoad") (He.fAd K ("RoadError", some "__init__")) && oexB K (He.ga K "NoTown") && iniB K (He.ga K "NoTown") (He.fAd K ("RoadError", some "__init__")) && oexB K (He.ga K "NoNames") && iniB K (He.ga K "NoNames") (He.fAd K ("RoadError", some "__init__")) && excCB K (He.ga K "NoTown") && excCB K (He.ga K "NoNames") && excCB K (He.ga K "NoRoad") && decide (PySem.W.kitOne K (.ref (He.ga K "BadNet")) (.type "ValueError") = some true) && decide (PySem.W.kitOne K (.ref (He.ga K "NoTown")) (.type "ValueError") = some true) && decide (PySem.W.kitOne K (.ref (He.ga K "NoNames")) (.type "ValueError") = some true) && decide (PySem.W.kitOne K (.ref (He.ga K "NoRoad")) (.type "ValueError") = some true) && oexB K (He.ga K "RoadError") && iniB K (He.ga K "RoadError") (He.fAd K ("RoadError", some "__init__")) && clfB K (He.ga K "RoadError") "__init__" (He.fAd K ("RoadError", some "__init__")) && oexB K (He.ga K "BadNet") && iniB K (He.ga K "BadNet") (He.fAd K ("BadNet", some "__init__")) && xfB K (He.ga K "BadNet") && excCB K (He.ga K "BadNet") && decide (PySem.W.findIn K (.ref (He.ga K "BadNet")) "part" = some none) && decide (PySem.W.exmOne K (.ref (He.ga K "BadNet")) (.ref (He.ga K "RoadError")) = some true) && decide (PySem.W.exmOne K (.ref (He.ga K "NoTown")) (.ref (He.ga K "RoadError")) = some true) && decide (PySem.W.exmOne K (.ref (He.ga K "NoNames")) (.ref (He.ga K "RoadError")) = some true) && decide (PySem.W.exmOne K (.ref (He.ga K "NoRoad")) (.ref (He.ga K "RoadError")) = some true) && decide (PySem.W.kitOne K (.ref (He.ga K "BadNet")) (.ref (He.ga K "NoTown")) = some false) && decide (PySem.W.kitOne K (.ref (He.ga K "BadNet")) (.ref (He.ga K "NoNames")) = some false) && decide (PySem.W.kitOne K (.ref (He.ga K "BadNet")) (.ref (He.ga K "NoRoad")) = some false) && decide (PySem.W.kitOne K (.ref (He.ga K "NoTown")) (.ref (He.ga K "NoTown")) = some true) && decide (PySem.W.kitOne K (.ref (He.ga K "NoTown")) (.ref (He.ga K "NoNames")) = some false) && decide (PySem.W.kitOne K (.ref (He.ga K "NoTown")) (.ref (He.ga K "NoRoad")) = some false) && decide (PySem.W.kitOne K (.ref (He.ga K "NoNames")) (.ref (He.ga K "NoTown")) = some false) && decide (PySem.W.kitOne K (.ref (He.ga K "NoNames")) (.ref (He.ga K "NoNames")) = some true) && decide (PySem.W.kitOne K (.ref (He.ga K "NoNames")) (.ref (He.ga K "NoRoad")) = some false) && decide (PySem.W.kitOne K (.ref (He.ga K "NoRoad")) (.ref (He.ga K "NoTown")) = some false) && decide (PySem.W.kitOne K (.ref (He.ga K "NoRoad")) (.ref (He.ga K "NoNames")) = some false) && decide (PySem.W.kitOne K (.ref (He.ga K "NoRoad")) (.ref (He.ga K "NoRoad")) = some true)
theorem tabU (K : PySem.W.Frag) (h : exB K = true) : tabUB K tf = true := (He.ba (He.ba (He.ba (He.ba (He.ba (He.ba (He.ba (He.ba (He.ba (He.ba (He.ba (He.ba (He.ba (He.ba (He.ba (He.ba (He.ba (He.ba (He.ba (He.ba (He.ba (He.ba (He.ba (He.ba (He.ba (He.ba (He.ba (He.ba (He.ba (He.ba (He.ba (He.ba (He.ba (He.ba (He.ba (He.ba (He.ba (He.ba h).1).1).1).1).1).1).1).1).1).1).1).1).1).1).1).1).1).1).1).1).1).1).1).1).1).1).1).1).1).1).1).1).1).1).1).1).1).2
theorem oex_NoRoad (K : PySem.W.Frag) (h : exB K = true) : OexC K (He.ga K "NoRoad") := oexB_ok (He.ba (He.ba (He.ba (He.ba (He.ba (He.ba (He.ba (He.ba (He.ba (He.ba (He.ba (He.ba (He.ba (He.ba (He.ba (He.ba (He.ba (He.ba (He.ba (He.ba (He.ba (He.ba (He.ba (He.ba (He.ba (He.ba (He.ba (He.ba (He.ba (He.ba (He.ba (He.ba (He.ba (He.ba (He.ba (He.ba (He.ba h).1).1).1).1).1).1).1).1).1).1).1).1).1).1).1).1).1).1).1).1).1).1).1).1).1).1).1).1).1).1).1).1).1).1).1).1).2
theorem ini_NoRoad (K : PySem.W.Frag) (h : exB K = true) : iniB K (He.ga K "NoRoad") (He.fAd K ("RoadError", some "__init__")) = true := (He.ba (He.ba (He.ba (He.ba (He.ba (He.ba (He.ba (He.ba (He.ba (He.ba (He.ba (He.ba (He.ba (He.ba (He.ba (He.ba (He.ba (He.ba (He.ba (He.ba (He.ba (He.ba (He.ba (He.ba (He.ba (He.ba (He.ba (He.ba (He.ba (He.ba (He.ba (He.ba (He.ba (He.ba (He.ba (He.ba h).1).1).1).1).1).1).1).1).1).1).1).1).1).1).1).1).1).1).1).1).1).1).1).1).1).1).1).1).1).1).1).1).1).1).1).2
theorem oex_NoTown (K : PySem.W.Frag) (h : exB K = true) : OexC K (He.ga K "NoTown") := oexB_ok (He.ba (He.ba (He.ba (He.ba (He.ba (He.ba (He.ba (He.ba (He.ba (He.ba (He.ba (He.ba (He.ba (He.ba (He.ba (He.ba (He.ba (He.ba (He.ba (He.ba (He.ba (He.ba (He.ba (He.ba (He.ba (He.ba (He.ba (He.ba (He.ba (He.ba (He.ba (He.ba (He.ba (He.ba (He.ba h).1).1).1).1).1).1).1).1).1).1).1).1).1).1).1).1).1).1).1).1).1).1).1).1).1).1).1).1).1).1).1).1).1).1).2
theorem ini_NoTown (K : PySem.W.Frag) (h : exB K = true) : iniB K (He.ga K "NoTown") (He.fAd K ("RoadError", some "__init__")) = true := (He.ba (He.ba (He.ba (He.ba (He.ba (He.ba (He.ba (He.ba (He.ba (He.ba (He.ba (He.ba (He.ba (He.ba (He.ba (He.ba (He.ba (He.ba (He.ba (He.ba (He.ba (He.ba (He.ba (He.ba (He.ba (He.ba (He.ba (He.ba (He.ba (He.ba (He.ba (He.ba (He.ba (He.ba h).1).1).1).1).1).1).1).1).1).1).1).1).1).1).1).1).1).1).1).1).1).1).1).1).1).1).1).1).1).1).1).1).1).2
theorem oex_NoNames (K : PySem.W.Frag) (h : exB K = true) : OexC K (He.ga K "NoNames") := oexB_ok (He.ba (He.ba (He.ba (He.ba (He.ba (He.ba (He.ba (He.ba (He.ba (He.ba (He.ba (He.ba (He.ba (He.ba (He.ba (He.ba (He.ba (He.ba (He.ba (He.ba (He.ba (He.ba (He.ba (He.ba (He.ba (He.ba (He.ba (He.ba (He.ba (He.ba (He.ba (He.ba (He.ba h).1).1).1).1).1).1).1).1).1).1).1).1).1).1).1).1).1).1).1).1).1).1).1).1).1).1).1).1).1).1).1).1).2
theorem ini_NoNames (K : PySem.W.Frag) (h : exB K = true) : iniB K (He.ga K "NoNames") (He.fAd K ("RoadError", some "__init__")) = true := (He.ba (He.ba (He.ba (He.ba (He.ba (He.ba (He.ba (He.ba (He.ba (He.ba (He.ba (He.ba (He.ba (He.ba (He.ba (He.ba (He.ba (He.ba (He.ba (He.ba (He.ba (He.ba (He.ba (He.ba (He.ba (He.ba (He.ba (He.ba (He.ba (He.ba (He.ba (He.ba h).1).1).1).1).1).1).1).1).1).1).1).1).1).1).1).1).1).1).1).1).1).1).1).1).1).1).1).1).1).1).1).2
theorem excC_NoTown (K : PySem.W.Frag) (h : exB K = true) : ExcC K (He.ga K "NoTown") := excCB_ok (He.ba (He.ba (He.ba (He.ba (He.ba (He.ba (He.ba (He.ba (He.ba (He.ba (He.ba (He.ba (He.ba (He.ba (He.ba (He.ba (He.ba (He.ba (He.ba (He.ba (He.ba (He.ba (He.ba (He.ba (He.ba (He.ba (He.ba (He.ba (He.ba (He.ba (He.ba h).1).1).1).1).1).1).1).1).1).1).1).1).1).1).1).1).1).1).1).1).1).1).1).1).1).1).1).1).1).1).2
theorem excC_NoNames (K : PySem.W.Frag) (h : exB K = true) : ExcC K (He.ga K "NoNames") := excCB_ok (He.ba (He.ba (He.ba (He.ba (He.ba (He.ba (He.ba (He.ba (He.ba (He.ba (He.ba (He.ba (He.ba (He.ba (He.ba (He.ba (He.ba (He.ba (He.ba (He.ba (He.ba (He.ba (He.ba (He.ba (He.ba (He.ba (He.ba (He.ba (He.ba (He.ba h).1).1).1).1).1).1).1).1).1).1).1).1).1).1).1).1).1).1).1).1).1).1).1).1).1).1).1).1).1).2
theorem excC_NoRoad (K : PySem.W.Frag) (h : exB K = true) : ExcC K (He.ga K "NoRoad") := excCB_ok (He.ba (He.ba (He.ba (He.ba (He.ba (He.ba (He.ba (He.ba (He.ba (He.ba (He.ba (He.ba (He.ba (He.ba (He.ba (He.ba (He.ba (He.ba (He.ba (He.ba (He.ba (He.ba (He.ba (He.ba (He.ba (He.ba (He.ba (He.ba (He.ba h).1).1).1).1).1).1).1).1).1).1).1).1).1).1).1).1).1).1).1).1).1).1).1).1).1).1).1).1).2
theorem kitT_NoTown_ValueError (K : PySem.W.Frag) (h : exB K = true) : PySem.W.kitOne K (.ref (He.ga K "NoTown")) (.type "ValueError") = some true := of_decide_eq_true (He.ba (He.ba (He.ba (He.ba (He.ba (He.ba (He.ba (He.ba (He.ba (He.ba (He.ba (He.ba (He.ba (He.ba (He.ba (He.ba (He.ba (He.ba (He.ba (He.ba (He.ba (He.ba (He.ba (He.ba (He.ba (He.ba (He.ba h).1).1).1).1).1).1).1).1).1).1).1).1).1).1).1).1).1).1).1).1).1).1).1).1).1).1).2
theorem kitT_NoNames_ValueError (K : PySem.W.Frag) (h : exB K = true) : PySem.W.kitOne K (.ref (He.ga K "NoNames")) (.type "ValueError") = some true := of_decide_eq_true (He.ba (He.ba (He.ba (He.ba (He.ba (He.ba (He.ba (He.ba (He.ba (He.ba (He.ba (He.ba (He.ba (He.ba (He.ba (He.ba (He.ba (He.ba (He.ba (He.ba (He.ba (He.ba (He.ba (He.ba (He.ba (He.ba h).1).1).1).1).1).1).1).1).1).1).1).1).1).1).1).1).1).1).1).1).1).1).1).1).1).2
theorem kitT_NoRoad_ValueError (K : PySem.W.Frag) (h : exB K = true) : PySem.W.kitOne K (.ref (He.ga K "NoRoad")) (.type "ValueError") = some true := of_decide_eq_true (He.ba (He.ba (He.ba (He.ba (He.ba (He.ba (He.ba (He.ba (He.ba (He.ba (He.ba (He.ba (He.ba (He.ba (He.ba (He.ba (He.ba (He.ba (He.ba (He.ba (He.ba (He.ba (He.ba (He.ba (He.ba h).1).1).1).1).1).1).1).1).1).1).1).1).1).1).1).1).1).1).1).1).1).1).1).1).2
theorem clf_RoadError (K : PySem.W.Frag) (h : exB K = true) : clfB K (He.ga K "RoadError") "__init__" (He.fAd K ("RoadError", some "__init__")) = true := (He.ba (He.ba (He.ba (He.ba (He.ba (He.ba (He.ba (He.ba (He.ba (He.ba (He.ba (He.ba (He.ba (He.ba (He.ba (He.ba (He.ba (He.ba (He.ba (He.ba (He.ba (He.ba h).1).1).1).1).1).1).1).1).1).1).1).1).1).1).1).1).1).1).1).1).1).2
theorem oex_BadNet (K : PySem.W.Frag) (h : exB K = true) : OexC K (He.ga K "BadNet") := oexB_ok (He.ba (He.ba (He.ba (He.ba (He.ba (He.ba (He.ba (He.ba (He.ba (He.ba (He.ba (He.ba (He.ba (He.ba (He.ba (He.ba (He.ba (He.ba (He.ba (He.ba (He.ba h).1).1).1).1).1).1).1).1).1).1).1).1).1).1).1).1).1).1).1).1).2
theorem ini_BadNet (K : PySem.W.Frag) (h : exB K = true) : iniB K (He.ga K "BadNet") (He.fAd K ("BadNet", some "__init__")) = true := (He.ba (He.ba (He.ba (He.ba (He.ba (He.ba (He.ba (He.ba (He.ba (He.ba (He.ba (He.ba (He.ba (He.ba (He.ba (He.ba (He.ba (He.ba (He.ba (He.ba h).1).1).1).1).1).1).1).1).1).1).1).1).1).1).1).1).1).1).1).2
theorem exm_NoTown_RoadError (K : PySem.W.Frag) (h : exB K = true) : PySem.W.exmOne K (.ref (He.ga K "NoTown")) (.ref (He.ga K "RoadError")) = some true := of_decide_eq_true (He.ba (He.ba (He.ba (He.ba (He.ba (He.ba (He.ba (He.ba (He.ba (He.ba (He.ba (He.ba (He.ba (He.ba (He.ba h).1).1).1).1).1).1).1).1).1).1).1).1).1).1).2
theorem exm_NoNames_RoadError (K : PySem.W.Frag) (h : exB K = true) : PySem.W.exmOne K (.ref (He.ga K "NoNames")) (.ref (He.ga K "RoadError")) = some true := of_decide_eq_true (He.ba (He.ba (He.ba (He.ba (He.ba (He.ba (He.ba (He.ba (He.ba (He.ba (He.ba (He.ba (He.ba (He.ba h).1).1).1).1).1).1).1).1).1).1).1).1).1).2
theorem exm_NoRoad_RoadError (K : PySem.W.Frag) (h : exB K = true) : PySem.W.exmOne K (.ref (He.ga K "NoRoad")) (.ref (He.ga K "RoadError")) = some true := of_decide_eq_true (He.ba (He.ba (He.ba (He.ba (He.ba (He.ba (He.ba (He.ba (He.ba (He.ba (He.ba (He.ba (He.ba h).1).1).1).1).1).1).1).1).1).1).1).1).2
theorem kit_NoTown_NoTown (K : PySem.W.Frag) (h : exB K = true) : PySem.W.kitOne K (.ref (He.ga K "NoTown")) (.ref (He.ga K "NoTown")) = some true := of_decide_eq_true (He.ba (He.ba (He.ba (He.ba (He.ba (He.ba (He.ba (He.ba (He.ba h).1).1).1).1).1).1).1).1).2
theorem kit_NoTown_NoNames (K : PySem.W.Frag) (h : exB K = true) : PySem.W.kitOne K (.ref (He.ga K "NoTown")) (.ref (He.ga K "NoNames")) = some false := of_decide_eq_true (He.ba (He.ba (He.ba (He.ba (He.ba (He.ba (He.ba (He.ba h).1).1).1).1).1).1).1).2
theorem kit_NoTown_NoRoad (K : PySem.W.Frag) (h : exB K = true) : PySem.W.kitOne K (.ref (He.ga K "NoTown")) (.ref (He.ga K "NoRoad")) = some false := of_decide_eq_true (He.ba (He.ba (He.ba (He.ba (He.ba (He.ba (He.ba h).1).1).1).1).1).1).2
theorem kit_NoNames_NoTown (K : PySem.W.Frag) (h : exB K = true) : PySem.W.kitOne K (.ref (He.ga K "NoNames")) (.ref (He.ga K "NoTown")) = some false := of_decide_eq_true (He.ba (He.ba (He.ba (He.ba (He.ba (He.ba h).1).1).1).1).1).2
theorem kit_NoNames_NoNames (K : PySem.W.Frag) (h : exB K = true) : PySem.W.kitOne K (.ref (He.ga K "NoNames")) (.ref (He.ga K "NoNames")) = some true := of_decide_eq_true (He.ba (He.ba (He.ba (He.ba (He.ba h).1).1).1).1).2
theorem kit_NoNames_NoRoad (K : PySem.W.Frag) (h : exB K = true) : PySem.W.kitOne K (.ref (He.ga K "NoNames")) (.ref (He.ga K "NoRoad")) = some false := of_decide_eq_true (He.ba (He.ba (He.ba (He.ba h).1).1).1).2
theorem kit_NoRoad_NoTown (K : PySem.W.Frag) (h : exB K = true) : PySem.W.kitOne K (.ref (He.ga K "NoRoad")) (.ref (He.ga K "NoTown")) = some false := of_decide_eq_true (He.ba (He.ba (He.ba h).1).1).2
theorem kit_NoRoad_NoNames (K : PySem.W.Frag) (h : exB K = true) : PySem.W.kitOne K (.ref (He.ga K "NoRoad")) (.ref (He.ga K "NoNames")) = some false := of_decide_eq_true (He.ba (He.ba h).1).2
theorem kit_NoRoad_NoRoad (K : PySem.W.Frag) (h : exB K = true) : PySem.W.kitOne K (.ref (He.ga K "NoRoad")) (.ref (He.ga K "NoRoad")) = some true := of_decide_eq_true (He.ba h).2
def w_is_integer (K : PySem.W.Frag) : WS := wRet (wAndV (wCall (p2 kIsB) (wCons (wVar 0) (wCons (wC (.ty "int")) (wNil)))) (wNotV (wCall (p2 kIsB) (wCons (wVar 0) (wCons (wC (.ty "bool")) (wNil))))))
def n_is_integer : List Str := ["thing"]
def w_is_within (K : PySem.W.Frag) : WS := wRet (wAndV (wCall (arN 1 (sp_is_integer K)) (wCons (wVar 0) (wNil))) (wCh (kLe) (kLe) (wVar 1) (wVar 0) (wVar 2)))
def n_is_within : List Str := ["thing", "least", "most"]
def w_is_name_1 (K : PySem.W.Frag) : WE := wB (kIn false) (wVar 1) (wC (.str "abcdefghijklmnopqrstuvwxyz"))
def w_is_name (K : PySem.W.Frag) : WS := wRet (wAndV (wCall (p2 kIsB) (wCons (wVar 0) (wCons (wC (.ty "str")) (wNil)))) (wAndV (wCh (kLe) (kLe) (wC (.int 1)) (wCall (p1 kLen) (wCons (wVar 0) (wNil))) (wC (.int 8))) (wCall (p1 kAll) (wCons (wLc (wIt (wVar 0)) (.nm 1) (wYes) (w_is_name_1 K) [1]) (wNil)))))
def n_is_name : List Str := ["thing", "sign"]
def w_is_tuple (K : PySem.W.Frag) : WS := wRet (wAndV (wCall (p2 kIsB) (wCons (wVar 0) (wCons (wC (.ty "tuple")) (wNil)))) (wB (kEqA false) (wCall (p1 kLen) (wCons (wVar 0) (wNil))) (wVar 1)))
def n_is_tuple : List Str := ["thing", "size"]
def w_does_ascend_1 (K : PySem.W.Frag) : WE := wB (kLt) (wB kIx (wVar 0) (wB kSub (wVar 1) (wC (.int 1)))) (wB kIx (wVar 0) (wVar 1))
def w_does_ascend (K : PySem.W.Frag) : WS := wRet (wCall (p1 kAll) (wCons (wLc (wRng2 (wC (.int 1)) (wCall (p1 kLen) (wCons (wVar 0) (wNil)))) (.nm 1) (wYes) (w_does_ascend_1 K) [1]) (wNil)))
def n_does_ascend : List Str := ["thing", "at"]
def w_is_names_1 (K : PySem.W.Frag) : WE := wCall (p2 kIsB) (wCons (wVar 1) (wCons (wC (.ty "str")) (wNil)))
def w_is_names (K : PySem.W.Frag) : WS := wRet (wAndV (wCall (p2 kIsB) (wCons (wVar 0) (wCons (wC (.ty "tuple")) (wNil)))) (wCall (p1 kAll) (wCons (wLc (wIt (wVar 0)) (.nm 1) (wYes) (w_is_names_1 K) [1]) (wNil))))
def n_is_names : List Str := ["thing", "name"]
def w_is_road_1 (K : PySem.W.Frag) : WE := wCall (arN 1 (sp_is_name K)) (wCons (wVar 2) (wNil))
def w_is_road (K : PySem.W.Frag) : WS := wSeq (wIfS (wOrT (wNotT (tst (wCall (arN 2 (sp_is_tuple K)) (wCons (wVar 1) (wCons (wC (.int 5)) (wNil)))))) (wNotT (tst (wCall (p1 kAll) (wCons (wLc (wIt (wSl (wVar 1) (wNo) (wSo (wC (.int 3))))) (.nm 2) (wYes) (w_is_road_1 K) [2]) (wNil)))))) (wRet (wC (.bl false))) (wNext)) (wSeq (wIfS (wOrT (tst (wB (kEqA false) (wB kIx (wVar 1) (wC (.int 1))) (wB kIx (wVar 1) (wC (.int 2))))) (wOrT (tst (wB (kIn true) (wB kIx (wVar 1) (wC (.int 1))) (wVar 0))) (tst (wB (kIn true) (wB kIx (wVar 1) (wC (.int 2))) (wVar 0))))) (wRet (wC (.bl false))) (wNext)) (wRet (wAndV (wCall (arN 3 (sp_is_within K)) (wCons (wB kIx (wVar 1) (wC (.int 3))) (wCons (w1 kNeg (wC (.int 1000))) (wCons (wC (.int 1000)) (wNil))))) (wCall (arN 3 (sp_is_within K)) (wCons (wB kIx (wVar 1) (wC (.int 4))) (wCons (wC (.int 0)) (wCons (wC (.int 1000)) (wNil))))))))
def n_is_road : List Str := ["towns", "thing", "name"]
def w_Net_keep_1 (K : PySem.W.Frag) : WS := wSeq (wExpr (wBM "list" kApp (wB kIx (wFld (netCs K) "outs" (wVar 0)) (wB kIx (wVar 3) (wC (.int 1)))) (wCons (wVar 3) (wNil)))) (wSeq (wExpr (wBM "list" kApp (wB kIx (wFld (netCs K) "ins" (wVar 0)) (wB kIx (wVar 3) (wC (.int 2)))) (wCons (wVar 3) (wNil)))) (wSeq (wExpr (wBM "list" kApp (wB kIx (wFld (netCs K) "ties" (wVar 0)) (wB kIx (wVar 3) (wC (.int 1)))) (wCons (wVar 3) (wNil)))) (wExpr (wBM "list" kApp (wB kIx (wFld (netCs K) "ties" (wVar 0)) (wB kIx (wVar 3) (wC (.int 2)))) (wCons (wVar 3) (wNil))))))
def w_Net_keep (K : PySem.W.Frag) : WS := wSeq (wSetF (netCs K) "towns" (wVar 0) (wVar 1)) (wSeq (wSetF (netCs K) "roads" (wVar 0) (wVar 2)) (wSeq (wSetF (netCs K) "named" (wVar 0) (wDc (wIt (wVar 2)) (.nm 3) (wYes) (wB kIx (wVar 3) (wC (.int 0))) (wVar 3) [3])) (wSeq (wSetF (netCs K) "outs" (wVar 0) (wDc (wIt (wVar 1)) (.nm 4) (wYes) (wVar 4) (wLst (wNil)) [4])) (wSeq (wSetF (netCs K) "ins" (wVar 0) (wDc (wIt (wVar 1)) (.nm 4) (wYes) (wVar 4) (wLst (wNil)) [4])) (wSeq (wSetF (netCs K) "ties" (wVar 0) (wDc (wIt (wVar 1)) (.nm 4) (wYes) (wVar 4) (wLst (wNil)) [4])) (wFor (wIt (wVar 2)) (.nm 3) (w_Net_keep_1 K)))))))
def n_Net_keep : List Str := ["self", "towns", "roads", "road", "town"]
def w_Net___init___1 (K : PySem.W.Frag) : WE := wCall (arN 1 (sp_is_name K)) (wCons (wVar 5) (wNil))
def w_Net___init___2 (K : PySem.W.Frag) : WS := wIfS (wOrT (wNotT (tst (wCall (arN 2 (sp_is_road K)) (wCons (wVar 1) (wCons (wVar 4) (wNil)))))) (wAndT (tst (wB (kGt) (wVar 3) (wC (.int 0)))) (wNotT (tst (wB (kLt) (wB kIx (wB kIx (wVar 2) (wB kSub (wVar 3) (wC (.int 1)))) (wC (.int 0))) (wB kIx (wVar 4) (wC (.int 0)))))))) (wRaise1 (He.ga K "BadNet") "part" (wVar 3)) (wNext)
def w_Net___init__ (K : PySem.W.Frag) : WS := wSeq (wIfS (wOrT (wNotT (tst (wCall (p2 kIsB) (wCons (wVar 1) (wCons (wC (.ty "tuple")) (wNil)))))) (wOrT (tst (wB (kGt) (wCall (p1 kLen) (wCons (wVar 1) (wNil))) (wC (.int 40)))) (wNotT (tst (wCall (p1 kAll) (wCons (wLc (wIt (wVar 1)) (.nm 5) (wYes) (w_Net___init___1 K) [5]) (wNil))))))) (wRaise1 (He.ga K "BadNet") "part" (wC (.str "towns"))) (wNext)) (wSeq (wIfS (wNotT (tst (wCall (arN 1 (sp_does_ascend K)) (wCons (wVar 1) (wNil))))) (wRaise1 (He.ga K "BadNet") "part" (wC (.str "towns"))) (wNext)) (wSeq (wIfS (wOrT (wNotT (tst (wCall (p2 kIsB) (wCons (wVar 2) (wCons (wC (.ty "tuple")) (wNil)))))) (tst (wB (kGt) (wCall (p1 kLen) (wCons (wVar 2) (wNil))) (wC (.int 120))))) (wRaise1 (He.ga K "BadNet") "part" (wC (.str "roads"))) (wNext)) (wSeq (wFor (wEnum (wVar 2)) (.tp [3, 4]) (w_Net___init___2 K)) (wExpr (wMeth (He.ga K "Net") "keep" (arN 3 (sp_Net_keep K)) (wVar 0) (wCons (wVar 1) (wCons (wVar 2) (wNil))))))))
def n_Net___init__ : List Str := ["self", "towns", "roads", "at", "road", "town"]
def w_far_end (K : PySem.W.Frag) : WS := wRet (wIf (tst (wB (kEqA false) (wB kIx (wVar 0) (wC (.int 1))) (wVar 1))) (wB kIx (wVar 0) (wC (.int 2))) (wB kIx (wVar 0) (wC (.int 1))))
def n_far_end : List Str := ["road", "town"]
def w_check_town (K : PySem.W.Frag) : WS := wIfS (wOrT (wNotT (tst (wCall (p2 kIsB) (wCons (wVar 1) (wCons (wC (.ty "str")) (wNil)))))) (tst (wB (kIn true) (wVar 1) (wFld (netCs K) "outs" (wVar 0))))) (wRaise0 (He.ga K "NoTown")) (wNext)
def n_check_town : List Str := ["net", "thing"]
def w_raw_ends_1 (K : PySem.W.Frag) : WS := wSeq (wIfS (wOrT (tst (wB (kIn true) (wVar 4) (wFld (netCs K) "named" (wVar 0)))) (tst (wB (kEqA true) (wB kIx (wB kIx (wFld (netCs K) "named" (wVar 0)) (wVar 4)) (wC (.int 1))) (wB kIx (wVar 3) (w1 kNeg (wC (.int 1))))))) (wRet (wC .non)) (wNext)) (wExpr (wBM "list" kApp (wVar 3) (wCons (wB kIx (wB kIx (wFld (netCs K) "named" (wVar 0)) (wVar 4)) (wC (.int 2))) (wNil))))
def w_raw_ends_2 (K : PySem.W.Frag) : WS := wRet (wCall (p1 kTup) (wCons (wVar 3) (wNil)))
def w_raw_ends_3 (K : PySem.W.Frag) : WS := wSeq (wFor (wIt (wVar 2)) (.nm 4) (w_raw_ends_1 K)) (w_raw_ends_2 K)
def w_raw_ends (K : PySem.W.Frag) : WS := wSeq (wSet 3 (wLst (wCons (wVar 1) (wNil)))) (w_raw_ends_3 K)
def n_raw_ends : List Str := ["net", "start", "names", "found", "name"]
def w_raw_walked_1 (K : PySem.W.Frag) : WS := wSeq (wIfS (wOrT (tst (wB (kIn true) (wVar 4) (wFld (netCs K) "named" (wVar 0)))) (tst (wB (kIn true) (wB kIx (wVar 3) (w1 kNeg (wC (.int 1)))) (wSl (wB kIx (wFld (netCs K) "named" (wVar 0)) (wVar 4)) (wSo (wC (.int 1))) (wSo (wC (.int 3))))))) (wRet (wC .non)) (wNext)) (wExpr (wBM "list" kApp (wVar 3) (wCons (wCall (arN 2 (sp_far_end K)) (wCons (wB kIx (wFld (netCs K) "named" (wVar 0)) (wVar 4)) (wCons (wB kIx (wVar 3) (w1 kNeg (wC (.int 1)))) (wNil)))) (wNil))))
def w_raw_walked_2 (K : PySem.W.Frag) : WS := wRet (wCall (p1 kTup) (wCons (wVar 3) (wNil)))
def w_raw_walked_3 (K : PySem.W.Frag) : WS := wSeq (wFor (wIt (wVar 2)) (.nm 4) (w_raw_walked_1 K)) (w_raw_walked_2 K)
def w_raw_walked (K : PySem.W.Frag) : WS := wSeq (wSet 3 (wLst (wCons (wVar 1) (wNil)))) (w_raw_walked_3 K)
def n_raw_walked : List Str := ["net", "start", "names", "found", "name"]
def w_ends_by (K : PySem.W.Frag) : WS := wSeq (wExpr (wCall (arN 2 (sp_check_town K)) (wCons (wVar 0) (wCons (wVar 1) (wNil))))) (wSeq (wIfS (wNotT (tst (wCall (arN 1 (sp_is_names K)) (wCons (wVar 2) (wNil))))) (wRaise0 (He.ga K "NoNames")) (wNext)) (wRet (wCall (arN 3 (sp_raw_ends K)) (wCons (wVar 0) (wCons (wVar 1) (wCons (wVar 2) (wNil)))))))
def n_ends_by : List Str := ["net", "start", "names"]
def w_ends_walked (K : PySem.W.Frag) : WS := wSeq (wExpr (wCall (arN 2 (sp_check_town K)) (wCons (wVar 0) (wCons (wVar 1) (wNil))))) (wSeq (wIfS (wNotT (tst (wCall (arN 1 (sp_is_names K)) (wCons (wVar 2) (wNil))))) (wRaise0 (He.ga K "NoNames")) (wNext)) (wRet (wCall (arN 3 (sp_raw_walked K)) (wCons (wVar 0) (wCons (wVar 1) (wCons (wVar 2) (wNil)))))))
def n_ends_walked : List Str := ["net", "start", "names"]
def w_raw_length_1 (K : PySem.W.Frag) : WE := wB kIx (wB kIx (wFld (netCs K) "named" (wVar 0)) (wVar 2)) (wC (.int 3))
def w_raw_length (K : PySem.W.Frag) : WS := wRet (wCall (p1 kSum) (wCons (wLc (wIt (wVar 1)) (.nm 2) (wYes) (w_raw_length_1 K) [2]) (wNil)))
def n_raw_length : List Str := ["net", "names", "name"]
def w_length_of_1 (K : PySem.W.Frag) : WE := wB (kIn false) (wVar 2) (wFld (netCs K) "named" (wVar 0))
def w_length_of (K : PySem.W.Frag) : WS := wSeq (wIfS (wNotT (tst (wCall (arN 1 (sp_is_names K)) (wCons (wVar 1) (wNil))))) (wRaise0 (He.ga K "NoNames")) (wNext)) (wSeq (wIfS (wNotT (tst (wCall (p1 kAll) (wCons (wLc (wIt (wVar 1)) (.nm 2) (wYes) (w_length_of_1 K) [2]) (wNil))))) (wRaise0 (He.ga K "NoRoad")) (wNext)) (wRet (wCall (arN 2 (sp_raw_length K)) (wCons (wVar 0) (wCons (wVar 1) (wNil))))))
def n_length_of : List Str := ["net", "names", "name"]
def w__law_hand_1 (K : PySem.W.Frag) : WE := wCall (p1 kAbs) (wCons (wCall (p1 kInt) (wCons (wVar 2) (wNil))) (wNil))
def w__law_hand (K : PySem.W.Frag) : WS := wSeq (wSet 1 (wLc (wIt (wSl (wVar 0) (wNo) (wSo (wC (.int 63))))) (.nm 2) (wYes) (w__law_hand_1 K) [2])) (wRet (wLst (wCons (wVar 1) (wCons (wC (.int 0)) (wCons (wC (.int 0)) (wCons (wB kAdd (wC (.int 257)) (wB kMul (wC (.int 149)) (wCall (p1 kLen) (wCons (wVar 1) (wNil))))) (wCons (wC (.int 0)) (wNil))))))))
def n__law_hand : List Str := ["script", "cells", "cell"]
def w__law_draw (K : PySem.W.Frag) : WS := wSeq (wIfS (wAndT (tst (wB (kEqA false) (wB kIx (wVar 0) (wC (.int 2))) (wC (.int 0)))) (tst (wB (kLt) (wB kIx (wVar 0) (wC (.int 1))) (wCall (p1 kLen) (wCons (wB kIx (wVar 0) (wC (.int 0))) (wNil)))))) (wSeq (wSet 2 (wB kIx (wB kIx (wVar 0) (wC (.int 0))) (wB kIx (wVar 0) (wC (.int 1))))) (wSeq (wPut (wVar 0) (wC (.int 1)) (wB kAdd (wB kIx (wVar 0) (wC (.int 1))) (wC (.int 1)))) (wSeq (wPut (wVar 0) (wC (.int 3)) (wB kMod (wCall (p1 kInt) (wCons (wB kAdd (wB kAdd (wB kMul (wB kIx (wVar 0) (wC (.int 3))) (wC (.int 69621))) (wB kMul (wVar 2) (wC (.int 48271)))) (wC (.int 17))) (wNil))) (wC (.int 2147483629)))) (wIfS (tst (wB (kGe) (wVar 2) (wB kPow (wC (.int 10)) (wC (.int 18))))) (wPut (wVar 0) (wC (.int 2)) (wVar 2)) (wNext))))) (wNext)) (wSeq (wIfS (tst (wB (kGt) (wB kIx (wVar 0) (wC (.int 2))) (wC (.int 0)))) (wSeq (wSet 3 (wB kMod (wCall (p1 kInt) (wCons (wB kIx (wVar 0) (wC (.int 2))) (wNil))) (wVar 1))) (wSeq (wPut (wVar 0) (wC (.int 2)) (wB kDiv (wB kIx (wVar 0) (wC (.int 2))) (wVar 1))) (wRet (wVar 3)))) (wNext)) (wSeq (wPut (wVar 0) (wC (.int 4)) (wB kAdd (wB kIx (wVar 0) (wC (.int 4))) (wC (.int 1)))) (wSeq (wSet 4 (wB kMod (wCall (p1 kInt) (wCons (wB kMul (wCall (p1 kInt) (wCons (wB kAdd (wB kIx (wVar 0) (wC (.int 3))) (wB kMul (wC (.int 7919)) (wB kIx (wVar 0) (wC (.int 4))))) (wNil))) (wC (.int 40692))) (wNil))) (wC (.int 2147483647)))) (wSeq (wSet 4 (wB kMod (wCall (p1 kInt) (wCons (wB kMul (wVar 4) (wB kAdd (wB kDiv (wVar 4) (wC (.int 1009))) (wC (.int 69621)))) (wNil))) (wC (.int 2147483647)))) (wSeq (wSet 4 (wB kMod (wCall (p1 kInt) (wCons (wB kMul (wVar 4) (wB kAdd (wB kDiv (wVar 4) (wC (.int 2003))) (wC (.int 40014)))) (wNil))) (wC (.int 2147483563)))) (wRet (wB kMod (wCall (p1 kInt) (wCons (wB kDiv (wVar 4) (wC (.int 16))) (wNil))) (wVar 1))))))))
def n__law_draw : List Str := ["hand", "many", "cell", "digit", "number"]
def w__law_any (K : PySem.W.Frag) : WS := wRet (wB kIx (wVar 1) (wCall (arN 2 (sp__law_draw K)) (wCons (wVar 0) (wCons (wCall (p1 kLen) (wCons (wVar 1) (wNil))) (wNil)))))
def n__law_any : List Str := ["hand", "some"]
def w__law_parts_1 (K : PySem.W.Frag) : WS := wExpr (wBM "list" kApp (wVar 4) (wCons (wBM "list" kPop (wVar 3) (wCons (wCall (arN 2 (sp__law_draw K)) (wCons (wVar 0) (wCons (wCall (p1 kLen) (wCons (wVar 3) (wNil))) (wNil)))) (wNil))) (wNil)))
def w__law_parts_2 (K : PySem.W.Frag) : WS := wSeq (wPar 10 11 (wCons (wCall (arN 2 (sp__law_draw K)) (wCons (wVar 0) (wCons (wCall (p1 kLen) (wCons (wVar 4) (wNil))) (wNil)))) (wCons (wCall (arN 2 (sp__law_draw K)) (wCons (wVar 0) (wCons (wB kSub (wCall (p1 kLen) (wCons (wVar 4) (wNil))) (wC (.int 1))) (wNil)))) (wNil)))) (wSeq (wSet 11 (wB kAdd (wVar 11) (wCall (p1 kInt) (wCons (wB (kGe) (wVar 11) (wVar 10)) (wNil))))) (wSeq (wIfS (wTru (wVar 7)) (wPar 10 11 (wCons (wCall (p2 kMin2) (wCons (wVar 10) (wCons (wVar 11) (wNil)))) (wCons (wCall (p2 kMax2) (wCons (wVar 10) (wCons (wVar 11) (wNil)))) (wNil)))) (wNext)) (wExpr (wBM "list" kApp (wVar 6) (wCons (wTup (wCons (wVar 9) (wCons (wB kIx (wVar 4) (wVar 10)) (wCons (wB kIx (wVar 4) (wVar 11)) (wCons (wB kAdd (wVar 8) (wCall (arN 2 (sp__law_draw K)) (wCons (wVar 0) (wCons (wC (.int 6)) (wNil))))) (wCons (wCall (arN 2 (sp__law_draw K)) (wCons (wVar 0) (wCons (wC (.int 4)) (wNil)))) (wNil))))))) (wNil))))))
def w__law_parts (K : PySem.W.Frag) : WS := wSeq (wPar 3 4 (wCons (wLst (wLits [.str "a", .str "b", .str "c", .str "dd", .str "e", .str "fog", .str "g"])) (wCons (wLst (wNil)) (wNil)))) (wSeq (wFor (wRng1 (wCall (arN 2 (sp__law_draw K)) (wCons (wVar 0) (wCons (wB kAdd (wVar 1) (wC (.int 1))) (wNil))))) (.nm 5) (w__law_parts_1 K)) (wSeq (wPar3 4 6 7 (wCons (wCall (p1 kSorted) (wCons (wVar 4) (wNil))) (wCons (wLst (wNil)) (wCons (wB (kEqA false) (wCall (arN 2 (sp__law_draw K)) (wCons (wVar 0) (wCons (wC (.int 3)) (wNil)))) (wC (.int 0))) (wNil))))) (wSeq (wSet 8 (wCall (arN 2 (sp__law_any K)) (wCons (wVar 0) (wCons (wLstF (wCons (wC (.int 0)) (wCons (wC (.int 0)) (wCons (w1 kNeg (wC (.int 2))) (wNil))))) (wNil))))) (wSeq (wFor (wIt (wSl (wLstF (wLits [.str "p", .str "q", .str "r", .str "s", .str "t", .str "u", .str "vv", .str "w"])) (wNo) (wSo (wIf (tst (wB (kGt) (wCall (p1 kLen) (wCons (wVar 4) (wNil))) (wC (.int 1)))) (wCall (arN 2 (sp__law_draw K)) (wCons (wVar 0) (wCons (wB kAdd (wVar 2) (wC (.int 1))) (wNil)))) (wC (.int 0)))))) (.nm 9) (w__law_parts_2 K)) (wRet (wTup (wCons (wCall (p1 kTup) (wCons (wVar 4) (wNil))) (wCons (wCall (p1 kTup) (wCons (wVar 6) (wNil))) (wNil)))))))))
def n__law_parts : List Str := ["hand", "most", "few", "pool", "towns", "turn", "roads", "is_ahead", "low", "name", "at", "to"]
def w__law_word_1 (K : PySem.W.Frag) (we : WE) : WS := wExpr (we)
def w__law_word_2 (K : PySem.W.Frag) (we : WE) : Addr → Exc → WS := fun a e => wSeq (wSet 2 (wLstF (wCons (wExI K 1 a e (He.ga K "NoTown")) (wCons (wExI K 1 a e (He.ga K "NoNames")) (wCons (wExI K 1 a e (He.ga K "NoRoad")) (wNil)))))) (wSeq (wIfS (wOrT (tst (wB (kEqA true) (wBM "list" kCntL (wVar 2) (wCons (wC (.bl true)) (wNil))) (wC (.int 1)))) (wNotT (tst (wExIT K 1 a e "ValueError")))) (wRet (wC (.str "odd"))) (wNext)) (wRet (wB kIx (wLstF (wLits [.str "town", .str "names", .str "road"])) (wBM "list" kIdx (wVar 2) (wCons (wC (.bl true)) (wNil))))))
def w__law_word (K : PySem.W.Frag) (we : WE) : WS := wSeq (wTryA K (w__law_word_1 K we) 1 (He.ga K "RoadError") (w__law_word_2 K we)) (wRet (wC (.str "let")))
def n__law_word : List Str := ["call", "error", "some"]
def w__law_gone_1 (K : PySem.W.Frag) : WE := wTup (wCons (wB kIx (wVar 7) (wC (.int 0))) (wCons (wVar 7) (wNil)))
def w__law_gone_2 (K : PySem.W.Frag) : WS := wIfS (tst (wB (kEqA false) (wB kIx (wVar 7) (wC (.int 1))) (wB kIx (wVar 5) (w1 kNeg (wC (.int 1)))))) (wExpr (wBM "list" kApp (wVar 5) (wCons (wB kIx (wVar 7) (wC (.int 2))) (wNil)))) (wIfS (wAndT (wTru (wVar 3)) (tst (wB (kEqA false) (wB kIx (wVar 7) (wC (.int 2))) (wB kIx (wVar 5) (w1 kNeg (wC (.int 1))))))) (wExpr (wBM "list" kApp (wVar 5) (wCons (wB kIx (wVar 7) (wC (.int 1))) (wNil)))) (wRet (wC .non)))
def w__law_gone_3 (K : PySem.W.Frag) : WS := wSeq (wSet 7 (wB kIx (wVar 4) (wVar 6))) (w__law_gone_2 K)
def w__law_gone_4 (K : PySem.W.Frag) : WS := wSeq (wIfS (tst (wB (kIn true) (wVar 6) (wVar 4))) (wRet (wC .non)) (wNext)) (w__law_gone_3 K)
def w__law_gone_5 (K : PySem.W.Frag) : WS := wRet (wCall (p1 kTup) (wCons (wVar 5) (wNil)))
def w__law_gone_6 (K : PySem.W.Frag) : WS := wSeq (wFor (wIt (wVar 2)) (.nm 6) (w__law_gone_4 K)) (w__law_gone_5 K)
def w__law_gone (K : PySem.W.Frag) : WS := wSeq (wPar 4 5 (wCons (wCall (p1 kDictP) (wCons (wLc (wIt (wVar 0)) (.nm 7) (wYes) (w__law_gone_1 K) [7]) (wNil))) (wCons (wLst (wCons (wVar 1) (wNil))) (wNil)))) (w__law_gone_6 K)
def n__law_gone : List Str := ["roads", "start", "names", "is_tie", "known", "found", "name", "road"]
def w__law_names_1 (K : PySem.W.Frag) : WS := wSet 5 (wIf (tst (wB (kEqA false) (wB kIx (wVar 9) (wC (.int 1))) (wVar 5))) (wB kIx (wVar 9) (wC (.int 2))) (wB kIx (wVar 9) (wC (.int 1))))
def w__law_names_2 (K : PySem.W.Frag) : WS := wSeq (wExpr (wBM "list" kApp (wVar 4) (wCons (wB kIx (wVar 9) (wC (.int 0))) (wNil)))) (w__law_names_1 K)
def w__law_names_3 (K : PySem.W.Frag) : WS := wSeq (wSet 8 (wLc (wIt (wVar 2)) (.nm 9) (wOrT (tst (wB (kEqA false) (wB kIx (wVar 9) (wC (.int 1))) (wVar 5))) (wAndT (wTru (wVar 6)) (tst (wB (kEqA false) (wB kIx (wVar 9) (wC (.int 2))) (wVar 5))))) (wVar 9) [9])) (wIfS (tst (wB (kEqA true) (wVar 8) (wLstF (wNil)))) (wSeq (wSet 9 (wCall (arN 2 (sp__law_any K)) (wCons (wVar 0) (wCons (wVar 8) (wNil))))) (w__law_names_2 K)) (wNext))
def w__law_names_4 (K : PySem.W.Frag) : WS := wRet (wCall (p1 kTup) (wCons (wVar 4) (wNil)))
def w__law_names_5 (K : PySem.W.Frag) : WS := wSeq (wIfS (tst (wB (kEqA false) (wCall (arN 2 (sp__law_draw K)) (wCons (wVar 0) (wCons (wC (.int 4)) (wNil)))) (wC (.int 0)))) (wSeq (wSet 10 (wCall (arN 2 (sp__law_draw K)) (wCons (wVar 0) (wCons (wB kAdd (wCall (p1 kLen) (wCons (wVar 4) (wNil))) (wC (.int 1))) (wNil))))) (wSet 4 (wB kAdd (wB kAdd (wSl (wVar 4) (wNo) (wSo (wVar 10))) (wLstF (wCons (wCall (arN 2 (sp__law_any K)) (wCons (wVar 0) (wCons (wLstF (wLits [.str "zz", .str "", .str "P", .str "p", .str "q"])) (wNil)))) (wNil)))) (wSl (wVar 4) (wSo (wB kAdd (wVar 10) (wCall (arN 2 (sp__law_draw K)) (wCons (wVar 0) (wCons (wC (.int 2)) (wNil)))))) (wNo))))) (wNext)) (w__law_names_4 K)
def w__law_names_6 (K : PySem.W.Frag) : WS := wSeq (wFor (wRng1 (wCall (arN 2 (sp__law_draw K)) (wCons (wVar 0) (wCons (wC (.int 7)) (wNil))))) (.nm 7) (w__law_names_3 K)) (w__law_names_5 K)
def w__law_names (K : PySem.W.Frag) : WS := wSeq (wAsg (.tp [4, 5, 6]) (wTup (wCons (wLst (wNil)) (wCons (wVar 3) (wCons (wB (kEqA false) (wCall (arN 2 (sp__law_draw K)) (wCons (wVar 0) (wCons (wC (.int 2)) (wNil)))) (wC (.int 0))) (wNil)))))) (w__law_names_6 K)
def n__law_names : List Str := ["hand", "towns", "roads", "start", "found", "here", "is_tie", "step", "some", "road", "at"]
def w__law_refused_right_1 (K : PySem.W.Frag) : WE := wCall (arN 3 (sp_ends_by K)) (wCons (wVar 1) (wCons (wVar 3) (wCons (wVar 4) (wNil))))
def w__law_refused_right_2 (K : PySem.W.Frag) : WE := wCall (arN 3 (sp_ends_walked K)) (wCons (wVar 1) (wCons (wVar 3) (wCons (wTup (wNil)) (wNil))))
def w__law_refused_right_3 (K : PySem.W.Frag) : WE := wCall (arN 2 (sp_length_of K)) (wCons (wVar 1) (wCons (wVar 4) (wNil)))
def w__law_refused_right_4 (K : PySem.W.Frag) : WE := wCall (arN 2 (sp_length_of K)) (wCons (wVar 1) (wCons (wTup (wCons (wC (.str "zz")) (wNil))) (wNil)))
def w__law_refused_right_5 (K : PySem.W.Frag) : WE := wCall (arN 3 (sp_ends_by K)) (wCons (wVar 1) (wCons (wB kIx (wVar 2) (wC (.int 0))) (wCons (wVar 4) (wNil))))
def w__law_refused_right_6 (K : PySem.W.Frag) : WE := wCall (arN 3 (sp_ends_walked K)) (wCons (wVar 1) (wCons (wB kIx (wVar 2) (w1 kNeg (wC (.int 1)))) (wCons (wVar 4) (wNil))))
def w__law_refused_right_7 (K : PySem.W.Frag) : WS := wRet (wB (kEqA false) (wVar 5) (wLstF (wCons (wC (.str "names")) (wCons (wC (.str "names")) (wNil)))))
def w__law_refused_right_8 (K : PySem.W.Frag) : WS := wSeq (wExpr (wBM "list" kApp (wVar 5) (wCons (wLam (sp__law_word K) (w__law_refused_right_6 K)) (wNil)))) (w__law_refused_right_7 K)
def w__law_refused_right_9 (K : PySem.W.Frag) : WS := wSeq (wSet 5 (wLst (wCons (wLam (sp__law_word K) (w__law_refused_right_5 K)) (wNil)))) (w__law_refused_right_8 K)
def w__law_refused_right_10 (K : PySem.W.Frag) : WS := wSeq (wIfS (tst (wB (kEqA false) (wVar 2) (wTup (wNil)))) (wRet (wC (.bl true))) (wNext)) (w__law_refused_right_9 K)
def w__law_refused_right_11 (K : PySem.W.Frag) : WS := wSeq (wIfS (tst (wB (kEqA true) (wVar 5) (wLstF (wLits [.str "town", .str "town", .str "names", .str "road"])))) (wRet (wC (.bl false))) (wNext)) (w__law_refused_right_10 K)
def w__law_refused_right_12 (K : PySem.W.Frag) : WS := wSeq (wExpr (wBM "list" kApp (wVar 5) (wCons (wLam (sp__law_word K) (w__law_refused_right_4 K)) (wNil)))) (w__law_refused_right_11 K)
def w__law_refused_right_13 (K : PySem.W.Frag) : WS := wSeq (wExpr (wBM "list" kApp (wVar 5) (wCons (wLam (sp__law_word K) (w__law_refused_right_3 K)) (wNil)))) (w__law_refused_right_12 K)
def w__law_refused_right_14 (K : PySem.W.Frag) : WS := wSeq (wExpr (wBM "list" kApp (wVar 5) (wCons (wLam (sp__law_word K) (w__law_refused_right_2 K)) (wNil)))) (w__law_refused_right_13 K)
def w__law_refused_right_15 (K : PySem.W.Frag) : WS := wSeq (wSet 5 (wLst (wCons (wLam (sp__law_word K) (w__law_refused_right_1 K)) (wNil)))) (w__law_refused_right_14 K)
def w__law_refused_right_16 (K : PySem.W.Frag) : WS := wSeq (wSet 4 (wCall (arN 2 (sp__law_any K)) (wCons (wVar 0) (wCons (wLstF (wCons (wC .non) (wCons (wLstF (wCons (wC (.str "p")) (wNil))) (wCons (wTup (wCons (wC (.str "p")) (wCons (wC (.int 0)) (wNil)))) (wCons (wTup (wCons (wC .non) (wNil))) (wCons (wC (.str "p")) (wCons (wC (.int 0)) (wCons (wDct0) (wNil))))))))) (wNil))))) (w__law_refused_right_15 K)
def w__law_refused_right (K : PySem.W.Frag) : WS := wSeq (wSet 3 (wCall (arN 2 (sp__law_any K)) (wCons (wVar 0) (wCons (wLstF (wCons (wC (.str "zz")) (wCons (wC .non) (wCons (wC (.int 0)) (wCons (wC (.str "")) (wCons (wLstF (wCons (wC (.str "a")) (wNil))) (wCons (wC (.bl true)) (wNil)))))))) (wNil))))) (w__law_refused_right_16 K)
def n__law_refused_right : List Str := ["hand", "net_here", "towns", "odd", "bad", "words"]
def w_law_1 (K : PySem.W.Frag) : WE := wB (kIn false) (wVar 17) (wVar 6)
def w_law_2 (K : PySem.W.Frag) : WE := wB kMul (wB kIx (wVar 16) (wC (.int 3))) (wBM "tuple" kCntT (wVar 9) (wCons (wB kIx (wVar 16) (wC (.int 0))) (wNil)))
def w_law_3 (K : PySem.W.Frag) : WE := wCall (arN 2 (sp_length_of K)) (wCons (wVar 5) (wCons (wVar 9) (wNil)))
def w_law_4 (K : PySem.W.Frag) : WS := wIfS (tst (wB (kEqA true) (wCall (arN 3 (sp_ends_by K)) (wCons (wVar 5) (wCons (wVar 8) (wCons (wB kAdd (wVar 9) (wVar 13)) (wNil))))) (wVar 15))) (wRet (wC (.bl false))) (wNext)
def w_law_5 (K : PySem.W.Frag) : WS := wSeq (wSet 15 (wIf (tst (wB (kIs false) (wVar 14) (wC .non))) (wC .non) (wB kAdd (wVar 10) (wSl (wVar 14) (wSo (wC (.int 1))) (wNo))))) (w_law_4 K)
def w_law_6 (K : PySem.W.Frag) : WS := wSeq (wSet 14 (wCall (arN 3 (sp_ends_by K)) (wCons (wVar 5) (wCons (wB kIx (wVar 10) (w1 kNeg (wC (.int 1)))) (wCons (wVar 13) (wNil)))))) (w_law_5 K)
def w_law_7 (K : PySem.W.Frag) : WS := wIfS (tst (wB (kIs true) (wVar 10) (wC .non))) (wSeq (wSet 13 (wCall (arN 4 (sp__law_names K)) (wCons (wVar 1) (wCons (wVar 3) (wCons (wVar 4) (wCons (wB kIx (wVar 10) (w1 kNeg (wC (.int 1)))) (wNil))))))) (w_law_6 K)) (wNext)
def w_law_8 (K : PySem.W.Frag) : WS := wSeq (wIfS (tst (wCall (p1 kAll) (wCons (wLc (wIt (wVar 9)) (.nm 17) (wYes) (w_law_1 K) [17]) (wNil)))) (wSeq (wSet 12 (wCall (p1 kSum) (wCons (wLc (wIt (wVar 4)) (.nm 16) (wYes) (w_law_2 K) [16]) (wNil)))) (wIfS (tst (wB (kEqA true) (wCall (p1 kRepr) (wCons (wCall (arN 2 (sp_length_of K)) (wCons (wVar 5) (wCons (wVar 9) (wNil)))) (wNil))) (wCall (p1 kRepr) (wCons (wVar 12) (wNil))))) (wRet (wC (.bl false))) (wNext))) (wIfS (tst (wB (kEqA true) (wLam (sp__law_word K) (w_law_3 K)) (wC (.str "road")))) (wRet (wC (.bl false))) (wNext))) (w_law_7 K)
def w_law_9 (K : PySem.W.Frag) : WS := wSeq (wIfS (wAndT (tst (wB (kIs true) (wVar 10) (wC .non))) (tst (wB (kEqA true) (wVar 10) (wVar 11)))) (wRet (wC (.bl false))) (wNext)) (w_law_8 K)
def w_law_10 (K : PySem.W.Frag) : WS := wSeq (wIfS (tst (wB (kEqA true) (wCall (p1 kRepr) (wCons (wLstF (wCons (wCall (arN 3 (sp_ends_by K)) (wCons (wVar 5) (wCons (wVar 8) (wCons (wVar 9) (wNil))))) (wCons (wCall (arN 3 (sp_ends_walked K)) (wCons (wVar 5) (wCons (wVar 8) (wCons (wVar 9) (wNil))))) (wNil)))) (wNil))) (wCall (p1 kRepr) (wCons (wLstF (wCons (wVar 10) (wCons (wVar 11) (wNil)))) (wNil))))) (wRet (wC (.bl false))) (wNext)) (w_law_9 K)
def w_law_11 (K : PySem.W.Frag) : WS := wSeq (wPar 10 11 (wCons (wCall (arN 4 (sp__law_gone K)) (wCons (wVar 4) (wCons (wVar 8) (wCons (wVar 9) (wCons (wC (.bl false)) (wNil)))))) (wCons (wCall (arN 4 (sp__law_gone K)) (wCons (wVar 4) (wCons (wVar 8) (wCons (wVar 9) (wCons (wC (.bl true)) (wNil)))))) (wNil)))) (w_law_10 K)
def w_law_12 (K : PySem.W.Frag) : WS := wSeq (wSet 9 (wCall (arN 4 (sp__law_names K)) (wCons (wVar 1) (wCons (wVar 3) (wCons (wVar 4) (wCons (wVar 8) (wNil))))))) (w_law_11 K)
def w_law_13 (K : PySem.W.Frag) : WS := wSeq (wSet 8 (wCall (arN 2 (sp__law_any K)) (wCons (wVar 1) (wCons (wVar 3) (wNil))))) (w_law_12 K)
def w_law_14 (K : PySem.W.Frag) : WS := wIfS (wNotT (tst (wCall (arN 3 (sp__law_refused_right K)) (wCons (wVar 1) (wCons (wVar 5) (wCons (wVar 3) (wNil))))))) (wRet (wC (.bl false))) (wNext)
def w_law_15 (K : PySem.W.Frag) : WS := wSeq (wFor (wRng1 (wIf (tst (wB (kEqA true) (wVar 3) (wTup (wNil)))) (wC (.int 5)) (wC (.int 0)))) (.nm 7) (w_law_13 K)) (w_law_14 K)
def w_law_16 (K : PySem.W.Frag) : WS := wSeq (wSet 6 (wLc (wIt (wVar 4)) (.nm 16) (wYes) (wB kIx (wVar 16) (wC (.int 0))) [16])) (w_law_15 K)
def w_law_17 (K : PySem.W.Frag) : WS := wSeq (wSet 5 (wCall (arN 2 (kMake (He.ga K "Net") (sp_Net___init__ K))) (wCons (wVar 3) (wCons (wVar 4) (wNil))))) (w_law_16 K)
def w_law_18 (K : PySem.W.Frag) : WS := wSeq (wAsg (.tp [3, 4]) (wCall (arN 3 (sp__law_parts K)) (wCons (wVar 1) (wCons (wC (.int 6)) (wCons (wC (.int 8)) (wNil)))))) (w_law_17 K)
def w_law_19 (K : PySem.W.Frag) : WS := wRet (wC (.bl true))
def w_law_20 (K : PySem.W.Frag) : WS := wSeq (wFor (wRng1 (wC (.int 5))) (.nm 2) (w_law_18 K)) (w_law_19 K)
def w_law (K : PySem.W.Frag) : WS := wSeq (wSet 1 (wCall (arN 1 (sp__law_hand K)) (wCons (wVar 0) (wNil)))) (w_law_20 K)
def n_law : List Str := ["script", "hand", "turn", "towns", "roads", "net_here", "known", "again", "start", "names", "way", "walk_here", "due", "more", "rest_here", "both", "road", "name"]
def top (i : Nat) : Stmt := PySem.Challenge.pw_roadwarrant_k04_whole_ways_and_walks.main.body.getD i (.Pass ⟨0, 0, 0, 0⟩)
abbrev s_is_integer : Stmt := top 3
abbrev s_is_within : Stmt := top 4
abbrev s_is_name : Stmt := top 5
abbrev s_is_tuple : Stmt := top 6
abbrev s_does_ascend : Stmt := top 7
abbrev s_is_names : Stmt := top 8
abbrev s_is_road : Stmt := top 25
abbrev s_far_end : Stmt := top 27
abbrev s_check_town : Stmt := top 28
abbrev s_raw_ends : Stmt := top 30
abbrev s_raw_walked : Stmt := top 31
abbrev s_ends_by : Stmt := top 32
abbrev s_ends_walked : Stmt := top 33
abbrev s_raw_length : Stmt := top 34
abbrev s_length_of : Stmt := top 35
abbrev s__law_hand : Stmt := top 37
abbrev s__law_draw : Stmt := top 38
abbrev s__law_any : Stmt := top 39
abbrev s__law_parts : Stmt := top 40
abbrev s__law_word : Stmt := top 41
abbrev s__law_gone : Stmt := top 42
abbrev s__law_names : Stmt := top 43
abbrev s__law_refused_right : Stmt := top 44
abbrev s_law : Stmt := top 45
abbrev s_RoadError___init__ : Stmt := inClass (top 10) 0
abbrev s_BadNet___init__ : Stmt := inClass (top 11) 0
abbrev s_Net___init__ : Stmt := inClass (top 26) 0
abbrev s_Net_keep : Stmt := inClass (top 26) 1
def mkD (at_ : Str × Option Str) (x q : Str) (s : Stmt) : He.DefD := ⟨at_, x, q, defArgs s, defBody s, defScope s, [], []⟩
def d_is_integer : He.DefD := mkD ("is_integer", none) "is_integer" "is_integer" s_is_integer
def d_is_within : He.DefD := mkD ("is_within", none) "is_within" "is_within" s_is_within
def d_is_name : He.DefD := mkD ("is_name", none) "is_name" "is_name" s_is_name
def d_is_tuple : He.DefD := mkD ("is_tuple", none) "is_tuple" "is_tuple" s_is_tuple
def d_does_ascend : He.DefD := mkD ("does_ascend", none) "does_ascend" "does_ascend" s_does_ascend
def d_is_names : He.DefD := mkD ("is_names", none) "is_names" "is_names" s_is_names
def d_is_road : He.DefD := mkD ("is_road", none) "is_road" "is_road" s_is_road
def d_far_end : He.DefD := mkD ("far_end", none) "far_end" "far_end" s_far_end
def d_check_town : He.DefD := mkD ("check_town", none) "check_town" "check_town" s_check_town
def d_raw_ends : He.DefD := mkD ("raw_ends", none) "raw_ends" "raw_ends" s_raw_ends
def d_raw_walked : He.DefD := mkD ("raw_walked", none) "raw_walked" "raw_walked" s_raw_walked
def d_ends_by : He.DefD := mkD ("ends_by", none) "ends_by" "ends_by" s_ends_by
def d_ends_walked : He.DefD := mkD ("ends_walked", none) "ends_walked" "ends_walked" s_ends_walked
def d_raw_length : He.DefD := mkD ("raw_length", none) "raw_length" "raw_length" s_raw_length
def d_length_of : He.DefD := mkD ("length_of", none) "length_of" "length_of" s_length_of
def d__law_hand : He.DefD := mkD ("_law_hand", none) "_law_hand" "_law_hand" s__law_hand
def d__law_draw : He.DefD := mkD ("_law_draw", none) "_law_draw" "_law_draw" s__law_draw
def d__law_any : He.DefD := mkD ("_law_any", none) "_law_any" "_law_any" s__law_any
def d__law_parts : He.DefD := mkD ("_law_parts", none) "_law_parts" "_law_parts" s__law_parts
def d__law_word : He.DefD := mkD ("_law_word", none) "_law_word" "_law_word" s__law_word
def d__law_gone : He.DefD := mkD ("_law_gone", none) "_law_gone" "_law_gone" s__law_gone
def d__law_names : He.DefD := mkD ("_law_names", none) "_law_names" "_law_names" s__law_names
def d__law_refused_right : He.DefD := mkD ("_law_refused_right", none) "_law_refused_right" "_law_refused_right" s__law_refused_right
def d_law : He.DefD := mkD ("law", none) "law" "law" s_law
def d_RoadError___init__ : He.DefD := mkD ("RoadError", some "__init__") "__init__" "RoadError.__init__" s_RoadError___init__
def d_BadNet___init__ : He.DefD := mkD ("BadNet", some "__init__") "__init__" "BadNet.__init__" s_BadNet___init__
def d_Net___init__ : He.DefD := mkD ("Net", some "__init__") "__init__" "Net.__init__" s_Net___init__
def d_Net_keep : He.DefD := mkD ("Net", some "keep") "keep" "Net.keep" s_Net_keep
def fn : List He.DefD := [d_is_integer, d_is_within, d_is_name, d_is_tuple, d_does_ascend, d_is_names, d_is_road, d_far_end, d_check_town, d_raw_ends, d_raw_walked, d_ends_by, d_ends_walked, d_raw_length, d_length_of, d__law_hand, d__law_draw, d__law_any, d__law_parts, d__law_word, d__law_gone, d__law_names, d__law_refused_right, d_law, d_RoadError___init__, d_BadNet___init__, d_Net___init__, d_Net_keep]
def fa : List He.Fa := [.glo "is_integer", .glo "is_within", .glo "is_name", .glo "is_tuple", .glo "does_ascend", .glo "is_names", .glo "RoadError", .glo "BadNet", .glo "NoRoad", .glo "NoTown", .glo "NoNames", .glo "is_road", .glo "Net", .glo "far_end", .glo "check_town", .glo "raw_ends", .glo "raw_walked", .glo "ends_by", .glo "ends_walked", .glo "raw_length", .glo "length_of", .glo "_law_hand", .glo "_law_draw", .glo "_law_any", .glo "_law_parts", .glo "_law_word", .glo "_law_gone", .glo "_law_names", .glo "_law_refused_right", .glo "law", .free "abs", .free "all", .free "bool", .free "call", .free "dict", .free "enumerate", .free "int", .free "isinstance", .free "len", .free "max", .free "min", .free "range", .free "repr", .free "sorted", .free "str", .free "sum", .free "tuple", .free "ValueError", .int "LONGEST" 8, .int "MOST_TOWNS" 40, .int "MOST_ROADS" 120, .int "LONGEST_ROAD" 1000, .int "MOST_ROOM" 1000, .int "NAME" 0, .int "BEGIN" 1, .int "END" 2, .int "LENGTH" 3, .int "ROOM" 4, .str "SMALL" "abcdefghijklmnopqrstuvwxyz", .cls "Net", .mkr "Net", .meth "Net" "keep", .noat "Net" "towns", .noat "Net" "roads", .noat "Net" "named", .noat "Net" "outs", .noat "Net" "ins", .noat "Net" "ties", .noat "BadNet" "part"]
def n_RoadError___init__ : List Str := ["self"]
def n_BadNet___init__ : List Str := ["self", "part"]
section
variable {P : Program} {w : World} {K : PySem.W.Frag} {mg : Str → Option Value} {base : Heap}
theorem sc_RoadError___init__ : FnScope n_RoadError___init__ ["self"] (defScope s_RoadError___init__) := ⟨rfl, rfl, rfl, by decide +kernel, rfl, by decide +kernel, by decide +kernel⟩
theorem okx_RoadError___init__ (fx : Fx fa fn K mg) : FnH P w K mg base 1 ("RoadError", some "__init__") ["self"] (spX0 K) := by
  obtain ⟨fd, F⟩ := fx.c.def_ 24 (d := d_RoadError___init__) rfl
  exact ⟨fd, fnX0 F sc_RoadError___init__ (fun cdv A outer s H E => pss_cons (ps_expr (pe_veinit rfl (fx.free 47) (by kernel_rfl) (pa_cons (pe_var (i := 0) rfl (Or.inl rfl)) pa_nil))) pss_nil), F.bindsN (fun _ _ _ _ _ _ us hl => match us, hl with | [_], _ => rfl), F.kp⟩
theorem sc_BadNet___init__ : FnScope n_BadNet___init__ ["self", "part"] (defScope s_BadNet___init__) := ⟨rfl, rfl, rfl, by decide +kernel, rfl, by decide +kernel, by decide +kernel⟩
theorem okx_BadNet___init__ (fx : Fx fa fn K mg) (hex : exB K = true) (c_RoadError___init__ : FnH P w K mg base 1 ("RoadError", some "__init__") ["self"] (spX0 K)) : FnH P w K mg base 2 ("BadNet", some "__init__") ["self", "part"] (spX1 K "part") := by
  obtain ⟨fd, F⟩ := fx.c.def_ 25 (d := d_BadNet___init__) rfl
  obtain ⟨r, cv⟩ := clfB_ok (clf_RoadError K hex)
  obtain ⟨fd0, F0, hb0, hk0⟩ := c_RoadError___init__.ex
  exact ⟨fd, fnX1 F sc_BadNet___init__ rfl (fun cdv A outer s H E hr => pss_cons (ps_expr (pe_clf rfl (fx.glo 6) r cv F0 hr hb0 hk0 (pa_cons (pe_var (i := 0) rfl (Or.inl rfl)) pa_nil))) (pss_cons (ps_ost (pe_var (i := 0) rfl (Or.inl rfl)) (pe_var (i := 1) rfl (Or.inl rfl))) pss_nil)), F.bindsN (fun _ _ _ _ _ _ us hl => match us, hl with | [_, _], _ => rfl), F.kp⟩
theorem sc_is_integer : FnScope n_is_integer ["thing"] (defScope s_is_integer) := ⟨rfl, rfl, rfl, by decide +kernel, rfl, by decide +kernel, by decide +kernel⟩
theorem dv_is_integer (fx : Fx fa fn K mg) (hex : exB K = true) {f : Addr} (cdv : Value) (A : Around) (outer : List Env) (s : Shared) (H : Hp) (E : XK) (hr : Room 0 (A.deeper (envOfC "is_integer" (defScope s_is_integer) s.heap.objs.size f cdv))) :
    DSs (cxOf (CX P w) P w K mg base n_is_integer "is_integer" (defScope s_is_integer) f cdv A outer s H E) (lcOf (tbl K) E) (defBody s_is_integer) (w_is_integer K) := by
  have tk : Takes (cxOf (CX P w) P w K mg base n_is_integer "is_integer" (defScope s_is_integer) f cdv A outer s H E) (lcOf (tbl K) E).W := takes_of rfl rfl rfl rfl
  exact dss_one (ds_ret (de_and (de_callB c_isB (fx.free 37) (da_cons (de_var 0) (da_cons (de_ty (fx.free 36) bt_int) (da_nil))) bt_isinstance) (de_one (de_not (de_callB c_isB (fx.free 37) (da_cons (de_var 0) (da_cons (de_ty (fx.free 32) bt_bool) (da_nil))) bt_isinstance)))))
theorem sc_is_within : FnScope n_is_within ["thing", "least", "most"] (defScope s_is_within) := ⟨rfl, rfl, rfl, by decide +kernel, rfl, by decide +kernel, by decide +kernel⟩
theorem dv_is_within (fx : Fx fa fn K mg) (hex : exB K = true) (c_is_integer : Fn P w K mg base (tbl K) 1 ("is_integer", none) ["thing"] (sp_is_integer K)) {f : Addr} (cdv : Value) (A : Around) (outer : List Env) (s : Shared) (H : Hp) (E : XK) (hr : Room 1 (A.deeper (envOfC "is_within" (defScope s_is_within) s.heap.objs.size f cdv))) :
    DSs (cxOf (CX P w) P w K mg base n_is_within "is_within" (defScope s_is_within) f cdv A outer s H E) (lcOf (tbl K) E) (defBody s_is_within) (w_is_within K) := by
  have tk : Takes (cxOf (CX P w) P w K mg base n_is_within "is_within" (defScope s_is_within) f cdv A outer s H E) (lcOf (tbl K) E).W := takes_of rfl rfl rfl rfl
  exact dss_one (ds_ret (de_and (de_fn 1 c_is_integer tk hr (fx.glo 0) rfl (da_cons (de_var 0) (da_nil))) (de_one (de_chain o_le o_le (de_var 1) (de_var 0) (de_var 2)))))
theorem sc_is_name : FnScope n_is_name ["thing"] (defScope s_is_name) := ⟨rfl, rfl, rfl, by decide +kernel, rfl, by decide +kernel, by decide +kernel⟩
theorem dv_is_name (fx : Fx fa fn K mg) (hex : exB K = true) {f : Addr} (cdv : Value) (A : Around) (outer : List Env) (s : Shared) (H : Hp) (E : XK) (hr : Room 0 (A.deeper (envOfC "is_name" (defScope s_is_name) s.heap.objs.size f cdv))) :
    DSs (cxOf (CX P w) P w K mg base n_is_name "is_name" (defScope s_is_name) f cdv A outer s H E) (lcOf (tbl K) E) (defBody s_is_name) (w_is_name K) := by
  have tk : Takes (cxOf (CX P w) P w K mg base n_is_name "is_name" (defScope s_is_name) f cdv A outer s H E) (lcOf (tbl K) E).W := takes_of rfl rfl rfl rfl
  exact dss_one (ds_ret (de_and (de_callB c_isB (fx.free 37) (da_cons (de_var 0) (da_cons (de_ty (fx.free 44) bt_str) (da_nil))) bt_isinstance) (de_and (de_chain o_le o_le (de_int) (de_callB c_len (fx.free 38) (da_cons (de_var 0) (da_nil)) bt_len) (de_gint (fx.int 48))) (de_one (de_callB (c_all rfl) (fx.free 31) (da_cons (de_lcN [("sign", 1)] [1] rfl rfl sc_is_name.nd (di_seq (de_var 0)) (blkOk_by (N := n_is_name) (sc := defScope s_is_name) (by decide +kernel)) (fun _ _ _ _ _ => tg_nm 1 sc_is_name.nd) (fun _ _ _ _ _ => dts_nil) (fun _ _ _ _ _ => de_cmp (o_in (Room_u1 hr)) (de_var 1) (de_gstr (fx.str 58)))) (da_nil)) bt_all)))))
theorem sc_is_tuple : FnScope n_is_tuple ["thing", "size"] (defScope s_is_tuple) := ⟨rfl, rfl, rfl, by decide +kernel, rfl, by decide +kernel, by decide +kernel⟩
theorem dv_is_tuple (fx : Fx fa fn K mg) (hex : exB K = true) {f : Addr} (cdv : Value) (A : Around) (outer : List Env) (s : Shared) (H : Hp) (E : XK) (hr : Room 0 (A.deeper (envOfC "is_tuple" (defScope s_is_tuple) s.heap.objs.size f cdv))) :
    DSs (cxOf (CX P w) P w K mg base n_is_tuple "is_tuple" (defScope s_is_tuple) f cdv A outer s H E) (lcOf (tbl K) E) (defBody s_is_tuple) (w_is_tuple K) := by
  have tk : Takes (cxOf (CX P w) P w K mg base n_is_tuple "is_tuple" (defScope s_is_tuple) f cdv A outer s H E) (lcOf (tbl K) E).W := takes_of rfl rfl rfl rfl
  exact dss_one (ds_ret (de_and (de_callB c_isB (fx.free 37) (da_cons (de_var 0) (da_cons (de_ty (fx.free 46) bt_tuple) (da_nil))) bt_isinstance) (de_one (de_cmp (o_eqA (Room_u64 hr)) (de_callB c_len (fx.free 38) (da_cons (de_var 0) (da_nil)) bt_len) (de_var 1)))))
theorem sc_does_ascend : FnScope n_does_ascend ["thing"] (defScope s_does_ascend) := ⟨rfl, rfl, rfl, by decide +kernel, rfl, by decide +kernel, by decide +kernel⟩
theorem dv_does_ascend (fx : Fx fa fn K mg) (hex : exB K = true) {f : Addr} (cdv : Value) (A : Around) (outer : List Env) (s : Shared) (H : Hp) (E : XK) (hr : Room 0 (A.deeper (envOfC "does_ascend" (defScope s_does_ascend) s.heap.objs.size f cdv))) :
    DSs (cxOf (CX P w) P w K mg base n_does_ascend "does_ascend" (defScope s_does_ascend) f cdv A outer s H E) (lcOf (tbl K) E) (defBody s_does_ascend) (w_does_ascend K) := by
  have tk : Takes (cxOf (CX P w) P w K mg base n_does_ascend "does_ascend" (defScope s_does_ascend) f cdv A outer s H E) (lcOf (tbl K) E).W := takes_of rfl rfl rfl rfl
  exact dss_one (ds_ret (de_callB (c_all rfl) (fx.free 31) (da_cons (de_lcN [("at", 1)] [1] rfl rfl sc_does_ascend.nd (di_range2 (fx.free 41) (de_int) (de_callB c_len (fx.free 38) (da_cons (de_var 0) (da_nil)) bt_len)) (blkOk_by (N := n_does_ascend) (sc := defScope s_does_ascend) (by decide +kernel)) (fun _ _ _ _ _ => tg_nm 1 sc_does_ascend.nd) (fun _ _ _ _ _ => dts_nil) (fun _ _ _ _ _ => de_cmp o_lt (de_ix (Room_u1 hr) (de_var 0) (de_bin o_sub (de_var 1) (de_int))) (de_ix (Room_u1 hr) (de_var 0) (de_var 1)))) (da_nil)) bt_all))
theorem sc_is_names : FnScope n_is_names ["thing"] (defScope s_is_names) := ⟨rfl, rfl, rfl, by decide +kernel, rfl, by decide +kernel, by decide +kernel⟩
theorem dv_is_names (fx : Fx fa fn K mg) (hex : exB K = true) {f : Addr} (cdv : Value) (A : Around) (outer : List Env) (s : Shared) (H : Hp) (E : XK) (hr : Room 0 (A.deeper (envOfC "is_names" (defScope s_is_names) s.heap.objs.size f cdv))) :
    DSs (cxOf (CX P w) P w K mg base n_is_names "is_names" (defScope s_is_names) f cdv A outer s H E) (lcOf (tbl K) E) (defBody s_is_names) (w_is_names K) := by
  have tk : Takes (cxOf (CX P w) P w K mg base n_is_names "is_names" (defScope s_is_names) f cdv A outer s H E) (lcOf (tbl K) E).W := takes_of rfl rfl rfl rfl
  exact dss_one (ds_ret (de_and (de_callB c_isB (fx.free 37) (da_cons (de_var 0) (da_cons (de_ty (fx.free 46) bt_tuple) (da_nil))) bt_isinstance) (de_one (de_callB (c_all rfl) (fx.free 31) (da_cons (de_lcN [("name", 1)] [1] rfl rfl sc_is_names.nd (di_seq (de_var 0)) (blkOk_by (N := n_is_names) (sc := defScope s_is_names) (by decide +kernel)) (fun _ _ _ _ _ => tg_nm 1 sc_is_names.nd) (fun _ _ _ _ _ => dts_nil) (fun _ _ _ _ _ => de_callB c_isB (fx.free 37) (da_cons (de_var 1) (da_cons (de_ty (fx.free 44) bt_str) (da_nil))) bt_isinstance)) (da_nil)) bt_all))))
theorem sc_is_road : FnScope n_is_road ["towns", "thing"] (defScope s_is_road) := ⟨rfl, rfl, rfl, by decide +kernel, rfl, by decide +kernel, by decide +kernel⟩
theorem dv_is_road (fx : Fx fa fn K mg) (hex : exB K = true) (c_is_tuple : Fn P w K mg base (tbl K) 1 ("is_tuple", none) ["thing", "size"] (sp_is_tuple K)) (c_is_name : Fn P w K mg base (tbl K) 1 ("is_name", none) ["thing"] (sp_is_name K)) (c_is_within : Fn P w K mg base (tbl K) 2 ("is_within", none) ["thing", "least", "most"] (sp_is_within K)) {f : Addr} (cdv : Value) (A : Around) (outer : List Env) (s : Shared) (H : Hp) (E : XK) (hr : Room 2 (A.deeper (envOfC "is_road" (defScope s_is_road) s.heap.objs.size f cdv))) :
    DSs (cxOf (CX P w) P w K mg base n_is_road "is_road" (defScope s_is_road) f cdv A outer s H E) (lcOf (tbl K) E) (defBody s_is_road) (w_is_road K) := by
  have tk : Takes (cxOf (CX P w) P w K mg base n_is_road "is_road" (defScope s_is_road) f cdv A outer s H E) (lcOf (tbl K) E).W := takes_of rfl rfl rfl rfl
  exact dss_cons (ds_if ((dw_or (dt_not (dt_val (de_fn 2 c_is_tuple tk (hr.mono (by decide)) (fx.glo 3) rfl (da_cons (de_var 1) (da_cons (de_int) (da_nil)))))) (dw_or1 (dt_not (dt_val (de_callB (c_all rfl) (fx.free 31) (da_cons (de_lcN [("name", 2)] [2] rfl rfl sc_is_road.nd (di_seq (de_slice (de_var 1) (do_none) (do_some (de_int)))) (blkOk_by (N := n_is_road) (sc := defScope s_is_road) (by decide +kernel)) (fun _ _ _ _ _ => tg_nm 2 sc_is_road.nd) (fun _ _ _ _ _ => dts_nil) (fun _ _ _ _ _ => de_fn 1 c_is_name takes0 (hr.mono (by decide)) (fx.glo 2) rfl (da_cons (de_var 2) (da_nil)))) (da_nil)) bt_all))))).pt) (dss_one (ds_ret (de_bl))) (dss_nil)) (dss_cons (ds_if ((dw_or (dt_cmp (o_eqA (Room_u64 hr)) (de_ix (Room_u1 hr) (de_var 1) (de_gint (fx.int 54))) (de_ix (Room_u1 hr) (de_var 1) (de_gint (fx.int 55)))) (dw_or (dt_cmp (o_notin (Room_u1 hr)) (de_ix (Room_u1 hr) (de_var 1) (de_gint (fx.int 54))) (de_var 0)) (dw_or1 (dt_cmp (o_notin (Room_u1 hr)) (de_ix (Room_u1 hr) (de_var 1) (de_gint (fx.int 55))) (de_var 0))))).pt) (dss_one (ds_ret (de_bl))) (dss_nil)) (dss_one (ds_ret (de_and (de_fn 3 c_is_within tk hr (fx.glo 1) rfl (da_cons (de_ix (Room_u1 hr) (de_var 1) (de_gint (fx.int 56))) (da_cons (de_un o_neg (de_gint (fx.int 51))) (da_cons (de_gint (fx.int 51)) (da_nil))))) (de_one (de_fn 3 c_is_within tk hr (fx.glo 1) rfl (da_cons (de_ix (Room_u1 hr) (de_var 1) (de_gint (fx.int 57))) (da_cons (de_int) (da_cons (de_gint (fx.int 52)) (da_nil))))))))))
theorem sc_Net_keep : FnScope n_Net_keep ["self", "towns", "roads"] (defScope s_Net_keep) := ⟨rfl, rfl, rfl, by decide +kernel, rfl, by decide +kernel, by decide +kernel⟩
theorem dv_Net_keep (fx : Fx fa fn K mg) (hex : exB K = true) {f : Addr} (cdv : Value) (A : Around) (outer : List Env) (s : Shared) (H : Hp) (E : XK) (hr : Room 0 (A.deeper (envOfC "Net.keep" (defScope s_Net_keep) s.heap.objs.size f cdv))) :
    DSs (cxOf (CX P w) P w K mg base n_Net_keep "Net.keep" (defScope s_Net_keep) f cdv A outer s H E) (lcOf (tbl K) E) (defBody s_Net_keep) (w_Net_keep K) := by
  have tk : Takes (cxOf (CX P w) P w K mg base n_Net_keep "Net.keep" (defScope s_Net_keep) f cdv A outer s H E) (lcOf (tbl K) E).W := takes_of rfl rfl rfl rfl
  exact dss_cons (ds_setF (netCs K) (one_cls (fx.cls 59) (fx.noat 62)) (de_var 0) (de_var 1)) (dss_cons (ds_setF (netCs K) (one_cls (fx.cls 59) (fx.noat 63)) (de_var 0) (de_var 2)) (dss_cons (ds_setF (netCs K) (one_cls (fx.cls 59) (fx.noat 64)) (de_var 0) (de_dcN [("road", 3)] [3] rfl rfl sc_Net_keep.nd (di_seq (de_var 2)) (blkOk_by (N := n_Net_keep) (sc := defScope s_Net_keep) (by decide +kernel)) (fun _ _ _ _ _ => tg_nm 3 sc_Net_keep.nd) (fun _ _ _ _ _ => dts_nil) (fun _ _ _ _ _ => de_ix (Room_u1 hr) (de_var 3) (de_gint (fx.int 53))) (fun _ _ _ _ _ => de_var 3))) (dss_cons (ds_setF (netCs K) (one_cls (fx.cls 59) (fx.noat 65)) (de_var 0) (de_dcN [("town", 4)] [4] rfl rfl sc_Net_keep.nd (di_seq (de_var 1)) (blkOk_by (N := n_Net_keep) (sc := defScope s_Net_keep) (by decide +kernel)) (fun _ _ _ _ _ => tg_nm 4 sc_Net_keep.nd) (fun _ _ _ _ _ => dts_nil) (fun _ _ _ _ _ => de_var 4) (fun _ _ _ _ _ => de_lstM (da_nil)))) (dss_cons (ds_setF (netCs K) (one_cls (fx.cls 59) (fx.noat 66)) (de_var 0) (de_dcN [("town", 4)] [4] rfl rfl sc_Net_keep.nd (di_seq (de_var 1)) (blkOk_by (N := n_Net_keep) (sc := defScope s_Net_keep) (by decide +kernel)) (fun _ _ _ _ _ => tg_nm 4 sc_Net_keep.nd) (fun _ _ _ _ _ => dts_nil) (fun _ _ _ _ _ => de_var 4) (fun _ _ _ _ _ => de_lstM (da_nil)))) (dss_cons (ds_setF (netCs K) (one_cls (fx.cls 59) (fx.noat 67)) (de_var 0) (de_dcN [("town", 4)] [4] rfl rfl sc_Net_keep.nd (di_seq (de_var 1)) (blkOk_by (N := n_Net_keep) (sc := defScope s_Net_keep) (by decide +kernel)) (fun _ _ _ _ _ => tg_nm 4 sc_Net_keep.nd) (fun _ _ _ _ _ => dts_nil) (fun _ _ _ _ _ => de_var 4) (fun _ _ _ _ _ => de_lstM (da_nil)))) (dss_one (ds_for (passes_of rfl) rfl (di_seq (de_var 2)) (tg_nm 3 sc_Net_keep.nd) (dss_cons (ds_expr (de_append (de_ix (Room_u1 hr) (de_fld (netCs K) (one_cls (fx.cls 59) (fx.noat 65)) (de_var 0)) (de_ix (Room_u1 hr) (de_var 3) (de_gint (fx.int 54)))) (da_cons (de_var 3) (da_nil)))) (dss_cons (ds_expr (de_append (de_ix (Room_u1 hr) (de_fld (netCs K) (one_cls (fx.cls 59) (fx.noat 66)) (de_var 0)) (de_ix (Room_u1 hr) (de_var 3) (de_gint (fx.int 55)))) (da_cons (de_var 3) (da_nil)))) (dss_cons (ds_expr (de_append (de_ix (Room_u1 hr) (de_fld (netCs K) (one_cls (fx.cls 59) (fx.noat 67)) (de_var 0)) (de_ix (Room_u1 hr) (de_var 3) (de_gint (fx.int 54)))) (da_cons (de_var 3) (da_nil)))) (dss_one (ds_expr (de_append (de_ix (Room_u1 hr) (de_fld (netCs K) (one_cls (fx.cls 59) (fx.noat 67)) (de_var 0)) (de_ix (Room_u1 hr) (de_var 3) (de_gint (fx.int 55)))) (da_cons (de_var 3) (da_nil)))))))))))))))
theorem sc_Net___init__ : FnScope n_Net___init__ ["self", "towns", "roads"] (defScope s_Net___init__) := ⟨rfl, rfl, rfl, by decide +kernel, rfl, by decide +kernel, by decide +kernel⟩
theorem dv_Net___init__ (fx : Fx fa fn K mg) (hex : exB K = true) (c_is_name : Fn P w K mg base (tbl K) 1 ("is_name", none) ["thing"] (sp_is_name K)) (c_BadNet___init__ : FnH P w K mg base 2 ("BadNet", some "__init__") ["self", "part"] (spX1 K "part")) (c_does_ascend : Fn P w K mg base (tbl K) 1 ("does_ascend", none) ["thing"] (sp_does_ascend K)) (c_is_road : Fn P w K mg base (tbl K) 3 ("is_road", none) ["towns", "thing"] (sp_is_road K)) (c_Net_keep : Fn P w K mg base (tbl K) 1 ("Net", some "keep") ["self", "towns", "roads"] (sp_Net_keep K)) {f : Addr} (cdv : Value) (A : Around) (outer : List Env) (s : Shared) (H : Hp) (E : XK) (hr : Room 3 (A.deeper (envOfC "Net.__init__" (defScope s_Net___init__) s.heap.objs.size f cdv))) :
    DSs (cxOf (CX P w) P w K mg base n_Net___init__ "Net.__init__" (defScope s_Net___init__) f cdv A outer s H E) (lcOf (tbl K) E) (defBody s_Net___init__) (w_Net___init__ K) := by
  have tk : Takes (cxOf (CX P w) P w K mg base n_Net___init__ "Net.__init__" (defScope s_Net___init__) f cdv A outer s H E) (lcOf (tbl K) E).W := takes_of rfl rfl rfl rfl
  exact dss_cons (ds_if ((dw_or (dt_not (dt_val (de_callB c_isB (fx.free 37) (da_cons (de_var 1) (da_cons (de_ty (fx.free 46) bt_tuple) (da_nil))) bt_isinstance))) (dw_or (dt_cmp o_gt (de_callB c_len (fx.free 38) (da_cons (de_var 1) (da_nil)) bt_len) (de_gint (fx.int 49))) (dw_or1 (dt_not (dt_val (de_callB (c_all rfl) (fx.free 31) (da_cons (de_lcN [("town", 5)] [5] rfl rfl sc_Net___init__.nd (di_seq (de_var 1)) (blkOk_by (N := n_Net___init__) (sc := defScope s_Net___init__) (by decide +kernel)) (fun _ _ _ _ _ => tg_nm 5 sc_Net___init__.nd) (fun _ _ _ _ _ => dts_nil) (fun _ _ _ _ _ => de_fn 1 c_is_name takes0 (hr.mono (by decide)) (fx.glo 2) rfl (da_cons (de_var 5) (da_nil)))) (da_nil)) bt_all)))))).pt) (dss_one (ds_raise1 rfl tk (oex_BadNet K hex) (ini_BadNet K hex) (fx.noat 68) c_BadNet___init__ hr (fx.glo 7) (de_str))) (dss_nil)) (dss_cons (ds_if (dt_not (dt_val (de_fn 1 c_does_ascend tk (hr.mono (by decide)) (fx.glo 4) rfl (da_cons (de_var 1) (da_nil))))) (dss_one (ds_raise1 rfl tk (oex_BadNet K hex) (ini_BadNet K hex) (fx.noat 68) c_BadNet___init__ hr (fx.glo 7) (de_str))) (dss_nil)) (dss_cons (ds_if ((dw_or (dt_not (dt_val (de_callB c_isB (fx.free 37) (da_cons (de_var 2) (da_cons (de_ty (fx.free 46) bt_tuple) (da_nil))) bt_isinstance))) (dw_or1 (dt_cmp o_gt (de_callB c_len (fx.free 38) (da_cons (de_var 2) (da_nil)) bt_len) (de_gint (fx.int 50))))).pt) (dss_one (ds_raise1 rfl tk (oex_BadNet K hex) (ini_BadNet K hex) (fx.noat 68) c_BadNet___init__ hr (fx.glo 7) (de_str))) (dss_nil)) (dss_cons (ds_for (passes_of rfl) rfl (di_enum (fx.free 35) (de_var 2)) (tg_tp rfl (tgs_cons (tg_nm 3 sc_Net___init__.nd) (tgs_cons (tg_nm 4 sc_Net___init__.nd) (tgs_nil)))) (dss_one (ds_if ((dw_or (dt_not (dt_val (de_fn 2 c_is_road tk hr (fx.glo 11) rfl (da_cons (de_var 1) (da_cons (de_var 4) (da_nil)))))) (dw_or1 ((dw_and (dt_cmp o_gt (de_var 3) (de_int)) (dw_and1 (dt_not (dt_cmp o_lt (de_ix (Room_u1 hr) (de_ix (Room_u1 hr) (de_var 2) (de_bin o_sub (de_var 3) (de_int))) (de_gint (fx.int 53))) (de_ix (Room_u1 hr) (de_var 4) (de_gint (fx.int 53))))))).pt))).pt) (dss_one (ds_raise1 rfl tk (oex_BadNet K hex) (ini_BadNet K hex) (fx.noat 68) c_BadNet___init__ hr (fx.glo 7) (de_var 3))) (dss_nil)))) (dss_one (ds_expr (de_mth 3 c_Net_keep (fx.cls 59) (fx.meth 61) tk (hr.mono (by decide)) rfl (de_var 0) (da_cons (de_var 1) (da_cons (de_var 2) (da_nil)))))))))
theorem sc_far_end : FnScope n_far_end ["road", "town"] (defScope s_far_end) := ⟨rfl, rfl, rfl, by decide +kernel, rfl, by decide +kernel, by decide +kernel⟩
theorem dv_far_end (fx : Fx fa fn K mg) (hex : exB K = true) {f : Addr} (cdv : Value) (A : Around) (outer : List Env) (s : Shared) (H : Hp) (E : XK) (hr : Room 0 (A.deeper (envOfC "far_end" (defScope s_far_end) s.heap.objs.size f cdv))) :
    DSs (cxOf (CX P w) P w K mg base n_far_end "far_end" (defScope s_far_end) f cdv A outer s H E) (lcOf (tbl K) E) (defBody s_far_end) (w_far_end K) := by
  have tk : Takes (cxOf (CX P w) P w K mg base n_far_end "far_end" (defScope s_far_end) f cdv A outer s H E) (lcOf (tbl K) E).W := takes_of rfl rfl rfl rfl
  exact dss_one (ds_ret (de_ifx (dt_cmp (o_eqA (Room_u64 hr)) (de_ix (Room_u1 hr) (de_var 0) (de_gint (fx.int 54))) (de_var 1)) (de_ix (Room_u1 hr) (de_var 0) (de_gint (fx.int 55))) (de_ix (Room_u1 hr) (de_var 0) (de_gint (fx.int 54)))))
theorem sc_check_town : FnScope n_check_town ["net", "thing"] (defScope s_check_town) := ⟨rfl, rfl, rfl, by decide +kernel, rfl, by decide +kernel, by decide +kernel⟩
theorem dv_check_town (fx : Fx fa fn K mg) (hex : exB K = true) (c_RoadError___init__ : FnH P w K mg base 1 ("RoadError", some "__init__") ["self"] (spX0 K)) {f : Addr} (cdv : Value) (A : Around) (outer : List Env) (s : Shared) (H : Hp) (E : XK) (hr : Room 2 (A.deeper (envOfC "check_town" (defScope s_check_town) s.heap.objs.size f cdv))) :
    DSs (cxOf (CX P w) P w K mg base n_check_town "check_town" (defScope s_check_town) f cdv A outer s H E) (lcOf (tbl K) E) (defBody s_check_town) (w_check_town K) := by
  have tk : Takes (cxOf (CX P w) P w K mg base n_check_town "check_town" (defScope s_check_town) f cdv A outer s H E) (lcOf (tbl K) E).W := takes_of rfl rfl rfl rfl
  exact dss_one (ds_if ((dw_or (dt_not (dt_val (de_callB c_isB (fx.free 37) (da_cons (de_var 1) (da_cons (de_ty (fx.free 44) bt_str) (da_nil))) bt_isinstance))) (dw_or1 (dt_cmp (o_notin (Room_u1 hr)) (de_var 1) (de_fld (netCs K) (one_cls (fx.cls 59) (fx.noat 65)) (de_var 0))))).pt) (dss_one (ds_raise0 rfl tk (oex_NoTown K hex) (ini_NoTown K hex) c_RoadError___init__ hr (fx.glo 9))) (dss_nil))
theorem sc_raw_ends : FnScope n_raw_ends ["net", "start", "names"] (defScope s_raw_ends) := ⟨rfl, rfl, rfl, by decide +kernel, rfl, by decide +kernel, by decide +kernel⟩
theorem dv_raw_ends (fx : Fx fa fn K mg) (hex : exB K = true) {f : Addr} (cdv : Value) (A : Around) (outer : List Env) (s : Shared) (H : Hp) (E : XK) (hr : Room 0 (A.deeper (envOfC "raw_ends" (defScope s_raw_ends) s.heap.objs.size f cdv))) :
    DSs (cxOf (CX P w) P w K mg base n_raw_ends "raw_ends" (defScope s_raw_ends) f cdv A outer s H E) (lcOf (tbl K) E) (defBody s_raw_ends) (w_raw_ends K) := by
  have tk : Takes (cxOf (CX P w) P w K mg base n_raw_ends "raw_ends" (defScope s_raw_ends) f cdv A outer s H E) (lcOf (tbl K) E).W := takes_of rfl rfl rfl rfl
  exact dss_cons (ds_set 3 sc_raw_ends.nd (de_lstM (da_cons (de_var 1) (da_nil)))) (dss_cons (ds_for (passes_of rfl) rfl (di_seq (de_var 2)) (tg_nm 4 sc_raw_ends.nd) (dss_cons (ds_if ((dw_or (dt_cmp (o_notin (Room_u1 hr)) (de_var 4) (de_fld (netCs K) (one_cls (fx.cls 59) (fx.noat 64)) (de_var 0))) (dw_or1 (dt_cmp (o_neA (Room_u64 hr)) (de_ix (Room_u1 hr) (de_ix (Room_u1 hr) (de_fld (netCs K) (one_cls (fx.cls 59) (fx.noat 64)) (de_var 0)) (de_var 4)) (de_gint (fx.int 54))) (de_ix (Room_u1 hr) (de_var 3) (de_un o_neg (de_int)))))).pt) (dss_one (ds_ret (de_non))) (dss_nil)) (dss_one (ds_expr (de_append (de_var 3) (da_cons (de_ix (Room_u1 hr) (de_ix (Room_u1 hr) (de_fld (netCs K) (one_cls (fx.cls 59) (fx.noat 64)) (de_var 0)) (de_var 4)) (de_gint (fx.int 55))) (da_nil))))))) (dss_one (ds_ret (de_callT c_tup (fx.free 46) (da_cons (de_var 3) (da_nil)) bt_tuple))))
theorem sc_raw_walked : FnScope n_raw_walked ["net", "start", "names"] (defScope s_raw_walked) := ⟨rfl, rfl, rfl, by decide +kernel, rfl, by decide +kernel, by decide +kernel⟩
theorem dv_raw_walked (fx : Fx fa fn K mg) (hex : exB K = true) (c_far_end : Fn P w K mg base (tbl K) 1 ("far_end", none) ["road", "town"] (sp_far_end K)) {f : Addr} (cdv : Value) (A : Around) (outer : List Env) (s : Shared) (H : Hp) (E : XK) (hr : Room 1 (A.deeper (envOfC "raw_walked" (defScope s_raw_walked) s.heap.objs.size f cdv))) :
    DSs (cxOf (CX P w) P w K mg base n_raw_walked "raw_walked" (defScope s_raw_walked) f cdv A outer s H E) (lcOf (tbl K) E) (defBody s_raw_walked) (w_raw_walked K) := by
  have tk : Takes (cxOf (CX P w) P w K mg base n_raw_walked "raw_walked" (defScope s_raw_walked) f cdv A outer s H E) (lcOf (tbl K) E).W := takes_of rfl rfl rfl rfl
  exact dss_cons (ds_set 3 sc_raw_walked.nd (de_lstM (da_cons (de_var 1) (da_nil)))) (dss_cons (ds_for (passes_of rfl) rfl (di_seq (de_var 2)) (tg_nm 4 sc_raw_walked.nd) (dss_cons (ds_if ((dw_or (dt_cmp (o_notin (Room_u1 hr)) (de_var 4) (de_fld (netCs K) (one_cls (fx.cls 59) (fx.noat 64)) (de_var 0))) (dw_or1 (dt_cmp (o_notin (Room_u1 hr)) (de_ix (Room_u1 hr) (de_var 3) (de_un o_neg (de_int))) (de_slice (de_ix (Room_u1 hr) (de_fld (netCs K) (one_cls (fx.cls 59) (fx.noat 64)) (de_var 0)) (de_var 4)) (do_some (de_gint (fx.int 54))) (do_some (de_gint (fx.int 56))))))).pt) (dss_one (ds_ret (de_non))) (dss_nil)) (dss_one (ds_expr (de_append (de_var 3) (da_cons (de_fn 2 c_far_end tk hr (fx.glo 13) rfl (da_cons (de_ix (Room_u1 hr) (de_fld (netCs K) (one_cls (fx.cls 59) (fx.noat 64)) (de_var 0)) (de_var 4)) (da_cons (de_ix (Room_u1 hr) (de_var 3) (de_un o_neg (de_int))) (da_nil)))) (da_nil))))))) (dss_one (ds_ret (de_callT c_tup (fx.free 46) (da_cons (de_var 3) (da_nil)) bt_tuple))))
theorem sc_ends_by : FnScope n_ends_by ["net", "start", "names"] (defScope s_ends_by) := ⟨rfl, rfl, rfl, by decide +kernel, rfl, by decide +kernel, by decide +kernel⟩
theorem dv_ends_by (fx : Fx fa fn K mg) (hex : exB K = true) (c_check_town : Fn P w K mg base (tbl K) 3 ("check_town", none) ["net", "thing"] (sp_check_town K)) (c_is_names : Fn P w K mg base (tbl K) 1 ("is_names", none) ["thing"] (sp_is_names K)) (c_RoadError___init__ : FnH P w K mg base 1 ("RoadError", some "__init__") ["self"] (spX0 K)) (c_raw_ends : Fn P w K mg base (tbl K) 1 ("raw_ends", none) ["net", "start", "names"] (sp_raw_ends K)) {f : Addr} (cdv : Value) (A : Around) (outer : List Env) (s : Shared) (H : Hp) (E : XK) (hr : Room 3 (A.deeper (envOfC "ends_by" (defScope s_ends_by) s.heap.objs.size f cdv))) :
    DSs (cxOf (CX P w) P w K mg base n_ends_by "ends_by" (defScope s_ends_by) f cdv A outer s H E) (lcOf (tbl K) E) (defBody s_ends_by) (w_ends_by K) := by
  have tk : Takes (cxOf (CX P w) P w K mg base n_ends_by "ends_by" (defScope s_ends_by) f cdv A outer s H E) (lcOf (tbl K) E).W := takes_of rfl rfl rfl rfl
  exact dss_cons (ds_expr (de_fn 2 c_check_town tk hr (fx.glo 14) rfl (da_cons (de_var 0) (da_cons (de_var 1) (da_nil))))) (dss_cons (ds_if (dt_not (dt_val (de_fn 1 c_is_names tk (hr.mono (by decide)) (fx.glo 5) rfl (da_cons (de_var 2) (da_nil))))) (dss_one (ds_raise0 rfl tk (oex_NoNames K hex) (ini_NoNames K hex) c_RoadError___init__ (hr.mono (by decide)) (fx.glo 10))) (dss_nil)) (dss_one (ds_ret (de_fn 3 c_raw_ends tk (hr.mono (by decide)) (fx.glo 15) rfl (da_cons (de_var 0) (da_cons (de_var 1) (da_cons (de_var 2) (da_nil))))))))
theorem sc_ends_walked : FnScope n_ends_walked ["net", "start", "names"] (defScope s_ends_walked) := ⟨rfl, rfl, rfl, by decide +kernel, rfl, by decide +kernel, by decide +kernel⟩
theorem dv_ends_walked (fx : Fx fa fn K mg) (hex : exB K = true) (c_check_town : Fn P w K mg base (tbl K) 3 ("check_town", none) ["net", "thing"] (sp_check_town K)) (c_is_names : Fn P w K mg base (tbl K) 1 ("is_names", none) ["thing"] (sp_is_names K)) (c_RoadError___init__ : FnH P w K mg base 1 ("RoadError", some "__init__") ["self"] (spX0 K)) (c_raw_walked : Fn P w K mg base (tbl K) 2 ("raw_walked", none) ["net", "start", "names"] (sp_raw_walked K)) {f : Addr} (cdv : Value) (A : Around) (outer : List Env) (s : Shared) (H : Hp) (E : XK) (hr : Room 3 (A.deeper (envOfC "ends_walked" (defScope s_ends_walked) s.heap.objs.size f cdv))) :
    DSs (cxOf (CX P w) P w K mg base n_ends_walked "ends_walked" (defScope s_ends_walked) f cdv A outer s H E) (lcOf (tbl K) E) (defBody s_ends_walked) (w_ends_walked K) := by
  have tk : Takes (cxOf (CX P w) P w K mg base n_ends_walked "ends_walked" (defScope s_ends_walked) f cdv A outer s H E) (lcOf (tbl K) E).W := takes_of rfl rfl rfl rfl
  exact dss_cons (ds_expr (de_fn 2 c_check_town tk hr (fx.glo 14) rfl (da_cons (de_var 0) (da_cons (de_var 1) (da_nil))))) (dss_cons (ds_if (dt_not (dt_val (de_fn 1 c_is_names tk (hr.mono (by decide)) (fx.glo 5) rfl (da_cons (de_var 2) (da_nil))))) (dss_one (ds_raise0 rfl tk (oex_NoNames K hex) (ini_NoNames K hex) c_RoadError___init__ (hr.mono (by decide)) (fx.glo 10))) (dss_nil)) (dss_one (ds_ret (de_fn 3 c_raw_walked tk (hr.mono (by decide)) (fx.glo 16) rfl (da_cons (de_var 0) (da_cons (de_var 1) (da_cons (de_var 2) (da_nil))))))))
theorem sc_raw_length : FnScope n_raw_length ["net", "names"] (defScope s_raw_length) := ⟨rfl, rfl, rfl, by decide +kernel, rfl, by decide +kernel, by decide +kernel⟩
theorem dv_raw_length (fx : Fx fa fn K mg) (hex : exB K = true) {f : Addr} (cdv : Value) (A : Around) (outer : List Env) (s : Shared) (H : Hp) (E : XK) (hr : Room 0 (A.deeper (envOfC "raw_length" (defScope s_raw_length) s.heap.objs.size f cdv))) :
    DSs (cxOf (CX P w) P w K mg base n_raw_length "raw_length" (defScope s_raw_length) f cdv A outer s H E) (lcOf (tbl K) E) (defBody s_raw_length) (w_raw_length K) := by
  have tk : Takes (cxOf (CX P w) P w K mg base n_raw_length "raw_length" (defScope s_raw_length) f cdv A outer s H E) (lcOf (tbl K) E).W := takes_of rfl rfl rfl rfl
  exact dss_one (ds_ret (de_callB (c_sum rfl) (fx.free 45) (da_cons (de_lcN [("name", 2)] [2] rfl rfl sc_raw_length.nd (di_seq (de_var 1)) (blkOk_by (N := n_raw_length) (sc := defScope s_raw_length) (by decide +kernel)) (fun _ _ _ _ _ => tg_nm 2 sc_raw_length.nd) (fun _ _ _ _ _ => dts_nil) (fun _ _ _ _ _ => de_ix (Room_u1 hr) (de_ix (Room_u1 hr) (de_fld (netCs K) (one_cls (fx.cls 59) (fx.noat 64)) (de_var 0)) (de_var 2)) (de_gint (fx.int 56)))) (da_nil)) bt_sum))
theorem sc_length_of : FnScope n_length_of ["net", "names"] (defScope s_length_of) := ⟨rfl, rfl, rfl, by decide +kernel, rfl, by decide +kernel, by decide +kernel⟩
theorem dv_length_of (fx : Fx fa fn K mg) (hex : exB K = true) (c_is_names : Fn P w K mg base (tbl K) 1 ("is_names", none) ["thing"] (sp_is_names K)) (c_RoadError___init__ : FnH P w K mg base 1 ("RoadError", some "__init__") ["self"] (spX0 K)) (c_raw_length : Fn P w K mg base (tbl K) 1 ("raw_length", none) ["net", "names"] (sp_raw_length K)) {f : Addr} (cdv : Value) (A : Around) (outer : List Env) (s : Shared) (H : Hp) (E : XK) (hr : Room 2 (A.deeper (envOfC "length_of" (defScope s_length_of) s.heap.objs.size f cdv))) :
    DSs (cxOf (CX P w) P w K mg base n_length_of "length_of" (defScope s_length_of) f cdv A outer s H E) (lcOf (tbl K) E) (defBody s_length_of) (w_length_of K) := by
  have tk : Takes (cxOf (CX P w) P w K mg base n_length_of "length_of" (defScope s_length_of) f cdv A outer s H E) (lcOf (tbl K) E).W := takes_of rfl rfl rfl rfl
  exact dss_cons (ds_if (dt_not (dt_val (de_fn 1 c_is_names tk (hr.mono (by decide)) (fx.glo 5) rfl (da_cons (de_var 1) (da_nil))))) (dss_one (ds_raise0 rfl tk (oex_NoNames K hex) (ini_NoNames K hex) c_RoadError___init__ hr (fx.glo 10))) (dss_nil)) (dss_cons (ds_if (dt_not (dt_val (de_callB (c_all rfl) (fx.free 31) (da_cons (de_lcN [("name", 2)] [2] rfl rfl sc_length_of.nd (di_seq (de_var 1)) (blkOk_by (N := n_length_of) (sc := defScope s_length_of) (by decide +kernel)) (fun _ _ _ _ _ => tg_nm 2 sc_length_of.nd) (fun _ _ _ _ _ => dts_nil) (fun _ _ _ _ _ => de_cmp (o_in (Room_u1 hr)) (de_var 2) (de_fld (netCs K) (one_cls (fx.cls 59) (fx.noat 64)) (de_var 0)))) (da_nil)) bt_all))) (dss_one (ds_raise0 rfl tk (oex_NoRoad K hex) (ini_NoRoad K hex) c_RoadError___init__ hr (fx.glo 8))) (dss_nil)) (dss_one (ds_ret (de_fn 2 c_raw_length tk (hr.mono (by decide)) (fx.glo 19) rfl (da_cons (de_var 0) (da_cons (de_var 1) (da_nil)))))))
theorem sc__law_hand : FnScope n__law_hand ["script"] (defScope s__law_hand) := ⟨rfl, rfl, rfl, by decide +kernel, rfl, by decide +kernel, by decide +kernel⟩
theorem dv__law_hand (fx : Fx fa fn K mg) (hex : exB K = true) {f : Addr} (cdv : Value) (A : Around) (outer : List Env) (s : Shared) (H : Hp) (E : XK) (hr : Room 0 (A.deeper (envOfC "_law_hand" (defScope s__law_hand) s.heap.objs.size f cdv))) :
    DSs (cxOf (CX P w) P w K mg base n__law_hand "_law_hand" (defScope s__law_hand) f cdv A outer s H E) (lcOf (tbl K) E) (defBody s__law_hand) (w__law_hand K) := by
  have tk : Takes (cxOf (CX P w) P w K mg base n__law_hand "_law_hand" (defScope s__law_hand) f cdv A outer s H E) (lcOf (tbl K) E).W := takes_of rfl rfl rfl rfl
  exact dss_cons (ds_setLcN 1 [("cell", 2)] [2] rfl rfl sc__law_hand.nd (di_seq (de_slice (de_var 0) (do_none) (do_some (de_int)))) (blkOk_by (N := n__law_hand) (sc := defScope s__law_hand) (by decide +kernel)) (fun _ _ _ _ _ => tg_nm 2 sc__law_hand.nd) (fun _ _ _ _ _ => dts_nil) (fun _ _ _ _ _ => de_callB c_abs (fx.free 30) (da_cons (de_callT c_int (fx.free 36) (da_cons (de_var 2) (da_nil)) bt_int) (da_nil)) bt_abs)) (dss_one (ds_ret (de_lstM (da_cons (de_var 1) (da_cons (de_int) (da_cons (de_int) (da_cons (de_bin o_add (de_int) (de_bin o_mul (de_int) (de_callB c_len (fx.free 38) (da_cons (de_var 1) (da_nil)) bt_len))) (da_cons (de_int) (da_nil)))))))))
theorem sc__law_draw : FnScope n__law_draw ["hand", "many"] (defScope s__law_draw) := ⟨rfl, rfl, rfl, by decide +kernel, rfl, by decide +kernel, by decide +kernel⟩
theorem dv__law_draw (fx : Fx fa fn K mg) (hex : exB K = true) {f : Addr} (cdv : Value) (A : Around) (outer : List Env) (s : Shared) (H : Hp) (E : XK) (hr : Room 0 (A.deeper (envOfC "_law_draw" (defScope s__law_draw) s.heap.objs.size f cdv))) :
    DSs (cxOf (CX P w) P w K mg base n__law_draw "_law_draw" (defScope s__law_draw) f cdv A outer s H E) (lcOf (tbl K) E) (defBody s__law_draw) (w__law_draw K) := by
  have tk : Takes (cxOf (CX P w) P w K mg base n__law_draw "_law_draw" (defScope s__law_draw) f cdv A outer s H E) (lcOf (tbl K) E).W := takes_of rfl rfl rfl rfl
  exact dss_cons (ds_if ((dw_and (dt_cmp (o_eqA (Room_u64 hr)) (de_ix (Room_u1 hr) (de_var 0) (de_int)) (de_int)) (dw_and1 (dt_cmp o_lt (de_ix (Room_u1 hr) (de_var 0) (de_int)) (de_callB c_len (fx.free 38) (da_cons (de_ix (Room_u1 hr) (de_var 0) (de_int)) (da_nil)) bt_len)))).pt) (dss_cons (ds_set 2 sc__law_draw.nd (de_ix (Room_u1 hr) (de_ix (Room_u1 hr) (de_var 0) (de_int)) (de_ix (Room_u1 hr) (de_var 0) (de_int)))) (dss_cons (ds_put (Room_u1 hr) (de_var 0) (de_int) (de_bin o_add (de_ix (Room_u1 hr) (de_var 0) (de_int)) (de_int))) (dss_cons (ds_put (Room_u1 hr) (de_var 0) (de_int) (de_bin o_mod (de_callT c_int (fx.free 36) (da_cons (de_bin o_add (de_bin o_add (de_bin o_mul (de_ix (Room_u1 hr) (de_var 0) (de_int)) (de_int)) (de_bin o_mul (de_var 2) (de_int))) (de_int)) (da_nil)) bt_int) (de_int))) (dss_one (ds_if (dt_cmp o_ge (de_var 2) (de_bin o_pow (de_int) (de_int))) (dss_one (ds_put (Room_u1 hr) (de_var 0) (de_int) (de_var 2))) (dss_nil)))))) (dss_nil)) (dss_cons (ds_if (dt_cmp o_gt (de_ix (Room_u1 hr) (de_var 0) (de_int)) (de_int)) (dss_cons (ds_set 3 sc__law_draw.nd (de_bin o_mod (de_callT c_int (fx.free 36) (da_cons (de_ix (Room_u1 hr) (de_var 0) (de_int)) (da_nil)) bt_int) (de_var 1))) (dss_cons (ds_put (Room_u1 hr) (de_var 0) (de_int) (de_bin o_div (de_ix (Room_u1 hr) (de_var 0) (de_int)) (de_var 1))) (dss_one (ds_ret (de_var 3))))) (dss_nil)) (dss_cons (ds_put (Room_u1 hr) (de_var 0) (de_int) (de_bin o_add (de_ix (Room_u1 hr) (de_var 0) (de_int)) (de_int))) (dss_cons (ds_set 4 sc__law_draw.nd (de_bin o_mod (de_callT c_int (fx.free 36) (da_cons (de_bin o_mul (de_callT c_int (fx.free 36) (da_cons (de_bin o_add (de_ix (Room_u1 hr) (de_var 0) (de_int)) (de_bin o_mul (de_int) (de_ix (Room_u1 hr) (de_var 0) (de_int)))) (da_nil)) bt_int) (de_int)) (da_nil)) bt_int) (de_int))) (dss_cons (ds_set 4 sc__law_draw.nd (de_bin o_mod (de_callT c_int (fx.free 36) (da_cons (de_bin o_mul (de_var 4) (de_bin o_add (de_bin o_div (de_var 4) (de_int)) (de_int))) (da_nil)) bt_int) (de_int))) (dss_cons (ds_set 4 sc__law_draw.nd (de_bin o_mod (de_callT c_int (fx.free 36) (da_cons (de_bin o_mul (de_var 4) (de_bin o_add (de_bin o_div (de_var 4) (de_int)) (de_int))) (da_nil)) bt_int) (de_int))) (dss_one (ds_ret (de_bin o_mod (de_callT c_int (fx.free 36) (da_cons (de_bin o_div (de_var 4) (de_int)) (da_nil)) bt_int) (de_var 1)))))))))
theorem sc__law_any : FnScope n__law_any ["hand", "some"] (defScope s__law_any) := ⟨rfl, rfl, rfl, by decide +kernel, rfl, by decide +kernel, by decide +kernel⟩
theorem dv__law_any (fx : Fx fa fn K mg) (hex : exB K = true) (c__law_draw : Fn P w K mg base (tbl K) 1 ("_law_draw", none) ["hand", "many"] (sp__law_draw K)) {f : Addr} (cdv : Value) (A : Around) (outer : List Env) (s : Shared) (H : Hp) (E : XK) (hr : Room 1 (A.deeper (envOfC "_law_any" (defScope s__law_any) s.heap.objs.size f cdv))) :
    DSs (cxOf (CX P w) P w K mg base n__law_any "_law_any" (defScope s__law_any) f cdv A outer s H E) (lcOf (tbl K) E) (defBody s__law_any) (w__law_any K) := by
  have tk : Takes (cxOf (CX P w) P w K mg base n__law_any "_law_any" (defScope s__law_any) f cdv A outer s H E) (lcOf (tbl K) E).W := takes_of rfl rfl rfl rfl
  exact dss_one (ds_ret (de_ix (Room_u1 hr) (de_var 1) (de_fn 2 c__law_draw tk hr (fx.glo 22) rfl (da_cons (de_var 0) (da_cons (de_callB c_len (fx.free 38) (da_cons (de_var 1) (da_nil)) bt_len) (da_nil))))))
theorem sc__law_parts : FnScope n__law_parts ["hand", "most", "few"] (defScope s__law_parts) := ⟨rfl, rfl, rfl, by decide +kernel, rfl, by decide +kernel, by decide +kernel⟩
theorem dv__law_parts (fx : Fx fa fn K mg) (hex : exB K = true) (c__law_draw : Fn P w K mg base (tbl K) 1 ("_law_draw", none) ["hand", "many"] (sp__law_draw K)) (c__law_any : Fn P w K mg base (tbl K) 2 ("_law_any", none) ["hand", "some"] (sp__law_any K)) {f : Addr} (cdv : Value) (A : Around) (outer : List Env) (s : Shared) (H : Hp) (E : XK) (hr : Room 2 (A.deeper (envOfC "_law_parts" (defScope s__law_parts) s.heap.objs.size f cdv))) :
    DSs (cxOf (CX P w) P w K mg base n__law_parts "_law_parts" (defScope s__law_parts) f cdv A outer s H E) (lcOf (tbl K) E) (defBody s__law_parts) (w__law_parts K) := by
  have tk : Takes (cxOf (CX P w) P w K mg base n__law_parts "_law_parts" (defScope s__law_parts) f cdv A outer s H E) (lcOf (tbl K) E).W := takes_of rfl rfl rfl rfl
  exact dss_cons (ds_par 3 4 rfl sc__law_parts.nd (da_cons (de_lstM (da_cons (de_str) (da_cons (de_str) (da_cons (de_str) (da_cons (de_str) (da_cons (de_str) (da_cons (de_str) (da_cons (de_str) (da_nil))))))))) (da_cons (de_lstM (da_nil)) (da_nil)))) (dss_cons (ds_for (passes_of rfl) rfl (di_range1 (fx.free 41) (de_fn 2 c__law_draw tk (hr.mono (by decide)) (fx.glo 22) rfl (da_cons (de_var 0) (da_cons (de_bin o_add (de_var 1) (de_int)) (da_nil))))) (tg_nm 5 sc__law_parts.nd) (dss_one (ds_expr (de_append (de_var 4) (da_cons (de_pop (de_var 3) (da_cons (de_fn 2 c__law_draw tk (hr.mono (by decide)) (fx.glo 22) rfl (da_cons (de_var 0) (da_cons (de_callB c_len (fx.free 38) (da_cons (de_var 3) (da_nil)) bt_len) (da_nil)))) (da_nil))) (da_nil)))))) (dss_cons (ds_par3 4 6 7 rfl sc__law_parts.nd (da_cons (de_callB c_sorted (fx.free 43) (da_cons (de_var 4) (da_nil)) bt_sorted) (da_cons (de_lstM (da_nil)) (da_cons (de_cmp (o_eqA (Room_u64 hr)) (de_fn 2 c__law_draw tk (hr.mono (by decide)) (fx.glo 22) rfl (da_cons (de_var 0) (da_cons (de_int) (da_nil)))) (de_int)) (da_nil))))) (dss_cons (ds_set 8 sc__law_parts.nd (de_fn 2 c__law_any tk hr (fx.glo 23) rfl (da_cons (de_var 0) (da_cons (de_lstF (da_cons (de_int) (da_cons (de_int) (da_cons (de_un o_neg (de_int)) (da_nil))))) (da_nil))))) (dss_cons (ds_for (passes_of rfl) rfl (di_seq (de_slice (de_lstF (da_cons (de_str) (da_cons (de_str) (da_cons (de_str) (da_cons (de_str) (da_cons (de_str) (da_cons (de_str) (da_cons (de_str) (da_cons (de_str) (da_nil)))))))))) (do_none) (do_some (de_ifx (dt_cmp o_gt (de_callB c_len (fx.free 38) (da_cons (de_var 4) (da_nil)) bt_len) (de_int)) (de_fn 2 c__law_draw tk (hr.mono (by decide)) (fx.glo 22) rfl (da_cons (de_var 0) (da_cons (de_bin o_add (de_var 2) (de_int)) (da_nil)))) (de_int))))) (tg_nm 9 sc__law_parts.nd) (dss_cons (ds_par 10 11 rfl sc__law_parts.nd (da_cons (de_fn 2 c__law_draw tk (hr.mono (by decide)) (fx.glo 22) rfl (da_cons (de_var 0) (da_cons (de_callB c_len (fx.free 38) (da_cons (de_var 4) (da_nil)) bt_len) (da_nil)))) (da_cons (de_fn 2 c__law_draw tk (hr.mono (by decide)) (fx.glo 22) rfl (da_cons (de_var 0) (da_cons (de_bin o_sub (de_callB c_len (fx.free 38) (da_cons (de_var 4) (da_nil)) bt_len) (de_int)) (da_nil)))) (da_nil)))) (dss_cons (ds_set 11 sc__law_parts.nd (de_bin o_add (de_var 11) (de_callT c_int (fx.free 36) (da_cons (de_cmp o_ge (de_var 11) (de_var 10)) (da_nil)) bt_int))) (dss_cons (ds_if (dt_tru (de_var 7)) (dss_one (ds_par 10 11 rfl sc__law_parts.nd (da_cons (de_callB (c_min2 rfl) (fx.free 40) (da_cons (de_var 10) (da_cons (de_var 11) (da_nil))) bt_min) (da_cons (de_callB (c_max2 rfl) (fx.free 39) (da_cons (de_var 10) (da_cons (de_var 11) (da_nil))) bt_max) (da_nil))))) (dss_nil)) (dss_one (ds_expr (de_append (de_var 6) (da_cons (de_tup (da_cons (de_var 9) (da_cons (de_ix (Room_u1 hr) (de_var 4) (de_var 10)) (da_cons (de_ix (Room_u1 hr) (de_var 4) (de_var 11)) (da_cons (de_bin o_add (de_var 8) (de_fn 2 c__law_draw tk (hr.mono (by decide)) (fx.glo 22) rfl (da_cons (de_var 0) (da_cons (de_int) (da_nil))))) (da_cons (de_fn 2 c__law_draw tk (hr.mono (by decide)) (fx.glo 22) rfl (da_cons (de_var 0) (da_cons (de_int) (da_nil)))) (da_nil))))))) (da_nil))))))))) (dss_one (ds_ret (de_tup (da_cons (de_callT c_tup (fx.free 46) (da_cons (de_var 4) (da_nil)) bt_tuple) (da_cons (de_callT c_tup (fx.free 46) (da_cons (de_var 6) (da_nil)) bt_tuple) (da_nil))))))))))
theorem sc__law_word : FnScope n__law_word ["call"] (defScope s__law_word) := ⟨rfl, rfl, rfl, by decide +kernel, rfl, by decide +kernel, by decide +kernel⟩
theorem dvw__law_word (fx : Fx fa fn K mg) (hex : exB K = true) (cdg : Value) (A : Around) (outer : List Env) (s : Shared) (H : Hp) (J : Jv) (we : WE) (hr : Room 0 (A.deeper (envOfC "_law_word" (defScope s__law_word) s.heap.objs.size (He.fAd K ("_law_word", none)) cdg)))
    (hact : ∀ (W : WX) (pn : List (Addr × Obj)) (xe : Value → Shared → Prop) (p1 p2 : Pos), Takes ((cxOf C8.CX0 P w K mg base n__law_word "_law_word" (defScope s__law_word) (He.fAd K ("_law_word", none)) cdg A outer s H C8.E0).tr pn xe) W → DE ((cxOf C8.CX0 P w K mg base n__law_word "_law_word" (defScope s__law_word) (He.fAd K ("_law_word", none)) cdg A outer s H C8.E0).tr pn xe) ⟨tbl K, W, J⟩ (.Call (.Name "call" p1) [] [] p2) we) :
    DSs (cxOf C8.CX0 P w K mg base n__law_word "_law_word" (defScope s__law_word) (He.fAd K ("_law_word", none)) cdg A outer s H C8.E0).nox ⟨tbl K, fun _ _ _ _ => False, J⟩ (defBody s__law_word) (w__law_word K we) := by
  have tk : Takes (cxOf C8.CX0 P w K mg base n__law_word "_law_word" (defScope s__law_word) (He.fAd K ("_law_word", none)) cdg A outer s H C8.E0).nox (Lc.W ⟨tbl K, fun _ _ _ _ => False, J⟩) := takes0
  exact dss_cons (ds_tryA 1 rfl rfl sc__law_word.nd rfl rfl (fx.glo 6) tk (fun W pn xe tk => dss_one (ds_expr (hact W pn xe _ _ tk))) (fun a oe cls d pn e hz hf => dss_cons (ds_set 2 sc__law_word.nd (de_lstF (da_cons (de_exi 1 hz hf (fx.free 37) (fx.glo 9)) (da_cons (de_exi 1 hz hf (fx.free 37) (fx.glo 10)) (da_cons (de_exi 1 hz hf (fx.free 37) (fx.glo 8)) (da_nil)))))) (dss_cons (ds_if ((dw_or (dt_cmp (o_neA (u64_of (k := 0) hr.un)) (de_cntL (de_var 2) (da_cons (de_bl) (da_nil))) (de_int)) (dw_or1 (dt_not (dt_val (de_exiT 1 hz hf (fx.free 37) (fx.free 47) bt_ValueError))))).pt) (dss_one (ds_ret (de_str))) (dss_nil)) (dss_one (ds_ret (de_ix (u1_of (k := 0) hr.un) (de_lstF (da_cons (de_str) (da_cons (de_str) (da_cons (de_str) (da_nil))))) (de_idx (de_var 2) (da_cons (de_bl) (da_nil))))))))) (dss_one (ds_ret (de_str)))
theorem sc__law_gone : FnScope n__law_gone ["roads", "start", "names", "is_tie"] (defScope s__law_gone) := ⟨rfl, rfl, rfl, by decide +kernel, rfl, by decide +kernel, by decide +kernel⟩
theorem dv__law_gone (fx : Fx fa fn K mg) (hex : exB K = true) {f : Addr} (cdv : Value) (A : Around) (outer : List Env) (s : Shared) (H : Hp) (E : XK) (hr : Room 0 (A.deeper (envOfC "_law_gone" (defScope s__law_gone) s.heap.objs.size f cdv))) :
    DSs (cxOf (CX P w) P w K mg base n__law_gone "_law_gone" (defScope s__law_gone) f cdv A outer s H E) (lcOf (tbl K) E) (defBody s__law_gone) (w__law_gone K) := by
  have tk : Takes (cxOf (CX P w) P w K mg base n__law_gone "_law_gone" (defScope s__law_gone) f cdv A outer s H E) (lcOf (tbl K) E).W := takes_of rfl rfl rfl rfl
  exact dss_cons (ds_par 4 5 rfl sc__law_gone.nd (da_cons (de_callT (c_dictP rfl) (fx.free 34) (da_cons (de_lcN [("road", 7)] [7] rfl rfl sc__law_gone.nd (di_seq (de_var 0)) (blkOk_by (N := n__law_gone) (sc := defScope s__law_gone) (by decide +kernel)) (fun _ _ _ _ _ => tg_nm 7 sc__law_gone.nd) (fun _ _ _ _ _ => dts_nil) (fun _ _ _ _ _ => de_tup (da_cons (de_ix (Room_u1 hr) (de_var 7) (de_int)) (da_cons (de_var 7) (da_nil))))) (da_nil)) bt_dict) (da_cons (de_lstM (da_cons (de_var 1) (da_nil))) (da_nil)))) (dss_cons (ds_for (passes_of rfl) rfl (di_seq (de_var 2)) (tg_nm 6 sc__law_gone.nd) (dss_cons (ds_if (dt_cmp (o_notin (Room_u1 hr)) (de_var 6) (de_var 4)) (dss_one (ds_ret (de_non))) (dss_nil)) (dss_cons (ds_set 7 sc__law_gone.nd (de_ix (Room_u1 hr) (de_var 4) (de_var 6))) (dss_one (ds_if (dt_cmp (o_eqA (Room_u64 hr)) (de_ix (Room_u1 hr) (de_var 7) (de_int)) (de_ix (Room_u1 hr) (de_var 5) (de_un o_neg (de_int)))) (dss_one (ds_expr (de_append (de_var 5) (da_cons (de_ix (Room_u1 hr) (de_var 7) (de_int)) (da_nil))))) (dss_one (ds_if ((dw_and (dt_tru (de_var 3)) (dw_and1 (dt_cmp (o_eqA (Room_u64 hr)) (de_ix (Room_u1 hr) (de_var 7) (de_int)) (de_ix (Room_u1 hr) (de_var 5) (de_un o_neg (de_int)))))).pt) (dss_one (ds_expr (de_append (de_var 5) (da_cons (de_ix (Room_u1 hr) (de_var 7) (de_int)) (da_nil))))) (dss_one (ds_ret (de_non)))))))))) (dss_one (ds_ret (de_callT c_tup (fx.free 46) (da_cons (de_var 5) (da_nil)) bt_tuple))))
theorem sc__law_names : FnScope n__law_names ["hand", "towns", "roads", "start"] (defScope s__law_names) := ⟨rfl, rfl, rfl, by decide +kernel, rfl, by decide +kernel, by decide +kernel⟩
theorem dv__law_names (fx : Fx fa fn K mg) (hex : exB K = true) (c__law_draw : Fn P w K mg base (tbl K) 1 ("_law_draw", none) ["hand", "many"] (sp__law_draw K)) (c__law_any : Fn P w K mg base (tbl K) 2 ("_law_any", none) ["hand", "some"] (sp__law_any K)) {f : Addr} (cdv : Value) (A : Around) (outer : List Env) (s : Shared) (H : Hp) (E : XK) (hr : Room 2 (A.deeper (envOfC "_law_names" (defScope s__law_names) s.heap.objs.size f cdv))) :
    DSs (cxOf (CX P w) P w K mg base n__law_names "_law_names" (defScope s__law_names) f cdv A outer s H E) (lcOf (tbl K) E) (defBody s__law_names) (w__law_names K) := by
  have tk : Takes (cxOf (CX P w) P w K mg base n__law_names "_law_names" (defScope s__law_names) f cdv A outer s H E) (lcOf (tbl K) E).W := takes_of rfl rfl rfl rfl
  exact dss_cons (ds_asg (tg_tp rfl (tgs_cons (tg_nm 4 sc__law_names.nd) (tgs_cons (tg_nm 5 sc__law_names.nd) (tgs_cons (tg_nm 6 sc__law_names.nd) (tgs_nil))))) (de_tup (da_cons (de_lstM (da_nil)) (da_cons (de_var 3) (da_cons (de_cmp (o_eqA (Room_u64 hr)) (de_fn 2 c__law_draw tk (hr.mono (by decide)) (fx.glo 22) rfl (da_cons (de_var 0) (da_cons (de_int) (da_nil)))) (de_int)) (da_nil)))))) (dss_cons (ds_for (passes_of rfl) rfl (di_range1 (fx.free 41) (de_fn 2 c__law_draw tk (hr.mono (by decide)) (fx.glo 22) rfl (da_cons (de_var 0) (da_cons (de_int) (da_nil))))) (tg_nm 7 sc__law_names.nd) (dss_cons (ds_setLcN 8 [("road", 9)] [9] rfl rfl sc__law_names.nd (di_seq (de_var 2)) (blkOk_by (N := n__law_names) (sc := defScope s__law_names) (by decide +kernel)) (fun _ _ _ _ _ => tg_nm 9 sc__law_names.nd) (fun _ _ _ _ _ => dts_one ((dw_or (dt_cmp (o_eqA (Room_u64 hr)) (de_ix (Room_u1 hr) (de_var 9) (de_int)) (de_var 5)) (dw_or1 ((dw_and (dt_tru (de_var 6)) (dw_and1 (dt_cmp (o_eqA (Room_u64 hr)) (de_ix (Room_u1 hr) (de_var 9) (de_int)) (de_var 5)))).pt))).pt)) (fun _ _ _ _ _ => de_var 9)) (dss_one (ds_if (dt_cmp (o_neA (Room_u64 hr)) (de_var 8) (de_lstF (da_nil))) (dss_cons (ds_set 9 sc__law_names.nd (de_fn 2 c__law_any tk hr (fx.glo 23) rfl (da_cons (de_var 0) (da_cons (de_var 8) (da_nil))))) (dss_cons (ds_expr (de_append (de_var 4) (da_cons (de_ix (Room_u1 hr) (de_var 9) (de_int)) (da_nil)))) (dss_one (ds_set 5 sc__law_names.nd (de_ifx (dt_cmp (o_eqA (Room_u64 hr)) (de_ix (Room_u1 hr) (de_var 9) (de_int)) (de_var 5)) (de_ix (Room_u1 hr) (de_var 9) (de_int)) (de_ix (Room_u1 hr) (de_var 9) (de_int))))))) (dss_nil))))) (dss_cons (ds_if (dt_cmp (o_eqA (Room_u64 hr)) (de_fn 2 c__law_draw tk (hr.mono (by decide)) (fx.glo 22) rfl (da_cons (de_var 0) (da_cons (de_int) (da_nil)))) (de_int)) (dss_cons (ds_set 10 sc__law_names.nd (de_fn 2 c__law_draw tk (hr.mono (by decide)) (fx.glo 22) rfl (da_cons (de_var 0) (da_cons (de_bin o_add (de_callB c_len (fx.free 38) (da_cons (de_var 4) (da_nil)) bt_len) (de_int)) (da_nil))))) (dss_one (ds_set 4 sc__law_names.nd (de_bin o_add (de_bin o_add (de_slice (de_var 4) (do_none) (do_some (de_var 10))) (de_lstF (da_cons (de_fn 2 c__law_any tk hr (fx.glo 23) rfl (da_cons (de_var 0) (da_cons (de_lstF (da_cons (de_str) (da_cons (de_str) (da_cons (de_str) (da_cons (de_str) (da_cons (de_str) (da_nil))))))) (da_nil)))) (da_nil)))) (de_slice (de_var 4) (do_some (de_bin o_add (de_var 10) (de_fn 2 c__law_draw tk (hr.mono (by decide)) (fx.glo 22) rfl (da_cons (de_var 0) (da_cons (de_int) (da_nil)))))) (do_none)))))) (dss_nil)) (dss_one (ds_ret (de_callT c_tup (fx.free 46) (da_cons (de_var 4) (da_nil)) bt_tuple)))))
theorem sc__law_refused_right : FnScope n__law_refused_right ["hand", "net_here", "towns"] (defScope s__law_refused_right) := ⟨rfl, rfl, rfl, by decide +kernel, rfl, by decide +kernel, by decide +kernel⟩
theorem dv__law_refused_right (fx : Fx fa fn K mg) (hex : exB K = true) (c__law_any : Fn P w K mg base (tbl K) 2 ("_law_any", none) ["hand", "some"] (sp__law_any K)) (c__law_word : FnW P w K mg base (tbl K) 0 ("_law_word", none) "_law_word" "call" (sp__law_word K)) (c_ends_by : Fn P w K mg base (tbl K) 4 ("ends_by", none) ["net", "start", "names"] (sp_ends_by K)) (c_ends_walked : Fn P w K mg base (tbl K) 4 ("ends_walked", none) ["net", "start", "names"] (sp_ends_walked K)) (c_length_of : Fn P w K mg base (tbl K) 3 ("length_of", none) ["net", "names"] (sp_length_of K)) {f : Addr} (cdv : Value) (hcd : IsCd K f cdv) (hff : f = He.fAd K ("_law_refused_right", none)) (TB : ∀ p ∈ tf, LamX.TabB base mg (He.cT K p.1).1 (He.cT K p.1).2) (A : Around) (outer : List Env) (s : Shared) (H : Hp) (E : XK) (hr : Room 6 (A.deeper (envOfC "_law_refused_right" (defScope s__law_refused_right) s.heap.objs.size f cdv))) :
    DSs (cxOf (CX P w) P w K mg base n__law_refused_right "_law_refused_right" (defScope s__law_refused_right) f cdv A outer s H E) (lcOf (tbl K) E) (defBody s__law_refused_right) (w__law_refused_right K) := by
  have tk : Takes (cxOf (CX P w) P w K mg base n__law_refused_right "_law_refused_right" (defScope s__law_refused_right) f cdv A outer s H E) (lcOf (tbl K) E).W := takes_of rfl rfl rfl rfl
  have LM : LamM (cxOf (CX P w) P w K mg base n__law_refused_right "_law_refused_right" (defScope s__law_refused_right) f cdv A outer s H E) (tbl K) (He.cT K ("_law_refused_right", none)).1 (He.cT K ("_law_refused_right", none)).2 := lamM_of (tabU K hex) TB (p := ("_law_refused_right", none)) (q := "_law_refused_right.<locals>.<lambda>") (by decide +kernel) (by subst hff; exact hcd.eq) (by kernel_rfl)
  exact dss_cons (ds_set 3 sc__law_refused_right.nd (de_fn 2 c__law_any tk (hr.mono (by decide)) (fx.glo 23) rfl (da_cons (de_var 0) (da_cons (de_lstF (da_cons (de_str) (da_cons (de_non) (da_cons (de_int) (da_cons (de_str) (da_cons (de_lstF (da_cons (de_str) (da_nil))) (da_cons (de_bl) (da_nil)))))))) (da_nil))))) (dss_cons (ds_set 4 sc__law_refused_right.nd (de_fn 2 c__law_any tk (hr.mono (by decide)) (fx.glo 23) rfl (da_cons (de_var 0) (da_cons (de_lstF (da_cons (de_non) (da_cons (de_lstF (da_cons (de_str) (da_nil))) (da_cons (de_tup (da_cons (de_str) (da_cons (de_int) (da_nil)))) (da_cons (de_tup (da_cons (de_non) (da_nil))) (da_cons (de_str) (da_cons (de_int) (da_cons (de_dct0) (da_nil))))))))) (da_nil))))) (dss_cons (ds_set 5 sc__law_refused_right.nd (de_lstM (da_cons (de_lam (k := 4) LM c__law_word (by decide) (hr.mono (by decide)) (fx.glo 25) (fun A outer s H E f c' hr tk => de_fn 3 c_ends_by tk hr (fx.glo 17) rfl (da_cons (de_var 1) (da_cons (de_var 3) (da_cons (de_var 4) (da_nil)))))) (da_nil)))) (dss_cons (ds_expr (de_append (de_var 5) (da_cons (de_lam (k := 4) LM c__law_word (by decide) (hr.mono (by decide)) (fx.glo 25) (fun A outer s H E f c' hr tk => de_fn 3 c_ends_walked tk hr (fx.glo 18) rfl (da_cons (de_var 1) (da_cons (de_var 3) (da_cons (de_tup (da_nil)) (da_nil)))))) (da_nil)))) (dss_cons (ds_expr (de_append (de_var 5) (da_cons (de_lam (k := 4) LM c__law_word (by decide) (hr.mono (by decide)) (fx.glo 25) (fun A outer s H E f c' hr tk => de_fn 2 c_length_of tk (hr.mono (by decide)) (fx.glo 20) rfl (da_cons (de_var 1) (da_cons (de_var 4) (da_nil))))) (da_nil)))) (dss_cons (ds_expr (de_append (de_var 5) (da_cons (de_lam (k := 4) LM c__law_word (by decide) (hr.mono (by decide)) (fx.glo 25) (fun A outer s H E f c' hr tk => de_fn 2 c_length_of tk (hr.mono (by decide)) (fx.glo 20) rfl (da_cons (de_var 1) (da_cons (de_tup (da_cons (de_str) (da_nil))) (da_nil))))) (da_nil)))) (dss_cons (ds_if (dt_cmp (o_neA (Room_u64 hr)) (de_var 5) (de_lstF (da_cons (de_str) (da_cons (de_str) (da_cons (de_str) (da_cons (de_str) (da_nil))))))) (dss_one (ds_ret (de_bl))) (dss_nil)) (dss_cons (ds_if (dt_cmp (o_eqA (Room_u64 hr)) (de_var 2) (de_tup (da_nil))) (dss_one (ds_ret (de_bl))) (dss_nil)) (dss_cons (ds_set 5 sc__law_refused_right.nd (de_lstM (da_cons (de_lam (k := 4) LM c__law_word (by decide) (hr.mono (by decide)) (fx.glo 25) (fun A outer s H E f c' hr tk => de_fn 3 c_ends_by tk hr (fx.glo 17) rfl (da_cons (de_var 1) (da_cons (de_ix (Room_u1 hr) (de_var 2) (de_int)) (da_cons (de_var 4) (da_nil)))))) (da_nil)))) (dss_cons (ds_expr (de_append (de_var 5) (da_cons (de_lam (k := 4) LM c__law_word (by decide) (hr.mono (by decide)) (fx.glo 25) (fun A outer s H E f c' hr tk => de_fn 3 c_ends_walked tk hr (fx.glo 18) rfl (da_cons (de_var 1) (da_cons (de_ix (Room_u1 hr) (de_var 2) (de_un o_neg (de_int))) (da_cons (de_var 4) (da_nil)))))) (da_nil)))) (dss_one (ds_ret (de_cmp (o_eqA (Room_u64 hr)) (de_var 5) (de_lstF (da_cons (de_str) (da_cons (de_str) (da_nil))))))))))))))))
theorem sc_law : FnScope n_law ["script"] (defScope s_law) := ⟨rfl, rfl, rfl, by decide +kernel, rfl, by decide +kernel, by decide +kernel⟩
theorem dv_law (fx : Fx fa fn K mg) (hex : exB K = true) (c__law_hand : Fn P w K mg base (tbl K) 1 ("_law_hand", none) ["script"] (sp__law_hand K)) (c__law_parts : Fn P w K mg base (tbl K) 3 ("_law_parts", none) ["hand", "most", "few"] (sp__law_parts K)) (c_Net___init__ : Fn P w K mg base (tbl K) 4 ("Net", some "__init__") ["self", "towns", "roads"] (sp_Net___init__ K)) (c__law_any : Fn P w K mg base (tbl K) 2 ("_law_any", none) ["hand", "some"] (sp__law_any K)) (c__law_names : Fn P w K mg base (tbl K) 3 ("_law_names", none) ["hand", "towns", "roads", "start"] (sp__law_names K)) (c__law_gone : Fn P w K mg base (tbl K) 1 ("_law_gone", none) ["roads", "start", "names", "is_tie"] (sp__law_gone K)) (c_ends_walked : Fn P w K mg base (tbl K) 4 ("ends_walked", none) ["net", "start", "names"] (sp_ends_walked K)) (c_ends_by : Fn P w K mg base (tbl K) 4 ("ends_by", none) ["net", "start", "names"] (sp_ends_by K)) (c_length_of : Fn P w K mg base (tbl K) 3 ("length_of", none) ["net", "names"] (sp_length_of K)) (c__law_word : FnW P w K mg base (tbl K) 0 ("_law_word", none) "_law_word" "call" (sp__law_word K)) (c__law_refused_right : Fn P w K mg base (tbl K) 7 ("_law_refused_right", none) ["hand", "net_here", "towns"] (sp__law_refused_right K)) {f : Addr} (cdv : Value) (hcd : IsCd K f cdv) (hff : f = He.fAd K ("law", none)) (TB : ∀ p ∈ tf, LamX.TabB base mg (He.cT K p.1).1 (He.cT K p.1).2) (A : Around) (outer : List Env) (s : Shared) (H : Hp) (E : XK) (hr : Room 7 (A.deeper (envOfC "law" (defScope s_law) s.heap.objs.size f cdv))) (hgd0 : A.guards = some []) :
    DSs (cxOf (CX P w) P w K mg base n_law "law" (defScope s_law) f cdv A outer s H E) (lcOf (tbl K) E) (defBody s_law) (w_law K) := by
  have tk : Takes (cxOf (CX P w) P w K mg base n_law "law" (defScope s_law) f cdv A outer s H E) (lcOf (tbl K) E).W := takes_of rfl rfl rfl rfl
  have hgd : (A.deeper (envOfC "law" (defScope s_law) s.heap.objs.size f cdv)).guards = some [] := hgd0
  have LM : LamM (cxOf (CX P w) P w K mg base n_law "law" (defScope s_law) f cdv A outer s H E) (tbl K) (He.cT K ("law", none)).1 (He.cT K ("law", none)).2 := lamM_of (tabU K hex) TB (p := ("law", none)) (q := "law.<locals>.<lambda>") (by decide +kernel) (by subst hff; exact hcd.eq) (by kernel_rfl)
  exact dss_cons (ds_set 1 sc_law.nd (de_fn 1 c__law_hand tk (hr.mono (by decide)) (fx.glo 21) rfl (da_cons (de_var 0) (da_nil)))) (dss_cons (ds_for (passes_of rfl) rfl (di_range1 (fx.free 41) (de_int)) (tg_nm 2 sc_law.nd) (dss_cons (ds_asg (tg_tp rfl (tgs_cons (tg_nm 3 sc_law.nd) (tgs_cons (tg_nm 4 sc_law.nd) (tgs_nil)))) (de_fn 3 c__law_parts tk (hr.mono (by decide)) (fx.glo 24) rfl (da_cons (de_var 1) (da_cons (de_int) (da_cons (de_int) (da_nil)))))) (dss_cons (ds_set 5 sc_law.nd (de_mk 2 c_Net___init__ (fx.mkr 60) tk (hr.mono (by decide)) (fx.glo 12) rfl (da_cons (de_var 3) (da_cons (de_var 4) (da_nil))))) (dss_cons (ds_set 6 sc_law.nd (de_lcN [("road", 16)] [16] rfl rfl sc_law.nd (di_seq (de_var 4)) (blkOk_by (N := n_law) (sc := defScope s_law) (by decide +kernel)) (fun _ _ _ _ _ => tg_nm 16 sc_law.nd) (fun _ _ _ _ _ => dts_nil) (fun _ _ _ _ _ => de_ix (Room_u1 hr) (de_var 16) (de_int)))) (dss_cons (ds_for (passes_of rfl) rfl (di_range1 (fx.free 41) (de_ifx (dt_cmp (o_neA (Room_u64 hr)) (de_var 3) (de_tup (da_nil))) (de_int) (de_int))) (tg_nm 7 sc_law.nd) (dss_cons (ds_set 8 sc_law.nd (de_fn 2 c__law_any tk (hr.mono (by decide)) (fx.glo 23) rfl (da_cons (de_var 1) (da_cons (de_var 3) (da_nil))))) (dss_cons (ds_set 9 sc_law.nd (de_fn 4 c__law_names tk (hr.mono (by decide)) (fx.glo 27) rfl (da_cons (de_var 1) (da_cons (de_var 3) (da_cons (de_var 4) (da_cons (de_var 8) (da_nil))))))) (dss_cons (ds_par 10 11 rfl sc_law.nd (da_cons (de_fn 4 c__law_gone tk (hr.mono (by decide)) (fx.glo 26) rfl (da_cons (de_var 4) (da_cons (de_var 8) (da_cons (de_var 9) (da_cons (de_bl) (da_nil)))))) (da_cons (de_fn 4 c__law_gone tk (hr.mono (by decide)) (fx.glo 26) rfl (da_cons (de_var 4) (da_cons (de_var 8) (da_cons (de_var 9) (da_cons (de_bl) (da_nil)))))) (da_nil)))) (dss_cons (ds_if (dt_cmp (o_neA (Room_u64 hr)) (de_callB (c_repr hgd (Room_u66 hr)) (fx.free 42) (da_cons (de_lstF (da_cons (de_fn 3 c_ends_by tk (hr.mono (by decide)) (fx.glo 17) rfl (da_cons (de_var 5) (da_cons (de_var 8) (da_cons (de_var 9) (da_nil))))) (da_cons (de_fn 3 c_ends_walked tk (hr.mono (by decide)) (fx.glo 18) rfl (da_cons (de_var 5) (da_cons (de_var 8) (da_cons (de_var 9) (da_nil))))) (da_nil)))) (da_nil)) bt_repr) (de_callB (c_repr hgd (Room_u66 hr)) (fx.free 42) (da_cons (de_lstF (da_cons (de_var 10) (da_cons (de_var 11) (da_nil)))) (da_nil)) bt_repr)) (dss_one (ds_ret (de_bl))) (dss_nil)) (dss_cons (ds_if ((dw_and (dt_cmp o_isnot (de_var 10) (de_non)) (dw_and1 (dt_cmp (o_neA (Room_u64 hr)) (de_var 10) (de_var 11)))).pt) (dss_one (ds_ret (de_bl))) (dss_nil)) (dss_cons (ds_if (dt_val (de_callB (c_all rfl) (fx.free 31) (da_cons (de_lcN [("name", 17)] [17] rfl rfl sc_law.nd (di_seq (de_var 9)) (blkOk_by (N := n_law) (sc := defScope s_law) (by decide +kernel)) (fun _ _ _ _ _ => tg_nm 17 sc_law.nd) (fun _ _ _ _ _ => dts_nil) (fun _ _ _ _ _ => de_cmp (o_in (Room_u1 hr)) (de_var 17) (de_var 6))) (da_nil)) bt_all)) (dss_cons (ds_set 12 sc_law.nd (de_callB (c_sum rfl) (fx.free 45) (da_cons (de_lcN [("road", 16)] [16] rfl rfl sc_law.nd (di_seq (de_var 4)) (blkOk_by (N := n_law) (sc := defScope s_law) (by decide +kernel)) (fun _ _ _ _ _ => tg_nm 16 sc_law.nd) (fun _ _ _ _ _ => dts_nil) (fun _ _ _ _ _ => de_bin o_mul (de_ix (Room_u1 hr) (de_var 16) (de_int)) (de_cntT (de_var 9) (da_cons (de_ix (Room_u1 hr) (de_var 16) (de_int)) (da_nil))))) (da_nil)) bt_sum)) (dss_one (ds_if (dt_cmp (o_neA (Room_u64 hr)) (de_callB (c_repr hgd (Room_u66 hr)) (fx.free 42) (da_cons (de_fn 2 c_length_of tk (hr.mono (by decide)) (fx.glo 20) rfl (da_cons (de_var 5) (da_cons (de_var 9) (da_nil)))) (da_nil)) bt_repr) (de_callB (c_repr hgd (Room_u66 hr)) (fx.free 42) (da_cons (de_var 12) (da_nil)) bt_repr)) (dss_one (ds_ret (de_bl))) (dss_nil)))) (dss_one (ds_if (dt_cmp (o_neA (Room_u64 hr)) (de_lam (k := 5) LM c__law_word (by decide) (hr.mono (by decide)) (fx.glo 25) (fun A outer s H E f c' hr tk => de_fn 2 c_length_of tk (hr.mono (by decide)) (fx.glo 20) rfl (da_cons (de_var 5) (da_cons (de_var 9) (da_nil))))) (de_str)) (dss_one (ds_ret (de_bl))) (dss_nil)))) (dss_one (ds_if (dt_cmp o_isnot (de_var 10) (de_non)) (dss_cons (ds_set 13 sc_law.nd (de_fn 4 c__law_names tk (hr.mono (by decide)) (fx.glo 27) rfl (da_cons (de_var 1) (da_cons (de_var 3) (da_cons (de_var 4) (da_cons (de_ix (Room_u1 hr) (de_var 10) (de_un o_neg (de_int))) (da_nil))))))) (dss_cons (ds_set 14 sc_law.nd (de_fn 3 c_ends_by tk (hr.mono (by decide)) (fx.glo 17) rfl (da_cons (de_var 5) (da_cons (de_ix (Room_u1 hr) (de_var 10) (de_un o_neg (de_int))) (da_cons (de_var 13) (da_nil)))))) (dss_cons (ds_set 15 sc_law.nd (de_ifx (dt_cmp o_is (de_var 14) (de_non)) (de_non) (de_bin o_add (de_var 10) (de_slice (de_var 14) (do_some (de_int)) (do_none))))) (dss_one (ds_if (dt_cmp (o_neA (Room_u64 hr)) (de_fn 3 c_ends_by tk (hr.mono (by decide)) (fx.glo 17) rfl (da_cons (de_var 5) (da_cons (de_var 8) (da_cons (de_bin o_add (de_var 9) (de_var 13)) (da_nil))))) (de_var 15)) (dss_one (ds_ret (de_bl))) (dss_nil)))))) (dss_nil)))))))))) (dss_one (ds_if (dt_not (dt_val (de_fn 3 c__law_refused_right tk hr (fx.glo 28) rfl (da_cons (de_var 1) (da_cons (de_var 5) (da_cons (de_var 3) (da_nil))))))) (dss_one (ds_ret (de_bl))) (dss_nil)))))))) (dss_one (ds_ret (de_bl))))
end
section
variable {K : PySem.W.Frag} {S : Sto} {R : RK} {Z : ZK}
theorem t_is_integer {p : PV} (hp : Pn p) (h : R (.bl (isA p "int" && !isA p "bool")) S) : sp_is_integer K [p] S R Z := ⟨p, rfl, hp, h⟩
theorem t_is_within {p : PV} {a b : Int} (hp : Pn p) (h : R (.bl (inI p a b)) S) : sp_is_within K [p, .int a, .int b] S R Z := ⟨p, a, b, rfl, hp, h⟩
theorem t_is_name {p : PV} (hp : Pn p) (h : R (.bl (isNm p)) S) : sp_is_name K [p] S R Z := ⟨p, rfl, hp, h⟩
theorem t_is_tuple {p : PV} {n : Int} (hp : Pn p) (h : R (.bl (isTupP p n)) S) : sp_is_tuple K [p, .int n] S R Z := ⟨p, n, rfl, hp, h⟩
theorem t_does_ascend {ss : List Str} (hz : ss.length ≤ 1000) (h : R (.bl (decide (UpS ss))) S) : sp_does_ascend K [townsP ss] S R Z := ⟨_, ss, rfl, rfl, hz, h⟩
theorem t_is_road {ts : List Str} {p q : PV} (hp : seqOf (dr S p) = some (ts.map PV.str) ∨ nmsOk q = false) (hq : PnT q) (h : R (.bl (roadQ ts q)) S) : sp_is_road K [p, q] S R Z := ⟨p, q, ts, rfl, hp, hq, h⟩
end
theorem sz0 {n : Nat} (h : n ≤ 100000) : n ≤ sizeLine := by rw [sizeLine_eq]; omega
theorem pure_is_integer (K : PySem.W.Frag) : ∀ ps S R Z, ps.length = 1 → sp_is_integer K ps S R Z → w_is_integer K (fin R Z) (startP n_is_integer ps) S := by
  intro ps S R Z hl h
  obtain ⟨p, rfl, hp, h⟩ := h
  have e : startP n_is_integer [p] = [some p] := rfl
  rw [e]
  simp -implicitDefEqProofs only [w_is_integer, ↓Qa, ↓Qb, ↓Qc, ↓Qd, ↓Qe, ↓Qg, ↓Qh, ↓Qi, ↓Qj, ↓Qk, ↓Ql, ↓par2_two, ↓Qm, ↓Qn, ↓Qo, ↓Qp, ↓Qq, ↓Qr, ↓Qs, ↓Qt, ↓Qu, ↓Qv, ↓Qw, ↓Qx, ↓Qy, ↓Qz, ↓Q0, ↓truK_bl, ↓Q3, ↓Q4, ↓Q5, ↓Q6, ↓chK_bl, ↓Q7, ↓Q8, ↓Q9, ↓Ya, ↓Yb, ↓Yc, ↓Yd, ↓Ye, ↓Yf, ↓Yg, ↓Yh, ↓Yi, ↓Yj, ↓Yk, ↓Ym, ↓Yn, ↓Yo, ↓Yp, ↓Yq, ↓Yr, ↓Ys, ↓Yt, ↓Yu, ↓Yv, ↓Yw, ↓Yx, ↓Yy, ↓Yz, ↓Y0, ↓Y1, ↓Y2, ↓Y3, ↓Y4, ↓Y5, ↓Y6, ↓Y7, ↓Y8, ↓Y9, ↓Ja, ↓Jb, ↓Jc, ↓Jd, ↓Je, ↓Jf, ↓Jg, ↓Jh, ↓Ji, ↓Jj, ↓Jk, ↓Jl, ↓Jm, ↓Jn, ↓Jo, ↓Jp, ↓Jq, ↓Jr, ↓Js, ↓Jt, ↓Ju, ↓Jw, ↓Jx, ↓Jy, ↓Jz, ↓J1, ↓J2, ↓J3, ↓J4, ↓J5, ↓J6, ↓J7, ↓J8, ↓J9, ↓Qaa, ↓Qab, ↓Qac, ↓Qad, ↓Qae, ↓par3_three, ↓Qaf, ↓Qag, ↓Qah, ↓Qai, ↓Qaj, ↓Qak, ↓Qal, ↓Qam, ↓Qan, ↓Qao, ↓Qap, ↓Qaq, ↓Qar, ↓Qas, ↓Qat, ↓Qau, ↓Qav, ↓Qaw, ↓Qax, ↓Qay, ↓Qaz, ↓Qa0, ↓Qa1, ↓Qa2, ↓Qa3, ↓Qa4, ↓Qa5, ↓Qa6, ↓Qa7, ↓Qa8, ↓Qa9, ↓Qba, ↓Qbb, ↓Qbc, ↓Qbd, ↓Qbe, ↓Qbf, ↓Qbg, ↓Qbh, ↓Qbi, ↓Qbj, ↓Qbk, ↓Qbl, List.set_cons_zero, List.set_cons_succ, wipeP]
  rw [k_isB_pn (by decide) hp]
  simp -implicitDefEqProofs only [↓Qa, ↓Qb, ↓Qc, ↓Qd, ↓Qe, ↓Qg, ↓Qh, ↓Qi, ↓Qj, ↓Qk, ↓Ql, ↓par2_two, ↓Qm, ↓Qn, ↓Qo, ↓Qp, ↓Qq, ↓Qr, ↓Qs, ↓Qt, ↓Qu, ↓Qv, ↓Qw, ↓Qx, ↓Qy, ↓Qz, ↓Q0, ↓truK_bl, ↓Q3, ↓Q4, ↓Q5, ↓Q6, ↓chK_bl, ↓Q7, ↓Q8, ↓Q9, ↓Ya, ↓Yb, ↓Yc, ↓Yd, ↓Ye, ↓Yf, ↓Yg, ↓Yh, ↓Yi, ↓Yj, ↓Yk, ↓Ym, ↓Yn, ↓Yo, ↓Yp, ↓Yq, ↓Yr, ↓Ys, ↓Yt, ↓Yu, ↓Yv, ↓Yw, ↓Yx, ↓Yy, ↓Yz, ↓Y0, ↓Y1, ↓Y2, ↓Y3, ↓Y4, ↓Y5, ↓Y6, ↓Y7, ↓Y8, ↓Y9, ↓Ja, ↓Jb, ↓Jc, ↓Jd, ↓Je, ↓Jf, ↓Jg, ↓Jh, ↓Ji, ↓Jj, ↓Jk, ↓Jl, ↓Jm, ↓Jn, ↓Jo, ↓Jp, ↓Jq, ↓Jr, ↓Js, ↓Jt, ↓Ju, ↓Jw, ↓Jx, ↓Jy, ↓Jz, ↓J1, ↓J2, ↓J3, ↓J4, ↓J5, ↓J6, ↓J7, ↓J8, ↓J9, ↓Qaa, ↓Qab, ↓Qac, ↓Qad, ↓Qae, ↓par3_three, ↓Qaf, ↓Qag, ↓Qah, ↓Qai, ↓Qaj, ↓Qak, ↓Qal, ↓Qam, ↓Qan, ↓Qao, ↓Qap, ↓Qaq, ↓Qar, ↓Qas, ↓Qat, ↓Qau, ↓Qav, ↓Qaw, ↓Qax, ↓Qay, ↓Qaz, ↓Qa0, ↓Qa1, ↓Qa2, ↓Qa3, ↓Qa4, ↓Qa5, ↓Qa6, ↓Qa7, ↓Qa8, ↓Qa9, ↓Qba, ↓Qbb, ↓Qbc, ↓Qbd, ↓Qbe, ↓Qbf, ↓Qbg, ↓Qbh, ↓Qbi, ↓Qbj, ↓Qbk, ↓Qbl, List.set_cons_zero, List.set_cons_succ, wipeP]
  cases q : isA p "int" with
  | true =>
    rw [q] at h
    simp only [if_true]
    rw [k_isB_pn (by decide) hp]
    simp -implicitDefEqProofs only [↓Qa, ↓Qb, ↓Qc, ↓Qd, ↓Qe, ↓Qg, ↓Qh, ↓Qi, ↓Qj, ↓Qk, ↓Ql, ↓par2_two, ↓Qm, ↓Qn, ↓Qo, ↓Qp, ↓Qq, ↓Qr, ↓Qs, ↓Qt, ↓Qu, ↓Qv, ↓Qw, ↓Qx, ↓Qy, ↓Qz, ↓Q0, ↓truK_bl, ↓Q3, ↓Q4, ↓Q5, ↓Q6, ↓chK_bl, ↓Q7, ↓Q8, ↓Q9, ↓Ya, ↓Yb, ↓Yc, ↓Yd, ↓Ye, ↓Yf, ↓Yg, ↓Yh, ↓Yi, ↓Yj, ↓Yk, ↓Ym, ↓Yn, ↓Yo, ↓Yp, ↓Yq, ↓Yr, ↓Ys, ↓Yt, ↓Yu, ↓Yv, ↓Yw, ↓Yx, ↓Yy, ↓Yz, ↓Y0, ↓Y1, ↓Y2, ↓Y3, ↓Y4, ↓Y5, ↓Y6, ↓Y7, ↓Y8, ↓Y9, ↓Ja, ↓Jb, ↓Jc, ↓Jd, ↓Je, ↓Jf, ↓Jg, ↓Jh, ↓Ji, ↓Jj, ↓Jk, ↓Jl, ↓Jm, ↓Jn, ↓Jo, ↓Jp, ↓Jq, ↓Jr, ↓Js, ↓Jt, ↓Ju, ↓Jw, ↓Jx, ↓Jy, ↓Jz, ↓J1, ↓J2, ↓J3, ↓J4, ↓J5, ↓J6, ↓J7, ↓J8, ↓J9, ↓Qaa, ↓Qab, ↓Qac, ↓Qad, ↓Qae, ↓par3_three, ↓Qaf, ↓Qag, ↓Qah, ↓Qai, ↓Qaj, ↓Qak, ↓Qal, ↓Qam, ↓Qan, ↓Qao, ↓Qap, ↓Qaq, ↓Qar, ↓Qas, ↓Qat, ↓Qau, ↓Qav, ↓Qaw, ↓Qax, ↓Qay, ↓Qaz, ↓Qa0, ↓Qa1, ↓Qa2, ↓Qa3, ↓Qa4, ↓Qa5, ↓Qa6, ↓Qa7, ↓Qa8, ↓Qa9, ↓Qba, ↓Qbb, ↓Qbc, ↓Qbd, ↓Qbe, ↓Qbf, ↓Qbg, ↓Qbh, ↓Qbi, ↓Qbj, ↓Qbk, ↓Qbl, List.set_cons_zero, List.set_cons_succ, wipeP]
    rw [Bool.true_and] at h
    exact gR_now h
  | false =>
    rw [q] at h
    simp only [Bool.false_eq_true, if_false]
    rw [Bool.false_and] at h
    exact gR_now h
theorem pure_is_within (K : PySem.W.Frag) : ∀ ps S R Z, ps.length = 3 → sp_is_within K ps S R Z → w_is_within K (fin R Z) (startP n_is_within ps) S := by
  intro ps S R Z hl h
  obtain ⟨p, a, b, rfl, hp, h⟩ := h
  have e : startP n_is_within [p, .int a, .int b] = [some p, some (.int a), some (.int b)] := rfl
  rw [e]
  simp -implicitDefEqProofs only [w_is_within, ↓Qa, ↓Qb, ↓Qc, ↓Qd, ↓Qe, ↓Qg, ↓Qh, ↓Qi, ↓Qj, ↓Qk, ↓Ql, ↓par2_two, ↓Qm, ↓Qn, ↓Qo, ↓Qp, ↓Qq, ↓Qr, ↓Qs, ↓Qt, ↓Qu, ↓Qv, ↓Qw, ↓Qx, ↓Qy, ↓Qz, ↓Q0, ↓truK_bl, ↓Q3, ↓Q4, ↓Q5, ↓Q6, ↓chK_bl, ↓Q7, ↓Q8, ↓Q9, ↓Ya, ↓Yb, ↓Yc, ↓Yd, ↓Ye, ↓Yf, ↓Yg, ↓Yh, ↓Yi, ↓Yj, ↓Yk, ↓Ym, ↓Yn, ↓Yo, ↓Yp, ↓Yq, ↓Yr, ↓Ys, ↓Yt, ↓Yu, ↓Yv, ↓Yw, ↓Yx, ↓Yy, ↓Yz, ↓Y0, ↓Y1, ↓Y2, ↓Y3, ↓Y4, ↓Y5, ↓Y6, ↓Y7, ↓Y8, ↓Y9, ↓Ja, ↓Jb, ↓Jc, ↓Jd, ↓Je, ↓Jf, ↓Jg, ↓Jh, ↓Ji, ↓Jj, ↓Jk, ↓Jl, ↓Jm, ↓Jn, ↓Jo, ↓Jp, ↓Jq, ↓Jr, ↓Js, ↓Jt, ↓Ju, ↓Jw, ↓Jx, ↓Jy, ↓Jz, ↓J1, ↓J2, ↓J3, ↓J4, ↓J5, ↓J6, ↓J7, ↓J8, ↓J9, ↓Qaa, ↓Qab, ↓Qac, ↓Qad, ↓Qae, ↓par3_three, ↓Qaf, ↓Qag, ↓Qah, ↓Qai, ↓Qaj, ↓Qak, ↓Qal, ↓Qam, ↓Qan, ↓Qao, ↓Qap, ↓Qaq, ↓Qar, ↓Qas, ↓Qat, ↓Qau, ↓Qav, ↓Qaw, ↓Qax, ↓Qay, ↓Qaz, ↓Qa0, ↓Qa1, ↓Qa2, ↓Qa3, ↓Qa4, ↓Qa5, ↓Qa6, ↓Qa7, ↓Qa8, ↓Qa9, ↓Qba, ↓Qbb, ↓Qbc, ↓Qbd, ↓Qbe, ↓Qbf, ↓Qbg, ↓Qbh, ↓Qbi, ↓Qbj, ↓Qbk, ↓Qbl, List.set_cons_zero, List.set_cons_succ, wipeP]
  refine ⟨rfl, t_is_integer hp ?_⟩
  rw [truK_bl]
  rcases pn_int_or hp with ⟨i, rfl⟩ | ⟨hi, hn⟩
  · rw [isA_int, isA_int_b]
    simp -implicitDefEqProofs only [Bool.not_false, Bool.and_self, if_true, ↓Qa, ↓Qb, ↓Qc, ↓Qd, ↓Qe, ↓Qg, ↓Qh, ↓Qi, ↓Qj, ↓Qk, ↓Ql, ↓par2_two, ↓Qm, ↓Qn, ↓Qo, ↓Qp, ↓Qq, ↓Qr, ↓Qs, ↓Qt, ↓Qu, ↓Qv, ↓Qw, ↓Qx, ↓Qy, ↓Qz, ↓Q0, ↓truK_bl, ↓Q3, ↓Q4, ↓Q5, ↓Q6, ↓chK_bl, ↓Q7, ↓Q8, ↓Q9, ↓Ya, ↓Yb, ↓Yc, ↓Yd, ↓Ye, ↓Yf, ↓Yg, ↓Yh, ↓Yi, ↓Yj, ↓Yk, ↓Ym, ↓Yn, ↓Yo, ↓Yp, ↓Yq, ↓Yr, ↓Ys, ↓Yt, ↓Yu, ↓Yv, ↓Yw, ↓Yx, ↓Yy, ↓Yz, ↓Y0, ↓Y1, ↓Y2, ↓Y3, ↓Y4, ↓Y5, ↓Y6, ↓Y7, ↓Y8, ↓Y9, ↓Ja, ↓Jb, ↓Jc, ↓Jd, ↓Je, ↓Jf, ↓Jg, ↓Jh, ↓Ji, ↓Jj, ↓Jk, ↓Jl, ↓Jm, ↓Jn, ↓Jo, ↓Jp, ↓Jq, ↓Jr, ↓Js, ↓Jt, ↓Ju, ↓Jw, ↓Jx, ↓Jy, ↓Jz, ↓J1, ↓J2, ↓J3, ↓J4, ↓J5, ↓J6, ↓J7, ↓J8, ↓J9, ↓Qaa, ↓Qab, ↓Qac, ↓Qad, ↓Qae, ↓par3_three, ↓Qaf, ↓Qag, ↓Qah, ↓Qai, ↓Qaj, ↓Qak, ↓Qal, ↓Qam, ↓Qan, ↓Qao, ↓Qap, ↓Qaq, ↓Qar, ↓Qas, ↓Qat, ↓Qau, ↓Qav, ↓Qaw, ↓Qax, ↓Qay, ↓Qaz, ↓Qa0, ↓Qa1, ↓Qa2, ↓Qa3, ↓Qa4, ↓Qa5, ↓Qa6, ↓Qa7, ↓Qa8, ↓Qa9, ↓Qba, ↓Qbb, ↓Qbc, ↓Qbd, ↓Qbe, ↓Qbf, ↓Qbg, ↓Qbh, ↓Qbi, ↓Qbj, ↓Qbk, ↓Qbl, List.set_cons_zero, List.set_cons_succ, wipeP]
    have h : R (.bl (decide (a ≤ i) && decide (i ≤ b))) S := h
    by_cases q : a ≤ i
    · rw [decide_eq_true q] at h ⊢
      rw [Bool.true_and] at h
      simp only [if_true]
      exact gR_now h
    · rw [decide_eq_false q] at h ⊢
      rw [Bool.false_and] at h
      simp only [Bool.false_eq_true, if_false]
      exact gR_now h
  · rw [hi]
    simp only [Bool.false_eq_true, if_false]
    have e : inI p a b = false := by
      unfold inI
      cases p <;> first | rfl | exact absurd rfl (hn _)
    rw [e] at h
    exact gR_now h
theorem pure_is_tuple (K : PySem.W.Frag) : ∀ ps S R Z, ps.length = 2 → sp_is_tuple K ps S R Z → w_is_tuple K (fin R Z) (startP n_is_tuple ps) S := by
  intro ps S R Z hl h
  obtain ⟨p, n, rfl, hp, h⟩ := h
  have e : startP n_is_tuple [p, .int n] = [some p, some (.int n)] := rfl
  rw [e]
  simp -implicitDefEqProofs only [w_is_tuple, ↓Qa, ↓Qb, ↓Qc, ↓Qd, ↓Qe, ↓Qg, ↓Qh, ↓Qi, ↓Qj, ↓Qk, ↓Ql, ↓par2_two, ↓Qm, ↓Qn, ↓Qo, ↓Qp, ↓Qq, ↓Qr, ↓Qs, ↓Qt, ↓Qu, ↓Qv, ↓Qw, ↓Qx, ↓Qy, ↓Qz, ↓Q0, ↓truK_bl, ↓Q3, ↓Q4, ↓Q5, ↓Q6, ↓chK_bl, ↓Q7, ↓Q8, ↓Q9, ↓Ya, ↓Yb, ↓Yc, ↓Yd, ↓Ye, ↓Yf, ↓Yg, ↓Yh, ↓Yi, ↓Yj, ↓Yk, ↓Ym, ↓Yn, ↓Yo, ↓Yp, ↓Yq, ↓Yr, ↓Ys, ↓Yt, ↓Yu, ↓Yv, ↓Yw, ↓Yx, ↓Yy, ↓Yz, ↓Y0, ↓Y1, ↓Y2, ↓Y3, ↓Y4, ↓Y5, ↓Y6, ↓Y7, ↓Y8, ↓Y9, ↓Ja, ↓Jb, ↓Jc, ↓Jd, ↓Je, ↓Jf, ↓Jg, ↓Jh, ↓Ji, ↓Jj, ↓Jk, ↓Jl, ↓Jm, ↓Jn, ↓Jo, ↓Jp, ↓Jq, ↓Jr, ↓Js, ↓Jt, ↓Ju, ↓Jw, ↓Jx, ↓Jy, ↓Jz, ↓J1, ↓J2, ↓J3, ↓J4, ↓J5, ↓J6, ↓J7, ↓J8, ↓J9, ↓Qaa, ↓Qab, ↓Qac, ↓Qad, ↓Qae, ↓par3_three, ↓Qaf, ↓Qag, ↓Qah, ↓Qai, ↓Qaj, ↓Qak, ↓Qal, ↓Qam, ↓Qan, ↓Qao, ↓Qap, ↓Qaq, ↓Qar, ↓Qas, ↓Qat, ↓Qau, ↓Qav, ↓Qaw, ↓Qax, ↓Qay, ↓Qaz, ↓Qa0, ↓Qa1, ↓Qa2, ↓Qa3, ↓Qa4, ↓Qa5, ↓Qa6, ↓Qa7, ↓Qa8, ↓Qa9, ↓Qba, ↓Qbb, ↓Qbc, ↓Qbd, ↓Qbe, ↓Qbf, ↓Qbg, ↓Qbh, ↓Qbi, ↓Qbj, ↓Qbk, ↓Qbl, List.set_cons_zero, List.set_cons_succ, wipeP]
  rw [k_isB_pn (by decide) hp]
  simp -implicitDefEqProofs only [↓Qa, ↓Qb, ↓Qc, ↓Qd, ↓Qe, ↓Qg, ↓Qh, ↓Qi, ↓Qj, ↓Qk, ↓Ql, ↓par2_two, ↓Qm, ↓Qn, ↓Qo, ↓Qp, ↓Qq, ↓Qr, ↓Qs, ↓Qt, ↓Qu, ↓Qv, ↓Qw, ↓Qx, ↓Qy, ↓Qz, ↓Q0, ↓truK_bl, ↓Q3, ↓Q4, ↓Q5, ↓Q6, ↓chK_bl, ↓Q7, ↓Q8, ↓Q9, ↓Ya, ↓Yb, ↓Yc, ↓Yd, ↓Ye, ↓Yf, ↓Yg, ↓Yh, ↓Yi, ↓Yj, ↓Yk, ↓Ym, ↓Yn, ↓Yo, ↓Yp, ↓Yq, ↓Yr, ↓Ys, ↓Yt, ↓Yu, ↓Yv, ↓Yw, ↓Yx, ↓Yy, ↓Yz, ↓Y0, ↓Y1, ↓Y2, ↓Y3, ↓Y4, ↓Y5, ↓Y6, ↓Y7, ↓Y8, ↓Y9, ↓Ja, ↓Jb, ↓Jc, ↓Jd, ↓Je, ↓Jf, ↓Jg, ↓Jh, ↓Ji, ↓Jj, ↓Jk, ↓Jl, ↓Jm, ↓Jn, ↓Jo, ↓Jp, ↓Jq, ↓Jr, ↓Js, ↓Jt, ↓Ju, ↓Jw, ↓Jx, ↓Jy, ↓Jz, ↓J1, ↓J2, ↓J3, ↓J4, ↓J5, ↓J6, ↓J7, ↓J8, ↓J9, ↓Qaa, ↓Qab, ↓Qac, ↓Qad, ↓Qae, ↓par3_three, ↓Qaf, ↓Qag, ↓Qah, ↓Qai, ↓Qaj, ↓Qak, ↓Qal, ↓Qam, ↓Qan, ↓Qao, ↓Qap, ↓Qaq, ↓Qar, ↓Qas, ↓Qat, ↓Qau, ↓Qav, ↓Qaw, ↓Qax, ↓Qay, ↓Qaz, ↓Qa0, ↓Qa1, ↓Qa2, ↓Qa3, ↓Qa4, ↓Qa5, ↓Qa6, ↓Qa7, ↓Qa8, ↓Qa9, ↓Qba, ↓Qbb, ↓Qbc, ↓Qbd, ↓Qbe, ↓Qbf, ↓Qbg, ↓Qbh, ↓Qbi, ↓Qbj, ↓Qbk, ↓Qbl, List.set_cons_zero, List.set_cons_succ, wipeP]
  rcases pn_tup_or hp with ⟨xs, rfl⟩ | ⟨hi, hn⟩
  · rw [isA_tup]
    simp -implicitDefEqProofs only [↓Qa, ↓Qb, ↓Qc, ↓Qd, ↓Qe, ↓Qg, ↓Qh, ↓Qi, ↓Qj, ↓Qk, ↓Ql, ↓par2_two, ↓Qm, ↓Qn, ↓Qo, ↓Qp, ↓Qq, ↓Qr, ↓Qs, ↓Qt, ↓Qu, ↓Qv, ↓Qw, ↓Qx, ↓Qy, ↓Qz, ↓Q0, ↓truK_bl, ↓Q3, ↓Q4, ↓Q5, ↓Q6, ↓chK_bl, ↓Q7, ↓Q8, ↓Q9, ↓Ya, ↓Yb, ↓Yc, ↓Yd, ↓Ye, ↓Yf, ↓Yg, ↓Yh, ↓Yi, ↓Yj, ↓Yk, ↓Ym, ↓Yn, ↓Yo, ↓Yp, ↓Yq, ↓Yr, ↓Ys, ↓Yt, ↓Yu, ↓Yv, ↓Yw, ↓Yx, ↓Yy, ↓Yz, ↓Y0, ↓Y1, ↓Y2, ↓Y3, ↓Y4, ↓Y5, ↓Y6, ↓Y7, ↓Y8, ↓Y9, ↓Ja, ↓Jb, ↓Jc, ↓Jd, ↓Je, ↓Jf, ↓Jg, ↓Jh, ↓Ji, ↓Jj, ↓Jk, ↓Jl, ↓Jm, ↓Jn, ↓Jo, ↓Jp, ↓Jq, ↓Jr, ↓Js, ↓Jt, ↓Ju, ↓Jw, ↓Jx, ↓Jy, ↓Jz, ↓J1, ↓J2, ↓J3, ↓J4, ↓J5, ↓J6, ↓J7, ↓J8, ↓J9, ↓Qaa, ↓Qab, ↓Qac, ↓Qad, ↓Qae, ↓par3_three, ↓Qaf, ↓Qag, ↓Qah, ↓Qai, ↓Qaj, ↓Qak, ↓Qal, ↓Qam, ↓Qan, ↓Qao, ↓Qap, ↓Qaq, ↓Qar, ↓Qas, ↓Qat, ↓Qau, ↓Qav, ↓Qaw, ↓Qax, ↓Qay, ↓Qaz, ↓Qa0, ↓Qa1, ↓Qa2, ↓Qa3, ↓Qa4, ↓Qa5, ↓Qa6, ↓Qa7, ↓Qa8, ↓Qa9, ↓Qba, ↓Qbb, ↓Qbc, ↓Qbd, ↓Qbe, ↓Qbf, ↓Qbg, ↓Qbh, ↓Qbi, ↓Qbj, ↓Qbk, ↓Qbl, List.set_cons_zero, List.set_cons_succ, wipeP, if_true, Bool.bne_false]
    exact gR_now h
  · rw [hi]
    simp only [Bool.false_eq_true, if_false]
    have e : isTupP p n = false := by
      unfold isTupP
      cases p <;> first | rfl | exact absurd rfl (hn _)
    rw [e] at h
    exact gR_now h
theorem pure_is_name (K : PySem.W.Frag) : ∀ ps S R Z, ps.length = 1 → sp_is_name K ps S R Z → w_is_name K (fin R Z) (startP n_is_name ps) S := by
  intro ps S R Z hl h
  obtain ⟨p, rfl, hp, h⟩ := h
  have e : startP n_is_name [p] = [some p, none] := rfl
  rw [e]
  simp -implicitDefEqProofs only [w_is_name, ↓Qa, ↓Qb, ↓Qc, ↓Qd, ↓Qe, ↓Qg, ↓Qh, ↓Qi, ↓Qj, ↓Qk, ↓Ql, ↓par2_two, ↓Qm, ↓Qn, ↓Qo, ↓Qp, ↓Qq, ↓Qr, ↓Qs, ↓Qt, ↓Qu, ↓Qv, ↓Qw, ↓Qx, ↓Qy, ↓Qz, ↓Q0, ↓truK_bl, ↓Q3, ↓Q4, ↓Q5, ↓Q6, ↓chK_bl, ↓Q7, ↓Q8, ↓Q9, ↓Ya, ↓Yb, ↓Yc, ↓Yd, ↓Ye, ↓Yf, ↓Yg, ↓Yh, ↓Yi, ↓Yj, ↓Yk, ↓Ym, ↓Yn, ↓Yo, ↓Yp, ↓Yq, ↓Yr, ↓Ys, ↓Yt, ↓Yu, ↓Yv, ↓Yw, ↓Yx, ↓Yy, ↓Yz, ↓Y0, ↓Y1, ↓Y2, ↓Y3, ↓Y4, ↓Y5, ↓Y6, ↓Y7, ↓Y8, ↓Y9, ↓Ja, ↓Jb, ↓Jc, ↓Jd, ↓Je, ↓Jf, ↓Jg, ↓Jh, ↓Ji, ↓Jj, ↓Jk, ↓Jl, ↓Jm, ↓Jn, ↓Jo, ↓Jp, ↓Jq, ↓Jr, ↓Js, ↓Jt, ↓Ju, ↓Jw, ↓Jx, ↓Jy, ↓Jz, ↓J1, ↓J2, ↓J3, ↓J4, ↓J5, ↓J6, ↓J7, ↓J8, ↓J9, ↓Qaa, ↓Qab, ↓Qac, ↓Qad, ↓Qae, ↓par3_three, ↓Qaf, ↓Qag, ↓Qah, ↓Qai, ↓Qaj, ↓Qak, ↓Qal, ↓Qam, ↓Qan, ↓Qao, ↓Qap, ↓Qaq, ↓Qar, ↓Qas, ↓Qat, ↓Qau, ↓Qav, ↓Qaw, ↓Qax, ↓Qay, ↓Qaz, ↓Qa0, ↓Qa1, ↓Qa2, ↓Qa3, ↓Qa4, ↓Qa5, ↓Qa6, ↓Qa7, ↓Qa8, ↓Qa9, ↓Qba, ↓Qbb, ↓Qbc, ↓Qbd, ↓Qbe, ↓Qbf, ↓Qbg, ↓Qbh, ↓Qbi, ↓Qbj, ↓Qbk, ↓Qbl, List.set_cons_zero, List.set_cons_succ, wipeP]
  rw [k_isB_pn (by decide) hp]
  rcases pn_str_or hp with ⟨x, rfl, hz⟩ | ⟨hi, hn⟩
  · rw [isA_str]
    simp -implicitDefEqProofs only [↓Qa, ↓Qb, ↓Qc, ↓Qd, ↓Qe, ↓Qg, ↓Qh, ↓Qi, ↓Qj, ↓Qk, ↓Ql, ↓par2_two, ↓Qm, ↓Qn, ↓Qo, ↓Qp, ↓Qq, ↓Qr, ↓Qs, ↓Qt, ↓Qu, ↓Qv, ↓Qw, ↓Qx, ↓Qy, ↓Qz, ↓Q0, ↓truK_bl, ↓Q3, ↓Q4, ↓Q5, ↓Q6, ↓chK_bl, ↓Q7, ↓Q8, ↓Q9, ↓Ya, ↓Yb, ↓Yc, ↓Yd, ↓Ye, ↓Yf, ↓Yg, ↓Yh, ↓Yi, ↓Yj, ↓Yk, ↓Ym, ↓Yn, ↓Yo, ↓Yp, ↓Yq, ↓Yr, ↓Ys, ↓Yt, ↓Yu, ↓Yv, ↓Yw, ↓Yx, ↓Yy, ↓Yz, ↓Y0, ↓Y1, ↓Y2, ↓Y3, ↓Y4, ↓Y5, ↓Y6, ↓Y7, ↓Y8, ↓Y9, ↓Ja, ↓Jb, ↓Jc, ↓Jd, ↓Je, ↓Jf, ↓Jg, ↓Jh, ↓Ji, ↓Jj, ↓Jk, ↓Jl, ↓Jm, ↓Jn, ↓Jo, ↓Jp, ↓Jq, ↓Jr, ↓Js, ↓Jt, ↓Ju, ↓Jw, ↓Jx, ↓Jy, ↓Jz, ↓J1, ↓J2, ↓J3, ↓J4, ↓J5, ↓J6, ↓J7, ↓J8, ↓J9, ↓Qaa, ↓Qab, ↓Qac, ↓Qad, ↓Qae, ↓par3_three, ↓Qaf, ↓Qag, ↓Qah, ↓Qai, ↓Qaj, ↓Qak, ↓Qal, ↓Qam, ↓Qan, ↓Qao, ↓Qap, ↓Qaq, ↓Qar, ↓Qas, ↓Qat, ↓Qau, ↓Qav, ↓Qaw, ↓Qax, ↓Qay, ↓Qaz, ↓Qa0, ↓Qa1, ↓Qa2, ↓Qa3, ↓Qa4, ↓Qa5, ↓Qa6, ↓Qa7, ↓Qa8, ↓Qa9, ↓Qba, ↓Qbb, ↓Qbc, ↓Qbd, ↓Qbe, ↓Qbf, ↓Qbg, ↓Qbh, ↓Qbi, ↓Qbj, ↓Qbk, ↓Qbl, List.set_cons_zero, List.set_cons_succ, wipeP, if_true]
    refine ⟨hz, ?_⟩
    have h : R (.bl (nameB x)) S := h
    have c1 : decide ((1 : Int) ≤ (x.length : Int)) = decide (1 ≤ x.length) := by rw [Bool.eq_iff_iff, decide_eq_true_iff, decide_eq_true_iff]; omega
    have c2 : decide ((x.length : Int) ≤ 8) = decide (x.length ≤ 8) := by rw [Bool.eq_iff_iff, decide_eq_true_iff, decide_eq_true_iff]; omega
    rw [c1, c2]
    unfold nameB at h
    by_cases q1 : 1 ≤ x.length
    · rw [decide_eq_true q1] at h ⊢
      rw [Bool.true_and] at h
      simp -implicitDefEqProofs only [↓Qa, ↓Qb, ↓Qc, ↓Qd, ↓Qe, ↓Qg, ↓Qh, ↓Qi, ↓Qj, ↓Qk, ↓Ql, ↓par2_two, ↓Qm, ↓Qn, ↓Qo, ↓Qp, ↓Qq, ↓Qr, ↓Qs, ↓Qt, ↓Qu, ↓Qv, ↓Qw, ↓Qx, ↓Qy, ↓Qz, ↓Q0, ↓truK_bl, ↓Q3, ↓Q4, ↓Q5, ↓Q6, ↓chK_bl, ↓Q7, ↓Q8, ↓Q9, ↓Ya, ↓Yb, ↓Yc, ↓Yd, ↓Ye, ↓Yf, ↓Yg, ↓Yh, ↓Yi, ↓Yj, ↓Yk, ↓Ym, ↓Yn, ↓Yo, ↓Yp, ↓Yq, ↓Yr, ↓Ys, ↓Yt, ↓Yu, ↓Yv, ↓Yw, ↓Yx, ↓Yy, ↓Yz, ↓Y0, ↓Y1, ↓Y2, ↓Y3, ↓Y4, ↓Y5, ↓Y6, ↓Y7, ↓Y8, ↓Y9, ↓Ja, ↓Jb, ↓Jc, ↓Jd, ↓Je, ↓Jf, ↓Jg, ↓Jh, ↓Ji, ↓Jj, ↓Jk, ↓Jl, ↓Jm, ↓Jn, ↓Jo, ↓Jp, ↓Jq, ↓Jr, ↓Js, ↓Jt, ↓Ju, ↓Jw, ↓Jx, ↓Jy, ↓Jz, ↓J1, ↓J2, ↓J3, ↓J4, ↓J5, ↓J6, ↓J7, ↓J8, ↓J9, ↓Qaa, ↓Qab, ↓Qac, ↓Qad, ↓Qae, ↓par3_three, ↓Qaf, ↓Qag, ↓Qah, ↓Qai, ↓Qaj, ↓Qak, ↓Qal, ↓Qam, ↓Qan, ↓Qao, ↓Qap, ↓Qaq, ↓Qar, ↓Qas, ↓Qat, ↓Qau, ↓Qav, ↓Qaw, ↓Qax, ↓Qay, ↓Qaz, ↓Qa0, ↓Qa1, ↓Qa2, ↓Qa3, ↓Qa4, ↓Qa5, ↓Qa6, ↓Qa7, ↓Qa8, ↓Qa9, ↓Qba, ↓Qbb, ↓Qbc, ↓Qbd, ↓Qbe, ↓Qbf, ↓Qbg, ↓Qbh, ↓Qbi, ↓Qbj, ↓Qbk, ↓Qbl, List.set_cons_zero, List.set_cons_succ, wipeP, if_true]
      by_cases q2 : x.length ≤ 8
      · rw [decide_eq_true q2] at h ⊢
        rw [Bool.true_and] at h
        simp -implicitDefEqProofs only [↓Qa, ↓Qb, ↓Qc, ↓Qd, ↓Qe, ↓Qg, ↓Qh, ↓Qi, ↓Qj, ↓Qk, ↓Ql, ↓par2_two, ↓Qm, ↓Qn, ↓Qo, ↓Qp, ↓Qq, ↓Qr, ↓Qs, ↓Qt, ↓Qu, ↓Qv, ↓Qw, ↓Qx, ↓Qy, ↓Qz, ↓Q0, ↓truK_bl, ↓Q3, ↓Q4, ↓Q5, ↓Q6, ↓chK_bl, ↓Q7, ↓Q8, ↓Q9, ↓Ya, ↓Yb, ↓Yc, ↓Yd, ↓Ye, ↓Yf, ↓Yg, ↓Yh, ↓Yi, ↓Yj, ↓Yk, ↓Ym, ↓Yn, ↓Yo, ↓Yp, ↓Yq, ↓Yr, ↓Ys, ↓Yt, ↓Yu, ↓Yv, ↓Yw, ↓Yx, ↓Yy, ↓Yz, ↓Y0, ↓Y1, ↓Y2, ↓Y3, ↓Y4, ↓Y5, ↓Y6, ↓Y7, ↓Y8, ↓Y9, ↓Ja, ↓Jb, ↓Jc, ↓Jd, ↓Je, ↓Jf, ↓Jg, ↓Jh, ↓Ji, ↓Jj, ↓Jk, ↓Jl, ↓Jm, ↓Jn, ↓Jo, ↓Jp, ↓Jq, ↓Jr, ↓Js, ↓Jt, ↓Ju, ↓Jw, ↓Jx, ↓Jy, ↓Jz, ↓J1, ↓J2, ↓J3, ↓J4, ↓J5, ↓J6, ↓J7, ↓J8, ↓J9, ↓Qaa, ↓Qab, ↓Qac, ↓Qad, ↓Qae, ↓par3_three, ↓Qaf, ↓Qag, ↓Qah, ↓Qai, ↓Qaj, ↓Qak, ↓Qal, ↓Qam, ↓Qan, ↓Qao, ↓Qap, ↓Qaq, ↓Qar, ↓Qas, ↓Qat, ↓Qau, ↓Qav, ↓Qaw, ↓Qax, ↓Qay, ↓Qaz, ↓Qa0, ↓Qa1, ↓Qa2, ↓Qa3, ↓Qa4, ↓Qa5, ↓Qa6, ↓Qa7, ↓Qa8, ↓Qa9, ↓Qba, ↓Qbb, ↓Qbc, ↓Qbd, ↓Qbe, ↓Qbf, ↓Qbg, ↓Qbh, ↓Qbi, ↓Qbj, ↓Qbk, ↓Qbl, List.set_cons_zero, List.set_cons_succ, wipeP, if_true, J6]
        refine wLcL_allM (fun c => PV.str ⟨#[c]⟩) (fun c => PV.bl (small.contains c)) trivial _ (fun c hc R' hR => ?_) ?_ ?_
        · simp -implicitDefEqProofs only [w_is_name_1, ↓Qa, ↓Qb, ↓Qc, ↓Qd, ↓Qe, ↓Qg, ↓Qh, ↓Qi, ↓Qj, ↓Qk, ↓Ql, ↓par2_two, ↓Qm, ↓Qn, ↓Qo, ↓Qp, ↓Qq, ↓Qr, ↓Qs, ↓Qt, ↓Qu, ↓Qv, ↓Qw, ↓Qx, ↓Qy, ↓Qz, ↓Q0, ↓truK_bl, ↓Q3, ↓Q4, ↓Q5, ↓Q6, ↓chK_bl, ↓Q7, ↓Q8, ↓Q9, ↓Ya, ↓Yb, ↓Yc, ↓Yd, ↓Ye, ↓Yf, ↓Yg, ↓Yh, ↓Yi, ↓Yj, ↓Yk, ↓Ym, ↓Yn, ↓Yo, ↓Yp, ↓Yq, ↓Yr, ↓Ys, ↓Yt, ↓Yu, ↓Yv, ↓Yw, ↓Yx, ↓Yy, ↓Yz, ↓Y0, ↓Y1, ↓Y2, ↓Y3, ↓Y4, ↓Y5, ↓Y6, ↓Y7, ↓Y8, ↓Y9, ↓Ja, ↓Jb, ↓Jc, ↓Jd, ↓Je, ↓Jf, ↓Jg, ↓Jh, ↓Ji, ↓Jj, ↓Jk, ↓Jl, ↓Jm, ↓Jn, ↓Jo, ↓Jp, ↓Jq, ↓Jr, ↓Js, ↓Jt, ↓Ju, ↓Jw, ↓Jx, ↓Jy, ↓Jz, ↓J1, ↓J2, ↓J3, ↓J4, ↓J5, ↓J6, ↓J7, ↓J8, ↓J9, ↓Qaa, ↓Qab, ↓Qac, ↓Qad, ↓Qae, ↓par3_three, ↓Qaf, ↓Qag, ↓Qah, ↓Qai, ↓Qaj, ↓Qak, ↓Qal, ↓Qam, ↓Qan, ↓Qao, ↓Qap, ↓Qaq, ↓Qar, ↓Qas, ↓Qat, ↓Qau, ↓Qav, ↓Qaw, ↓Qax, ↓Qay, ↓Qaz, ↓Qa0, ↓Qa1, ↓Qa2, ↓Qa3, ↓Qa4, ↓Qa5, ↓Qa6, ↓Qa7, ↓Qa8, ↓Qa9, ↓Qba, ↓Qbb, ↓Qbc, ↓Qbd, ↓Qbe, ↓Qbf, ↓Qbg, ↓Qbh, ↓Qbi, ↓Qbj, ↓Qbk, ↓Qbl, List.set_cons_zero, List.set_cons_succ, wipeP]
          unfold kIn
          simp -implicitDefEqProofs only [↓Qa, ↓Qb, ↓Qc, ↓Qd, ↓Qe, ↓Qg, ↓Qh, ↓Qi, ↓Qj, ↓Qk, ↓Ql, ↓par2_two, ↓Qm, ↓Qn, ↓Qo, ↓Qp, ↓Qq, ↓Qr, ↓Qs, ↓Qt, ↓Qu, ↓Qv, ↓Qw, ↓Qx, ↓Qy, ↓Qz, ↓Q0, ↓truK_bl, ↓Q3, ↓Q4, ↓Q5, ↓Q6, ↓chK_bl, ↓Q7, ↓Q8, ↓Q9, ↓Ya, ↓Yb, ↓Yc, ↓Yd, ↓Ye, ↓Yf, ↓Yg, ↓Yh, ↓Yi, ↓Yj, ↓Yk, ↓Ym, ↓Yn, ↓Yo, ↓Yp, ↓Yq, ↓Yr, ↓Ys, ↓Yt, ↓Yu, ↓Yv, ↓Yw, ↓Yx, ↓Yy, ↓Yz, ↓Y0, ↓Y1, ↓Y2, ↓Y3, ↓Y4, ↓Y5, ↓Y6, ↓Y7, ↓Y8, ↓Y9, ↓Ja, ↓Jb, ↓Jc, ↓Jd, ↓Je, ↓Jf, ↓Jg, ↓Jh, ↓Ji, ↓Jj, ↓Jk, ↓Jl, ↓Jm, ↓Jn, ↓Jo, ↓Jp, ↓Jq, ↓Jr, ↓Js, ↓Jt, ↓Ju, ↓Jw, ↓Jx, ↓Jy, ↓Jz, ↓J1, ↓J2, ↓J3, ↓J4, ↓J5, ↓J6, ↓J7, ↓J8, ↓J9, ↓Qaa, ↓Qab, ↓Qac, ↓Qad, ↓Qae, ↓par3_three, ↓Qaf, ↓Qag, ↓Qah, ↓Qai, ↓Qaj, ↓Qak, ↓Qal, ↓Qam, ↓Qan, ↓Qao, ↓Qap, ↓Qaq, ↓Qar, ↓Qas, ↓Qat, ↓Qau, ↓Qav, ↓Qaw, ↓Qax, ↓Qay, ↓Qaz, ↓Qa0, ↓Qa1, ↓Qa2, ↓Qa3, ↓Qa4, ↓Qa5, ↓Qa6, ↓Qa7, ↓Qa8, ↓Qa9, ↓Qba, ↓Qbb, ↓Qbc, ↓Qbd, ↓Qbe, ↓Qbf, ↓Qbg, ↓Qbh, ↓Qbi, ↓Qbj, ↓Qbk, ↓Qbl, List.set_cons_zero, List.set_cons_succ, wipeP]
          refine ⟨rfl, ?_⟩
          rw [Bool.bne_false]
          exact hR
        · have : x.cps.toList.length = x.length := by simp [Str.length]
          omega
        · rw [k_allM]
          exact gR_now h
      · rw [decide_eq_false q2] at h ⊢
        simp -implicitDefEqProofs only [↓Qa, ↓Qb, ↓Qc, ↓Qd, ↓Qe, ↓Qg, ↓Qh, ↓Qi, ↓Qj, ↓Qk, ↓Ql, ↓par2_two, ↓Qm, ↓Qn, ↓Qo, ↓Qp, ↓Qq, ↓Qr, ↓Qs, ↓Qt, ↓Qu, ↓Qv, ↓Qw, ↓Qx, ↓Qy, ↓Qz, ↓Q0, ↓truK_bl, ↓Q3, ↓Q4, ↓Q5, ↓Q6, ↓chK_bl, ↓Q7, ↓Q8, ↓Q9, ↓Ya, ↓Yb, ↓Yc, ↓Yd, ↓Ye, ↓Yf, ↓Yg, ↓Yh, ↓Yi, ↓Yj, ↓Yk, ↓Ym, ↓Yn, ↓Yo, ↓Yp, ↓Yq, ↓Yr, ↓Ys, ↓Yt, ↓Yu, ↓Yv, ↓Yw, ↓Yx, ↓Yy, ↓Yz, ↓Y0, ↓Y1, ↓Y2, ↓Y3, ↓Y4, ↓Y5, ↓Y6, ↓Y7, ↓Y8, ↓Y9, ↓Ja, ↓Jb, ↓Jc, ↓Jd, ↓Je, ↓Jf, ↓Jg, ↓Jh, ↓Ji, ↓Jj, ↓Jk, ↓Jl, ↓Jm, ↓Jn, ↓Jo, ↓Jp, ↓Jq, ↓Jr, ↓Js, ↓Jt, ↓Ju, ↓Jw, ↓Jx, ↓Jy, ↓Jz, ↓J1, ↓J2, ↓J3, ↓J4, ↓J5, ↓J6, ↓J7, ↓J8, ↓J9, ↓Qaa, ↓Qab, ↓Qac, ↓Qad, ↓Qae, ↓par3_three, ↓Qaf, ↓Qag, ↓Qah, ↓Qai, ↓Qaj, ↓Qak, ↓Qal, ↓Qam, ↓Qan, ↓Qao, ↓Qap, ↓Qaq, ↓Qar, ↓Qas, ↓Qat, ↓Qau, ↓Qav, ↓Qaw, ↓Qax, ↓Qay, ↓Qaz, ↓Qa0, ↓Qa1, ↓Qa2, ↓Qa3, ↓Qa4, ↓Qa5, ↓Qa6, ↓Qa7, ↓Qa8, ↓Qa9, ↓Qba, ↓Qbb, ↓Qbc, ↓Qbd, ↓Qbe, ↓Qbf, ↓Qbg, ↓Qbh, ↓Qbi, ↓Qbj, ↓Qbk, ↓Qbl, List.set_cons_zero, List.set_cons_succ, wipeP, Bool.false_and] at h ⊢
        rw [if_neg (by decide)]
        exact gR_now h
    · rw [decide_eq_false q1] at h ⊢
      simp -implicitDefEqProofs only [↓Qa, ↓Qb, ↓Qc, ↓Qd, ↓Qe, ↓Qg, ↓Qh, ↓Qi, ↓Qj, ↓Qk, ↓Ql, ↓par2_two, ↓Qm, ↓Qn, ↓Qo, ↓Qp, ↓Qq, ↓Qr, ↓Qs, ↓Qt, ↓Qu, ↓Qv, ↓Qw, ↓Qx, ↓Qy, ↓Qz, ↓Q0, ↓truK_bl, ↓Q3, ↓Q4, ↓Q5, ↓Q6, ↓chK_bl, ↓Q7, ↓Q8, ↓Q9, ↓Ya, ↓Yb, ↓Yc, ↓Yd, ↓Ye, ↓Yf, ↓Yg, ↓Yh, ↓Yi, ↓Yj, ↓Yk, ↓Ym, ↓Yn, ↓Yo, ↓Yp, ↓Yq, ↓Yr, ↓Ys, ↓Yt, ↓Yu, ↓Yv, ↓Yw, ↓Yx, ↓Yy, ↓Yz, ↓Y0, ↓Y1, ↓Y2, ↓Y3, ↓Y4, ↓Y5, ↓Y6, ↓Y7, ↓Y8, ↓Y9, ↓Ja, ↓Jb, ↓Jc, ↓Jd, ↓Je, ↓Jf, ↓Jg, ↓Jh, ↓Ji, ↓Jj, ↓Jk, ↓Jl, ↓Jm, ↓Jn, ↓Jo, ↓Jp, ↓Jq, ↓Jr, ↓Js, ↓Jt, ↓Ju, ↓Jw, ↓Jx, ↓Jy, ↓Jz, ↓J1, ↓J2, ↓J3, ↓J4, ↓J5, ↓J6, ↓J7, ↓J8, ↓J9, ↓Qaa, ↓Qab, ↓Qac, ↓Qad, ↓Qae, ↓par3_three, ↓Qaf, ↓Qag, ↓Qah, ↓Qai, ↓Qaj, ↓Qak, ↓Qal, ↓Qam, ↓Qan, ↓Qao, ↓Qap, ↓Qaq, ↓Qar, ↓Qas, ↓Qat, ↓Qau, ↓Qav, ↓Qaw, ↓Qax, ↓Qay, ↓Qaz, ↓Qa0, ↓Qa1, ↓Qa2, ↓Qa3, ↓Qa4, ↓Qa5, ↓Qa6, ↓Qa7, ↓Qa8, ↓Qa9, ↓Qba, ↓Qbb, ↓Qbc, ↓Qbd, ↓Qbe, ↓Qbf, ↓Qbg, ↓Qbh, ↓Qbi, ↓Qbj, ↓Qbk, ↓Qbl, List.set_cons_zero, List.set_cons_succ, wipeP, Bool.false_and] at h ⊢
      rw [if_neg (by decide)]
      exact gR_now h
  · rw [hi]
    simp -implicitDefEqProofs only [↓Qa, ↓Qb, ↓Qc, ↓Qd, ↓Qe, ↓Qg, ↓Qh, ↓Qi, ↓Qj, ↓Qk, ↓Ql, ↓par2_two, ↓Qm, ↓Qn, ↓Qo, ↓Qp, ↓Qq, ↓Qr, ↓Qs, ↓Qt, ↓Qu, ↓Qv, ↓Qw, ↓Qx, ↓Qy, ↓Qz, ↓Q0, ↓truK_bl, ↓Q3, ↓Q4, ↓Q5, ↓Q6, ↓chK_bl, ↓Q7, ↓Q8, ↓Q9, ↓Ya, ↓Yb, ↓Yc, ↓Yd, ↓Ye, ↓Yf, ↓Yg, ↓Yh, ↓Yi, ↓Yj, ↓Yk, ↓Ym, ↓Yn, ↓Yo, ↓Yp, ↓Yq, ↓Yr, ↓Ys, ↓Yt, ↓Yu, ↓Yv, ↓Yw, ↓Yx, ↓Yy, ↓Yz, ↓Y0, ↓Y1, ↓Y2, ↓Y3, ↓Y4, ↓Y5, ↓Y6, ↓Y7, ↓Y8, ↓Y9, ↓Ja, ↓Jb, ↓Jc, ↓Jd, ↓Je, ↓Jf, ↓Jg, ↓Jh, ↓Ji, ↓Jj, ↓Jk, ↓Jl, ↓Jm, ↓Jn, ↓Jo, ↓Jp, ↓Jq, ↓Jr, ↓Js, ↓Jt, ↓Ju, ↓Jw, ↓Jx, ↓Jy, ↓Jz, ↓J1, ↓J2, ↓J3, ↓J4, ↓J5, ↓J6, ↓J7, ↓J8, ↓J9, ↓Qaa, ↓Qab, ↓Qac, ↓Qad, ↓Qae, ↓par3_three, ↓Qaf, ↓Qag, ↓Qah, ↓Qai, ↓Qaj, ↓Qak, ↓Qal, ↓Qam, ↓Qan, ↓Qao, ↓Qap, ↓Qaq, ↓Qar, ↓Qas, ↓Qat, ↓Qau, ↓Qav, ↓Qaw, ↓Qax, ↓Qay, ↓Qaz, ↓Qa0, ↓Qa1, ↓Qa2, ↓Qa3, ↓Qa4, ↓Qa5, ↓Qa6, ↓Qa7, ↓Qa8, ↓Qa9, ↓Qba, ↓Qbb, ↓Qbc, ↓Qbd, ↓Qbe, ↓Qbf, ↓Qbg, ↓Qbh, ↓Qbi, ↓Qbj, ↓Qbk, ↓Qbl, List.set_cons_zero, List.set_cons_succ, wipeP, Bool.false_eq_true, if_false]
    have e : isNm p = false := by
      unfold isNm
      cases p <;> first | rfl | exact absurd rfl (hn _)
    rw [e] at h
    exact gR_now h
/-- rising, by neighbours -/
theorem ltS_trans {a b c : Str} (h : ltS a b = true) (h' : ltS b c = true) : ltS a c = true := decide_eq_true (List.lt_trans (of_decide_eq_true h) (of_decide_eq_true h'))
theorem rises_iff : ∀ ss : List Str, UpS ss ↔ ∀ i, i + 1 < ss.length → ltS (ss.getD i Str.empty) (ss.getD (i + 1) Str.empty) = true
  | [] => ⟨fun _ i h => by simp at h, fun _ => List.Pairwise.nil⟩
  | [a] => ⟨fun _ i h => by simp at h, fun _ => List.pairwise_singleton _ _⟩
  | a :: b :: r => by
    have ih := rises_iff (b :: r)
    constructor
    · intro h i hi
      have h := List.pairwise_cons.mp h
      cases i with
      | zero => exact h.1 b List.mem_cons_self
      | succ i =>
        have := ih.mp h.2 i (by simp at hi ⊢; omega)
        simpa using this
    · intro h
      have h2 : UpS (b :: r) := ih.mpr fun i hi => by
        have := h (i + 1) (by simp at hi ⊢; omega)
        simpa using this
      have h0 : ltS a b = true := by simpa using h 0 (by simp)
      refine List.pairwise_cons.mpr ⟨fun x hx => ?_, h2⟩
      rcases List.mem_cons.mp hx with e | e
      · rw [e]; exact h0
      · exact ltS_trans h0 ((List.pairwise_cons.mp h2).1 x e)
theorem pure_does_ascend (K : PySem.W.Frag) : ∀ ps S R Z, ps.length = 1 → sp_does_ascend K ps S R Z → w_does_ascend K (fin R Z) (startP n_does_ascend ps) S := by
  intro ps S R Z hl h
  obtain ⟨p, ss, rfl, rfl, hz, h⟩ := h
  have e : startP n_does_ascend [townsP ss] = [some (townsP ss), none] := rfl
  rw [e]
  simp -implicitDefEqProofs only [w_does_ascend, townsP, ↓Qa, ↓Qb, ↓Qc, ↓Qd, ↓Qe, ↓Qg, ↓Qh, ↓Qi, ↓Qj, ↓Qk, ↓Ql, ↓par2_two, ↓Qm, ↓Qn, ↓Qo, ↓Qp, ↓Qq, ↓Qr, ↓Qs, ↓Qt, ↓Qu, ↓Qv, ↓Qw, ↓Qx, ↓Qy, ↓Qz, ↓Q0, ↓truK_bl, ↓Q3, ↓Q4, ↓Q5, ↓Q6, ↓chK_bl, ↓Q7, ↓Q8, ↓Q9, ↓Ya, ↓Yb, ↓Yc, ↓Yd, ↓Ye, ↓Yf, ↓Yg, ↓Yh, ↓Yi, ↓Yj, ↓Yk, ↓Ym, ↓Yn, ↓Yo, ↓Yp, ↓Yq, ↓Yr, ↓Ys, ↓Yt, ↓Yu, ↓Yv, ↓Yw, ↓Yx, ↓Yy, ↓Yz, ↓Y0, ↓Y1, ↓Y2, ↓Y3, ↓Y4, ↓Y5, ↓Y6, ↓Y7, ↓Y8, ↓Y9, ↓Ja, ↓Jb, ↓Jc, ↓Jd, ↓Je, ↓Jf, ↓Jg, ↓Jh, ↓Ji, ↓Jj, ↓Jk, ↓Jl, ↓Jm, ↓Jn, ↓Jo, ↓Jp, ↓Jq, ↓Jr, ↓Js, ↓Jt, ↓Ju, ↓Jw, ↓Jx, ↓Jy, ↓Jz, ↓J1, ↓J2, ↓J3, ↓J4, ↓J5, ↓J6, ↓J7, ↓J8, ↓J9, ↓Qaa, ↓Qab, ↓Qac, ↓Qad, ↓Qae, ↓par3_three, ↓Qaf, ↓Qag, ↓Qah, ↓Qai, ↓Qaj, ↓Qak, ↓Qal, ↓Qam, ↓Qan, ↓Qao, ↓Qap, ↓Qaq, ↓Qar, ↓Qas, ↓Qat, ↓Qau, ↓Qav, ↓Qaw, ↓Qax, ↓Qay, ↓Qaz, ↓Qa0, ↓Qa1, ↓Qa2, ↓Qa3, ↓Qa4, ↓Qa5, ↓Qa6, ↓Qa7, ↓Qa8, ↓Qa9, ↓Qba, ↓Qbb, ↓Qbc, ↓Qbd, ↓Qbe, ↓Qbf, ↓Qbg, ↓Qbh, ↓Qbi, ↓Qbj, ↓Qbk, ↓Qbl, List.set_cons_zero, List.set_cons_succ, wipeP]
  rw [List.length_map]
  refine ⟨⟨by decide, by decide, by omega, by omega⟩, ?_⟩
  refine wLcL_allM (fun (k : Nat) => PV.int (1 + k)) (fun (k : Nat) => PV.bl (ltS (ss.getD k Str.empty) (ss.getD (k + 1) Str.empty))) trivial _ (fun k hk R' hR => ?_) ?_ ?_
  · have hk' : k + 1 < ss.length := by
      have := List.mem_range.mp hk
      omega
    simp -implicitDefEqProofs only [w_does_ascend_1, ↓Qa, ↓Qb, ↓Qc, ↓Qd, ↓Qe, ↓Qg, ↓Qh, ↓Qi, ↓Qj, ↓Qk, ↓Ql, ↓par2_two, ↓Qm, ↓Qn, ↓Qo, ↓Qp, ↓Qq, ↓Qr, ↓Qs, ↓Qt, ↓Qu, ↓Qv, ↓Qw, ↓Qx, ↓Qy, ↓Qz, ↓Q0, ↓truK_bl, ↓Q3, ↓Q4, ↓Q5, ↓Q6, ↓chK_bl, ↓Q7, ↓Q8, ↓Q9, ↓Ya, ↓Yb, ↓Yc, ↓Yd, ↓Ye, ↓Yf, ↓Yg, ↓Yh, ↓Yi, ↓Yj, ↓Yk, ↓Ym, ↓Yn, ↓Yo, ↓Yp, ↓Yq, ↓Yr, ↓Ys, ↓Yt, ↓Yu, ↓Yv, ↓Yw, ↓Yx, ↓Yy, ↓Yz, ↓Y0, ↓Y1, ↓Y2, ↓Y3, ↓Y4, ↓Y5, ↓Y6, ↓Y7, ↓Y8, ↓Y9, ↓Ja, ↓Jb, ↓Jc, ↓Jd, ↓Je, ↓Jf, ↓Jg, ↓Jh, ↓Ji, ↓Jj, ↓Jk, ↓Jl, ↓Jm, ↓Jn, ↓Jo, ↓Jp, ↓Jq, ↓Jr, ↓Js, ↓Jt, ↓Ju, ↓Jw, ↓Jx, ↓Jy, ↓Jz, ↓J1, ↓J2, ↓J3, ↓J4, ↓J5, ↓J6, ↓J7, ↓J8, ↓J9, ↓Qaa, ↓Qab, ↓Qac, ↓Qad, ↓Qae, ↓par3_three, ↓Qaf, ↓Qag, ↓Qah, ↓Qai, ↓Qaj, ↓Qak, ↓Qal, ↓Qam, ↓Qan, ↓Qao, ↓Qap, ↓Qaq, ↓Qar, ↓Qas, ↓Qat, ↓Qau, ↓Qav, ↓Qaw, ↓Qax, ↓Qay, ↓Qaz, ↓Qa0, ↓Qa1, ↓Qa2, ↓Qa3, ↓Qa4, ↓Qa5, ↓Qa6, ↓Qa7, ↓Qa8, ↓Qa9, ↓Qba, ↓Qbb, ↓Qbc, ↓Qbd, ↓Qbe, ↓Qbf, ↓Qbg, ↓Qbh, ↓Qbi, ↓Qbj, ↓Qbk, ↓Qbl, List.set_cons_zero, List.set_cons_succ, wipeP]
    refine ⟨.str (ss.getD k Str.empty), atI_nn (j := k) (by omega) (by rw [List.getElem?_map, List.getElem?_eq_getElem (by omega)]; simp [List.getD, List.getElem?_eq_getElem (show k < ss.length by omega)]), ?_⟩
    refine ⟨.str (ss.getD (k + 1) Str.empty), atI_nn (j := k + 1) (by omega) (by rw [List.getElem?_map, List.getElem?_eq_getElem hk']; simp [List.getD, List.getElem?_eq_getElem hk']), ?_⟩
    rw [Ja]
    exact hR
  · rw [List.length_range, sizeLine_eq]; omega
  · rw [k_allM]
    have e2 : ((List.range ((ss.length : Int) - 1).toNat).all fun k => ltS (ss.getD k Str.empty) (ss.getD (k + 1) Str.empty)) = decide (UpS ss) := by
      rw [Bool.eq_iff_iff, decide_eq_true_iff, rises_iff, List.all_eq_true]
      constructor
      · intro h i hi
        exact h i (List.mem_range.mpr (by omega))
      · intro h i hi
        have := List.mem_range.mp hi
        exact h i (by omega)
    rw [e2]
    exact gR_now h
theorem asRoad_eq {p : PV} {r : Road} (h : asRoad p = some r) : p = roadP r := by
  unfold asRoad at h
  split at h
  · cases h; rfl
  · cases h
theorem isNm_str {p : PV} (h : isNm p = true) : ∃ x, p = .str x ∧ nameB x = true := by
  unfold isNm at h
  split at h
  · exact ⟨_, rfl, h⟩
  · cases h
theorem roadQ_5 {ts : List Str} {a b c d e : PV} (hn : (isNm a && isNm b && isNm c) = true) : ∃ x y z, a = .str x ∧ b = .str y ∧ c = .str z ∧ nameB x = true ∧ nameB y = true ∧ nameB z = true ∧
    roadQ ts (.tup [a, b, c, d, e]) = (decide (y ≠ z) && decide (y ∈ ts) && decide (z ∈ ts) && inI d (-1000) 1000 && inI e 0 1000) := by
  rw [Bool.and_eq_true, Bool.and_eq_true] at hn
  obtain ⟨⟨h1, h2⟩, h3⟩ := hn
  obtain ⟨x, rfl, hx⟩ := isNm_str h1
  obtain ⟨y, rfl, hy⟩ := isNm_str h2
  obtain ⟨z, rfl, hz⟩ := isNm_str h3
  refine ⟨x, y, z, rfl, rfl, rfl, hx, hy, hz, ?_⟩
  by_cases hd : ∃ i, d = .int i
  · obtain ⟨i, rfl⟩ := hd
    by_cases he : ∃ j, e = .int j
    · obtain ⟨j, rfl⟩ := he
      show roadB ts ⟨x, y, z, i, j⟩ = _
      unfold roadB inI
      dsimp only
      rw [hx, hy, hz]
      simp only [Bool.true_and, Bool.and_assoc]
    · have e1 : asRoad (.tup [.str x, .str y, .str z, .int i, e]) = none := by
        unfold asRoad
        split
        · rename_i h; cases h; exact absurd ⟨_, rfl⟩ he
        · rfl
      have e2 : inI e 0 1000 = false := by
        unfold inI
        split
        · exact absurd ⟨_, rfl⟩ he
        · rfl
      unfold roadQ
      rw [e1, e2]
      simp
  · have e1 : asRoad (.tup [.str x, .str y, .str z, d, e]) = none := by
      unfold asRoad
      split
      · rename_i h; cases h; exact absurd ⟨_, rfl⟩ hd
      · rfl
    have e2 : inI d (-1000) 1000 = false := by
      unfold inI
      split
      · exact absurd ⟨_, rfl⟩ hd
      · rfl
    unfold roadQ
    rw [e1, e2]
    simp
theorem roadQ_no5 {ts : List Str} {xs : List PV} (h : xs.length ≠ 5) : roadQ ts (.tup xs) = false := by
  unfold roadQ asRoad
  split
  · rename_i r e
    split at e
    · rename_i q; cases q; exact absurd rfl h
    · cases e
  · rfl
theorem roadQ_nonm {ts : List Str} {a b c d e : PV} (hn : (isNm a && isNm b && isNm c) = false) : roadQ ts (.tup [a, b, c, d, e]) = false := by
  unfold roadQ
  split
  · rename_i r er
    have := asRoad_eq er
    unfold roadP at this
    injection this with this
    injection this with h1 t
    injection t with h2 t
    injection t with h3 t
    subst h1 h2 h3
    have hn : (nameB r.name && nameB r.bgn && nameB r.fin) = false := hn
    unfold roadB
    rw [hn]
    simp
  · rfl
theorem roadQ_notup {ts : List Str} {p : PV} (h : ∀ x, p ≠ .tup x) : roadQ ts p = false := by
  unfold roadQ
  split
  · rename_i r er
    exact absurd (asRoad_eq er) (h _)
  · rfl

theorem pw_nodup {ts : List Str} (h : ts.Pairwise (fun a b => ltS a b = true)) : ts.Nodup := h.imp fun {a b} h e => by
  subst e
  exact List.lt_irrefl _ (of_decide_eq_true h)
theorem roads_nodup {rs : List Road} (h : rs.Pairwise (fun a b => ltS a.name b.name = true)) : (rs.map (·.name)).Nodup := by
  refine pw_nodup ?_
  rw [List.pairwise_map]
  exact h
theorem roadB_in {ts : List Str} {r : Road} (h : roadB ts r = true) : r.bgn ∈ ts ∧ r.fin ∈ ts ∧ r.bgn ≠ r.fin := by
  unfold roadB at h
  simp only [Bool.and_eq_true, decide_eq_true_eq] at h
  exact ⟨h.1.1.1.1.1.2, h.1.1.1.1.2, h.1.1.1.1.1.1.2⟩
theorem nodup_inj {α β : Type} {f : α → β} : ∀ {l : List α}, (l.map f).Nodup → ∀ {a b : α}, a ∈ l → b ∈ l → f a = f b → a = b
  | x :: l, nd, a, b, ha, hb, e => by
    rw [List.map_cons, List.nodup_cons] at nd
    rcases List.mem_cons.mp ha with ea | ha
    · rcases List.mem_cons.mp hb with eb | hb
      · rw [ea, eb]
      · exact absurd (List.mem_map.mpr ⟨b, hb, by rw [← e, ea]⟩) nd.1
    · rcases List.mem_cons.mp hb with eb | hb
      · exact absurd (List.mem_map.mpr ⟨a, ha, by rw [e, eb]⟩) nd.1
      · exact nodup_inj nd.2 ha hb e
/-- the cells, an item put behind one's -/
def upC (F : Kd → Str → List PV) (k : Kd) (b : Str) (y : PV) : Kd → Str → List PV := fun k' t => if k' = k ∧ t = b then F k' t ++ [y] else F k' t
def Hold (S : Sto) (cells : List Cell) (F : Kd → Str → List PV) : Prop := ∀ c ∈ cells, S c.2 = some (.lst (F c.1.1 c.1.2))
theorem Hold.up {S : Sto} {cells : List Cell} {F : Kd → Str → List PV} {k : Kd} {b : Str} {x : Addr} {y : PV} (nd : (cells.map Prod.snd).Nodup) (nd1 : (cells.map Prod.fst).Nodup) (h : Hold S cells F) (hx : ((k, b), x) ∈ cells) : Hold (updS S x (.lst (F k b ++ [y]))) cells (upC F k b y) := fun c hc => by
  by_cases e : c.2 = x
  · have ec : c = ((k, b), x) := nodup_inj nd hc hx e
    subst ec
    rw [updS_same]
    simp [upC]
  · rw [updS_ne e, h c hc]
    unfold upC
    rw [if_neg]
    rintro ⟨e1, e2⟩
    have e3 : c.1 = (k, b) := Prod.ext e1 e2
    have := nodup_inj nd1 hc hx e3
    exact e (by rw [this])
theorem up_cont {r : Road} (hne : r.bgn ≠ r.fin) (done : List Road) : upC (upC (upC (upC (cont done) .o r.bgn (roadP r)) .i r.fin (roadP r)) .t r.bgn (roadP r)) .t r.fin (roadP r) = cont (done ++ [r]) := by
  funext k t
  have ec : cont (done ++ [r]) k t = cont done k t ++ (if k.cond t r = true then [roadP r] else []) := by
    unfold cont
    rw [List.filter_append, List.map_append]
    congr 1
    by_cases h : k.cond t r = true
    · rw [if_pos h, List.filter_cons_of_pos h]; rfl
    · rw [if_neg h, List.filter_cons_of_neg h]; rfl
  rw [ec]
  unfold upC
  cases k with
  | o =>
    by_cases h : t = r.bgn
    · subst h; simp [Kd.cond]
    · have h' : ¬ r.bgn = t := fun z => h z.symm
      simp [Kd.cond, h, h']
  | i =>
    by_cases h : t = r.fin
    · subst h; simp [Kd.cond]
    · have h' : ¬ r.fin = t := fun z => h z.symm
      simp [Kd.cond, h, h']
  | t =>
    by_cases h : t = r.bgn
    · subst h
      have : ¬ r.bgn = r.fin := hne
      simp [Kd.cond, this]
    · have h' : ¬ r.bgn = t := fun z => h z.symm
      by_cases h2 : t = r.fin
      · subst h2; simp [Kd.cond, h', h]
      · have h2' : ¬ r.fin = t := fun z => h2 z.symm
        simp [Kd.cond, h, h', h2, h2']
theorem dict_get {cells : List Cell} {k : Kd} {b : Str} {x : Addr} {ts : List Str} (hk : (cells.filter fun c => c.1.1 == k).map (fun c => c.1.2) = ts) (nd : ts.Nodup) (hx : ((k, b), x) ∈ cells) : dget (dictOf cells k) (.inr b) = some (.ref x) := by
  refine dget_mem ?_ ?_
  · unfold dictOf
    rw [List.map_map]
    have e : ((fun p : Key × PV => p.1) ∘ fun c : Cell => ((.inr c.1.2 : Key), PV.ref c.2)) = (fun s : Str => (.inr s : Key)) ∘ fun c : Cell => c.1.2 := rfl
    rw [e, ← List.map_map, hk]
    exact List.Pairwise.map _ (fun a b h e => h (Sum.inr.inj e)) nd
  · exact List.mem_map.mpr ⟨((k, b), x), List.mem_filter.mpr ⟨hx, by simp⟩, rfl⟩
theorem cell_of {cells : List Cell} {k : Kd} {b : Str} {ts : List Str} (hk : (cells.filter fun c => c.1.1 == k).map (fun c => c.1.2) = ts) (hb : b ∈ ts) : ∃ x, ((k, b), x) ∈ cells := by
  rw [← hk] at hb
  obtain ⟨c, hc, e⟩ := List.mem_map.mp hb
  obtain ⟨h1, h2⟩ := List.mem_filter.mp hc
  have e2 : c.1.1 = k := by simpa using h2
  refine ⟨c.2, ?_⟩
  have : c = ((k, b), c.2) := by rw [← e2, ← e]
  rw [← this]; exact h1

theorem keep_step {C a : Addr} {Cs : List Addr} (hC : C ∈ Cs) {nm : Str} {k : Kd} {b : Str} {x : Addr} {j : Int} {S : Sto} {ρ : Slots} {P : PEnds} {fs : List (Str × PV)} {cells : List Cell} {ts : List Str} {F : Kd → Str → List PV} {r : Road}
    (g0 : gs ρ 0 = some (.ref a)) (g3 : gs ρ 3 = some (roadP r)) (hS : S a = some (.ins C fs)) (hl : fs.lookup nm = some (.dct (dictOf cells k))) (hj : atI [PV.str r.name, .str r.bgn, .str r.fin, .int r.len, .int r.room] j = some (.str b))
    (hk : (cells.filter fun c => c.1.1 == k).map (fun c => c.1.2) = ts) (nd : ts.Nodup) (hx : ((k, b), x) ∈ cells) (hh : Hold S cells F) (hz : (F k b).length < sizeLine) (hn : P.nx ρ (updS S x (.lst (F k b ++ [roadP r])))) :
    wExpr (wBM "list" kApp (wB kIx (wFld Cs nm (wVar 0)) (wB kIx (wVar 3) (wC (.int j)))) (wCons (wVar 3) wNil)) P ρ S := by
  have h2 : S x = some (.lst (F k b)) := hh _ hx
  have e3 : roadP r = .tup [PV.str r.name, .str r.bgn, .str r.fin, .int r.len, .int r.room] := rfl
  simp -implicitDefEqProofs only [↓Qa, ↓Qb, ↓Qc, ↓Qd, ↓Qe, ↓Qg, ↓Qh, ↓Qi, ↓Qj, ↓Qk, ↓Ql, ↓par2_two, ↓Qm, ↓Qn, ↓Qo, ↓Qp, ↓Qq, ↓Qr, ↓Qs, ↓Qt, ↓Qu, ↓Qv, ↓Qw, ↓Qx, ↓Qy, ↓Qz, ↓Q0, ↓truK_bl, ↓Q3, ↓Q4, ↓Q5, ↓Q6, ↓chK_bl, ↓Q7, ↓Q8, ↓Q9, ↓Ya, ↓Yb, ↓Yc, ↓Yd, ↓Ye, ↓Yf, ↓Yg, ↓Yh, ↓Yi, ↓Yj, ↓Yk, ↓Ym, ↓Yn, ↓Yo, ↓Yp, ↓Yq, ↓Yr, ↓Ys, ↓Yt, ↓Yu, ↓Yv, ↓Yw, ↓Yx, ↓Yy, ↓Yz, ↓Y0, ↓Y1, ↓Y2, ↓Y3, ↓Y4, ↓Y5, ↓Y6, ↓Y7, ↓Y8, ↓Y9, ↓Ja, ↓Jb, ↓Jc, ↓Jd, ↓Je, ↓Jf, ↓Jg, ↓Jh, ↓Ji, ↓Jj, ↓Jk, ↓Jl, ↓Jm, ↓Jn, ↓Jo, ↓Jp, ↓Jq, ↓Jr, ↓Js, ↓Jt, ↓Ju, ↓Jw, ↓Jx, ↓Jy, ↓Jz, ↓J1, ↓J2, ↓J3, ↓J4, ↓J5, ↓J6, ↓J7, ↓J8, ↓J9, ↓Qaa, ↓Qab, ↓Qac, ↓Qad, ↓Qae, ↓par3_three, ↓Qaf, ↓Qag, ↓Qah, ↓Qai, ↓Qaj, ↓Qak, ↓Qal, ↓Qam, ↓Qan, ↓Qao, ↓Qap, ↓Qaq, ↓Qar, ↓Qas, ↓Qat, ↓Qau, ↓Qav, ↓Qaw, ↓Qax, ↓Qay, ↓Qaz, ↓Qa0, ↓Qa1, ↓Qa2, ↓Qa3, ↓Qa4, ↓Qa5, ↓Qa6, ↓Qa7, ↓Qa8, ↓Qa9, ↓Qba, ↓Qbb, ↓Qbc, ↓Qbd, ↓Qbe, ↓Qbf, ↓Qbg, ↓Qbh, ↓Qbi, ↓Qbj, ↓Qbk, ↓Qbl, List.set_cons_zero, List.set_cons_succ, wipeP, g0, k_fldI hS hl hC, g3]
  rw [e3, Js]
  refine ⟨.str b, hj, ?_⟩
  rw [Ju]
  refine ⟨.ref x, dict_get hk nd hx, ?_⟩
  rw [k_tyB_ref h2]
  refine ⟨trivial, ?_⟩
  rw [k_app h2, ← e3]
  exact ⟨hz, hn⟩
theorem cont_le (done : List Road) (k : Kd) (t : Str) : (cont done k t).length ≤ done.length := by
  unfold cont
  rw [List.length_map]
  exact List.length_filter_le _ _
theorem cells_fst0 : ∀ {cells : List Cell}, (∀ k : Kd, ((cells.filter fun c => c.1.1 == k).map (fun c => c.1.2)).Nodup) → (cells.map Prod.fst).Nodup
  | [], _ => List.nodup_nil
  | c :: r, h => by
    rw [List.map_cons, List.nodup_cons]
    refine ⟨fun z => ?_, cells_fst0 fun k => ?_⟩
    · obtain ⟨d, hd, e⟩ := List.mem_map.mp z
      have h1 := h c.1.1
      rw [List.filter_cons_of_pos (by simp), List.map_cons, List.nodup_cons] at h1
      exact h1.1 (List.mem_map.mpr ⟨d, List.mem_filter.mpr ⟨hd, by simp [e]⟩, by rw [e]⟩)
    · have h1 := h k
      by_cases q : (c.1.1 == k) = true
      · rw [List.filter_cons_of_pos (by simpa using q), List.map_cons, List.nodup_cons] at h1
        exact h1.2
      · rw [List.filter_cons_of_neg (by simpa using q)] at h1
        exact h1
theorem cells_fst {cells : List Cell} {ts : List Str} (hk : ∀ k : Kd, (cells.filter fun c => c.1.1 == k).map (fun c => c.1.2) = ts) (nd : ts.Nodup) : (cells.map Prod.fst).Nodup :=
  cells_fst0 fun k => by rw [hk k]; exact nd
theorem keep_loop (K : PySem.W.Frag) {C a : Addr} (hC : C ∈ netCs K) {ts : List Str} {rs : List Road} {cells : List Cell} {S0 : Sto} {R : RK} {Z : ZK} (ok : NetW ts rs) (hk : ∀ k : Kd, (cells.filter fun c => c.1.1 == k).map (fun c => c.1.2) = ts) (nd : (cells.map Prod.snd).Nodup) (nd1 : (cells.map Prod.fst).Nodup) (na : a ∉ cells.map Prod.snd)
    (new : ∀ c ∈ cells, S0 c.2 = none) (hR : ∀ S', Kept C a ts rs S0 S' cells → R .non S') : ∀ (rest done : List Road) (x3 x4 : Option PV) (S : Sto), done ++ rest = rs → S a = some (.ins C (keptF ts rs cells)) → Hold S cells (cont done) → (∀ b, b ≠ a → b ∉ cells.map Prod.snd → S b = S0 b) →
      wForL (fun _ => True) (.nm 3) (w_Net_keep_1 K) (fin R Z) (rest.map roadP) [some (.ref a), some (townsP ts), some (roadsP rs), x3, x4] S := by
  intro rest
  induction rest with
  | nil =>
    intro done x3 x4 S e h1 h2 h3
    rw [List.append_nil] at e
    subst e
    exact ⟨trivial, wfg_now (hR S ⟨nd, na, new, hk, h1, h2, h3⟩)⟩
  | cons r rest ih =>
    intro done x3 x4 S e h1 h2 h3
    have hr : r ∈ rs := by rw [← e]; exact List.mem_append_right _ List.mem_cons_self
    obtain ⟨b1, b2, b3⟩ := roadB_in (ok.rn r hr)
    have ndt := pw_nodup ok.ta
    obtain ⟨xo, ho⟩ := cell_of (hk .o) b1
    obtain ⟨xi, hi⟩ := cell_of (hk .i) b2
    obtain ⟨xt, ht⟩ := cell_of (hk .t) b1
    obtain ⟨xu, hu⟩ := cell_of (hk .t) b2
    have hlen : done.length < 1000 := by
      have := congrArg List.length e
      have := ok.rl
      rw [List.length_append, List.length_cons] at *
      omega
    have ne : ∀ {k b x}, ((k, b), x) ∈ cells → a ≠ x := fun h z => na (by rw [z]; exact List.mem_map.mpr ⟨_, h, rfl⟩)
    have sz := sizeLine_eq
    refine ⟨trivial, ?_⟩
    simp only [↓Yv, List.set_cons_zero, List.set_cons_succ, w_Net_keep_1, ↓Qd]
    have u1 := h2.up (y := roadP r) nd nd1 ho
    have u2 := u1.up (y := roadP r) nd nd1 hi
    have u3 := u2.up (y := roadP r) nd nd1 ht
    have u4 := u3.up (y := roadP r) nd nd1 hu
    have l0 := cont_le done
    have up_le : ∀ (F : Kd → Str → List PV) (k : Kd) (b : Str) (y : PV) (n : Nat), (∀ k t, (F k t).length ≤ n) → ∀ k' t, (upC F k b y k' t).length ≤ n + 1 := fun F k b y n h k' t => by
      unfold upC
      have := h k' t
      split
      · rw [List.length_append, List.length_singleton]; omega
      · omega
    have l1 := up_le _ .o r.bgn (roadP r) _ l0
    have l2 := up_le _ .i r.fin (roadP r) _ l1
    have l3 := up_le _ .t r.bgn (roadP r) _ l2
    have n1 : updS S xo (.lst (cont done .o r.bgn ++ [roadP r])) a = some (.ins C (keptF ts rs cells)) := by rw [updS_ne (ne ho)]; exact h1
    have n2 : ∀ m, updS (updS S xo (.lst (cont done .o r.bgn ++ [roadP r]))) xi m a = some (.ins C (keptF ts rs cells)) := fun m => by rw [updS_ne (ne hi)]; exact n1
    have n3 : ∀ m m', updS (updS (updS S xo (.lst (cont done .o r.bgn ++ [roadP r]))) xi m) xt m' a = some (.ins C (keptF ts rs cells)) := fun m m' => by rw [updS_ne (ne ht)]; exact n2 m
    refine keep_step hC (r := r) (nm := "outs") (j := 1) (k := .o) (F := cont done) rfl rfl h1 rfl rfl (hk .o) ndt ho h2 (by have := l0 .o r.bgn; omega) ?_
    simp only [↓Qd]
    refine keep_step hC (r := r) (nm := "ins") (j := 2) (k := .i) rfl rfl n1 rfl rfl (hk .i) ndt hi u1 (by have := l1 .i r.fin; omega) ?_
    simp only [↓Qd]
    refine keep_step hC (r := r) (nm := "ties") (j := 1) (k := .t) rfl rfl (n2 _) rfl rfl (hk .t) ndt ht u2 (by have := l2 .t r.bgn; omega) ?_
    simp only
    refine keep_step hC (r := r) (nm := "ties") (j := 2) (k := .t) rfl rfl (n3 _ _) rfl rfl (hk .t) ndt hu u3 (by have := l3 .t r.fin; omega) ?_
    rw [up_cont b3] at u4
    refine ih (done ++ [r]) _ _ _ (by rw [List.append_assoc]; exact e) (by rw [updS_ne (ne hu)]; exact n3 _ _) u4 fun b hb hc => ?_
    have nb : ∀ {k t x}, ((k, t), x) ∈ cells → b ≠ x := fun h z => hc (by rw [z]; exact List.mem_map.mpr ⟨_, h, rfl⟩)
    rw [updS_ne (nb hu), updS_ne (nb ht), updS_ne (nb hi), updS_ne (nb ho)]
    exact h3 b hb hc

theorem dictOf_app (A B : List Cell) (k : Kd) : dictOf (A ++ B) k = dictOf A k ++ dictOf B k := by unfold dictOf; rw [List.filter_append, List.map_append]
abbrev tagC (k : Kd) (As : List (Str × Addr)) : List Cell := As.map fun p => ((k, p.1), p.2)
theorem filt_tag (k k' : Kd) (As : List (Str × Addr)) : ((tagC k As).filter fun c => c.1.1 == k') = if k = k' then tagC k As else [] := by
  by_cases h : k = k'
  · rw [if_pos h, List.filter_eq_self]
    intro c hc
    obtain ⟨p, _, e⟩ := List.mem_map.mp hc
    rw [← e]; simp [h]
  · rw [if_neg h, List.filter_eq_nil_iff]
    intro c hc
    obtain ⟨p, _, e⟩ := List.mem_map.mp hc
    rw [← e]; simp [h]
theorem pure_Net_keep (K : PySem.W.Frag) : ∀ ps S R Z, ps.length = 3 → sp_Net_keep K ps S R Z → w_Net_keep K (fin R Z) (startP n_Net_keep ps) S := by
  intro ps S R Z hl h
  obtain ⟨C, a, ts, rs, rfl, m1, hS, ok, hR⟩ := h
  have e : startP n_Net_keep [.ref a, townsP ts, roadsP rs] = [some (.ref a), some (townsP ts), some (roadsP rs), none, none] := rfl
  rw [e]
  have ndt := pw_nodup ok.ta
  have tl : ts.length ≤ sizeLine := by have := ok.tl; rw [sizeLine_eq]; omega
  have rl : rs.length ≤ sizeLine := by have := ok.rl; rw [sizeLine_eq]; omega
  simp -implicitDefEqProofs only [w_Net_keep, ↓Qa, ↓Qb, ↓Qc, ↓Qd, ↓Qe, ↓Qg, ↓Qh, ↓Qi, ↓Qj, ↓Qk, ↓Ql, ↓par2_two, ↓Qm, ↓Qn, ↓Qo, ↓Qp, ↓Qq, ↓Qr, ↓Qs, ↓Qt, ↓Qu, ↓Qv, ↓Qw, ↓Qx, ↓Qy, ↓Qz, ↓Q0, ↓truK_bl, ↓Q3, ↓Q4, ↓Q5, ↓Q6, ↓chK_bl, ↓Q7, ↓Q8, ↓Q9, ↓Ya, ↓Yb, ↓Yc, ↓Yd, ↓Ye, ↓Yf, ↓Yg, ↓Yh, ↓Yi, ↓Yj, ↓Yk, ↓Ym, ↓Yn, ↓Yo, ↓Yp, ↓Yq, ↓Yr, ↓Ys, ↓Yt, ↓Yu, ↓Yv, ↓Yw, ↓Yx, ↓Yy, ↓Yz, ↓Y0, ↓Y1, ↓Y2, ↓Y3, ↓Y4, ↓Y5, ↓Y6, ↓Y7, ↓Y8, ↓Y9, ↓Ja, ↓Jb, ↓Jc, ↓Jd, ↓Je, ↓Jf, ↓Jg, ↓Jh, ↓Ji, ↓Jj, ↓Jk, ↓Jl, ↓Jm, ↓Jn, ↓Jo, ↓Jp, ↓Jq, ↓Jr, ↓Js, ↓Jt, ↓Ju, ↓Jw, ↓Jx, ↓Jy, ↓Jz, ↓J1, ↓J2, ↓J3, ↓J4, ↓J5, ↓J6, ↓J7, ↓J8, ↓J9, ↓Qaa, ↓Qab, ↓Qac, ↓Qad, ↓Qae, ↓par3_three, ↓Qaf, ↓Qag, ↓Qah, ↓Qai, ↓Qaj, ↓Qak, ↓Qal, ↓Qam, ↓Qan, ↓Qao, ↓Qap, ↓Qaq, ↓Qar, ↓Qas, ↓Qat, ↓Qau, ↓Qav, ↓Qaw, ↓Qax, ↓Qay, ↓Qaz, ↓Qa0, ↓Qa1, ↓Qa2, ↓Qa3, ↓Qa4, ↓Qa5, ↓Qa6, ↓Qa7, ↓Qa8, ↓Qa9, ↓Qba, ↓Qbb, ↓Qbc, ↓Qbd, ↓Qbe, ↓Qbf, ↓Qbg, ↓Qbh, ↓Qbi, ↓Qbj, ↓Qbk, ↓Qbl, List.set_cons_zero, List.set_cons_succ, wipeP]
  have it_t : ∀ (S : Sto) (RI : List PV → (Sto → Prop) → Sto → Prop), itK (townsP ts) S RI = RI (ts.map PV.str) (fun _ => True) S := fun _ _ => rfl
  have it_r : ∀ (S : Sto) (RI : List PV → (Sto → Prop) → Sto → Prop), itK (roadsP rs) S RI = RI (rs.map roadP) (fun _ => True) S := fun _ _ => rfl
  have hset : ∀ (i : Nat) (p : PV), i = 4 → gs ([some (PV.ref a), some (townsP ts), some (roadsP rs), none, none].set i (some p)) i = some p := fun i p h => by subst h; rfl
  have P1 : putP "towns" (townsP ts) [] = ([("towns", townsP ts)] : List (Str × PV)) := rfl
  have P2 : ∀ b, putP "roads" b [("towns", townsP ts)] = ([("towns", townsP ts), ("roads", b)] : List (Str × PV)) := fun b => putP_new rfl
  have P3 : ∀ b c, putP "named" c [("towns", townsP ts), ("roads", b)] = ([("towns", townsP ts), ("roads", b), ("named", c)] : List (Str × PV)) := fun b c => putP_new rfl
  have P4 : ∀ b c d, putP "outs" d [("towns", townsP ts), ("roads", b), ("named", c)] = ([("towns", townsP ts), ("roads", b), ("named", c), ("outs", d)] : List (Str × PV)) := fun b c d => putP_new rfl
  have P5 : ∀ b c d e, putP "ins" e [("towns", townsP ts), ("roads", b), ("named", c), ("outs", d)] = ([("towns", townsP ts), ("roads", b), ("named", c), ("outs", d), ("ins", e)] : List (Str × PV)) := fun b c d e => putP_new rfl
  have P6 : ∀ b c d e f, putP "ties" f [("towns", townsP ts), ("roads", b), ("named", c), ("outs", d), ("ins", e)] = ([("towns", townsP ts), ("roads", b), ("named", c), ("outs", d), ("ins", e), ("ties", f)] : List (Str × PV)) := fun b c d e f => putP_new rfl
  rw [k_setF hS m1 (by simp), P1, k_setF updS_same m1 (by simp), P2, it_r]
  refine dc_pure roadP roadP (·.name) trivial rs (roads_nodup ok.ra) (fun r hr R' hR' => ?_) rl ?_
  · simp -implicitDefEqProofs only [↓Qa, ↓Qb, ↓Qc, ↓Qd, ↓Qe, ↓Qg, ↓Qh, ↓Qi, ↓Qj, ↓Qk, ↓Ql, ↓par2_two, ↓Qm, ↓Qn, ↓Qo, ↓Qp, ↓Qq, ↓Qr, ↓Qs, ↓Qt, ↓Qu, ↓Qv, ↓Qw, ↓Qx, ↓Qy, ↓Qz, ↓Q0, ↓truK_bl, ↓Q3, ↓Q4, ↓Q5, ↓Q6, ↓chK_bl, ↓Q7, ↓Q8, ↓Q9, ↓Ya, ↓Yb, ↓Yc, ↓Yd, ↓Ye, ↓Yf, ↓Yg, ↓Yh, ↓Yi, ↓Yj, ↓Yk, ↓Ym, ↓Yn, ↓Yo, ↓Yp, ↓Yq, ↓Yr, ↓Ys, ↓Yt, ↓Yu, ↓Yv, ↓Yw, ↓Yx, ↓Yy, ↓Yz, ↓Y0, ↓Y1, ↓Y2, ↓Y3, ↓Y4, ↓Y5, ↓Y6, ↓Y7, ↓Y8, ↓Y9, ↓Ja, ↓Jb, ↓Jc, ↓Jd, ↓Je, ↓Jf, ↓Jg, ↓Jh, ↓Ji, ↓Jj, ↓Jk, ↓Jl, ↓Jm, ↓Jn, ↓Jo, ↓Jp, ↓Jq, ↓Jr, ↓Js, ↓Jt, ↓Ju, ↓Jw, ↓Jx, ↓Jy, ↓Jz, ↓J1, ↓J2, ↓J3, ↓J4, ↓J5, ↓J6, ↓J7, ↓J8, ↓J9, ↓Qaa, ↓Qab, ↓Qac, ↓Qad, ↓Qae, ↓par3_three, ↓Qaf, ↓Qag, ↓Qah, ↓Qai, ↓Qaj, ↓Qak, ↓Qal, ↓Qam, ↓Qan, ↓Qao, ↓Qap, ↓Qaq, ↓Qar, ↓Qas, ↓Qat, ↓Qau, ↓Qav, ↓Qaw, ↓Qax, ↓Qay, ↓Qaz, ↓Qa0, ↓Qa1, ↓Qa2, ↓Qa3, ↓Qa4, ↓Qa5, ↓Qa6, ↓Qa7, ↓Qa8, ↓Qa9, ↓Qba, ↓Qbb, ↓Qbc, ↓Qbd, ↓Qbe, ↓Qbf, ↓Qbg, ↓Qbh, ↓Qbi, ↓Qbj, ↓Qbk, ↓Qbl, List.set_cons_zero, List.set_cons_succ, wipeP]
    exact ⟨.str r.name, rfl, hR'⟩
  rw [k_setF updS_same m1 (by simp), P3, it_t]
  refine dc_lists (hset 4 · rfl) ndt tl fun As S1 a1 a2 a3 a4 a5 => ?_
  have na1 : a ∉ As.map Prod.snd := fun z => by
    obtain ⟨p, hp, e⟩ := List.mem_map.mp z
    have := a3 p hp
    rw [e, updS_same] at this; cases this
  have h1 := (a5 a na1).trans updS_same
  rw [k_setF h1 m1 (by simp), P4, it_t]
  refine dc_lists (hset 4 · rfl) ndt tl fun Bs S2 b1 b2 b3 b4 b5 => ?_
  have na2 : a ∉ Bs.map Prod.snd := fun z => by
    obtain ⟨p, hp, e⟩ := List.mem_map.mp z
    have := b3 p hp
    rw [e, updS_same] at this; cases this
  have h2 := (b5 a na2).trans updS_same
  rw [k_setF h2 m1 (by simp), P5, it_t]
  refine dc_lists (hset 4 · rfl) ndt tl fun Cs S3 c1 c2 c3 c4 c5 => ?_
  have na3 : a ∉ Cs.map Prod.snd := fun z => by
    obtain ⟨p, hp, e⟩ := List.mem_map.mp z
    have := c3 p hp
    rw [e, updS_same] at this; cases this
  have h3 := (c5 a na3).trans updS_same
  rw [k_setF h3 m1 (by simp), P6, it_r]
  -- the cells
  have dj1 : ∀ p ∈ Bs, p.2 ∉ As.map Prod.snd := fun p hp z => by
    obtain ⟨q, hq, e⟩ := List.mem_map.mp z
    have := b3 p hp
    have na : a ≠ p.2 := fun z => na2 (List.mem_map.mpr ⟨p, hp, z.symm⟩)
    rw [updS_ne na.symm, ← e, a4 q hq] at this; cases this
  have dj2 : ∀ p ∈ Cs, p.2 ∉ As.map Prod.snd ∧ p.2 ∉ Bs.map Prod.snd := fun p hp => by
    have na : a ≠ p.2 := fun z => na3 (List.mem_map.mpr ⟨p, hp, z.symm⟩)
    have h4 := c3 p hp
    rw [updS_ne na.symm] at h4
    refine ⟨fun z => ?_, fun z => ?_⟩
    · obtain ⟨q, hq, e⟩ := List.mem_map.mp z
      by_cases hb : p.2 ∈ Bs.map Prod.snd
      · obtain ⟨q', hq', e'⟩ := List.mem_map.mp hb
        rw [← e', b4 q' hq'] at h4; cases h4
      · rw [b5 _ hb, updS_ne na.symm, ← e, a4 q hq] at h4; cases h4
    · obtain ⟨q, hq, e⟩ := List.mem_map.mp z
      rw [← e, b4 q hq] at h4; cases h4
  have eA : (tagC .o As).map Prod.snd = As.map Prod.snd := by rw [List.map_map]; rfl
  have eB : (tagC .i Bs).map Prod.snd = Bs.map Prod.snd := by rw [List.map_map]; rfl
  have eC : (tagC .t Cs).map Prod.snd = Cs.map Prod.snd := by rw [List.map_map]; rfl
  have esnd : ((tagC .o As ++ tagC .i Bs ++ tagC .t Cs).map Prod.snd) = As.map Prod.snd ++ Bs.map Prod.snd ++ Cs.map Prod.snd := by rw [List.map_append, List.map_append, eA, eB, eC]
  have hkeys : ∀ k : Kd, ((tagC .o As ++ tagC .i Bs ++ tagC .t Cs).filter fun c => c.1.1 == k).map (fun c => c.1.2) = ts := fun k => by
    rw [List.filter_append, List.filter_append, filt_tag, filt_tag, filt_tag]
    cases k <;> simp [tagC, List.map_map] <;> first | exact a1 | exact b1 | exact c1
  have ed : ∀ k : Kd, dictOf (tagC .o As ++ tagC .i Bs ++ tagC .t Cs) k = (match k with
      | .o => As
      | .i => Bs
      | .t => Cs).map fun (p : Str × Addr) => ((.inr p.1 : Key), PV.ref p.2) := fun k => by
    rw [dictOf_app, dictOf_app]
    unfold dictOf
    rw [filt_tag, filt_tag, filt_tag]
    cases k <;> simp [tagC, List.map_map] <;> intros <;> rfl
  have hnd : ((tagC .o As ++ tagC .i Bs ++ tagC .t Cs).map Prod.snd).Nodup := by
    rw [esnd]
    refine List.nodup_append.mpr ⟨List.nodup_append.mpr ⟨a2, b2, fun x hx y hy z => ?_⟩, c2, fun x hx y hy z => ?_⟩
    · obtain ⟨p, hp, e⟩ := List.mem_map.mp hy
      exact dj1 p hp (by rw [e, ← z]; exact hx)
    · obtain ⟨p, hp, e⟩ := List.mem_map.mp hy
      rcases List.mem_append.mp hx with hx | hx
      · exact (dj2 p hp).1 (by rw [e, ← z]; exact hx)
      · exact (dj2 p hp).2 (by rw [e, ← z]; exact hx)
  have hna : a ∉ (tagC .o As ++ tagC .i Bs ++ tagC .t Cs).map Prod.snd := by
    rw [esnd]
    intro z
    rcases List.mem_append.mp z with z | z
    · rcases List.mem_append.mp z with z | z
      · exact na1 z
      · exact na2 z
    · exact na3 z
  have neA : ∀ p ∈ As, p.2 ≠ a := fun p hp z => na1 (List.mem_map.mpr ⟨p, hp, z⟩)
  have neB : ∀ p ∈ Bs, p.2 ≠ a := fun p hp z => na2 (List.mem_map.mpr ⟨p, hp, z⟩)
  have neC : ∀ p ∈ Cs, p.2 ≠ a := fun p hp z => na3 (List.mem_map.mpr ⟨p, hp, z⟩)
  have sA : ∀ b, b ≠ a → b ∉ As.map Prod.snd → S1 b = S b := fun b h1 h2 => by rw [a5 b h2, updS_ne h1, updS_ne h1, updS_ne h1]
  have sB : ∀ b, b ≠ a → b ∉ Bs.map Prod.snd → S2 b = S1 b := fun b h1 h2 => by rw [b5 b h2, updS_ne h1]
  have sC : ∀ b, b ≠ a → b ∉ Cs.map Prod.snd → S3 b = S2 b := fun b h1 h2 => by rw [c5 b h2, updS_ne h1]
  have A_B : ∀ p ∈ As, p.2 ∉ Bs.map Prod.snd := fun p hp z => by
    obtain ⟨q, hq, e⟩ := List.mem_map.mp z
    exact dj1 q hq (by rw [e]; exact List.mem_map.mpr ⟨p, hp, rfl⟩)
  have A_C : ∀ p ∈ As, p.2 ∉ Cs.map Prod.snd := fun p hp z => by
    obtain ⟨q, hq, e⟩ := List.mem_map.mp z
    exact (dj2 q hq).1 (by rw [e]; exact List.mem_map.mpr ⟨p, hp, rfl⟩)
  have B_C : ∀ p ∈ Bs, p.2 ∉ Cs.map Prod.snd := fun p hp z => by
    obtain ⟨q, hq, e⟩ := List.mem_map.mp z
    exact (dj2 q hq).2 (by rw [e]; exact List.mem_map.mpr ⟨p, hp, rfl⟩)
  refine keep_loop K m1 (S0 := S) ok hkeys hnd (cells_fst hkeys ndt) hna (fun c hc => ?_) (fun S' h => hR S' _ h) rs [] none none _ rfl ?_ (fun c hc => ?_) fun b hb hc => ?_
  · rcases List.mem_append.mp hc with hc | hc
    · rcases List.mem_append.mp hc with hc | hc
      · obtain ⟨p, hp, rfl⟩ := List.mem_map.mp hc
        have h := a3 p hp
        rw [updS_ne (neA p hp), updS_ne (neA p hp), updS_ne (neA p hp)] at h
        exact h
      · obtain ⟨p, hp, rfl⟩ := List.mem_map.mp hc
        have h := b3 p hp
        rw [updS_ne (neB p hp), sA _ (neB p hp) (dj1 p hp)] at h
        exact h
    · obtain ⟨p, hp, rfl⟩ := List.mem_map.mp hc
      have h := c3 p hp
      rw [updS_ne (neC p hp), sB _ (neC p hp) (dj2 p hp).2, sA _ (neC p hp) (dj2 p hp).1] at h
      exact h
  · rw [updS_same]
    unfold keptF
    rw [ed, ed, ed]
    rfl
  · have e0 : ∀ k t, cont [] k t = [] := fun _ _ => rfl
    rcases List.mem_append.mp hc with hc | hc
    · rcases List.mem_append.mp hc with hc | hc
      · obtain ⟨p, hp, rfl⟩ := List.mem_map.mp hc
        rw [updS_ne (neA p hp), sC _ (neA p hp) (A_C p hp), sB _ (neA p hp) (A_B p hp), a4 p hp, e0]
      · obtain ⟨p, hp, rfl⟩ := List.mem_map.mp hc
        rw [updS_ne (neB p hp), sC _ (neB p hp) (B_C p hp), b4 p hp, e0]
    · obtain ⟨p, hp, rfl⟩ := List.mem_map.mp hc
      rw [updS_ne (neC p hp), c4 p hp, e0]
  · rw [esnd] at hc
    have h1 : b ∉ As.map Prod.snd := fun z => hc (List.mem_append_left _ (List.mem_append_left _ z))
    have h2 : b ∉ Bs.map Prod.snd := fun z => hc (List.mem_append_left _ (List.mem_append_right _ z))
    have h3 : b ∉ Cs.map Prod.snd := fun z => hc (List.mem_append_right _ z)
    rw [updS_ne hb, sC b hb h3, sB b hb h2, sA b hb h1]

theorem zfg_now {Z : ZK} {e : Exc} {S : Sto} (h : Z e S) : zfg Z e S := ⟨S, fun _ _ e => e, h⟩
theorem mem_net {K : PySem.W.Frag} : He.ga K "Net" ∈ netCs K := List.mem_cons_self
theorem name_sz {x : Str} (h : nameB x = true) : x.length ≤ 8 := by
  unfold nameB at h
  simp only [Bool.and_eq_true, decide_eq_true_eq] at h
  exact h.2.1
theorem name_szL {x : Str} (h : nameB x = true) : x.length ≤ sizeLine := by
  have := name_sz h
  rw [sizeLine_eq]; omega
theorem roadB_all {ts : List Str} {r : Road} : roadB ts r = true ↔ nameB r.name = true ∧ nameB r.bgn = true ∧ nameB r.fin = true ∧ r.bgn ≠ r.fin ∧ r.bgn ∈ ts ∧ r.fin ∈ ts ∧ (-1000 ≤ r.len ∧ r.len ≤ 1000) ∧ 0 ≤ r.room ∧ r.room ≤ 1000 := by
  unfold roadB
  simp only [Bool.and_eq_true, decide_eq_true_eq, ne_eq]
  constructor
  · rintro ⟨⟨⟨⟨⟨⟨⟨⟨⟨a, b⟩, c⟩, d⟩, e⟩, f⟩, g⟩, h⟩, i⟩, j⟩; exact ⟨a, b, c, d, e, f, ⟨g, h⟩, i, j⟩
  · rintro ⟨a, b, c, d, e, f, ⟨g, h⟩, i, j⟩; exact ⟨⟨⟨⟨⟨⟨⟨⟨⟨a, b⟩, c⟩, d⟩, e⟩, f⟩, g⟩, h⟩, i⟩, j⟩
theorem roadB_n {ts : List Str} {r : Road} (h : roadB ts r = true) : nameB r.name = true ∧ nameB r.bgn = true ∧ nameB r.fin = true ∧ (-1000 ≤ r.len ∧ r.len ≤ 1000) ∧ 0 ≤ r.room ∧ r.room ≤ 1000 := by
  obtain ⟨a, b, c, _, _, _, d, e, f⟩ := roadB_all.mp h
  exact ⟨a, b, c, d, e, f⟩
theorem NetOk.w {ts : List Str} {rs : List Road} (h : NetOk ts rs) : NetW ts rs := ⟨h.tn, h.ta, by have := h.tl; omega, h.rn, h.ra, by have := h.rl; omega⟩
theorem pn_name {x : Str} (h : nameB x = true) : Pn (.str x) := pn_str (name_szL h)
theorem pnT_road {ts : List Str} {r : Road} (h : roadB ts r = true) : PnT (roadP r) := ⟨pn_tup, fun xs e x hx => by
  obtain ⟨a, b, c, _⟩ := roadB_n h
  cases e
  simp only [List.mem_cons, List.not_mem_nil, or_false] at hx
  rcases hx with rfl | rfl | rfl | rfl | rfl
  · exact pn_name a
  · exact pn_name b
  · exact pn_name c
  · exact pn_int
  · exact pn_int⟩
theorem pnT_towns {ts : List Str} (h : ∀ t ∈ ts, nameB t = true) : PnT (townsP ts) := ⟨pn_tup, fun xs e x hx => by
  cases e
  obtain ⟨t, ht, rfl⟩ := List.mem_map.mp hx
  exact pn_name (h t ht)⟩
theorem pnTT_roads {ts : List Str} {rs : List Road} (h : ∀ r ∈ rs, roadB ts r = true) : PnTT (roadsP rs) := ⟨pn_tup, fun xs e x hx => by
  cases e
  obtain ⟨t, ht, rfl⟩ := List.mem_map.mp hx
  exact pnT_road (h t ht)⟩
theorem pure_is_road (K : PySem.W.Frag) : ∀ ps S R Z, ps.length = 2 → sp_is_road K ps S R Z → w_is_road K (fin R Z) (startP n_is_road ps) S := by
  intro ps S R Z hl h
  obtain ⟨p, q, ts, rfl, hts, ⟨hq, hq1⟩, h⟩ := h
  have e : startP n_is_road [p, q] = [some p, some q, none] := rfl
  rw [e]
  unfold w_is_road
  rw [Qd]
  generalize hT : wSeq (wIfS (wOrT (tst (wB (kEqA false) _ _)) _) _ _) _ = T
  simp -implicitDefEqProofs only [↓Qa, ↓Qb, ↓Qc, ↓Qd, ↓Qe, ↓Qg, ↓Qh, ↓Qi, ↓Qj, ↓Qk, ↓Ql, ↓par2_two, ↓Qm, ↓Qn, ↓Qo, ↓Qp, ↓Qq, ↓Qr, ↓Qs, ↓Qt, ↓Qu, ↓Qv, ↓Qw, ↓Qx, ↓Qy, ↓Qz, ↓Q0, ↓truK_bl, ↓Q3, ↓Q4, ↓Q5, ↓Q6, ↓chK_bl, ↓Q7, ↓Q8, ↓Q9, ↓Ya, ↓Yb, ↓Yc, ↓Yd, ↓Ye, ↓Yf, ↓Yg, ↓Yh, ↓Yi, ↓Yj, ↓Yk, ↓Ym, ↓Yn, ↓Yo, ↓Yp, ↓Yq, ↓Yr, ↓Ys, ↓Yt, ↓Yu, ↓Yv, ↓Yw, ↓Yx, ↓Yy, ↓Yz, ↓Y0, ↓Y1, ↓Y2, ↓Y3, ↓Y4, ↓Y5, ↓Y6, ↓Y7, ↓Y8, ↓Y9, ↓Ja, ↓Jb, ↓Jc, ↓Jd, ↓Je, ↓Jf, ↓Jg, ↓Jh, ↓Ji, ↓Jj, ↓Jk, ↓Jl, ↓Jm, ↓Jn, ↓Jo, ↓Jp, ↓Jq, ↓Jr, ↓Js, ↓Jt, ↓Ju, ↓Jw, ↓Jx, ↓Jy, ↓Jz, ↓J1, ↓J2, ↓J3, ↓J4, ↓J5, ↓J6, ↓J7, ↓J8, ↓J9, ↓Qaa, ↓Qab, ↓Qac, ↓Qad, ↓Qae, ↓par3_three, ↓Qaf, ↓Qag, ↓Qah, ↓Qai, ↓Qaj, ↓Qak, ↓Qal, ↓Qam, ↓Qan, ↓Qao, ↓Qap, ↓Qaq, ↓Qar, ↓Qas, ↓Qat, ↓Qau, ↓Qav, ↓Qaw, ↓Qax, ↓Qay, ↓Qaz, ↓Qa0, ↓Qa1, ↓Qa2, ↓Qa3, ↓Qa4, ↓Qa5, ↓Qa6, ↓Qa7, ↓Qa8, ↓Qa9, ↓Qba, ↓Qbb, ↓Qbc, ↓Qbd, ↓Qbe, ↓Qbf, ↓Qbg, ↓Qbh, ↓Qbi, ↓Qbj, ↓Qbk, ↓Qbl, List.set_cons_zero, List.set_cons_succ, wipeP]
  refine ⟨rfl, t_is_tuple hq ?_⟩
  rcases pn_tup_or hq with ⟨xs, rfl⟩ | ⟨hi, hn⟩
  · by_cases hlen : (xs.length : Int) = 5
    · have e5 : isTupP (.tup xs) 5 = true := decide_eq_true hlen
      rw [e5]
      obtain ⟨a, b, c, d, f, rfl⟩ : ∃ a b c d f, xs = [a, b, c, d, f] := by
        rcases xs with _ | ⟨a, _ | ⟨b, _ | ⟨c, _ | ⟨d, _ | ⟨f, _ | ⟨g, r⟩⟩⟩⟩⟩⟩
        · simp at hlen
        · simp at hlen
        · simp at hlen
        · simp at hlen
        · simp at hlen
        · exact ⟨a, b, c, d, f, rfl⟩
        · simp only [List.length_cons] at hlen; omega
      have hm : ∀ x ∈ [a, b, c, d, f], Pn x := hq1 _ rfl
      simp -implicitDefEqProofs only [↓Qa, ↓Qb, ↓Qc, ↓Qd, ↓Qe, ↓Qg, ↓Qh, ↓Qi, ↓Qj, ↓Qk, ↓Ql, ↓par2_two, ↓Qm, ↓Qn, ↓Qo, ↓Qp, ↓Qq, ↓Qr, ↓Qs, ↓Qt, ↓Qu, ↓Qv, ↓Qw, ↓Qx, ↓Qy, ↓Qz, ↓Q0, ↓truK_bl, ↓Q3, ↓Q4, ↓Q5, ↓Q6, ↓chK_bl, ↓Q7, ↓Q8, ↓Q9, ↓Ya, ↓Yb, ↓Yc, ↓Yd, ↓Ye, ↓Yf, ↓Yg, ↓Yh, ↓Yi, ↓Yj, ↓Yk, ↓Ym, ↓Yn, ↓Yo, ↓Yp, ↓Yq, ↓Yr, ↓Ys, ↓Yt, ↓Yu, ↓Yv, ↓Yw, ↓Yx, ↓Yy, ↓Yz, ↓Y0, ↓Y1, ↓Y2, ↓Y3, ↓Y4, ↓Y5, ↓Y6, ↓Y7, ↓Y8, ↓Y9, ↓Ja, ↓Jb, ↓Jc, ↓Jd, ↓Je, ↓Jf, ↓Jg, ↓Jh, ↓Ji, ↓Jj, ↓Jk, ↓Jl, ↓Jm, ↓Jn, ↓Jo, ↓Jp, ↓Jq, ↓Jr, ↓Js, ↓Jt, ↓Ju, ↓Jw, ↓Jx, ↓Jy, ↓Jz, ↓J1, ↓J2, ↓J3, ↓J4, ↓J5, ↓J6, ↓J7, ↓J8, ↓J9, ↓Qaa, ↓Qab, ↓Qac, ↓Qad, ↓Qae, ↓par3_three, ↓Qaf, ↓Qag, ↓Qah, ↓Qai, ↓Qaj, ↓Qak, ↓Qal, ↓Qam, ↓Qan, ↓Qao, ↓Qap, ↓Qaq, ↓Qar, ↓Qas, ↓Qat, ↓Qau, ↓Qav, ↓Qaw, ↓Qax, ↓Qay, ↓Qaz, ↓Qa0, ↓Qa1, ↓Qa2, ↓Qa3, ↓Qa4, ↓Qa5, ↓Qa6, ↓Qa7, ↓Qa8, ↓Qa9, ↓Qba, ↓Qbb, ↓Qbc, ↓Qbd, ↓Qbe, ↓Qbf, ↓Qbg, ↓Qbh, ↓Qbi, ↓Qbj, ↓Qbk, ↓Qbl, List.set_cons_zero, List.set_cons_succ, wipeP, Bool.not_true, Bool.false_eq_true, if_false]
      have ec : kSl (.tup [a, b, c, d, f]) none (some 3) S = fun R' => R' (.tup [a, b, c]) S := rfl
      simp only [ec, J7]
      have em : ([a, b, c] : List PV) = [a, b, c].map id := rfl
      rw [em]
      refine wLcL_allM id (fun x => PV.bl (isNm x)) trivial _ (fun x hx R' hR => ?_) (sz0 (by simp)) ?_
      · simp -implicitDefEqProofs only [w_is_road_1, ↓Qa, ↓Qb, ↓Qc, ↓Qd, ↓Qe, ↓Qg, ↓Qh, ↓Qi, ↓Qj, ↓Qk, ↓Ql, ↓par2_two, ↓Qm, ↓Qn, ↓Qo, ↓Qp, ↓Qq, ↓Qr, ↓Qs, ↓Qt, ↓Qu, ↓Qv, ↓Qw, ↓Qx, ↓Qy, ↓Qz, ↓Q0, ↓truK_bl, ↓Q3, ↓Q4, ↓Q5, ↓Q6, ↓chK_bl, ↓Q7, ↓Q8, ↓Q9, ↓Ya, ↓Yb, ↓Yc, ↓Yd, ↓Ye, ↓Yf, ↓Yg, ↓Yh, ↓Yi, ↓Yj, ↓Yk, ↓Ym, ↓Yn, ↓Yo, ↓Yp, ↓Yq, ↓Yr, ↓Ys, ↓Yt, ↓Yu, ↓Yv, ↓Yw, ↓Yx, ↓Yy, ↓Yz, ↓Y0, ↓Y1, ↓Y2, ↓Y3, ↓Y4, ↓Y5, ↓Y6, ↓Y7, ↓Y8, ↓Y9, ↓Ja, ↓Jb, ↓Jc, ↓Jd, ↓Je, ↓Jf, ↓Jg, ↓Jh, ↓Ji, ↓Jj, ↓Jk, ↓Jl, ↓Jm, ↓Jn, ↓Jo, ↓Jp, ↓Jq, ↓Jr, ↓Js, ↓Jt, ↓Ju, ↓Jw, ↓Jx, ↓Jy, ↓Jz, ↓J1, ↓J2, ↓J3, ↓J4, ↓J5, ↓J6, ↓J7, ↓J8, ↓J9, ↓Qaa, ↓Qab, ↓Qac, ↓Qad, ↓Qae, ↓par3_three, ↓Qaf, ↓Qag, ↓Qah, ↓Qai, ↓Qaj, ↓Qak, ↓Qal, ↓Qam, ↓Qan, ↓Qao, ↓Qap, ↓Qaq, ↓Qar, ↓Qas, ↓Qat, ↓Qau, ↓Qav, ↓Qaw, ↓Qax, ↓Qay, ↓Qaz, ↓Qa0, ↓Qa1, ↓Qa2, ↓Qa3, ↓Qa4, ↓Qa5, ↓Qa6, ↓Qa7, ↓Qa8, ↓Qa9, ↓Qba, ↓Qbb, ↓Qbc, ↓Qbd, ↓Qbe, ↓Qbf, ↓Qbg, ↓Qbh, ↓Qbi, ↓Qbj, ↓Qbk, ↓Qbl, List.set_cons_zero, List.set_cons_succ, wipeP, id]
        refine ⟨rfl, t_is_name (hm x ?_) hR⟩
        simp only [List.mem_cons, List.not_mem_nil, or_false] at hx ⊢
        rcases hx with rfl | rfl | rfl <;> simp
      rw [k_allM]
      have ea : ([a, b, c] : List PV).all isNm = (isNm a && isNm b && isNm c) := by simp [Bool.and_assoc]
      rw [ea]
      cases hb : (isNm a && isNm b && isNm c) with
      | false =>
        rw [roadQ_nonm hb] at h
        simp -implicitDefEqProofs only [↓Qa, ↓Qb, ↓Qc, ↓Qd, ↓Qe, ↓Qg, ↓Qh, ↓Qi, ↓Qj, ↓Qk, ↓Ql, ↓par2_two, ↓Qm, ↓Qn, ↓Qo, ↓Qp, ↓Qq, ↓Qr, ↓Qs, ↓Qt, ↓Qu, ↓Qv, ↓Qw, ↓Qx, ↓Qy, ↓Qz, ↓Q0, ↓truK_bl, ↓Q3, ↓Q4, ↓Q5, ↓Q6, ↓chK_bl, ↓Q7, ↓Q8, ↓Q9, ↓Ya, ↓Yb, ↓Yc, ↓Yd, ↓Ye, ↓Yf, ↓Yg, ↓Yh, ↓Yi, ↓Yj, ↓Yk, ↓Ym, ↓Yn, ↓Yo, ↓Yp, ↓Yq, ↓Yr, ↓Ys, ↓Yt, ↓Yu, ↓Yv, ↓Yw, ↓Yx, ↓Yy, ↓Yz, ↓Y0, ↓Y1, ↓Y2, ↓Y3, ↓Y4, ↓Y5, ↓Y6, ↓Y7, ↓Y8, ↓Y9, ↓Ja, ↓Jb, ↓Jc, ↓Jd, ↓Je, ↓Jf, ↓Jg, ↓Jh, ↓Ji, ↓Jj, ↓Jk, ↓Jl, ↓Jm, ↓Jn, ↓Jo, ↓Jp, ↓Jq, ↓Jr, ↓Js, ↓Jt, ↓Ju, ↓Jw, ↓Jx, ↓Jy, ↓Jz, ↓J1, ↓J2, ↓J3, ↓J4, ↓J5, ↓J6, ↓J7, ↓J8, ↓J9, ↓Qaa, ↓Qab, ↓Qac, ↓Qad, ↓Qae, ↓par3_three, ↓Qaf, ↓Qag, ↓Qah, ↓Qai, ↓Qaj, ↓Qak, ↓Qal, ↓Qam, ↓Qan, ↓Qao, ↓Qap, ↓Qaq, ↓Qar, ↓Qas, ↓Qat, ↓Qau, ↓Qav, ↓Qaw, ↓Qax, ↓Qay, ↓Qaz, ↓Qa0, ↓Qa1, ↓Qa2, ↓Qa3, ↓Qa4, ↓Qa5, ↓Qa6, ↓Qa7, ↓Qa8, ↓Qa9, ↓Qba, ↓Qbb, ↓Qbc, ↓Qbd, ↓Qbe, ↓Qbf, ↓Qbg, ↓Qbh, ↓Qbi, ↓Qbj, ↓Qbk, ↓Qbl, List.set_cons_zero, List.set_cons_succ, wipeP, Bool.not_false, if_true]
        exact gR_now h
      | true =>
        simp -implicitDefEqProofs only [↓Qa, ↓Qb, ↓Qc, ↓Qd, ↓Qe, ↓Qg, ↓Qh, ↓Qi, ↓Qj, ↓Qk, ↓Ql, ↓par2_two, ↓Qm, ↓Qn, ↓Qo, ↓Qp, ↓Qq, ↓Qr, ↓Qs, ↓Qt, ↓Qu, ↓Qv, ↓Qw, ↓Qx, ↓Qy, ↓Qz, ↓Q0, ↓truK_bl, ↓Q3, ↓Q4, ↓Q5, ↓Q6, ↓chK_bl, ↓Q7, ↓Q8, ↓Q9, ↓Ya, ↓Yb, ↓Yc, ↓Yd, ↓Ye, ↓Yf, ↓Yg, ↓Yh, ↓Yi, ↓Yj, ↓Yk, ↓Ym, ↓Yn, ↓Yo, ↓Yp, ↓Yq, ↓Yr, ↓Ys, ↓Yt, ↓Yu, ↓Yv, ↓Yw, ↓Yx, ↓Yy, ↓Yz, ↓Y0, ↓Y1, ↓Y2, ↓Y3, ↓Y4, ↓Y5, ↓Y6, ↓Y7, ↓Y8, ↓Y9, ↓Ja, ↓Jb, ↓Jc, ↓Jd, ↓Je, ↓Jf, ↓Jg, ↓Jh, ↓Ji, ↓Jj, ↓Jk, ↓Jl, ↓Jm, ↓Jn, ↓Jo, ↓Jp, ↓Jq, ↓Jr, ↓Js, ↓Jt, ↓Ju, ↓Jw, ↓Jx, ↓Jy, ↓Jz, ↓J1, ↓J2, ↓J3, ↓J4, ↓J5, ↓J6, ↓J7, ↓J8, ↓J9, ↓Qaa, ↓Qab, ↓Qac, ↓Qad, ↓Qae, ↓par3_three, ↓Qaf, ↓Qag, ↓Qah, ↓Qai, ↓Qaj, ↓Qak, ↓Qal, ↓Qam, ↓Qan, ↓Qao, ↓Qap, ↓Qaq, ↓Qar, ↓Qas, ↓Qat, ↓Qau, ↓Qav, ↓Qaw, ↓Qax, ↓Qay, ↓Qaz, ↓Qa0, ↓Qa1, ↓Qa2, ↓Qa3, ↓Qa4, ↓Qa5, ↓Qa6, ↓Qa7, ↓Qa8, ↓Qa9, ↓Qba, ↓Qbb, ↓Qbc, ↓Qbd, ↓Qbe, ↓Qbf, ↓Qbg, ↓Qbh, ↓Qbi, ↓Qbj, ↓Qbk, ↓Qbl, List.set_cons_zero, List.set_cons_succ, wipeP, Bool.not_true, Bool.false_eq_true, if_false]
        subst hT
        have hts2 : seqOf (dr S p) = some (ts.map PV.str) := hts.resolve_right (by rw [show nmsOk (.tup [a, b, c, d, f]) = (isNm a && isNm b && isNm c) from rfl, hb]; decide)
        obtain ⟨x, y, z, rfl, rfl, rfl, hx, hy, hz, er⟩ := roadQ_5 (ts := ts) (d := d) (e := f) hb
        rw [er] at h
        simp -implicitDefEqProofs only [↓Qa, ↓Qb, ↓Qc, ↓Qd, ↓Qe, ↓Qg, ↓Qh, ↓Qi, ↓Qj, ↓Qk, ↓Ql, ↓par2_two, ↓Qm, ↓Qn, ↓Qo, ↓Qp, ↓Qq, ↓Qr, ↓Qs, ↓Qt, ↓Qu, ↓Qv, ↓Qw, ↓Qx, ↓Qy, ↓Qz, ↓Q0, ↓truK_bl, ↓Q3, ↓Q4, ↓Q5, ↓Q6, ↓chK_bl, ↓Q7, ↓Q8, ↓Q9, ↓Ya, ↓Yb, ↓Yc, ↓Yd, ↓Ye, ↓Yf, ↓Yg, ↓Yh, ↓Yi, ↓Yj, ↓Yk, ↓Ym, ↓Yn, ↓Yo, ↓Yp, ↓Yq, ↓Yr, ↓Ys, ↓Yt, ↓Yu, ↓Yv, ↓Yw, ↓Yx, ↓Yy, ↓Yz, ↓Y0, ↓Y1, ↓Y2, ↓Y3, ↓Y4, ↓Y5, ↓Y6, ↓Y7, ↓Y8, ↓Y9, ↓Ja, ↓Jb, ↓Jc, ↓Jd, ↓Je, ↓Jf, ↓Jg, ↓Jh, ↓Ji, ↓Jj, ↓Jk, ↓Jl, ↓Jm, ↓Jn, ↓Jo, ↓Jp, ↓Jq, ↓Jr, ↓Js, ↓Jt, ↓Ju, ↓Jw, ↓Jx, ↓Jy, ↓Jz, ↓J1, ↓J2, ↓J3, ↓J4, ↓J5, ↓J6, ↓J7, ↓J8, ↓J9, ↓Qaa, ↓Qab, ↓Qac, ↓Qad, ↓Qae, ↓par3_three, ↓Qaf, ↓Qag, ↓Qah, ↓Qai, ↓Qaj, ↓Qak, ↓Qal, ↓Qam, ↓Qan, ↓Qao, ↓Qap, ↓Qaq, ↓Qar, ↓Qas, ↓Qat, ↓Qau, ↓Qav, ↓Qaw, ↓Qax, ↓Qay, ↓Qaz, ↓Qa0, ↓Qa1, ↓Qa2, ↓Qa3, ↓Qa4, ↓Qa5, ↓Qa6, ↓Qa7, ↓Qa8, ↓Qa9, ↓Qba, ↓Qbb, ↓Qbc, ↓Qbd, ↓Qbe, ↓Qbf, ↓Qbg, ↓Qbh, ↓Qbi, ↓Qbj, ↓Qbk, ↓Qbl, List.set_cons_zero, List.set_cons_succ, wipeP]
        refine ⟨.str y, rfl, .str z, rfl, ?_⟩
        simp -implicitDefEqProofs only [↓Qa, ↓Qb, ↓Qc, ↓Qd, ↓Qe, ↓Qg, ↓Qh, ↓Qi, ↓Qj, ↓Qk, ↓Ql, ↓par2_two, ↓Qm, ↓Qn, ↓Qo, ↓Qp, ↓Qq, ↓Qr, ↓Qs, ↓Qt, ↓Qu, ↓Qv, ↓Qw, ↓Qx, ↓Qy, ↓Qz, ↓Q0, ↓truK_bl, ↓Q3, ↓Q4, ↓Q5, ↓Q6, ↓chK_bl, ↓Q7, ↓Q8, ↓Q9, ↓Ya, ↓Yb, ↓Yc, ↓Yd, ↓Ye, ↓Yf, ↓Yg, ↓Yh, ↓Yi, ↓Yj, ↓Yk, ↓Ym, ↓Yn, ↓Yo, ↓Yp, ↓Yq, ↓Yr, ↓Ys, ↓Yt, ↓Yu, ↓Yv, ↓Yw, ↓Yx, ↓Yy, ↓Yz, ↓Y0, ↓Y1, ↓Y2, ↓Y3, ↓Y4, ↓Y5, ↓Y6, ↓Y7, ↓Y8, ↓Y9, ↓Ja, ↓Jb, ↓Jc, ↓Jd, ↓Je, ↓Jf, ↓Jg, ↓Jh, ↓Ji, ↓Jj, ↓Jk, ↓Jl, ↓Jm, ↓Jn, ↓Jo, ↓Jp, ↓Jq, ↓Jr, ↓Js, ↓Jt, ↓Ju, ↓Jw, ↓Jx, ↓Jy, ↓Jz, ↓J1, ↓J2, ↓J3, ↓J4, ↓J5, ↓J6, ↓J7, ↓J8, ↓J9, ↓Qaa, ↓Qab, ↓Qac, ↓Qad, ↓Qae, ↓par3_three, ↓Qaf, ↓Qag, ↓Qah, ↓Qai, ↓Qaj, ↓Qak, ↓Qal, ↓Qam, ↓Qan, ↓Qao, ↓Qap, ↓Qaq, ↓Qar, ↓Qas, ↓Qat, ↓Qau, ↓Qav, ↓Qaw, ↓Qax, ↓Qay, ↓Qaz, ↓Qa0, ↓Qa1, ↓Qa2, ↓Qa3, ↓Qa4, ↓Qa5, ↓Qa6, ↓Qa7, ↓Qa8, ↓Qa9, ↓Qba, ↓Qbb, ↓Qbc, ↓Qbd, ↓Qbe, ↓Qbf, ↓Qbg, ↓Qbh, ↓Qbi, ↓Qbj, ↓Qbk, ↓Qbl, List.set_cons_zero, List.set_cons_succ, wipeP, Bool.bne_false]
        by_cases hne : y = z
        · rw [decide_eq_true hne]
          simp only [if_true]
          have : decide (y ≠ z) = false := decide_eq_false fun q => q hne
          rw [this] at h
          exact gR_now h
        · rw [decide_eq_false hne]
          have : decide (y ≠ z) = true := decide_eq_true hne
          rw [this, Bool.true_and] at h
          simp only [Bool.false_eq_true, if_false]
          refine ⟨.str y, rfl, ?_⟩
          rw [k_in_strs hts2]
          simp -implicitDefEqProofs only [↓Qa, ↓Qb, ↓Qc, ↓Qd, ↓Qe, ↓Qg, ↓Qh, ↓Qi, ↓Qj, ↓Qk, ↓Ql, ↓par2_two, ↓Qm, ↓Qn, ↓Qo, ↓Qp, ↓Qq, ↓Qr, ↓Qs, ↓Qt, ↓Qu, ↓Qv, ↓Qw, ↓Qx, ↓Qy, ↓Qz, ↓Q0, ↓truK_bl, ↓Q3, ↓Q4, ↓Q5, ↓Q6, ↓chK_bl, ↓Q7, ↓Q8, ↓Q9, ↓Ya, ↓Yb, ↓Yc, ↓Yd, ↓Ye, ↓Yf, ↓Yg, ↓Yh, ↓Yi, ↓Yj, ↓Yk, ↓Ym, ↓Yn, ↓Yo, ↓Yp, ↓Yq, ↓Yr, ↓Ys, ↓Yt, ↓Yu, ↓Yv, ↓Yw, ↓Yx, ↓Yy, ↓Yz, ↓Y0, ↓Y1, ↓Y2, ↓Y3, ↓Y4, ↓Y5, ↓Y6, ↓Y7, ↓Y8, ↓Y9, ↓Ja, ↓Jb, ↓Jc, ↓Jd, ↓Je, ↓Jf, ↓Jg, ↓Jh, ↓Ji, ↓Jj, ↓Jk, ↓Jl, ↓Jm, ↓Jn, ↓Jo, ↓Jp, ↓Jq, ↓Jr, ↓Js, ↓Jt, ↓Ju, ↓Jw, ↓Jx, ↓Jy, ↓Jz, ↓J1, ↓J2, ↓J3, ↓J4, ↓J5, ↓J6, ↓J7, ↓J8, ↓J9, ↓Qaa, ↓Qab, ↓Qac, ↓Qad, ↓Qae, ↓par3_three, ↓Qaf, ↓Qag, ↓Qah, ↓Qai, ↓Qaj, ↓Qak, ↓Qal, ↓Qam, ↓Qan, ↓Qao, ↓Qap, ↓Qaq, ↓Qar, ↓Qas, ↓Qat, ↓Qau, ↓Qav, ↓Qaw, ↓Qax, ↓Qay, ↓Qaz, ↓Qa0, ↓Qa1, ↓Qa2, ↓Qa3, ↓Qa4, ↓Qa5, ↓Qa6, ↓Qa7, ↓Qa8, ↓Qa9, ↓Qba, ↓Qbb, ↓Qbc, ↓Qbd, ↓Qbe, ↓Qbf, ↓Qbg, ↓Qbh, ↓Qbi, ↓Qbj, ↓Qbk, ↓Qbl, List.set_cons_zero, List.set_cons_succ, wipeP, Bool.bne_true]
          cases h1 : decide (y ∈ ts) with
          | false =>
            rw [h1] at h
            simp -implicitDefEqProofs only [Bool.not_false, if_true, ↓Qa, ↓Qb, ↓Qc, ↓Qd, ↓Qe, ↓Qg, ↓Qh, ↓Qi, ↓Qj, ↓Qk, ↓Ql, ↓par2_two, ↓Qm, ↓Qn, ↓Qo, ↓Qp, ↓Qq, ↓Qr, ↓Qs, ↓Qt, ↓Qu, ↓Qv, ↓Qw, ↓Qx, ↓Qy, ↓Qz, ↓Q0, ↓truK_bl, ↓Q3, ↓Q4, ↓Q5, ↓Q6, ↓chK_bl, ↓Q7, ↓Q8, ↓Q9, ↓Ya, ↓Yb, ↓Yc, ↓Yd, ↓Ye, ↓Yf, ↓Yg, ↓Yh, ↓Yi, ↓Yj, ↓Yk, ↓Ym, ↓Yn, ↓Yo, ↓Yp, ↓Yq, ↓Yr, ↓Ys, ↓Yt, ↓Yu, ↓Yv, ↓Yw, ↓Yx, ↓Yy, ↓Yz, ↓Y0, ↓Y1, ↓Y2, ↓Y3, ↓Y4, ↓Y5, ↓Y6, ↓Y7, ↓Y8, ↓Y9, ↓Ja, ↓Jb, ↓Jc, ↓Jd, ↓Je, ↓Jf, ↓Jg, ↓Jh, ↓Ji, ↓Jj, ↓Jk, ↓Jl, ↓Jm, ↓Jn, ↓Jo, ↓Jp, ↓Jq, ↓Jr, ↓Js, ↓Jt, ↓Ju, ↓Jw, ↓Jx, ↓Jy, ↓Jz, ↓J1, ↓J2, ↓J3, ↓J4, ↓J5, ↓J6, ↓J7, ↓J8, ↓J9, ↓Qaa, ↓Qab, ↓Qac, ↓Qad, ↓Qae, ↓par3_three, ↓Qaf, ↓Qag, ↓Qah, ↓Qai, ↓Qaj, ↓Qak, ↓Qal, ↓Qam, ↓Qan, ↓Qao, ↓Qap, ↓Qaq, ↓Qar, ↓Qas, ↓Qat, ↓Qau, ↓Qav, ↓Qaw, ↓Qax, ↓Qay, ↓Qaz, ↓Qa0, ↓Qa1, ↓Qa2, ↓Qa3, ↓Qa4, ↓Qa5, ↓Qa6, ↓Qa7, ↓Qa8, ↓Qa9, ↓Qba, ↓Qbb, ↓Qbc, ↓Qbd, ↓Qbe, ↓Qbf, ↓Qbg, ↓Qbh, ↓Qbi, ↓Qbj, ↓Qbk, ↓Qbl, List.set_cons_zero, List.set_cons_succ, wipeP, Bool.false_and] at h ⊢
            exact gR_now h
          | true =>
            rw [h1] at h
            simp -implicitDefEqProofs only [Bool.not_true, Bool.false_eq_true, if_false, ↓Qa, ↓Qb, ↓Qc, ↓Qd, ↓Qe, ↓Qg, ↓Qh, ↓Qi, ↓Qj, ↓Qk, ↓Ql, ↓par2_two, ↓Qm, ↓Qn, ↓Qo, ↓Qp, ↓Qq, ↓Qr, ↓Qs, ↓Qt, ↓Qu, ↓Qv, ↓Qw, ↓Qx, ↓Qy, ↓Qz, ↓Q0, ↓truK_bl, ↓Q3, ↓Q4, ↓Q5, ↓Q6, ↓chK_bl, ↓Q7, ↓Q8, ↓Q9, ↓Ya, ↓Yb, ↓Yc, ↓Yd, ↓Ye, ↓Yf, ↓Yg, ↓Yh, ↓Yi, ↓Yj, ↓Yk, ↓Ym, ↓Yn, ↓Yo, ↓Yp, ↓Yq, ↓Yr, ↓Ys, ↓Yt, ↓Yu, ↓Yv, ↓Yw, ↓Yx, ↓Yy, ↓Yz, ↓Y0, ↓Y1, ↓Y2, ↓Y3, ↓Y4, ↓Y5, ↓Y6, ↓Y7, ↓Y8, ↓Y9, ↓Ja, ↓Jb, ↓Jc, ↓Jd, ↓Je, ↓Jf, ↓Jg, ↓Jh, ↓Ji, ↓Jj, ↓Jk, ↓Jl, ↓Jm, ↓Jn, ↓Jo, ↓Jp, ↓Jq, ↓Jr, ↓Js, ↓Jt, ↓Ju, ↓Jw, ↓Jx, ↓Jy, ↓Jz, ↓J1, ↓J2, ↓J3, ↓J4, ↓J5, ↓J6, ↓J7, ↓J8, ↓J9, ↓Qaa, ↓Qab, ↓Qac, ↓Qad, ↓Qae, ↓par3_three, ↓Qaf, ↓Qag, ↓Qah, ↓Qai, ↓Qaj, ↓Qak, ↓Qal, ↓Qam, ↓Qan, ↓Qao, ↓Qap, ↓Qaq, ↓Qar, ↓Qas, ↓Qat, ↓Qau, ↓Qav, ↓Qaw, ↓Qax, ↓Qay, ↓Qaz, ↓Qa0, ↓Qa1, ↓Qa2, ↓Qa3, ↓Qa4, ↓Qa5, ↓Qa6, ↓Qa7, ↓Qa8, ↓Qa9, ↓Qba, ↓Qbb, ↓Qbc, ↓Qbd, ↓Qbe, ↓Qbf, ↓Qbg, ↓Qbh, ↓Qbi, ↓Qbj, ↓Qbk, ↓Qbl, List.set_cons_zero, List.set_cons_succ, wipeP, Bool.true_and] at h ⊢
            refine ⟨.str z, rfl, ?_⟩
            rw [k_in_strs hts2]
            simp -implicitDefEqProofs only [↓Qa, ↓Qb, ↓Qc, ↓Qd, ↓Qe, ↓Qg, ↓Qh, ↓Qi, ↓Qj, ↓Qk, ↓Ql, ↓par2_two, ↓Qm, ↓Qn, ↓Qo, ↓Qp, ↓Qq, ↓Qr, ↓Qs, ↓Qt, ↓Qu, ↓Qv, ↓Qw, ↓Qx, ↓Qy, ↓Qz, ↓Q0, ↓truK_bl, ↓Q3, ↓Q4, ↓Q5, ↓Q6, ↓chK_bl, ↓Q7, ↓Q8, ↓Q9, ↓Ya, ↓Yb, ↓Yc, ↓Yd, ↓Ye, ↓Yf, ↓Yg, ↓Yh, ↓Yi, ↓Yj, ↓Yk, ↓Ym, ↓Yn, ↓Yo, ↓Yp, ↓Yq, ↓Yr, ↓Ys, ↓Yt, ↓Yu, ↓Yv, ↓Yw, ↓Yx, ↓Yy, ↓Yz, ↓Y0, ↓Y1, ↓Y2, ↓Y3, ↓Y4, ↓Y5, ↓Y6, ↓Y7, ↓Y8, ↓Y9, ↓Ja, ↓Jb, ↓Jc, ↓Jd, ↓Je, ↓Jf, ↓Jg, ↓Jh, ↓Ji, ↓Jj, ↓Jk, ↓Jl, ↓Jm, ↓Jn, ↓Jo, ↓Jp, ↓Jq, ↓Jr, ↓Js, ↓Jt, ↓Ju, ↓Jw, ↓Jx, ↓Jy, ↓Jz, ↓J1, ↓J2, ↓J3, ↓J4, ↓J5, ↓J6, ↓J7, ↓J8, ↓J9, ↓Qaa, ↓Qab, ↓Qac, ↓Qad, ↓Qae, ↓par3_three, ↓Qaf, ↓Qag, ↓Qah, ↓Qai, ↓Qaj, ↓Qak, ↓Qal, ↓Qam, ↓Qan, ↓Qao, ↓Qap, ↓Qaq, ↓Qar, ↓Qas, ↓Qat, ↓Qau, ↓Qav, ↓Qaw, ↓Qax, ↓Qay, ↓Qaz, ↓Qa0, ↓Qa1, ↓Qa2, ↓Qa3, ↓Qa4, ↓Qa5, ↓Qa6, ↓Qa7, ↓Qa8, ↓Qa9, ↓Qba, ↓Qbb, ↓Qbc, ↓Qbd, ↓Qbe, ↓Qbf, ↓Qbg, ↓Qbh, ↓Qbi, ↓Qbj, ↓Qbk, ↓Qbl, List.set_cons_zero, List.set_cons_succ, wipeP, Bool.bne_true]
            cases h2 : decide (z ∈ ts) with
            | false =>
              rw [h2] at h
              simp -implicitDefEqProofs only [Bool.not_false, if_true, ↓Qa, ↓Qb, ↓Qc, ↓Qd, ↓Qe, ↓Qg, ↓Qh, ↓Qi, ↓Qj, ↓Qk, ↓Ql, ↓par2_two, ↓Qm, ↓Qn, ↓Qo, ↓Qp, ↓Qq, ↓Qr, ↓Qs, ↓Qt, ↓Qu, ↓Qv, ↓Qw, ↓Qx, ↓Qy, ↓Qz, ↓Q0, ↓truK_bl, ↓Q3, ↓Q4, ↓Q5, ↓Q6, ↓chK_bl, ↓Q7, ↓Q8, ↓Q9, ↓Ya, ↓Yb, ↓Yc, ↓Yd, ↓Ye, ↓Yf, ↓Yg, ↓Yh, ↓Yi, ↓Yj, ↓Yk, ↓Ym, ↓Yn, ↓Yo, ↓Yp, ↓Yq, ↓Yr, ↓Ys, ↓Yt, ↓Yu, ↓Yv, ↓Yw, ↓Yx, ↓Yy, ↓Yz, ↓Y0, ↓Y1, ↓Y2, ↓Y3, ↓Y4, ↓Y5, ↓Y6, ↓Y7, ↓Y8, ↓Y9, ↓Ja, ↓Jb, ↓Jc, ↓Jd, ↓Je, ↓Jf, ↓Jg, ↓Jh, ↓Ji, ↓Jj, ↓Jk, ↓Jl, ↓Jm, ↓Jn, ↓Jo, ↓Jp, ↓Jq, ↓Jr, ↓Js, ↓Jt, ↓Ju, ↓Jw, ↓Jx, ↓Jy, ↓Jz, ↓J1, ↓J2, ↓J3, ↓J4, ↓J5, ↓J6, ↓J7, ↓J8, ↓J9, ↓Qaa, ↓Qab, ↓Qac, ↓Qad, ↓Qae, ↓par3_three, ↓Qaf, ↓Qag, ↓Qah, ↓Qai, ↓Qaj, ↓Qak, ↓Qal, ↓Qam, ↓Qan, ↓Qao, ↓Qap, ↓Qaq, ↓Qar, ↓Qas, ↓Qat, ↓Qau, ↓Qav, ↓Qaw, ↓Qax, ↓Qay, ↓Qaz, ↓Qa0, ↓Qa1, ↓Qa2, ↓Qa3, ↓Qa4, ↓Qa5, ↓Qa6, ↓Qa7, ↓Qa8, ↓Qa9, ↓Qba, ↓Qbb, ↓Qbc, ↓Qbd, ↓Qbe, ↓Qbf, ↓Qbg, ↓Qbh, ↓Qbi, ↓Qbj, ↓Qbk, ↓Qbl, List.set_cons_zero, List.set_cons_succ, wipeP, Bool.false_and] at h ⊢
              exact gR_now h
            | true =>
              rw [h2] at h
              simp -implicitDefEqProofs only [Bool.not_true, Bool.false_eq_true, if_false, ↓Qa, ↓Qb, ↓Qc, ↓Qd, ↓Qe, ↓Qg, ↓Qh, ↓Qi, ↓Qj, ↓Qk, ↓Ql, ↓par2_two, ↓Qm, ↓Qn, ↓Qo, ↓Qp, ↓Qq, ↓Qr, ↓Qs, ↓Qt, ↓Qu, ↓Qv, ↓Qw, ↓Qx, ↓Qy, ↓Qz, ↓Q0, ↓truK_bl, ↓Q3, ↓Q4, ↓Q5, ↓Q6, ↓chK_bl, ↓Q7, ↓Q8, ↓Q9, ↓Ya, ↓Yb, ↓Yc, ↓Yd, ↓Ye, ↓Yf, ↓Yg, ↓Yh, ↓Yi, ↓Yj, ↓Yk, ↓Ym, ↓Yn, ↓Yo, ↓Yp, ↓Yq, ↓Yr, ↓Ys, ↓Yt, ↓Yu, ↓Yv, ↓Yw, ↓Yx, ↓Yy, ↓Yz, ↓Y0, ↓Y1, ↓Y2, ↓Y3, ↓Y4, ↓Y5, ↓Y6, ↓Y7, ↓Y8, ↓Y9, ↓Ja, ↓Jb, ↓Jc, ↓Jd, ↓Je, ↓Jf, ↓Jg, ↓Jh, ↓Ji, ↓Jj, ↓Jk, ↓Jl, ↓Jm, ↓Jn, ↓Jo, ↓Jp, ↓Jq, ↓Jr, ↓Js, ↓Jt, ↓Ju, ↓Jw, ↓Jx, ↓Jy, ↓Jz, ↓J1, ↓J2, ↓J3, ↓J4, ↓J5, ↓J6, ↓J7, ↓J8, ↓J9, ↓Qaa, ↓Qab, ↓Qac, ↓Qad, ↓Qae, ↓par3_three, ↓Qaf, ↓Qag, ↓Qah, ↓Qai, ↓Qaj, ↓Qak, ↓Qal, ↓Qam, ↓Qan, ↓Qao, ↓Qap, ↓Qaq, ↓Qar, ↓Qas, ↓Qat, ↓Qau, ↓Qav, ↓Qaw, ↓Qax, ↓Qay, ↓Qaz, ↓Qa0, ↓Qa1, ↓Qa2, ↓Qa3, ↓Qa4, ↓Qa5, ↓Qa6, ↓Qa7, ↓Qa8, ↓Qa9, ↓Qba, ↓Qbb, ↓Qbc, ↓Qbd, ↓Qbe, ↓Qbf, ↓Qbg, ↓Qbh, ↓Qbi, ↓Qbj, ↓Qbk, ↓Qbl, List.set_cons_zero, List.set_cons_succ, wipeP, Bool.true_and] at h ⊢
              refine ⟨d, rfl, ?_⟩
              refine ⟨rfl, t_is_within (hm d (by simp)) ?_⟩
              rw [truK_bl]
              cases h3 : inI d (-1000) 1000 with
              | false =>
                rw [h3] at h
                simp only [Bool.false_and, Bool.false_eq_true, if_false] at h ⊢
                exact gR_now h
              | true =>
                rw [h3] at h
                simp only [Bool.true_and, if_true] at h ⊢
                refine ⟨f, rfl, ?_⟩
                exact ⟨rfl, t_is_within (hm f (by simp)) (gR_now h)⟩
    · have e5 : isTupP (.tup xs) 5 = false := decide_eq_false hlen
      rw [e5]
      rw [roadQ_no5 (by omega)] at h
      simp -implicitDefEqProofs only [↓Qa, ↓Qb, ↓Qc, ↓Qd, ↓Qe, ↓Qg, ↓Qh, ↓Qi, ↓Qj, ↓Qk, ↓Ql, ↓par2_two, ↓Qm, ↓Qn, ↓Qo, ↓Qp, ↓Qq, ↓Qr, ↓Qs, ↓Qt, ↓Qu, ↓Qv, ↓Qw, ↓Qx, ↓Qy, ↓Qz, ↓Q0, ↓truK_bl, ↓Q3, ↓Q4, ↓Q5, ↓Q6, ↓chK_bl, ↓Q7, ↓Q8, ↓Q9, ↓Ya, ↓Yb, ↓Yc, ↓Yd, ↓Ye, ↓Yf, ↓Yg, ↓Yh, ↓Yi, ↓Yj, ↓Yk, ↓Ym, ↓Yn, ↓Yo, ↓Yp, ↓Yq, ↓Yr, ↓Ys, ↓Yt, ↓Yu, ↓Yv, ↓Yw, ↓Yx, ↓Yy, ↓Yz, ↓Y0, ↓Y1, ↓Y2, ↓Y3, ↓Y4, ↓Y5, ↓Y6, ↓Y7, ↓Y8, ↓Y9, ↓Ja, ↓Jb, ↓Jc, ↓Jd, ↓Je, ↓Jf, ↓Jg, ↓Jh, ↓Ji, ↓Jj, ↓Jk, ↓Jl, ↓Jm, ↓Jn, ↓Jo, ↓Jp, ↓Jq, ↓Jr, ↓Js, ↓Jt, ↓Ju, ↓Jw, ↓Jx, ↓Jy, ↓Jz, ↓J1, ↓J2, ↓J3, ↓J4, ↓J5, ↓J6, ↓J7, ↓J8, ↓J9, ↓Qaa, ↓Qab, ↓Qac, ↓Qad, ↓Qae, ↓par3_three, ↓Qaf, ↓Qag, ↓Qah, ↓Qai, ↓Qaj, ↓Qak, ↓Qal, ↓Qam, ↓Qan, ↓Qao, ↓Qap, ↓Qaq, ↓Qar, ↓Qas, ↓Qat, ↓Qau, ↓Qav, ↓Qaw, ↓Qax, ↓Qay, ↓Qaz, ↓Qa0, ↓Qa1, ↓Qa2, ↓Qa3, ↓Qa4, ↓Qa5, ↓Qa6, ↓Qa7, ↓Qa8, ↓Qa9, ↓Qba, ↓Qbb, ↓Qbc, ↓Qbd, ↓Qbe, ↓Qbf, ↓Qbg, ↓Qbh, ↓Qbi, ↓Qbj, ↓Qbk, ↓Qbl, List.set_cons_zero, List.set_cons_succ, wipeP, Bool.not_false, if_true]
      exact gR_now h
  · have e5 : isTupP q 5 = false := by
      unfold isTupP
      cases q <;> first | rfl | exact absurd rfl (hn _)
    rw [e5]
    rw [roadQ_notup hn] at h
    simp -implicitDefEqProofs only [↓Qa, ↓Qb, ↓Qc, ↓Qd, ↓Qe, ↓Qg, ↓Qh, ↓Qi, ↓Qj, ↓Qk, ↓Ql, ↓par2_two, ↓Qm, ↓Qn, ↓Qo, ↓Qp, ↓Qq, ↓Qr, ↓Qs, ↓Qt, ↓Qu, ↓Qv, ↓Qw, ↓Qx, ↓Qy, ↓Qz, ↓Q0, ↓truK_bl, ↓Q3, ↓Q4, ↓Q5, ↓Q6, ↓chK_bl, ↓Q7, ↓Q8, ↓Q9, ↓Ya, ↓Yb, ↓Yc, ↓Yd, ↓Ye, ↓Yf, ↓Yg, ↓Yh, ↓Yi, ↓Yj, ↓Yk, ↓Ym, ↓Yn, ↓Yo, ↓Yp, ↓Yq, ↓Yr, ↓Ys, ↓Yt, ↓Yu, ↓Yv, ↓Yw, ↓Yx, ↓Yy, ↓Yz, ↓Y0, ↓Y1, ↓Y2, ↓Y3, ↓Y4, ↓Y5, ↓Y6, ↓Y7, ↓Y8, ↓Y9, ↓Ja, ↓Jb, ↓Jc, ↓Jd, ↓Je, ↓Jf, ↓Jg, ↓Jh, ↓Ji, ↓Jj, ↓Jk, ↓Jl, ↓Jm, ↓Jn, ↓Jo, ↓Jp, ↓Jq, ↓Jr, ↓Js, ↓Jt, ↓Ju, ↓Jw, ↓Jx, ↓Jy, ↓Jz, ↓J1, ↓J2, ↓J3, ↓J4, ↓J5, ↓J6, ↓J7, ↓J8, ↓J9, ↓Qaa, ↓Qab, ↓Qac, ↓Qad, ↓Qae, ↓par3_three, ↓Qaf, ↓Qag, ↓Qah, ↓Qai, ↓Qaj, ↓Qak, ↓Qal, ↓Qam, ↓Qan, ↓Qao, ↓Qap, ↓Qaq, ↓Qar, ↓Qas, ↓Qat, ↓Qau, ↓Qav, ↓Qaw, ↓Qax, ↓Qay, ↓Qaz, ↓Qa0, ↓Qa1, ↓Qa2, ↓Qa3, ↓Qa4, ↓Qa5, ↓Qa6, ↓Qa7, ↓Qa8, ↓Qa9, ↓Qba, ↓Qbb, ↓Qbc, ↓Qbd, ↓Qbe, ↓Qbf, ↓Qbg, ↓Qbh, ↓Qbi, ↓Qbj, ↓Qbk, ↓Qbl, List.set_cons_zero, List.set_cons_succ, wipeP, Bool.not_false, if_true]
    exact gR_now h

theorem strsOf_eq : ∀ {xs : List PV} {ss : List Str}, strsOf xs = some ss → xs = ss.map PV.str
  | [], _, h => by cases h; rfl
  | .str b :: r, ss, h => by
    unfold strsOf at h
    obtain ⟨bs, h1, rfl⟩ := Option.map_eq_some_iff.mp h
    rw [List.map_cons, strsOf_eq h1]
theorem all_isNm : ∀ {xs : List PV}, xs.all isNm = true → ∃ ss : List Str, xs = ss.map PV.str ∧ ss.all nameB = true
  | [], _ => ⟨[], rfl, rfl⟩
  | x :: xs, h => by
    rw [List.all_cons, Bool.and_eq_true] at h
    obtain ⟨y, rfl, hy⟩ := isNm_str h.1
    obtain ⟨ss, rfl, hs⟩ := all_isNm h.2
    exact ⟨y :: ss, rfl, by rw [List.all_cons, hy, hs]; rfl⟩
theorem isNm_all (ss : List Str) : (ss.map PV.str).all isNm = ss.all nameB := by rw [List.all_map]; rfl
theorem townsF_no40 {xs : List PV} (h : ¬ xs.length ≤ 40) : townsF (.tup xs) = none := by
  unfold townsF
  dsimp only
  split
  · rename_i ss e
    have := strsOf_eq e
    subst this
    rw [List.length_map] at h
    exact if_neg fun z => h z.1
  · rfl
theorem townsF_nonm {xs : List PV} (h : xs.all isNm = false) : townsF (.tup xs) = none := by
  unfold townsF
  dsimp only
  split
  · rename_i ss e
    have := strsOf_eq e
    subst this
    rw [isNm_all] at h
    exact if_neg fun z => by rw [h] at z; exact Bool.false_ne_true z.2.1
  · rfl
theorem townsF_strs (ss : List Str) : townsF (.tup (ss.map PV.str)) = if ss.length ≤ 40 ∧ ss.all nameB = true ∧ UpS ss then some ss else none := by
  unfold townsF
  dsimp only
  rw [strsOf_map]
theorem townsF_ok {ts : List Str} (h : ts.length ≤ 40) (hn : ∀ t ∈ ts, nameB t = true) (ha : UpS ts) : townsF (townsP ts) = some ts := by
  show townsF (.tup (ts.map PV.str)) = _
  rw [townsF_strs, if_pos ⟨h, List.all_eq_true.mpr hn, ha⟩]
/-- the roads' faults, none -/
theorem roadsF_ok {ts : List Str} : ∀ (rs : List Road) (k : Nat) (prev : Option Str), (∀ r ∈ rs, roadB ts r = true) → rs.Pairwise (fun a b => ltS a.name b.name = true) → (∀ n, prev = some n → ∀ r ∈ rs, ltS n r.name = true) → roadsF ts k prev (rs.map roadP) = none
  | [], _, _, _, _, _ => rfl
  | r :: rs, k, prev, h, ha, hp => by
    have ha := List.pairwise_cons.mp ha
    show (if roadB ts r = true ∧ aheadB prev r.name = true then roadsF ts (k + 1) (some r.name) (rs.map roadP) else some k) = none
    rw [if_pos ⟨h r List.mem_cons_self, by
      cases prev with
      | none => rfl
      | some n => exact hp n rfl r List.mem_cons_self⟩]
    exact roadsF_ok rs _ _ (fun q hq => h q (List.mem_cons_of_mem _ hq)) ha.2 fun n e q hq => by
      cases e; exact ha.1 q hq
theorem netFault_ok {ts : List Str} {rs : List Road} (ok : NetOk ts rs) : netFault (townsP ts) (roadsP rs) = none := by
  unfold netFault
  rw [townsF_ok ok.tl ok.tn ok.ta]
  show (if (rs.map roadP).length ≤ 120 then (roadsF ts 0 none (rs.map roadP)).map (fun n => PV.int n) else some (.str "roads")) = none
  rw [List.length_map, if_pos ok.rl, roadsF_ok rs 0 none ok.rn ok.ra (fun n e => by cases e)]
  rfl
def enumF : Nat → List PV → List PV
  | _, [] => []
  | k, y :: r => .tup [.int k, y] :: enumF (k + 1) r
theorem enumF_eq : ∀ (r done : List PV), enumF done.length r = (List.range' done.length r.length).map fun (i : Nat) => PV.tup [.int i, (done ++ r).getD i .non]
  | [], _ => rfl
  | y :: r, done => by
    have ih := enumF_eq r (done ++ [y])
    rw [List.length_append, List.length_singleton, List.append_assoc] at ih
    show PV.tup [.int done.length, y] :: enumF (done.length + 1) r = _
    rw [ih, List.length_cons, List.range'_succ, List.map_cons]
    congr 1
    simp [List.getD]
theorem enumP_F (ys : List PV) : enumP ys = enumF 0 ys := by
  have := enumF_eq ys []
  have e : enumF 0 ys = (List.range' 0 ys.length).map fun (i : Nat) => PV.tup [.int i, ys.getD i .non] := this
  rw [e]
  unfold enumP
  rw [List.range_eq_range']
def lastN (rs : List Road) : Option Str := (rs.getLast?).map Road.name
theorem init_loop (K : PySem.W.Frag) {a : Addr} {ts : List Str} {ys : List PV} {S : Sto} {P : PEnds} (hy : ∀ y ∈ ys, PnT y)
    (hE : ∀ n ρ, (match roadsF ts 0 none ys with
      | none => False
      | some m => n = m) → P.ex (badNet K (.int (n : Nat))) ρ S)
    (hN : ∀ (rs : List Road) x3 x4, ys = rs.map roadP → (∀ r ∈ rs, roadB ts r = true) → rs.Pairwise (fun a b => ltS a.name b.name = true) → P.nx [some (.ref a), some (townsP ts), some (.tup ys), x3, x4, none] S) :
    ∀ (rest : List PV) (done : List Road) (x3 x4 : Option PV), ys = done.map roadP ++ rest → (∀ r ∈ done, roadB ts r = true) → done.Pairwise (fun a b => ltS a.name b.name = true) → roadsF ts 0 none ys = roadsF ts done.length (lastN done) rest →
      wForL (fun _ => True) (.tp [3, 4]) (w_Net___init___2 K) P (enumF done.length rest) [some (.ref a), some (townsP ts), some (.tup ys), x3, x4, none] S := by
  intro rest
  induction rest with
  | nil =>
    intro done x3 x4 e h1 h2 h3
    rw [List.append_nil] at e
    exact ⟨trivial, hN done x3 x4 e h1 h2⟩
  | cons y r ih =>
    intro done x3 x4 e h1 h2 h3
    have py : PnT y := hy y (by rw [e]; exact List.mem_append_right _ List.mem_cons_self)
    show True ∧ _
    refine ⟨trivial, ?_⟩
    rw [Qad]
    refine ⟨rfl, ?_⟩
    simp -implicitDefEqProofs only [setM_cons, setM_nil, ↓Qa, ↓Qb, ↓Qc, ↓Qd, ↓Qe, ↓Qg, ↓Qh, ↓Qi, ↓Qj, ↓Qk, ↓Ql, ↓par2_two, ↓Qm, ↓Qn, ↓Qo, ↓Qp, ↓Qq, ↓Qr, ↓Qs, ↓Qt, ↓Qu, ↓Qv, ↓Qw, ↓Qx, ↓Qy, ↓Qz, ↓Q0, ↓truK_bl, ↓Q3, ↓Q4, ↓Q5, ↓Q6, ↓chK_bl, ↓Q7, ↓Q8, ↓Q9, ↓Ya, ↓Yb, ↓Yc, ↓Yd, ↓Ye, ↓Yf, ↓Yg, ↓Yh, ↓Yi, ↓Yj, ↓Yk, ↓Ym, ↓Yn, ↓Yo, ↓Yp, ↓Yq, ↓Yr, ↓Ys, ↓Yt, ↓Yu, ↓Yv, ↓Yw, ↓Yx, ↓Yy, ↓Yz, ↓Y0, ↓Y1, ↓Y2, ↓Y3, ↓Y4, ↓Y5, ↓Y6, ↓Y7, ↓Y8, ↓Y9, ↓Ja, ↓Jb, ↓Jc, ↓Jd, ↓Je, ↓Jf, ↓Jg, ↓Jh, ↓Ji, ↓Jj, ↓Jk, ↓Jl, ↓Jm, ↓Jn, ↓Jo, ↓Jp, ↓Jq, ↓Jr, ↓Js, ↓Jt, ↓Ju, ↓Jw, ↓Jx, ↓Jy, ↓Jz, ↓J1, ↓J2, ↓J3, ↓J4, ↓J5, ↓J6, ↓J7, ↓J8, ↓J9, ↓Qaa, ↓Qab, ↓Qac, ↓Qad, ↓Qae, ↓par3_three, ↓Qaf, ↓Qag, ↓Qah, ↓Qai, ↓Qaj, ↓Qak, ↓Qal, ↓Qam, ↓Qan, ↓Qao, ↓Qap, ↓Qaq, ↓Qar, ↓Qas, ↓Qat, ↓Qau, ↓Qav, ↓Qaw, ↓Qax, ↓Qay, ↓Qaz, ↓Qa0, ↓Qa1, ↓Qa2, ↓Qa3, ↓Qa4, ↓Qa5, ↓Qa6, ↓Qa7, ↓Qa8, ↓Qa9, ↓Qba, ↓Qbb, ↓Qbc, ↓Qbd, ↓Qbe, ↓Qbf, ↓Qbg, ↓Qbh, ↓Qbi, ↓Qbj, ↓Qbk, ↓Qbl, List.set_cons_zero, List.set_cons_succ, wipeP, w_Net___init___2]
    refine ⟨rfl, t_is_road (ts := ts) (.inl rfl) py ?_⟩
    have bad : ∀ ρ, roadsF ts done.length (lastN done) (y :: r) = some done.length → P.ex (badNet K (.int (done.length : Nat))) ρ S := fun ρ q => hE _ ρ (by rw [h3, q])
    cases ea : asRoad y with
    | none =>
      have eq : roadQ ts y = false := by unfold roadQ; rw [ea]
      rw [eq]
      simp -implicitDefEqProofs only [↓Qa, ↓Qb, ↓Qc, ↓Qd, ↓Qe, ↓Qg, ↓Qh, ↓Qi, ↓Qj, ↓Qk, ↓Ql, ↓par2_two, ↓Qm, ↓Qn, ↓Qo, ↓Qp, ↓Qq, ↓Qr, ↓Qs, ↓Qt, ↓Qu, ↓Qv, ↓Qw, ↓Qx, ↓Qy, ↓Qz, ↓Q0, ↓truK_bl, ↓Q3, ↓Q4, ↓Q5, ↓Q6, ↓chK_bl, ↓Q7, ↓Q8, ↓Q9, ↓Ya, ↓Yb, ↓Yc, ↓Yd, ↓Ye, ↓Yf, ↓Yg, ↓Yh, ↓Yi, ↓Yj, ↓Yk, ↓Ym, ↓Yn, ↓Yo, ↓Yp, ↓Yq, ↓Yr, ↓Ys, ↓Yt, ↓Yu, ↓Yv, ↓Yw, ↓Yx, ↓Yy, ↓Yz, ↓Y0, ↓Y1, ↓Y2, ↓Y3, ↓Y4, ↓Y5, ↓Y6, ↓Y7, ↓Y8, ↓Y9, ↓Ja, ↓Jb, ↓Jc, ↓Jd, ↓Je, ↓Jf, ↓Jg, ↓Jh, ↓Ji, ↓Jj, ↓Jk, ↓Jl, ↓Jm, ↓Jn, ↓Jo, ↓Jp, ↓Jq, ↓Jr, ↓Js, ↓Jt, ↓Ju, ↓Jw, ↓Jx, ↓Jy, ↓Jz, ↓J1, ↓J2, ↓J3, ↓J4, ↓J5, ↓J6, ↓J7, ↓J8, ↓J9, ↓Qaa, ↓Qab, ↓Qac, ↓Qad, ↓Qae, ↓par3_three, ↓Qaf, ↓Qag, ↓Qah, ↓Qai, ↓Qaj, ↓Qak, ↓Qal, ↓Qam, ↓Qan, ↓Qao, ↓Qap, ↓Qaq, ↓Qar, ↓Qas, ↓Qat, ↓Qau, ↓Qav, ↓Qaw, ↓Qax, ↓Qay, ↓Qaz, ↓Qa0, ↓Qa1, ↓Qa2, ↓Qa3, ↓Qa4, ↓Qa5, ↓Qa6, ↓Qa7, ↓Qa8, ↓Qa9, ↓Qba, ↓Qbb, ↓Qbc, ↓Qbd, ↓Qbe, ↓Qbf, ↓Qbg, ↓Qbh, ↓Qbi, ↓Qbj, ↓Qbk, ↓Qbl, List.set_cons_zero, List.set_cons_succ, wipeP, Bool.not_false, if_true]
      refine bad _ ?_
      unfold roadsF
      rw [ea]
    | some d =>
      have ey := asRoad_eq ea
      have eq : roadQ ts y = roadB ts d := by unfold roadQ; rw [ea]
      have st : roadsF ts done.length (lastN done) (y :: r) = if roadB ts d = true ∧ aheadB (lastN done) d.name = true then roadsF ts (done.length + 1) (some d.name) r else some done.length := by
        conv => lhs; unfold roadsF
        rw [ea]
      rw [eq]
      cases hb : roadB ts d with
      | false =>
        simp -implicitDefEqProofs only [↓Qa, ↓Qb, ↓Qc, ↓Qd, ↓Qe, ↓Qg, ↓Qh, ↓Qi, ↓Qj, ↓Qk, ↓Ql, ↓par2_two, ↓Qm, ↓Qn, ↓Qo, ↓Qp, ↓Qq, ↓Qr, ↓Qs, ↓Qt, ↓Qu, ↓Qv, ↓Qw, ↓Qx, ↓Qy, ↓Qz, ↓Q0, ↓truK_bl, ↓Q3, ↓Q4, ↓Q5, ↓Q6, ↓chK_bl, ↓Q7, ↓Q8, ↓Q9, ↓Ya, ↓Yb, ↓Yc, ↓Yd, ↓Ye, ↓Yf, ↓Yg, ↓Yh, ↓Yi, ↓Yj, ↓Yk, ↓Ym, ↓Yn, ↓Yo, ↓Yp, ↓Yq, ↓Yr, ↓Ys, ↓Yt, ↓Yu, ↓Yv, ↓Yw, ↓Yx, ↓Yy, ↓Yz, ↓Y0, ↓Y1, ↓Y2, ↓Y3, ↓Y4, ↓Y5, ↓Y6, ↓Y7, ↓Y8, ↓Y9, ↓Ja, ↓Jb, ↓Jc, ↓Jd, ↓Je, ↓Jf, ↓Jg, ↓Jh, ↓Ji, ↓Jj, ↓Jk, ↓Jl, ↓Jm, ↓Jn, ↓Jo, ↓Jp, ↓Jq, ↓Jr, ↓Js, ↓Jt, ↓Ju, ↓Jw, ↓Jx, ↓Jy, ↓Jz, ↓J1, ↓J2, ↓J3, ↓J4, ↓J5, ↓J6, ↓J7, ↓J8, ↓J9, ↓Qaa, ↓Qab, ↓Qac, ↓Qad, ↓Qae, ↓par3_three, ↓Qaf, ↓Qag, ↓Qah, ↓Qai, ↓Qaj, ↓Qak, ↓Qal, ↓Qam, ↓Qan, ↓Qao, ↓Qap, ↓Qaq, ↓Qar, ↓Qas, ↓Qat, ↓Qau, ↓Qav, ↓Qaw, ↓Qax, ↓Qay, ↓Qaz, ↓Qa0, ↓Qa1, ↓Qa2, ↓Qa3, ↓Qa4, ↓Qa5, ↓Qa6, ↓Qa7, ↓Qa8, ↓Qa9, ↓Qba, ↓Qbb, ↓Qbc, ↓Qbd, ↓Qbe, ↓Qbf, ↓Qbg, ↓Qbh, ↓Qbi, ↓Qbj, ↓Qbk, ↓Qbl, List.set_cons_zero, List.set_cons_succ, wipeP, Bool.not_false, if_true]
        refine bad _ ?_
        rw [st, if_neg fun z => by rw [hb] at z; exact Bool.false_ne_true z.1]
      | true =>
        simp -implicitDefEqProofs only [↓Qa, ↓Qb, ↓Qc, ↓Qd, ↓Qe, ↓Qg, ↓Qh, ↓Qi, ↓Qj, ↓Qk, ↓Ql, ↓par2_two, ↓Qm, ↓Qn, ↓Qo, ↓Qp, ↓Qq, ↓Qr, ↓Qs, ↓Qt, ↓Qu, ↓Qv, ↓Qw, ↓Qx, ↓Qy, ↓Qz, ↓Q0, ↓truK_bl, ↓Q3, ↓Q4, ↓Q5, ↓Q6, ↓chK_bl, ↓Q7, ↓Q8, ↓Q9, ↓Ya, ↓Yb, ↓Yc, ↓Yd, ↓Ye, ↓Yf, ↓Yg, ↓Yh, ↓Yi, ↓Yj, ↓Yk, ↓Ym, ↓Yn, ↓Yo, ↓Yp, ↓Yq, ↓Yr, ↓Ys, ↓Yt, ↓Yu, ↓Yv, ↓Yw, ↓Yx, ↓Yy, ↓Yz, ↓Y0, ↓Y1, ↓Y2, ↓Y3, ↓Y4, ↓Y5, ↓Y6, ↓Y7, ↓Y8, ↓Y9, ↓Ja, ↓Jb, ↓Jc, ↓Jd, ↓Je, ↓Jf, ↓Jg, ↓Jh, ↓Ji, ↓Jj, ↓Jk, ↓Jl, ↓Jm, ↓Jn, ↓Jo, ↓Jp, ↓Jq, ↓Jr, ↓Js, ↓Jt, ↓Ju, ↓Jw, ↓Jx, ↓Jy, ↓Jz, ↓J1, ↓J2, ↓J3, ↓J4, ↓J5, ↓J6, ↓J7, ↓J8, ↓J9, ↓Qaa, ↓Qab, ↓Qac, ↓Qad, ↓Qae, ↓par3_three, ↓Qaf, ↓Qag, ↓Qah, ↓Qai, ↓Qaj, ↓Qak, ↓Qal, ↓Qam, ↓Qan, ↓Qao, ↓Qap, ↓Qaq, ↓Qar, ↓Qas, ↓Qat, ↓Qau, ↓Qav, ↓Qaw, ↓Qax, ↓Qay, ↓Qaz, ↓Qa0, ↓Qa1, ↓Qa2, ↓Qa3, ↓Qa4, ↓Qa5, ↓Qa6, ↓Qa7, ↓Qa8, ↓Qa9, ↓Qba, ↓Qbb, ↓Qbc, ↓Qbd, ↓Qbe, ↓Qbf, ↓Qbg, ↓Qbh, ↓Qbi, ↓Qbj, ↓Qbk, ↓Qbl, List.set_cons_zero, List.set_cons_succ, wipeP, Bool.not_true, Bool.false_eq_true, if_false]
        have good : aheadB (lastN done) d.name = true → P.nx = P.nx → wForL (fun _ => True) (.tp [3, 4]) (w_Net___init___2 K) P (enumF (done.length + 1) r) [some (.ref a), some (townsP ts), some (.tup ys), some (.int (done.length : Nat)), some y, none] S := fun ha _ => by
          have := ih (done ++ [d]) (some (.int (done.length : Nat))) (some y) (by rw [e, ey, List.map_append, List.append_assoc]; rfl) (fun q hq => by
            rcases List.mem_append.mp hq with hq | hq
            · exact h1 q hq
            · rw [List.mem_singleton.mp hq]; exact hb) (by
            refine List.pairwise_append.mpr ⟨h2, List.pairwise_singleton _ _, fun x hx z hz => ?_⟩
            rw [List.mem_singleton.mp hz]
            cases hl : done.getLast? with
            | none => rw [List.getLast?_eq_none_iff.mp hl] at hx; cases hx
            | some l =>
              have hla : ltS l.name d.name = true := by
                unfold lastN at ha
                rw [hl] at ha; exact ha
              obtain ⟨ys', hys⟩ := List.getLast?_eq_some_iff.mp hl
              rw [hys] at hx h2
              rcases List.mem_append.mp hx with hx | hx
              · exact ltS_trans ((List.pairwise_append.mp h2).2.2 x hx l (List.mem_singleton.mpr rfl)) hla
              · rw [List.mem_singleton.mp hx]; exact hla) (by
            rw [h3, st, if_pos ⟨hb, ha⟩, List.length_append, List.length_singleton]
            congr 1
            unfold lastN
            rw [List.getLast?_append]; rfl)
          rw [List.length_append, List.length_singleton] at this
          exact this
        by_cases h0 : done.length = 0
        · have : decide ((0 : Int) < (done.length : Int)) = false := decide_eq_false (by omega)
          rw [this]
          simp only [Bool.false_eq_true, if_false]
          refine good ?_ rfl
          rw [List.eq_nil_of_length_eq_zero h0]; rfl
        · have : decide ((0 : Int) < (done.length : Int)) = true := decide_eq_true (by omega)
          rw [this]
          simp only [if_true]
          obtain ⟨l, hl⟩ : ∃ l, done.getLast? = some l := by
            cases hl : done.getLast? with
            | none => rw [List.getLast?_eq_none_iff.mp hl] at h0; exact absurd rfl h0
            | some l => exact ⟨l, rfl⟩
          have hlast : ys[done.length - 1]? = some (roadP l) := by
            rw [e, List.getElem?_append_left (by rw [List.length_map]; omega), List.getElem?_map]
            rw [List.getLast?_eq_getElem?] at hl
            rw [hl]; rfl
          refine ⟨roadP l, atI_nn (j := done.length - 1) (by omega) hlast, ?_⟩
          have ix2 : ∀ S (r : Road) R', kIx (roadP r) (.int 0) S R' = ∃ z, atI [PV.str r.name, .str r.bgn, .str r.fin, .int r.len, .int r.room] 0 = some z ∧ R' z S := fun S r R' => rfl
          rw [ix2]
          refine ⟨.str l.name, rfl, ?_⟩
          rw [ey, ix2]
          refine ⟨.str d.name, rfl, ?_⟩
          rw [Ja]
          simp -implicitDefEqProofs only [↓Qa, ↓Qb, ↓Qc, ↓Qd, ↓Qe, ↓Qg, ↓Qh, ↓Qi, ↓Qj, ↓Qk, ↓Ql, ↓par2_two, ↓Qm, ↓Qn, ↓Qo, ↓Qp, ↓Qq, ↓Qr, ↓Qs, ↓Qt, ↓Qu, ↓Qv, ↓Qw, ↓Qx, ↓Qy, ↓Qz, ↓Q0, ↓truK_bl, ↓Q3, ↓Q4, ↓Q5, ↓Q6, ↓chK_bl, ↓Q7, ↓Q8, ↓Q9, ↓Ya, ↓Yb, ↓Yc, ↓Yd, ↓Ye, ↓Yf, ↓Yg, ↓Yh, ↓Yi, ↓Yj, ↓Yk, ↓Ym, ↓Yn, ↓Yo, ↓Yp, ↓Yq, ↓Yr, ↓Ys, ↓Yt, ↓Yu, ↓Yv, ↓Yw, ↓Yx, ↓Yy, ↓Yz, ↓Y0, ↓Y1, ↓Y2, ↓Y3, ↓Y4, ↓Y5, ↓Y6, ↓Y7, ↓Y8, ↓Y9, ↓Ja, ↓Jb, ↓Jc, ↓Jd, ↓Je, ↓Jf, ↓Jg, ↓Jh, ↓Ji, ↓Jj, ↓Jk, ↓Jl, ↓Jm, ↓Jn, ↓Jo, ↓Jp, ↓Jq, ↓Jr, ↓Js, ↓Jt, ↓Ju, ↓Jw, ↓Jx, ↓Jy, ↓Jz, ↓J1, ↓J2, ↓J3, ↓J4, ↓J5, ↓J6, ↓J7, ↓J8, ↓J9, ↓Qaa, ↓Qab, ↓Qac, ↓Qad, ↓Qae, ↓par3_three, ↓Qaf, ↓Qag, ↓Qah, ↓Qai, ↓Qaj, ↓Qak, ↓Qal, ↓Qam, ↓Qan, ↓Qao, ↓Qap, ↓Qaq, ↓Qar, ↓Qas, ↓Qat, ↓Qau, ↓Qav, ↓Qaw, ↓Qax, ↓Qay, ↓Qaz, ↓Qa0, ↓Qa1, ↓Qa2, ↓Qa3, ↓Qa4, ↓Qa5, ↓Qa6, ↓Qa7, ↓Qa8, ↓Qa9, ↓Qba, ↓Qbb, ↓Qbc, ↓Qbd, ↓Qbe, ↓Qbf, ↓Qbg, ↓Qbh, ↓Qbi, ↓Qbj, ↓Qbk, ↓Qbl, List.set_cons_zero, List.set_cons_succ, wipeP]
          have el : aheadB (lastN done) d.name = ltS l.name d.name := by
            unfold lastN
            rw [hl]; rfl
          cases hlt : ltS l.name d.name with
          | true =>
            simp only [Bool.not_true, Bool.false_eq_true, if_false]
            rw [← ey]
            exact good (by rw [el, hlt]) rfl
          | false =>
            simp only [Bool.not_false, if_true]
            refine bad _ ?_
            rw [st, if_neg fun z => by rw [el, hlt] at z; exact Bool.false_ne_true z.2]
theorem pure_Net___init__ (K : PySem.W.Frag) : ∀ ps S R Z, ps.length = 3 → sp_Net___init__ K ps S R Z → w_Net___init__ K (fin R Z) (startP n_Net___init__ ps) S := by
  intro ps S R Z hl h
  obtain ⟨a, p, q, rfl, hS, ⟨hp, hp1⟩, ⟨hq, hq1⟩, h⟩ := h
  have e : startP n_Net___init__ [.ref a, p, q] = [some (.ref a), some p, some q, none, none, none] := rfl
  rw [e]
  unfold w_Net___init__
  rw [Qd]
  generalize hT : wSeq (wIfS (wNotT (tst (wCall (arN 1 (sp_does_ascend K)) _))) _ _) _ = T
  simp -implicitDefEqProofs only [↓Qa, ↓Qb, ↓Qc, ↓Qd, ↓Qe, ↓Qg, ↓Qh, ↓Qi, ↓Qj, ↓Qk, ↓Ql, ↓par2_two, ↓Qm, ↓Qn, ↓Qo, ↓Qp, ↓Qq, ↓Qr, ↓Qs, ↓Qt, ↓Qu, ↓Qv, ↓Qw, ↓Qx, ↓Qy, ↓Qz, ↓Q0, ↓truK_bl, ↓Q3, ↓Q4, ↓Q5, ↓Q6, ↓chK_bl, ↓Q7, ↓Q8, ↓Q9, ↓Ya, ↓Yb, ↓Yc, ↓Yd, ↓Ye, ↓Yf, ↓Yg, ↓Yh, ↓Yi, ↓Yj, ↓Yk, ↓Ym, ↓Yn, ↓Yo, ↓Yp, ↓Yq, ↓Yr, ↓Ys, ↓Yt, ↓Yu, ↓Yv, ↓Yw, ↓Yx, ↓Yy, ↓Yz, ↓Y0, ↓Y1, ↓Y2, ↓Y3, ↓Y4, ↓Y5, ↓Y6, ↓Y7, ↓Y8, ↓Y9, ↓Ja, ↓Jb, ↓Jc, ↓Jd, ↓Je, ↓Jf, ↓Jg, ↓Jh, ↓Ji, ↓Jj, ↓Jk, ↓Jl, ↓Jm, ↓Jn, ↓Jo, ↓Jp, ↓Jq, ↓Jr, ↓Js, ↓Jt, ↓Ju, ↓Jw, ↓Jx, ↓Jy, ↓Jz, ↓J1, ↓J2, ↓J3, ↓J4, ↓J5, ↓J6, ↓J7, ↓J8, ↓J9, ↓Qaa, ↓Qab, ↓Qac, ↓Qad, ↓Qae, ↓par3_three, ↓Qaf, ↓Qag, ↓Qah, ↓Qai, ↓Qaj, ↓Qak, ↓Qal, ↓Qam, ↓Qan, ↓Qao, ↓Qap, ↓Qaq, ↓Qar, ↓Qas, ↓Qat, ↓Qau, ↓Qav, ↓Qaw, ↓Qax, ↓Qay, ↓Qaz, ↓Qa0, ↓Qa1, ↓Qa2, ↓Qa3, ↓Qa4, ↓Qa5, ↓Qa6, ↓Qa7, ↓Qa8, ↓Qa9, ↓Qba, ↓Qbb, ↓Qbc, ↓Qbd, ↓Qbe, ↓Qbf, ↓Qbg, ↓Qbh, ↓Qbi, ↓Qbj, ↓Qbk, ↓Qbl, List.set_cons_zero, List.set_cons_succ, wipeP]
  rw [k_isB_pn (by decide) hp]
  have noT : townsF p = none → zfg Z (badNet K (.str "towns")) S := fun z => by
    unfold netFault at h
    rw [z] at h
    exact zfg_now h
  rcases pn_tup_or hp with ⟨xs, rfl⟩ | ⟨hi, hn⟩
  · rw [isA_tup]
    simp -implicitDefEqProofs only [↓Qa, ↓Qb, ↓Qc, ↓Qd, ↓Qe, ↓Qg, ↓Qh, ↓Qi, ↓Qj, ↓Qk, ↓Ql, ↓par2_two, ↓Qm, ↓Qn, ↓Qo, ↓Qp, ↓Qq, ↓Qr, ↓Qs, ↓Qt, ↓Qu, ↓Qv, ↓Qw, ↓Qx, ↓Qy, ↓Qz, ↓Q0, ↓truK_bl, ↓Q3, ↓Q4, ↓Q5, ↓Q6, ↓chK_bl, ↓Q7, ↓Q8, ↓Q9, ↓Ya, ↓Yb, ↓Yc, ↓Yd, ↓Ye, ↓Yf, ↓Yg, ↓Yh, ↓Yi, ↓Yj, ↓Yk, ↓Ym, ↓Yn, ↓Yo, ↓Yp, ↓Yq, ↓Yr, ↓Ys, ↓Yt, ↓Yu, ↓Yv, ↓Yw, ↓Yx, ↓Yy, ↓Yz, ↓Y0, ↓Y1, ↓Y2, ↓Y3, ↓Y4, ↓Y5, ↓Y6, ↓Y7, ↓Y8, ↓Y9, ↓Ja, ↓Jb, ↓Jc, ↓Jd, ↓Je, ↓Jf, ↓Jg, ↓Jh, ↓Ji, ↓Jj, ↓Jk, ↓Jl, ↓Jm, ↓Jn, ↓Jo, ↓Jp, ↓Jq, ↓Jr, ↓Js, ↓Jt, ↓Ju, ↓Jw, ↓Jx, ↓Jy, ↓Jz, ↓J1, ↓J2, ↓J3, ↓J4, ↓J5, ↓J6, ↓J7, ↓J8, ↓J9, ↓Qaa, ↓Qab, ↓Qac, ↓Qad, ↓Qae, ↓par3_three, ↓Qaf, ↓Qag, ↓Qah, ↓Qai, ↓Qaj, ↓Qak, ↓Qal, ↓Qam, ↓Qan, ↓Qao, ↓Qap, ↓Qaq, ↓Qar, ↓Qas, ↓Qat, ↓Qau, ↓Qav, ↓Qaw, ↓Qax, ↓Qay, ↓Qaz, ↓Qa0, ↓Qa1, ↓Qa2, ↓Qa3, ↓Qa4, ↓Qa5, ↓Qa6, ↓Qa7, ↓Qa8, ↓Qa9, ↓Qba, ↓Qbb, ↓Qbc, ↓Qbd, ↓Qbe, ↓Qbf, ↓Qbg, ↓Qbh, ↓Qbi, ↓Qbj, ↓Qbk, ↓Qbl, List.set_cons_zero, List.set_cons_succ, wipeP, Bool.not_true, Bool.false_eq_true, if_false]
    by_cases h40 : xs.length ≤ 40
    · have d1 : decide ((40 : Int) < xs.length) = false := decide_eq_false (by omega)
      rw [d1]
      simp only [Bool.false_eq_true, if_false, J7]
      have em : xs = xs.map id := (List.map_id xs).symm
      have key : ∀ (k : List PV → Sto → Prop), k (xs.map fun x => PV.bl (isNm x)) S → wLcL (fun _ => True) (.nm 5) wYes (w_Net___init___1 K) [some (.ref a), some (.tup xs), some q, none, none, none] k xs [] S := fun k hk => by
        have := wLcL_allM (ok := fun _ => True) (g := .nm 5) (we := w_Net___init___1 K) (ρ0 := [some (.ref a), some (.tup xs), some q, none, none, none]) (k := k) id (fun x => PV.bl (isNm x)) (S := S) trivial xs (fun x hx R' hR' => by
          simp -implicitDefEqProofs only [w_Net___init___1, ↓Qa, ↓Qb, ↓Qc, ↓Qd, ↓Qe, ↓Qg, ↓Qh, ↓Qi, ↓Qj, ↓Qk, ↓Ql, ↓par2_two, ↓Qm, ↓Qn, ↓Qo, ↓Qp, ↓Qq, ↓Qr, ↓Qs, ↓Qt, ↓Qu, ↓Qv, ↓Qw, ↓Qx, ↓Qy, ↓Qz, ↓Q0, ↓truK_bl, ↓Q3, ↓Q4, ↓Q5, ↓Q6, ↓chK_bl, ↓Q7, ↓Q8, ↓Q9, ↓Ya, ↓Yb, ↓Yc, ↓Yd, ↓Ye, ↓Yf, ↓Yg, ↓Yh, ↓Yi, ↓Yj, ↓Yk, ↓Ym, ↓Yn, ↓Yo, ↓Yp, ↓Yq, ↓Yr, ↓Ys, ↓Yt, ↓Yu, ↓Yv, ↓Yw, ↓Yx, ↓Yy, ↓Yz, ↓Y0, ↓Y1, ↓Y2, ↓Y3, ↓Y4, ↓Y5, ↓Y6, ↓Y7, ↓Y8, ↓Y9, ↓Ja, ↓Jb, ↓Jc, ↓Jd, ↓Je, ↓Jf, ↓Jg, ↓Jh, ↓Ji, ↓Jj, ↓Jk, ↓Jl, ↓Jm, ↓Jn, ↓Jo, ↓Jp, ↓Jq, ↓Jr, ↓Js, ↓Jt, ↓Ju, ↓Jw, ↓Jx, ↓Jy, ↓Jz, ↓J1, ↓J2, ↓J3, ↓J4, ↓J5, ↓J6, ↓J7, ↓J8, ↓J9, ↓Qaa, ↓Qab, ↓Qac, ↓Qad, ↓Qae, ↓par3_three, ↓Qaf, ↓Qag, ↓Qah, ↓Qai, ↓Qaj, ↓Qak, ↓Qal, ↓Qam, ↓Qan, ↓Qao, ↓Qap, ↓Qaq, ↓Qar, ↓Qas, ↓Qat, ↓Qau, ↓Qav, ↓Qaw, ↓Qax, ↓Qay, ↓Qaz, ↓Qa0, ↓Qa1, ↓Qa2, ↓Qa3, ↓Qa4, ↓Qa5, ↓Qa6, ↓Qa7, ↓Qa8, ↓Qa9, ↓Qba, ↓Qbb, ↓Qbc, ↓Qbd, ↓Qbe, ↓Qbf, ↓Qbg, ↓Qbh, ↓Qbi, ↓Qbj, ↓Qbk, ↓Qbl, List.set_cons_zero, List.set_cons_succ, wipeP, id]
          exact ⟨rfl, t_is_name (hp1 xs rfl x hx) hR'⟩) (sz0 (by omega)) hk
        rw [List.map_id] at this
        exact this
      refine key _ ?_
      rw [k_allM]
      cases hall : xs.all isNm with
      | false =>
        simp -implicitDefEqProofs only [↓Qa, ↓Qb, ↓Qc, ↓Qd, ↓Qe, ↓Qg, ↓Qh, ↓Qi, ↓Qj, ↓Qk, ↓Ql, ↓par2_two, ↓Qm, ↓Qn, ↓Qo, ↓Qp, ↓Qq, ↓Qr, ↓Qs, ↓Qt, ↓Qu, ↓Qv, ↓Qw, ↓Qx, ↓Qy, ↓Qz, ↓Q0, ↓truK_bl, ↓Q3, ↓Q4, ↓Q5, ↓Q6, ↓chK_bl, ↓Q7, ↓Q8, ↓Q9, ↓Ya, ↓Yb, ↓Yc, ↓Yd, ↓Ye, ↓Yf, ↓Yg, ↓Yh, ↓Yi, ↓Yj, ↓Yk, ↓Ym, ↓Yn, ↓Yo, ↓Yp, ↓Yq, ↓Yr, ↓Ys, ↓Yt, ↓Yu, ↓Yv, ↓Yw, ↓Yx, ↓Yy, ↓Yz, ↓Y0, ↓Y1, ↓Y2, ↓Y3, ↓Y4, ↓Y5, ↓Y6, ↓Y7, ↓Y8, ↓Y9, ↓Ja, ↓Jb, ↓Jc, ↓Jd, ↓Je, ↓Jf, ↓Jg, ↓Jh, ↓Ji, ↓Jj, ↓Jk, ↓Jl, ↓Jm, ↓Jn, ↓Jo, ↓Jp, ↓Jq, ↓Jr, ↓Js, ↓Jt, ↓Ju, ↓Jw, ↓Jx, ↓Jy, ↓Jz, ↓J1, ↓J2, ↓J3, ↓J4, ↓J5, ↓J6, ↓J7, ↓J8, ↓J9, ↓Qaa, ↓Qab, ↓Qac, ↓Qad, ↓Qae, ↓par3_three, ↓Qaf, ↓Qag, ↓Qah, ↓Qai, ↓Qaj, ↓Qak, ↓Qal, ↓Qam, ↓Qan, ↓Qao, ↓Qap, ↓Qaq, ↓Qar, ↓Qas, ↓Qat, ↓Qau, ↓Qav, ↓Qaw, ↓Qax, ↓Qay, ↓Qaz, ↓Qa0, ↓Qa1, ↓Qa2, ↓Qa3, ↓Qa4, ↓Qa5, ↓Qa6, ↓Qa7, ↓Qa8, ↓Qa9, ↓Qba, ↓Qbb, ↓Qbc, ↓Qbd, ↓Qbe, ↓Qbf, ↓Qbg, ↓Qbh, ↓Qbi, ↓Qbj, ↓Qbk, ↓Qbl, List.set_cons_zero, List.set_cons_succ, wipeP, Bool.not_false, if_true]
        exact noT (townsF_nonm hall)
      | true =>
        simp -implicitDefEqProofs only [↓Qa, ↓Qb, ↓Qc, ↓Qd, ↓Qe, ↓Qg, ↓Qh, ↓Qi, ↓Qj, ↓Qk, ↓Ql, ↓par2_two, ↓Qm, ↓Qn, ↓Qo, ↓Qp, ↓Qq, ↓Qr, ↓Qs, ↓Qt, ↓Qu, ↓Qv, ↓Qw, ↓Qx, ↓Qy, ↓Qz, ↓Q0, ↓truK_bl, ↓Q3, ↓Q4, ↓Q5, ↓Q6, ↓chK_bl, ↓Q7, ↓Q8, ↓Q9, ↓Ya, ↓Yb, ↓Yc, ↓Yd, ↓Ye, ↓Yf, ↓Yg, ↓Yh, ↓Yi, ↓Yj, ↓Yk, ↓Ym, ↓Yn, ↓Yo, ↓Yp, ↓Yq, ↓Yr, ↓Ys, ↓Yt, ↓Yu, ↓Yv, ↓Yw, ↓Yx, ↓Yy, ↓Yz, ↓Y0, ↓Y1, ↓Y2, ↓Y3, ↓Y4, ↓Y5, ↓Y6, ↓Y7, ↓Y8, ↓Y9, ↓Ja, ↓Jb, ↓Jc, ↓Jd, ↓Je, ↓Jf, ↓Jg, ↓Jh, ↓Ji, ↓Jj, ↓Jk, ↓Jl, ↓Jm, ↓Jn, ↓Jo, ↓Jp, ↓Jq, ↓Jr, ↓Js, ↓Jt, ↓Ju, ↓Jw, ↓Jx, ↓Jy, ↓Jz, ↓J1, ↓J2, ↓J3, ↓J4, ↓J5, ↓J6, ↓J7, ↓J8, ↓J9, ↓Qaa, ↓Qab, ↓Qac, ↓Qad, ↓Qae, ↓par3_three, ↓Qaf, ↓Qag, ↓Qah, ↓Qai, ↓Qaj, ↓Qak, ↓Qal, ↓Qam, ↓Qan, ↓Qao, ↓Qap, ↓Qaq, ↓Qar, ↓Qas, ↓Qat, ↓Qau, ↓Qav, ↓Qaw, ↓Qax, ↓Qay, ↓Qaz, ↓Qa0, ↓Qa1, ↓Qa2, ↓Qa3, ↓Qa4, ↓Qa5, ↓Qa6, ↓Qa7, ↓Qa8, ↓Qa9, ↓Qba, ↓Qbb, ↓Qbc, ↓Qbd, ↓Qbe, ↓Qbf, ↓Qbg, ↓Qbh, ↓Qbi, ↓Qbj, ↓Qbk, ↓Qbl, List.set_cons_zero, List.set_cons_succ, wipeP, Bool.not_true, Bool.false_eq_true, if_false]
        obtain ⟨ss, rfl, hss⟩ := all_isNm hall
        clear key em
        rw [List.length_map] at h40
        subst hT
        rw [Qd]
        generalize hT : wSeq (wIfS (wOrT (wNotT (tst (wCall (p2 kIsB) _))) _) _ _) _ = T
        simp -implicitDefEqProofs only [↓Qa, ↓Qb, ↓Qc, ↓Qd, ↓Qe, ↓Qg, ↓Qh, ↓Qi, ↓Qj, ↓Qk, ↓Ql, ↓par2_two, ↓Qm, ↓Qn, ↓Qo, ↓Qp, ↓Qq, ↓Qr, ↓Qs, ↓Qt, ↓Qu, ↓Qv, ↓Qw, ↓Qx, ↓Qy, ↓Qz, ↓Q0, ↓truK_bl, ↓Q3, ↓Q4, ↓Q5, ↓Q6, ↓chK_bl, ↓Q7, ↓Q8, ↓Q9, ↓Ya, ↓Yb, ↓Yc, ↓Yd, ↓Ye, ↓Yf, ↓Yg, ↓Yh, ↓Yi, ↓Yj, ↓Yk, ↓Ym, ↓Yn, ↓Yo, ↓Yp, ↓Yq, ↓Yr, ↓Ys, ↓Yt, ↓Yu, ↓Yv, ↓Yw, ↓Yx, ↓Yy, ↓Yz, ↓Y0, ↓Y1, ↓Y2, ↓Y3, ↓Y4, ↓Y5, ↓Y6, ↓Y7, ↓Y8, ↓Y9, ↓Ja, ↓Jb, ↓Jc, ↓Jd, ↓Je, ↓Jf, ↓Jg, ↓Jh, ↓Ji, ↓Jj, ↓Jk, ↓Jl, ↓Jm, ↓Jn, ↓Jo, ↓Jp, ↓Jq, ↓Jr, ↓Js, ↓Jt, ↓Ju, ↓Jw, ↓Jx, ↓Jy, ↓Jz, ↓J1, ↓J2, ↓J3, ↓J4, ↓J5, ↓J6, ↓J7, ↓J8, ↓J9, ↓Qaa, ↓Qab, ↓Qac, ↓Qad, ↓Qae, ↓par3_three, ↓Qaf, ↓Qag, ↓Qah, ↓Qai, ↓Qaj, ↓Qak, ↓Qal, ↓Qam, ↓Qan, ↓Qao, ↓Qap, ↓Qaq, ↓Qar, ↓Qas, ↓Qat, ↓Qau, ↓Qav, ↓Qaw, ↓Qax, ↓Qay, ↓Qaz, ↓Qa0, ↓Qa1, ↓Qa2, ↓Qa3, ↓Qa4, ↓Qa5, ↓Qa6, ↓Qa7, ↓Qa8, ↓Qa9, ↓Qba, ↓Qbb, ↓Qbc, ↓Qbd, ↓Qbe, ↓Qbf, ↓Qbg, ↓Qbh, ↓Qbi, ↓Qbj, ↓Qbk, ↓Qbl, List.set_cons_zero, List.set_cons_succ, wipeP]
        refine ⟨rfl, t_does_ascend (by omega) ?_⟩
        by_cases hup : UpS ss
        · rw [decide_eq_true hup]
          simp -implicitDefEqProofs only [↓Qa, ↓Qb, ↓Qc, ↓Qd, ↓Qe, ↓Qg, ↓Qh, ↓Qi, ↓Qj, ↓Qk, ↓Ql, ↓par2_two, ↓Qm, ↓Qn, ↓Qo, ↓Qp, ↓Qq, ↓Qr, ↓Qs, ↓Qt, ↓Qu, ↓Qv, ↓Qw, ↓Qx, ↓Qy, ↓Qz, ↓Q0, ↓truK_bl, ↓Q3, ↓Q4, ↓Q5, ↓Q6, ↓chK_bl, ↓Q7, ↓Q8, ↓Q9, ↓Ya, ↓Yb, ↓Yc, ↓Yd, ↓Ye, ↓Yf, ↓Yg, ↓Yh, ↓Yi, ↓Yj, ↓Yk, ↓Ym, ↓Yn, ↓Yo, ↓Yp, ↓Yq, ↓Yr, ↓Ys, ↓Yt, ↓Yu, ↓Yv, ↓Yw, ↓Yx, ↓Yy, ↓Yz, ↓Y0, ↓Y1, ↓Y2, ↓Y3, ↓Y4, ↓Y5, ↓Y6, ↓Y7, ↓Y8, ↓Y9, ↓Ja, ↓Jb, ↓Jc, ↓Jd, ↓Je, ↓Jf, ↓Jg, ↓Jh, ↓Ji, ↓Jj, ↓Jk, ↓Jl, ↓Jm, ↓Jn, ↓Jo, ↓Jp, ↓Jq, ↓Jr, ↓Js, ↓Jt, ↓Ju, ↓Jw, ↓Jx, ↓Jy, ↓Jz, ↓J1, ↓J2, ↓J3, ↓J4, ↓J5, ↓J6, ↓J7, ↓J8, ↓J9, ↓Qaa, ↓Qab, ↓Qac, ↓Qad, ↓Qae, ↓par3_three, ↓Qaf, ↓Qag, ↓Qah, ↓Qai, ↓Qaj, ↓Qak, ↓Qal, ↓Qam, ↓Qan, ↓Qao, ↓Qap, ↓Qaq, ↓Qar, ↓Qas, ↓Qat, ↓Qau, ↓Qav, ↓Qaw, ↓Qax, ↓Qay, ↓Qaz, ↓Qa0, ↓Qa1, ↓Qa2, ↓Qa3, ↓Qa4, ↓Qa5, ↓Qa6, ↓Qa7, ↓Qa8, ↓Qa9, ↓Qba, ↓Qbb, ↓Qbc, ↓Qbd, ↓Qbe, ↓Qbf, ↓Qbg, ↓Qbh, ↓Qbi, ↓Qbj, ↓Qbk, ↓Qbl, List.set_cons_zero, List.set_cons_succ, wipeP, Bool.not_true, Bool.false_eq_true, if_false]
          have eT : townsF (.tup (ss.map PV.str)) = some ss := townsF_ok h40 (List.all_eq_true.mp hss) hup
          have h : match (match q with
            | .tup ys => if ys.length ≤ 120 then (roadsF ss 0 none ys).map (fun n => PV.int n) else some (.str "roads")
            | _ => some (.str "roads")) with
            | none => ∀ ts rs S' cells, PV.tup (ss.map PV.str) = townsP ts → q = roadsP rs → NetOk ts rs → Kept (He.ga K "Net") a ts rs S S' cells → R .non S'
            | some f => Z (badNet K f) S := by
            unfold netFault at h
            rw [eT] at h
            exact h
          subst hT
          rw [Qd]
          generalize hT : wSeq (wFor (wEnum _) _ _) _ = T
          simp -implicitDefEqProofs only [↓Qa, ↓Qb, ↓Qc, ↓Qd, ↓Qe, ↓Qg, ↓Qh, ↓Qi, ↓Qj, ↓Qk, ↓Ql, ↓par2_two, ↓Qm, ↓Qn, ↓Qo, ↓Qp, ↓Qq, ↓Qr, ↓Qs, ↓Qt, ↓Qu, ↓Qv, ↓Qw, ↓Qx, ↓Qy, ↓Qz, ↓Q0, ↓truK_bl, ↓Q3, ↓Q4, ↓Q5, ↓Q6, ↓chK_bl, ↓Q7, ↓Q8, ↓Q9, ↓Ya, ↓Yb, ↓Yc, ↓Yd, ↓Ye, ↓Yf, ↓Yg, ↓Yh, ↓Yi, ↓Yj, ↓Yk, ↓Ym, ↓Yn, ↓Yo, ↓Yp, ↓Yq, ↓Yr, ↓Ys, ↓Yt, ↓Yu, ↓Yv, ↓Yw, ↓Yx, ↓Yy, ↓Yz, ↓Y0, ↓Y1, ↓Y2, ↓Y3, ↓Y4, ↓Y5, ↓Y6, ↓Y7, ↓Y8, ↓Y9, ↓Ja, ↓Jb, ↓Jc, ↓Jd, ↓Je, ↓Jf, ↓Jg, ↓Jh, ↓Ji, ↓Jj, ↓Jk, ↓Jl, ↓Jm, ↓Jn, ↓Jo, ↓Jp, ↓Jq, ↓Jr, ↓Js, ↓Jt, ↓Ju, ↓Jw, ↓Jx, ↓Jy, ↓Jz, ↓J1, ↓J2, ↓J3, ↓J4, ↓J5, ↓J6, ↓J7, ↓J8, ↓J9, ↓Qaa, ↓Qab, ↓Qac, ↓Qad, ↓Qae, ↓par3_three, ↓Qaf, ↓Qag, ↓Qah, ↓Qai, ↓Qaj, ↓Qak, ↓Qal, ↓Qam, ↓Qan, ↓Qao, ↓Qap, ↓Qaq, ↓Qar, ↓Qas, ↓Qat, ↓Qau, ↓Qav, ↓Qaw, ↓Qax, ↓Qay, ↓Qaz, ↓Qa0, ↓Qa1, ↓Qa2, ↓Qa3, ↓Qa4, ↓Qa5, ↓Qa6, ↓Qa7, ↓Qa8, ↓Qa9, ↓Qba, ↓Qbb, ↓Qbc, ↓Qbd, ↓Qbe, ↓Qbf, ↓Qbg, ↓Qbh, ↓Qbi, ↓Qbj, ↓Qbk, ↓Qbl, List.set_cons_zero, List.set_cons_succ, wipeP]
          rw [k_isB_pn (by decide) hq]
          rcases pn_tup_or hq with ⟨ys, rfl⟩ | ⟨hi, hn⟩
          · rw [isA_tup]
            simp -implicitDefEqProofs only [↓Qa, ↓Qb, ↓Qc, ↓Qd, ↓Qe, ↓Qg, ↓Qh, ↓Qi, ↓Qj, ↓Qk, ↓Ql, ↓par2_two, ↓Qm, ↓Qn, ↓Qo, ↓Qp, ↓Qq, ↓Qr, ↓Qs, ↓Qt, ↓Qu, ↓Qv, ↓Qw, ↓Qx, ↓Qy, ↓Qz, ↓Q0, ↓truK_bl, ↓Q3, ↓Q4, ↓Q5, ↓Q6, ↓chK_bl, ↓Q7, ↓Q8, ↓Q9, ↓Ya, ↓Yb, ↓Yc, ↓Yd, ↓Ye, ↓Yf, ↓Yg, ↓Yh, ↓Yi, ↓Yj, ↓Yk, ↓Ym, ↓Yn, ↓Yo, ↓Yp, ↓Yq, ↓Yr, ↓Ys, ↓Yt, ↓Yu, ↓Yv, ↓Yw, ↓Yx, ↓Yy, ↓Yz, ↓Y0, ↓Y1, ↓Y2, ↓Y3, ↓Y4, ↓Y5, ↓Y6, ↓Y7, ↓Y8, ↓Y9, ↓Ja, ↓Jb, ↓Jc, ↓Jd, ↓Je, ↓Jf, ↓Jg, ↓Jh, ↓Ji, ↓Jj, ↓Jk, ↓Jl, ↓Jm, ↓Jn, ↓Jo, ↓Jp, ↓Jq, ↓Jr, ↓Js, ↓Jt, ↓Ju, ↓Jw, ↓Jx, ↓Jy, ↓Jz, ↓J1, ↓J2, ↓J3, ↓J4, ↓J5, ↓J6, ↓J7, ↓J8, ↓J9, ↓Qaa, ↓Qab, ↓Qac, ↓Qad, ↓Qae, ↓par3_three, ↓Qaf, ↓Qag, ↓Qah, ↓Qai, ↓Qaj, ↓Qak, ↓Qal, ↓Qam, ↓Qan, ↓Qao, ↓Qap, ↓Qaq, ↓Qar, ↓Qas, ↓Qat, ↓Qau, ↓Qav, ↓Qaw, ↓Qax, ↓Qay, ↓Qaz, ↓Qa0, ↓Qa1, ↓Qa2, ↓Qa3, ↓Qa4, ↓Qa5, ↓Qa6, ↓Qa7, ↓Qa8, ↓Qa9, ↓Qba, ↓Qbb, ↓Qbc, ↓Qbd, ↓Qbe, ↓Qbf, ↓Qbg, ↓Qbh, ↓Qbi, ↓Qbj, ↓Qbk, ↓Qbl, List.set_cons_zero, List.set_cons_succ, wipeP, Bool.not_true, Bool.false_eq_true, if_false]
            dsimp only at h
            by_cases h120 : ys.length ≤ 120
            · have d2 : decide ((120 : Int) < ys.length) = false := decide_eq_false (by omega)
              rw [d2]
              rw [if_pos h120] at h
              simp only [Bool.false_eq_true, if_false]
              subst hT
              rw [Qd, Qn, Qaa, Qr, (show gs [some (PV.ref a), some (PV.tup (ss.map PV.str)), some (PV.tup ys), none, none, none] 2 = some (.tup ys) from rfl), Qq, Qab, enumP_F]
              refine init_loop K (ts := ss) (hq1 ys rfl) (fun n ρ hn => ?_) (fun rs x3 x4 ers hr ha => ?_) ys [] none none rfl (by simp) List.Pairwise.nil rfl
              · cases er : roadsF ss 0 none ys with
                | none => rw [er] at hn; exact hn.elim
                | some m =>
                  rw [er] at hn h
                  have hn : n = m := hn
                  subst hn
                  exact zfg_now h
              · subst ers
                have ok : NetOk ss rs := ⟨List.all_eq_true.mp hss, hup, h40, hr, ha, by rw [List.length_map] at h120; exact h120⟩
                rw [roadsF_ok rs 0 none hr ha (fun n e => by cases e)] at h
                simp -implicitDefEqProofs only [↓Qa, ↓Qb, ↓Qc, ↓Qd, ↓Qe, ↓Qg, ↓Qh, ↓Qi, ↓Qj, ↓Qk, ↓Ql, ↓par2_two, ↓Qm, ↓Qn, ↓Qo, ↓Qp, ↓Qq, ↓Qr, ↓Qs, ↓Qt, ↓Qu, ↓Qv, ↓Qw, ↓Qx, ↓Qy, ↓Qz, ↓Q0, ↓truK_bl, ↓Q3, ↓Q4, ↓Q5, ↓Q6, ↓chK_bl, ↓Q7, ↓Q8, ↓Q9, ↓Ya, ↓Yb, ↓Yc, ↓Yd, ↓Ye, ↓Yf, ↓Yg, ↓Yh, ↓Yi, ↓Yj, ↓Yk, ↓Ym, ↓Yn, ↓Yo, ↓Yp, ↓Yq, ↓Yr, ↓Ys, ↓Yt, ↓Yu, ↓Yv, ↓Yw, ↓Yx, ↓Yy, ↓Yz, ↓Y0, ↓Y1, ↓Y2, ↓Y3, ↓Y4, ↓Y5, ↓Y6, ↓Y7, ↓Y8, ↓Y9, ↓Ja, ↓Jb, ↓Jc, ↓Jd, ↓Je, ↓Jf, ↓Jg, ↓Jh, ↓Ji, ↓Jj, ↓Jk, ↓Jl, ↓Jm, ↓Jn, ↓Jo, ↓Jp, ↓Jq, ↓Jr, ↓Js, ↓Jt, ↓Ju, ↓Jw, ↓Jx, ↓Jy, ↓Jz, ↓J1, ↓J2, ↓J3, ↓J4, ↓J5, ↓J6, ↓J7, ↓J8, ↓J9, ↓Qaa, ↓Qab, ↓Qac, ↓Qad, ↓Qae, ↓par3_three, ↓Qaf, ↓Qag, ↓Qah, ↓Qai, ↓Qaj, ↓Qak, ↓Qal, ↓Qam, ↓Qan, ↓Qao, ↓Qap, ↓Qaq, ↓Qar, ↓Qas, ↓Qat, ↓Qau, ↓Qav, ↓Qaw, ↓Qax, ↓Qay, ↓Qaz, ↓Qa0, ↓Qa1, ↓Qa2, ↓Qa3, ↓Qa4, ↓Qa5, ↓Qa6, ↓Qa7, ↓Qa8, ↓Qa9, ↓Qba, ↓Qbb, ↓Qbc, ↓Qbd, ↓Qbe, ↓Qbf, ↓Qbg, ↓Qbh, ↓Qbi, ↓Qbj, ↓Qbk, ↓Qbl, List.set_cons_zero, List.set_cons_succ, wipeP]
                rw [k_methI hS rfl]
                exact ⟨trivial, rfl, _, a, ss, rs, rfl, mem_net, hS, ok.w, fun S' cells hk => wfg_now (h ss rs S' cells rfl rfl ok hk)⟩
            · have d2 : decide ((120 : Int) < ys.length) = true := decide_eq_true (by omega)
              rw [d2]
              rw [if_neg h120] at h
              simp only [if_true]
              exact zfg_now h
          · rw [hi]
            simp -implicitDefEqProofs only [↓Qa, ↓Qb, ↓Qc, ↓Qd, ↓Qe, ↓Qg, ↓Qh, ↓Qi, ↓Qj, ↓Qk, ↓Ql, ↓par2_two, ↓Qm, ↓Qn, ↓Qo, ↓Qp, ↓Qq, ↓Qr, ↓Qs, ↓Qt, ↓Qu, ↓Qv, ↓Qw, ↓Qx, ↓Qy, ↓Qz, ↓Q0, ↓truK_bl, ↓Q3, ↓Q4, ↓Q5, ↓Q6, ↓chK_bl, ↓Q7, ↓Q8, ↓Q9, ↓Ya, ↓Yb, ↓Yc, ↓Yd, ↓Ye, ↓Yf, ↓Yg, ↓Yh, ↓Yi, ↓Yj, ↓Yk, ↓Ym, ↓Yn, ↓Yo, ↓Yp, ↓Yq, ↓Yr, ↓Ys, ↓Yt, ↓Yu, ↓Yv, ↓Yw, ↓Yx, ↓Yy, ↓Yz, ↓Y0, ↓Y1, ↓Y2, ↓Y3, ↓Y4, ↓Y5, ↓Y6, ↓Y7, ↓Y8, ↓Y9, ↓Ja, ↓Jb, ↓Jc, ↓Jd, ↓Je, ↓Jf, ↓Jg, ↓Jh, ↓Ji, ↓Jj, ↓Jk, ↓Jl, ↓Jm, ↓Jn, ↓Jo, ↓Jp, ↓Jq, ↓Jr, ↓Js, ↓Jt, ↓Ju, ↓Jw, ↓Jx, ↓Jy, ↓Jz, ↓J1, ↓J2, ↓J3, ↓J4, ↓J5, ↓J6, ↓J7, ↓J8, ↓J9, ↓Qaa, ↓Qab, ↓Qac, ↓Qad, ↓Qae, ↓par3_three, ↓Qaf, ↓Qag, ↓Qah, ↓Qai, ↓Qaj, ↓Qak, ↓Qal, ↓Qam, ↓Qan, ↓Qao, ↓Qap, ↓Qaq, ↓Qar, ↓Qas, ↓Qat, ↓Qau, ↓Qav, ↓Qaw, ↓Qax, ↓Qay, ↓Qaz, ↓Qa0, ↓Qa1, ↓Qa2, ↓Qa3, ↓Qa4, ↓Qa5, ↓Qa6, ↓Qa7, ↓Qa8, ↓Qa9, ↓Qba, ↓Qbb, ↓Qbc, ↓Qbd, ↓Qbe, ↓Qbf, ↓Qbg, ↓Qbh, ↓Qbi, ↓Qbj, ↓Qbk, ↓Qbl, List.set_cons_zero, List.set_cons_succ, wipeP, Bool.not_false, if_true]
            have h : Z (badNet K (.str "roads")) S := by
              cases q <;> first | exact h | exact absurd rfl (hn _)
            exact zfg_now h
        · rw [decide_eq_false hup]
          simp -implicitDefEqProofs only [↓Qa, ↓Qb, ↓Qc, ↓Qd, ↓Qe, ↓Qg, ↓Qh, ↓Qi, ↓Qj, ↓Qk, ↓Ql, ↓par2_two, ↓Qm, ↓Qn, ↓Qo, ↓Qp, ↓Qq, ↓Qr, ↓Qs, ↓Qt, ↓Qu, ↓Qv, ↓Qw, ↓Qx, ↓Qy, ↓Qz, ↓Q0, ↓truK_bl, ↓Q3, ↓Q4, ↓Q5, ↓Q6, ↓chK_bl, ↓Q7, ↓Q8, ↓Q9, ↓Ya, ↓Yb, ↓Yc, ↓Yd, ↓Ye, ↓Yf, ↓Yg, ↓Yh, ↓Yi, ↓Yj, ↓Yk, ↓Ym, ↓Yn, ↓Yo, ↓Yp, ↓Yq, ↓Yr, ↓Ys, ↓Yt, ↓Yu, ↓Yv, ↓Yw, ↓Yx, ↓Yy, ↓Yz, ↓Y0, ↓Y1, ↓Y2, ↓Y3, ↓Y4, ↓Y5, ↓Y6, ↓Y7, ↓Y8, ↓Y9, ↓Ja, ↓Jb, ↓Jc, ↓Jd, ↓Je, ↓Jf, ↓Jg, ↓Jh, ↓Ji, ↓Jj, ↓Jk, ↓Jl, ↓Jm, ↓Jn, ↓Jo, ↓Jp, ↓Jq, ↓Jr, ↓Js, ↓Jt, ↓Ju, ↓Jw, ↓Jx, ↓Jy, ↓Jz, ↓J1, ↓J2, ↓J3, ↓J4, ↓J5, ↓J6, ↓J7, ↓J8, ↓J9, ↓Qaa, ↓Qab, ↓Qac, ↓Qad, ↓Qae, ↓par3_three, ↓Qaf, ↓Qag, ↓Qah, ↓Qai, ↓Qaj, ↓Qak, ↓Qal, ↓Qam, ↓Qan, ↓Qao, ↓Qap, ↓Qaq, ↓Qar, ↓Qas, ↓Qat, ↓Qau, ↓Qav, ↓Qaw, ↓Qax, ↓Qay, ↓Qaz, ↓Qa0, ↓Qa1, ↓Qa2, ↓Qa3, ↓Qa4, ↓Qa5, ↓Qa6, ↓Qa7, ↓Qa8, ↓Qa9, ↓Qba, ↓Qbb, ↓Qbc, ↓Qbd, ↓Qbe, ↓Qbf, ↓Qbg, ↓Qbh, ↓Qbi, ↓Qbj, ↓Qbk, ↓Qbl, List.set_cons_zero, List.set_cons_succ, wipeP, Bool.not_false, if_true]
          refine noT ?_
          rw [townsF_strs, if_neg fun z => hup z.2.2]
    · have d1 : decide ((40 : Int) < xs.length) = true := decide_eq_true (by omega)
      rw [d1]
      simp only [if_true]
      exact noT (townsF_no40 h40)
  · rw [hi]
    simp -implicitDefEqProofs only [↓Qa, ↓Qb, ↓Qc, ↓Qd, ↓Qe, ↓Qg, ↓Qh, ↓Qi, ↓Qj, ↓Qk, ↓Ql, ↓par2_two, ↓Qm, ↓Qn, ↓Qo, ↓Qp, ↓Qq, ↓Qr, ↓Qs, ↓Qt, ↓Qu, ↓Qv, ↓Qw, ↓Qx, ↓Qy, ↓Qz, ↓Q0, ↓truK_bl, ↓Q3, ↓Q4, ↓Q5, ↓Q6, ↓chK_bl, ↓Q7, ↓Q8, ↓Q9, ↓Ya, ↓Yb, ↓Yc, ↓Yd, ↓Ye, ↓Yf, ↓Yg, ↓Yh, ↓Yi, ↓Yj, ↓Yk, ↓Ym, ↓Yn, ↓Yo, ↓Yp, ↓Yq, ↓Yr, ↓Ys, ↓Yt, ↓Yu, ↓Yv, ↓Yw, ↓Yx, ↓Yy, ↓Yz, ↓Y0, ↓Y1, ↓Y2, ↓Y3, ↓Y4, ↓Y5, ↓Y6, ↓Y7, ↓Y8, ↓Y9, ↓Ja, ↓Jb, ↓Jc, ↓Jd, ↓Je, ↓Jf, ↓Jg, ↓Jh, ↓Ji, ↓Jj, ↓Jk, ↓Jl, ↓Jm, ↓Jn, ↓Jo, ↓Jp, ↓Jq, ↓Jr, ↓Js, ↓Jt, ↓Ju, ↓Jw, ↓Jx, ↓Jy, ↓Jz, ↓J1, ↓J2, ↓J3, ↓J4, ↓J5, ↓J6, ↓J7, ↓J8, ↓J9, ↓Qaa, ↓Qab, ↓Qac, ↓Qad, ↓Qae, ↓par3_three, ↓Qaf, ↓Qag, ↓Qah, ↓Qai, ↓Qaj, ↓Qak, ↓Qal, ↓Qam, ↓Qan, ↓Qao, ↓Qap, ↓Qaq, ↓Qar, ↓Qas, ↓Qat, ↓Qau, ↓Qav, ↓Qaw, ↓Qax, ↓Qay, ↓Qaz, ↓Qa0, ↓Qa1, ↓Qa2, ↓Qa3, ↓Qa4, ↓Qa5, ↓Qa6, ↓Qa7, ↓Qa8, ↓Qa9, ↓Qba, ↓Qbb, ↓Qbc, ↓Qbd, ↓Qbe, ↓Qbf, ↓Qbg, ↓Qbh, ↓Qbi, ↓Qbj, ↓Qbk, ↓Qbl, List.set_cons_zero, List.set_cons_succ, wipeP, Bool.not_false, if_true]
    refine noT ?_
    unfold townsF
    cases p <;> first | rfl | exact absurd rfl (hn _)

theorem fz_cells {S : Sto} {A : Addr → Prop} {rs : List Road} : ∀ cs : List Cell, (∀ c ∈ cs, A c.2 ∧ S c.2 = some (.lst (cont rs c.1.1 c.1.2))) → Fzs S A (cs.map fun c => PV.ref c.2) (cs.map fun c => PV.lst (cont rs c.1.1 c.1.2))
  | [], _ => .nil
  | c :: r, h => .cons (.lst (h c List.mem_cons_self).1 (h c List.mem_cons_self).2 (fzs_same _)) (fz_cells r fun d hd => h d (List.mem_cons_of_mem _ hd))
where fzs_same {S : Sto} {A : Addr → Prop} : ∀ xs : List PV, Fzs S A xs xs
  | [] => .nil
  | x :: xs => .cons (.same x) (fzs_same xs)
theorem fz_dict {S : Sto} {A : Addr → Prop} {ts : List Str} {rs : List Road} {cells : List Cell} (k : Kd) (hk : (cells.filter fun c => c.1.1 == k).map (fun c => c.1.2) = ts) (h : ∀ c ∈ cells, A c.2 ∧ S c.2 = some (.lst (cont rs c.1.1 c.1.2))) :
    Fz S A (.dct (dictOf cells k)) (.dct (ts.map fun t => ((.inr t : Key), .lst (cont rs k t)))) := by
  refine .dctF ?_ ?_
  · subst hk
    simp only [dictOf, List.map_map, Function.comp_def]
  · have e1 : (dictOf cells k).map (·.2) = (cells.filter fun c => c.1.1 == k).map fun c => PV.ref c.2 := by simp only [dictOf, List.map_map, Function.comp_def]
    have e2 : (ts.map fun t => ((.inr t : Key), PV.lst (cont rs k t))).map (·.2) = (cells.filter fun c => c.1.1 == k).map fun c => PV.lst (cont rs c.1.1 c.1.2) := by
      subst hk
      simp only [List.map_map, Function.comp_def]
      refine List.map_congr_left fun c hc => ?_
      have := (List.mem_filter.mp hc).2
      rw [eq_of_beq this]
    rw [e1, e2]
    exact fz_cells _ fun c hc => h c (List.mem_filter.mp hc).1
theorem net_frz {C x : Addr} {ts : List Str} {rs : List Road} {S S' : Sto} {R : RK} {cells : List Cell} (hx : S x = none) (hk : Kept C x ts rs (updS S x (.ins C [])) S' cells) (h : R (netP C ts rs) S) : gR R (.ref x) S' := by
  refine ⟨fun b => b = x ∨ b ∈ cells.map Prod.snd, netP C ts rs, S, fun b hb => ?_, ?_, fun b o e => ?_, fun b hb => ?_, h⟩
  · rcases hb with rfl | hb
    · rw [hk.ins]; simp
    · obtain ⟨c, hc, rfl⟩ := List.mem_map.mp hb
      rw [hk.hold c hc]; simp
  · have hc : ∀ c ∈ cells, (c.2 = x ∨ c.2 ∈ cells.map Prod.snd) ∧ S' c.2 = some (.lst (cont rs c.1.1 c.1.2)) := fun c hc => ⟨.inr (List.mem_map_of_mem hc), hk.hold c hc⟩
    exact .obj (.inl rfl) hk.ins rfl (.cons (.same _) (.cons (.same _) (.cons (.same _) (.cons (fz_dict .o (hk.keys .o) hc) (.cons (fz_dict .i (hk.keys .i) hc) (.cons (fz_dict .t (hk.keys .t) hc) .nil))))))
  · have n1 : b ≠ x := fun z => by rw [z, hx] at e; cases e
    have n2 : b ∉ cells.map Prod.snd := fun z => by
      obtain ⟨c, hc, rfl⟩ := List.mem_map.mp z
      have := hk.new c hc
      rw [updS_ne n1, e] at this; cases this
    rw [hk.oth b n1 n2, updS_ne n1, e]
  · rcases hb with rfl | hb
    · exact hx
    · obtain ⟨c, hc, rfl⟩ := List.mem_map.mp hb
      have n1 : c.2 ≠ x := fun z => hk.na (z ▸ hb)
      have := hk.new c hc
      rwa [updS_ne n1] at this
theorem sub_new {S : Sto} {x : Addr} {o : MO} (hx : S x = none) : Sub S (updS S x o) := fun b u e => by
  rw [updS_ne fun z => by rw [z, hx] at e; cases e]; exact e
theorem net_make {K : PySem.W.Frag} {p q : PV} {S : Sto} {R : RK} {Z : ZK} (hp : PnT p) (hq : PnTT q) (h : match netFault p q with
    | none => ∀ ts rs, p = townsP ts → q = roadsP rs → NetOk ts rs → R (netK K ts rs) S
    | some f => ∀ S', Sub S S' → Z (badNet K f) S') : kMake (He.ga K "Net") (sp_Net___init__ K) [p, q] S R Z := by
  intro x hx
  refine ⟨x, p, q, rfl, updS_same, hp, hq, ?_⟩
  split
  · rename_i e
    rw [e] at h
    intro ts rs S' cells e1 e2 ok hk
    exact ⟨rfl, net_frz hx hk (h ts rs e1 e2 ok)⟩
  · rename_i f e
    rw [e] at h
    exact h _ (sub_new hx)
theorem net_ok {K : PySem.W.Frag} {ts : List Str} {rs : List Road} {S : Sto} {R : RK} {Z : ZK} (ok : NetOk ts rs) (h : R (netK K ts rs) S) : kMake (He.ga K "Net") (sp_Net___init__ K) [townsP ts, roadsP rs] S R Z := by
  refine net_make (pnT_towns ok.tn) (pnTT_roads ok.rn) ?_
  rw [netFault_ok ok]
  intro us qs e1 e2 _
  have e1 : ts.map PV.str = us.map PV.str := PV.tup.inj e1
  have e2 : rs.map roadP = qs.map roadP := PV.tup.inj e2
  have i1 : ts = us := List.map_inj_right (fun a b e => PV.str.inj e) |>.mp e1
  have i2 : rs = qs := List.map_inj_right (fun a b e => by
    have := congrArg asRoad e
    exact Option.some.inj this) |>.mp e2
  rw [← i1, ← i2]
  exact h
section
variable {S : Sto} {R : RK} {Z : ZK} {K : PySem.W.Frag}
theorem f_named {C : Addr} {Cs : List Addr} {ts : List Str} {rs : List Road} (hc : C ∈ Cs) : fldK "named" (netP C ts rs) S R (· ∈ Cs) = R (.dct (namedP rs)) S := k_fldO rfl hc
theorem f_outs {C : Addr} {Cs : List Addr} {ts : List Str} {rs : List Road} (hc : C ∈ Cs) : fldK "outs" (netP C ts rs) S R (· ∈ Cs) = R (.dct (outsP ts rs fun r t => r.bgn == t)) S := k_fldO rfl hc
end
theorem dget_outs {ts : List Str} {rs : List Road} {f : Road → Str → Bool} {x : Str} : (dget (outsP ts rs f) (.inr x)).isSome = decide (x ∈ ts) := by
  rw [← dget_any]
  unfold outsP
  rw [List.any_map, Bool.eq_iff_iff, List.any_eq_true, decide_eq_true_iff]
  constructor
  · rintro ⟨t, ht, e⟩
    have : t = x := by
      have e := of_decide_eq_true e
      exact Sum.inr.inj e
    rw [← this]; exact ht
  · intro h
    exact ⟨x, h, decide_eq_true rfl⟩
theorem dget_named {rs : List Road} {x : Str} : (dget (namedP rs) (.inr x)).isSome = decide (x ∈ rs.map Road.name) := by
  rw [← dget_any]
  unfold namedP
  rw [List.any_map, Bool.eq_iff_iff, List.any_eq_true, decide_eq_true_iff]
  constructor
  · rintro ⟨t, ht, e⟩
    have : t.name = x := by
      have e := of_decide_eq_true e
      exact Sum.inr.inj e
    exact List.mem_map.mpr ⟨t, ht, this⟩
  · intro h
    obtain ⟨t, ht, e⟩ := List.mem_map.mp h
    exact ⟨t, ht, decide_eq_true (by rw [← e])⟩
theorem toDs_strs : ∀ ts : List Str, toDs (ts.map PV.str) = some (ts.map PyData.str)
  | [] => rfl
  | x :: xs => by
    show ((toD (.str x)).bind fun d => (toDs (xs.map PV.str)).map (d :: ·)) = _
    rw [toDs_strs xs]; rfl
def roadD (r : Road) : PyData := .tuple [.str r.name, .str r.bgn, .str r.fin, .int r.len, .int r.room]
theorem toDs_roads : ∀ rs : List Road, toDs (rs.map roadP) = some (rs.map roadD)
  | [] => rfl
  | x :: xs => by
    show ((toD (roadP x)).bind fun d => (toDs (xs.map roadP)).map (d :: ·)) = _
    rw [toDs_roads xs]; rfl
theorem small_iff {c : Nat} : small.contains c = true ↔ 97 ≤ c ∧ c ≤ 122 := by
  have e : small = (List.range 26).map fun i => 97 + i := by decide +kernel
  rw [e, List.contains_iff_mem, List.mem_map]
  constructor
  · rintro ⟨i, hi, rfl⟩
    have := List.mem_range.mp hi
    omega
  · intro h
    exact ⟨c - 97, List.mem_range.mpr (by omega), by omega⟩
theorem name_signs {x : Str} (h : nameB x = true) : ∀ c ∈ x.cps.toList, 97 ≤ c ∧ c ≤ 122 := by
  unfold nameB at h
  simp only [Bool.and_eq_true, List.all_eq_true] at h
  exact fun c hc => small_iff.mp (h.2.2 c hc)
theorem name_strOk {x : Str} (h : nameB x = true) : PyData.strOk x = true := by
  unfold PyData.strOk
  rw [← Array.all_toList, List.all_eq_true]
  intro c hc
  have := name_signs h c hc
  exact decide_eq_true (by omega)
/-- a road of names -/
structure RdN (r : Road) : Prop where
  n : nameB r.name = true
  b : nameB r.bgn = true
  f : nameB r.fin = true
theorem rdN {ts : List Str} {r : Road} (h : roadB ts r = true) : RdN r := let ⟨a, b, c, _⟩ := roadB_n h; ⟨a, b, c⟩
theorem NetW.rd {ts : List Str} {rs : List Road} (h : NetW ts rs) : ∀ r ∈ rs, RdN r := fun r hr => rdN (h.rn r hr)
theorem lay_strs : ∀ ts : List Str, (∀ t ∈ ts, nameB t = true) → PyData.canLayAll0 (ts.map PyData.str) = true ∧ PyData.depthAll (ts.map PyData.str) = 0
  | [], _ => ⟨rfl, rfl⟩
  | x :: xs, h => by
    obtain ⟨a, b⟩ := lay_strs xs fun t ht => h t (List.mem_cons_of_mem _ ht)
    refine ⟨?_, ?_⟩
    · show (PyData.strOk x && PyData.canLayAll0 (xs.map PyData.str)) = true
      rw [a, name_strOk (h x List.mem_cons_self)]; rfl
    · show max 0 (PyData.depthAll (xs.map PyData.str)) = 0
      rw [b]; rfl
theorem lay_roads : ∀ rs : List Road, (∀ r ∈ rs, RdN r) → PyData.canLayAll0 (rs.map roadD) = true ∧ PyData.depthAll (rs.map roadD) ≤ 1
  | [], _ => ⟨rfl, Nat.zero_le _⟩
  | x :: xs, h => by
    obtain ⟨a, b⟩ := lay_roads xs fun t ht => h t (List.mem_cons_of_mem _ ht)
    have hx := h x List.mem_cons_self
    refine ⟨?_, ?_⟩
    · show ((PyData.strOk x.name && (PyData.strOk x.bgn && (PyData.strOk x.fin && true))) && PyData.canLayAll0 (xs.map roadD)) = true
      rw [a, name_strOk hx.n, name_strOk hx.b, name_strOk hx.f]; rfl
    · show max 1 (PyData.depthAll (xs.map roadD)) ≤ 1
      omega
theorem shaped_strs {ts : List Str} (h : ∀ t ∈ ts, nameB t = true) : SeqAt.shaped (.tuple (ts.map PyData.str)) = true := by
  obtain ⟨a, b⟩ := lay_strs ts h
  show (PyData.canLayAll0 (ts.map PyData.str) && decide (PyData.depthAll (ts.map PyData.str) + 1 ≤ 64)) = true
  rw [a, b]; rfl
theorem eqv_strs : ∀ ts us : List Str, PyData.eqvAll (ts.map PyData.str) (us.map PyData.str) = decide (ts = us)
  | [], [] => rfl
  | [], _ :: _ => rfl
  | _ :: _, [] => rfl
  | x :: xs, y :: ys => by
    show ((x == y) && PyData.eqvAll (xs.map PyData.str) (ys.map PyData.str)) = _
    rw [eqv_strs xs ys, Bool.eq_iff_iff]; simp
theorem toD_towns (ts : List Str) : toD (townsP ts) = some (.tuple (ts.map PyData.str)) := by
  show (toDs (ts.map PV.str)).map PyData.tuple = _
  rw [toDs_strs]; rfl
section
variable {S : Sto} {R : RK} {Z : ZK} {K : PySem.W.Frag}
theorem k_eq_towns {neg : Bool} {ts us : List Str} (h : ∀ t ∈ ts, nameB t = true) (h' : ∀ t ∈ us, nameB t = true) : kEqA neg (townsP ts) (townsP us) S R = R (.bl (decide (ts = us) != neg)) S := by
  show kEqD neg (townsP ts) (townsP us) S R = _
  show (match toD (townsP ts), toD (townsP us) with
    | some d, some e => SeqAt.shaped d = true ∧ SeqAt.shaped e = true ∧ R (.bl (PyData.eqv d e != neg)) S
    | _, _ => False) = _
  rw [toD_towns, toD_towns]
  show (SeqAt.shaped _ = true ∧ SeqAt.shaped _ = true ∧ R (.bl (PyData.eqvAll _ _ != neg)) S) = _
  rw [shaped_strs h, shaped_strs h', eqv_strs]; simp
end

theorem rising_pw : ∀ (l : List Str) (p : Str), risingS p l = true → (p :: l).Pairwise fun a b => ¬ (b.cps.toList < a.cps.toList)
  | [], p, _ => List.pairwise_singleton _ _
  | x :: r, p, h => by
    have h : (!ltCps x.cps.toList p.cps.toList && risingS x r) = true := h
    rw [Bool.and_eq_true, Bool.not_eq_true', ltCps_eq, decide_eq_false_iff_not] at h
    have ih := rising_pw r x h.2
    refine List.pairwise_cons.mpr ⟨fun y hy => ?_, ih⟩
    rcases List.mem_cons.mp hy with rfl | hy
    · exact h.1
    · exact List.le_trans (List.not_lt.mp h.1) (List.not_lt.mp ((List.pairwise_cons.mp ih).1 y hy))
theorem ltS_asym {a b : Str} (h : ltS b a = false) (h' : ltS a b = false) : a = b := by
  refine TL.ext_tl ?_
  exact List.le_antisymm (List.not_lt.mp (of_decide_eq_false h)) (List.not_lt.mp (of_decide_eq_false h'))
theorem ltS_irr {a : Str} : ltS a a = false := decide_eq_false (List.lt_irrefl _)
theorem leS_total (a b : Str) : (!ltS b a || !ltS a b) = true := by
  cases h : ltS b a with
  | false => rfl
  | true =>
    cases h' : ltS a b with
    | false => rfl
    | true =>
      have := ltS_trans h h'
      rw [ltS_irr] at this; cases this
theorem leS_trans (a b c : Str) (h : (!ltS b a) = true) (h' : (!ltS c b) = true) : (!ltS c a) = true := by
  rw [Bool.not_eq_true'] at h h' ⊢
  exact decide_eq_false (List.not_lt.mpr (List.le_trans (List.not_lt.mp (of_decide_eq_false h)) (List.not_lt.mp (of_decide_eq_false h'))))
theorem srtS_perm (ss : List Str) : (srtS ss).Perm ss := List.mergeSort_perm _ _
theorem srtS_pw (ss : List Str) : (srtS ss).Pairwise fun a b => (!ltS b a) = true := List.pairwise_mergeSort leS_trans leS_total ss
theorem sort_uniq {zs ss : List Str} (p : zs.Perm ss) (h : sortedS zs = true) : zs = srtS ss := by
  refine List.Perm.eq_of_pairwise (le := fun a b => (!ltS b a) = true) (fun a b _ _ h1 h2 => ?_) ?_ (srtS_pw ss) (p.trans (srtS_perm ss).symm)
  · rw [Bool.not_eq_true'] at h1 h2
    exact ltS_asym h1 h2
  · cases zs with
    | nil => exact .nil
    | cons x r =>
      refine (rising_pw r x h).imp fun {a b} h => ?_
      rw [Bool.not_eq_true']
      exact decide_eq_false h
theorem srtS_up {ss : List Str} (nd : ss.Nodup) : UpS (srtS ss) := by
  refine ((srtS_pw ss).and ((srtS_perm ss).nodup_iff.mpr nd)).imp fun {a b} h => ?_
  have h1 := h.1
  rw [Bool.not_eq_true'] at h1
  cases q : ltS a b with
  | true => rfl
  | false => exact absurd (ltS_asym h1 q) h.2
section
variable {S : Sto} {R : RK} {Z : ZK} {K : PySem.W.Frag}
theorem k_sorted_strs {p : PV} {ss : List Str} (h : seqOf (dr S p) = some (ss.map PV.str)) (hR : R (.lst ((srtS ss).map PV.str)) S) : kSorted p S R := by
  unfold kSorted
  rw [h]
  show (match strsOf (ss.map PV.str) with
    | some ss => ∀ zs : List Str, zs.Perm ss → sortedS zs = true → R (.lst (zs.map PV.str)) S
    | none => False)
  rw [strsOf_map]
  intro zs p hs
  rw [sort_uniq p hs]
  exact hR
end
theorem town_inj {ts us : List Str} (h : townsP ts = townsP us) : ts = us := List.map_inj_right (fun a b e => PV.str.inj e) |>.mp (PV.tup.inj h)
section
variable {K : PySem.W.Frag} {S : Sto} {R : RK} {Z : ZK} {C : Addr} {ts : List Str} {rs : List Road}
theorem t_check_town {p : PV} (hC : C ∈ netCs K) (hp : Pn p) (h : if isIn ts p = true then R .non S else Z (exc0 K "NoTown") S) : sp_check_town K [netP C ts rs, p] S R Z := ⟨C, ts, rs, p, rfl, hC, hp, h⟩
end
theorem isIn_no {ts : List Str} {p : PV} (hn : ∀ x, p ≠ .str x) : isIn ts p = false := by
  unfold isIn
  cases p <;> first | rfl | exact absurd rfl (hn _)
theorem isIn_str {ts : List Str} {x : Str} : isIn ts (.str x) = decide (x ∈ ts) := rfl
theorem isIn_some {ts : List Str} {p : PV} (h : isIn ts p = true) : ∃ x, p = .str x ∧ x ∈ ts := by
  unfold isIn at h
  split at h
  · exact ⟨_, rfl, of_decide_eq_true h⟩
  · cases h
theorem pure_check_town (K : PySem.W.Frag) : ∀ ps S R Z, ps.length = 2 → sp_check_town K ps S R Z → w_check_town K (fin R Z) (startP n_check_town ps) S := by
  intro ps S R Z hl h
  obtain ⟨C, ts, rs, p, rfl, hC, hp, h⟩ := h
  have e : startP n_check_town [netP C ts rs, p] = [some (netP C ts rs), some p] := rfl
  rw [e]
  simp -implicitDefEqProofs only [w_check_town, ↓Qa, ↓Qb, ↓Qc, ↓Qd, ↓Qe, ↓Qg, ↓Qh, ↓Qi, ↓Qj, ↓Qk, ↓Ql, ↓par2_two, ↓Qm, ↓Qn, ↓Qo, ↓Qp, ↓Qq, ↓Qr, ↓Qs, ↓Qt, ↓Qu, ↓Qv, ↓Qw, ↓Qx, ↓Qy, ↓Qz, ↓Q0, ↓truK_bl, ↓Q3, ↓Q4, ↓Q5, ↓Q6, ↓chK_bl, ↓Q7, ↓Q8, ↓Q9, ↓Ya, ↓Yb, ↓Yc, ↓Yd, ↓Ye, ↓Yf, ↓Yg, ↓Yh, ↓Yi, ↓Yj, ↓Yk, ↓Ym, ↓Yn, ↓Yo, ↓Yp, ↓Yq, ↓Yr, ↓Ys, ↓Yt, ↓Yu, ↓Yv, ↓Yw, ↓Yx, ↓Yy, ↓Yz, ↓Y0, ↓Y1, ↓Y2, ↓Y3, ↓Y4, ↓Y5, ↓Y6, ↓Y7, ↓Y8, ↓Y9, ↓Ja, ↓Jb, ↓Jc, ↓Jd, ↓Je, ↓Jf, ↓Jg, ↓Jh, ↓Ji, ↓Jj, ↓Jk, ↓Jl, ↓Jm, ↓Jn, ↓Jo, ↓Jp, ↓Jq, ↓Jr, ↓Js, ↓Jt, ↓Ju, ↓Jw, ↓Jx, ↓Jy, ↓Jz, ↓J1, ↓J2, ↓J3, ↓J4, ↓J5, ↓J6, ↓J7, ↓J8, ↓J9, ↓Qaa, ↓Qab, ↓Qac, ↓Qad, ↓Qae, ↓par3_three, ↓Qaf, ↓Qag, ↓Qah, ↓Qai, ↓Qaj, ↓Qak, ↓Qal, ↓Qam, ↓Qan, ↓Qao, ↓Qap, ↓Qaq, ↓Qar, ↓Qas, ↓Qat, ↓Qau, ↓Qav, ↓Qaw, ↓Qax, ↓Qay, ↓Qaz, ↓Qa0, ↓Qa1, ↓Qa2, ↓Qa3, ↓Qa4, ↓Qa5, ↓Qa6, ↓Qa7, ↓Qa8, ↓Qa9, ↓Qba, ↓Qbb, ↓Qbc, ↓Qbd, ↓Qbe, ↓Qbf, ↓Qbg, ↓Qbh, ↓Qbi, ↓Qbj, ↓Qbk, ↓Qbl, List.set_cons_zero, List.set_cons_succ, wipeP]
  rw [k_isB_pn (by decide) hp]
  rcases pn_str_or hp with ⟨x, rfl, hz⟩ | ⟨hi, hn⟩
  · rw [isA_str]
    simp -implicitDefEqProofs only [↓Qa, ↓Qb, ↓Qc, ↓Qd, ↓Qe, ↓Qg, ↓Qh, ↓Qi, ↓Qj, ↓Qk, ↓Ql, ↓par2_two, ↓Qm, ↓Qn, ↓Qo, ↓Qp, ↓Qq, ↓Qr, ↓Qs, ↓Qt, ↓Qu, ↓Qv, ↓Qw, ↓Qx, ↓Qy, ↓Qz, ↓Q0, ↓truK_bl, ↓Q3, ↓Q4, ↓Q5, ↓Q6, ↓chK_bl, ↓Q7, ↓Q8, ↓Q9, ↓Ya, ↓Yb, ↓Yc, ↓Yd, ↓Ye, ↓Yf, ↓Yg, ↓Yh, ↓Yi, ↓Yj, ↓Yk, ↓Ym, ↓Yn, ↓Yo, ↓Yp, ↓Yq, ↓Yr, ↓Ys, ↓Yt, ↓Yu, ↓Yv, ↓Yw, ↓Yx, ↓Yy, ↓Yz, ↓Y0, ↓Y1, ↓Y2, ↓Y3, ↓Y4, ↓Y5, ↓Y6, ↓Y7, ↓Y8, ↓Y9, ↓Ja, ↓Jb, ↓Jc, ↓Jd, ↓Je, ↓Jf, ↓Jg, ↓Jh, ↓Ji, ↓Jj, ↓Jk, ↓Jl, ↓Jm, ↓Jn, ↓Jo, ↓Jp, ↓Jq, ↓Jr, ↓Js, ↓Jt, ↓Ju, ↓Jw, ↓Jx, ↓Jy, ↓Jz, ↓J1, ↓J2, ↓J3, ↓J4, ↓J5, ↓J6, ↓J7, ↓J8, ↓J9, ↓Qaa, ↓Qab, ↓Qac, ↓Qad, ↓Qae, ↓par3_three, ↓Qaf, ↓Qag, ↓Qah, ↓Qai, ↓Qaj, ↓Qak, ↓Qal, ↓Qam, ↓Qan, ↓Qao, ↓Qap, ↓Qaq, ↓Qar, ↓Qas, ↓Qat, ↓Qau, ↓Qav, ↓Qaw, ↓Qax, ↓Qay, ↓Qaz, ↓Qa0, ↓Qa1, ↓Qa2, ↓Qa3, ↓Qa4, ↓Qa5, ↓Qa6, ↓Qa7, ↓Qa8, ↓Qa9, ↓Qba, ↓Qbb, ↓Qbc, ↓Qbd, ↓Qbe, ↓Qbf, ↓Qbg, ↓Qbh, ↓Qbi, ↓Qbj, ↓Qbk, ↓Qbl, List.set_cons_zero, List.set_cons_succ, wipeP, Bool.not_true, Bool.false_eq_true, if_false, f_outs hC, J9, dget_outs]
    rw [isIn_str] at h
    cases hd : decide (x ∈ ts) with
    | true =>
      rw [hd] at h
      simp only [Bool.bne_true, Bool.not_true, Bool.false_eq_true, if_false, if_true] at h ⊢
      exact wfg_now h
    | false =>
      rw [hd] at h
      simp only [Bool.bne_true, Bool.not_false, Bool.false_eq_true, if_false, if_true] at h ⊢
      exact zfg_now h
  · rw [hi]
    simp -implicitDefEqProofs only [↓Qa, ↓Qb, ↓Qc, ↓Qd, ↓Qe, ↓Qg, ↓Qh, ↓Qi, ↓Qj, ↓Qk, ↓Ql, ↓par2_two, ↓Qm, ↓Qn, ↓Qo, ↓Qp, ↓Qq, ↓Qr, ↓Qs, ↓Qt, ↓Qu, ↓Qv, ↓Qw, ↓Qx, ↓Qy, ↓Qz, ↓Q0, ↓truK_bl, ↓Q3, ↓Q4, ↓Q5, ↓Q6, ↓chK_bl, ↓Q7, ↓Q8, ↓Q9, ↓Ya, ↓Yb, ↓Yc, ↓Yd, ↓Ye, ↓Yf, ↓Yg, ↓Yh, ↓Yi, ↓Yj, ↓Yk, ↓Ym, ↓Yn, ↓Yo, ↓Yp, ↓Yq, ↓Yr, ↓Ys, ↓Yt, ↓Yu, ↓Yv, ↓Yw, ↓Yx, ↓Yy, ↓Yz, ↓Y0, ↓Y1, ↓Y2, ↓Y3, ↓Y4, ↓Y5, ↓Y6, ↓Y7, ↓Y8, ↓Y9, ↓Ja, ↓Jb, ↓Jc, ↓Jd, ↓Je, ↓Jf, ↓Jg, ↓Jh, ↓Ji, ↓Jj, ↓Jk, ↓Jl, ↓Jm, ↓Jn, ↓Jo, ↓Jp, ↓Jq, ↓Jr, ↓Js, ↓Jt, ↓Ju, ↓Jw, ↓Jx, ↓Jy, ↓Jz, ↓J1, ↓J2, ↓J3, ↓J4, ↓J5, ↓J6, ↓J7, ↓J8, ↓J9, ↓Qaa, ↓Qab, ↓Qac, ↓Qad, ↓Qae, ↓par3_three, ↓Qaf, ↓Qag, ↓Qah, ↓Qai, ↓Qaj, ↓Qak, ↓Qal, ↓Qam, ↓Qan, ↓Qao, ↓Qap, ↓Qaq, ↓Qar, ↓Qas, ↓Qat, ↓Qau, ↓Qav, ↓Qaw, ↓Qax, ↓Qay, ↓Qaz, ↓Qa0, ↓Qa1, ↓Qa2, ↓Qa3, ↓Qa4, ↓Qa5, ↓Qa6, ↓Qa7, ↓Qa8, ↓Qa9, ↓Qba, ↓Qbb, ↓Qbc, ↓Qbd, ↓Qbe, ↓Qbf, ↓Qbg, ↓Qbh, ↓Qbi, ↓Qbj, ↓Qbk, ↓Qbl, List.set_cons_zero, List.set_cons_succ, wipeP, Bool.not_false, if_true]
    rw [isIn_no hn] at h
    exact zfg_now h

theorem pure__law_hand (K : PySem.W.Frag) : ∀ ps S R Z, ps.length = 1 → sp__law_hand K ps S R Z → w__law_hand K (fin R Z) (startP n__law_hand ps) S := by
  intro ps S R Z hl h
  obtain ⟨ns, rfl, hR⟩ := h
  have e : startP n__law_hand [.lst (ns.map PV.int)] = [some (.lst (ns.map PV.int)), none, none] := rfl
  rw [e]
  have sl : ∀ (S : Sto) (R' : RK), kSl (.lst (ns.map PV.int)) none (some 63) S R' = R' (.lst (cutP (ns.map PV.int) none (some 63))) S := fun _ _ => rfl
  have hcut : ∃ ms : List Int, cutP (ns.map PV.int) none (some 63) = ms.map PV.int ∧ ms.length ≤ 63 := by
    refine ⟨(ns.drop (HT.sIx (ns.map PV.int).length 0 none)).take (HT.sIx (ns.map PV.int).length (ns.map PV.int).length (some 63) - HT.sIx (ns.map PV.int).length 0 none), ?_, ?_⟩
    · unfold cutP
      rw [List.map_take, List.map_drop]
    · rw [List.length_take]
      have : HT.sIx (ns.map PV.int).length (ns.map PV.int).length (some 63) ≤ 63 := by
        unfold HT.sIx
        simp
        omega
      omega
  obtain ⟨ms, h1, h2⟩ := hcut
  simp -implicitDefEqProofs only [w__law_hand, ↓Qa, ↓Qb, ↓Qc, ↓Qd, ↓Qe, ↓Qg, ↓Qh, ↓Qi, ↓Qj, ↓Qk, ↓Ql, ↓par2_two, ↓Qm, ↓Qn, ↓Qo, ↓Qp, ↓Qq, ↓Qr, ↓Qs, ↓Qt, ↓Qu, ↓Qv, ↓Qw, ↓Qx, ↓Qy, ↓Qz, ↓Q0, ↓truK_bl, ↓Q3, ↓Q4, ↓Q5, ↓Q6, ↓chK_bl, ↓Q7, ↓Q8, ↓Q9, ↓Ya, ↓Yb, ↓Yc, ↓Yd, ↓Ye, ↓Yf, ↓Yg, ↓Yh, ↓Yi, ↓Yj, ↓Yk, ↓Ym, ↓Yn, ↓Yo, ↓Yp, ↓Yq, ↓Yr, ↓Ys, ↓Yt, ↓Yu, ↓Yv, ↓Yw, ↓Yx, ↓Yy, ↓Yz, ↓Y0, ↓Y1, ↓Y2, ↓Y3, ↓Y4, ↓Y5, ↓Y6, ↓Y7, ↓Y8, ↓Y9, ↓Ja, ↓Jb, ↓Jc, ↓Jd, ↓Je, ↓Jf, ↓Jg, ↓Jh, ↓Ji, ↓Jj, ↓Jk, ↓Jl, ↓Jm, ↓Jn, ↓Jo, ↓Jp, ↓Jq, ↓Jr, ↓Js, ↓Jt, ↓Ju, ↓Jw, ↓Jx, ↓Jy, ↓Jz, ↓J1, ↓J2, ↓J3, ↓J4, ↓J5, ↓J6, ↓J7, ↓J8, ↓J9, ↓Qaa, ↓Qab, ↓Qac, ↓Qad, ↓Qae, ↓par3_three, ↓Qaf, ↓Qag, ↓Qah, ↓Qai, ↓Qaj, ↓Qak, ↓Qal, ↓Qam, ↓Qan, ↓Qao, ↓Qap, ↓Qaq, ↓Qar, ↓Qas, ↓Qat, ↓Qau, ↓Qav, ↓Qaw, ↓Qax, ↓Qay, ↓Qaz, ↓Qa0, ↓Qa1, ↓Qa2, ↓Qa3, ↓Qa4, ↓Qa5, ↓Qa6, ↓Qa7, ↓Qa8, ↓Qa9, ↓Qba, ↓Qbb, ↓Qbc, ↓Qbd, ↓Qbe, ↓Qbf, ↓Qbg, ↓Qbh, ↓Qbi, ↓Qbj, ↓Qbk, ↓Qbl, List.set_cons_zero, List.set_cons_succ, wipeP, sl, h1]
  refine wLcL_allM PV.int (fun n => PV.int (if n < 0 then -n else n)) trivial _ (fun x hx R' hR' => ?_) (sz0 (by omega)) ?_
  · simp -implicitDefEqProofs only [w__law_hand_1, ↓Qa, ↓Qb, ↓Qc, ↓Qd, ↓Qe, ↓Qg, ↓Qh, ↓Qi, ↓Qj, ↓Qk, ↓Ql, ↓par2_two, ↓Qm, ↓Qn, ↓Qo, ↓Qp, ↓Qq, ↓Qr, ↓Qs, ↓Qt, ↓Qu, ↓Qv, ↓Qw, ↓Qx, ↓Qy, ↓Qz, ↓Q0, ↓truK_bl, ↓Q3, ↓Q4, ↓Q5, ↓Q6, ↓chK_bl, ↓Q7, ↓Q8, ↓Q9, ↓Ya, ↓Yb, ↓Yc, ↓Yd, ↓Ye, ↓Yf, ↓Yg, ↓Yh, ↓Yi, ↓Yj, ↓Yk, ↓Ym, ↓Yn, ↓Yo, ↓Yp, ↓Yq, ↓Yr, ↓Ys, ↓Yt, ↓Yu, ↓Yv, ↓Yw, ↓Yx, ↓Yy, ↓Yz, ↓Y0, ↓Y1, ↓Y2, ↓Y3, ↓Y4, ↓Y5, ↓Y6, ↓Y7, ↓Y8, ↓Y9, ↓Ja, ↓Jb, ↓Jc, ↓Jd, ↓Je, ↓Jf, ↓Jg, ↓Jh, ↓Ji, ↓Jj, ↓Jk, ↓Jl, ↓Jm, ↓Jn, ↓Jo, ↓Jp, ↓Jq, ↓Jr, ↓Js, ↓Jt, ↓Ju, ↓Jw, ↓Jx, ↓Jy, ↓Jz, ↓J1, ↓J2, ↓J3, ↓J4, ↓J5, ↓J6, ↓J7, ↓J8, ↓J9, ↓Qaa, ↓Qab, ↓Qac, ↓Qad, ↓Qae, ↓par3_three, ↓Qaf, ↓Qag, ↓Qah, ↓Qai, ↓Qaj, ↓Qak, ↓Qal, ↓Qam, ↓Qan, ↓Qao, ↓Qap, ↓Qaq, ↓Qar, ↓Qas, ↓Qat, ↓Qau, ↓Qav, ↓Qaw, ↓Qax, ↓Qay, ↓Qaz, ↓Qa0, ↓Qa1, ↓Qa2, ↓Qa3, ↓Qa4, ↓Qa5, ↓Qa6, ↓Qa7, ↓Qa8, ↓Qa9, ↓Qba, ↓Qbb, ↓Qbc, ↓Qbd, ↓Qbe, ↓Qbf, ↓Qbg, ↓Qbh, ↓Qbi, ↓Qbj, ↓Qbk, ↓Qbl, List.set_cons_zero, List.set_cons_succ, wipeP]; exact hR'
  have e2 : (ms.map fun n => PV.int (if n < 0 then -n else n)) = (ms.map fun n : Int => if n < 0 then -n else n).map PV.int := by rw [List.map_map]; rfl
  rw [e2]
  refine ⟨.inl (by omega), sz0 (by simp), fun a ha => gR_now (hR a _ ha ⟨_, 0, _, _, _, updS_same⟩ fun x hx => updS_ne hx)⟩

/-- the cells taken, the number drawn -/
def drawHead (K : PySem.W.Frag) : WS := wIfS (wAndT (tst (wB (kEqA false) (wB kIx (wVar 0) (wC (.int 2))) (wC (.int 0)))) (tst (wB (kLt) (wB kIx (wVar 0) (wC (.int 1))) (wCall (p1 kLen) (wCons (wB kIx (wVar 0) (wC (.int 0))) (wNil)))))) (wSeq (wSet 2 (wB kIx (wB kIx (wVar 0) (wC (.int 0))) (wB kIx (wVar 0) (wC (.int 1))))) (wSeq (wPut (wVar 0) (wC (.int 1)) (wB kAdd (wB kIx (wVar 0) (wC (.int 1))) (wC (.int 1)))) (wSeq (wPut (wVar 0) (wC (.int 3)) (wB kMod (wCall (p1 kInt) (wCons (wB kAdd (wB kAdd (wB kMul (wB kIx (wVar 0) (wC (.int 3))) (wC (.int 69621))) (wB kMul (wVar 2) (wC (.int 48271)))) (wC (.int 17))) (wNil))) (wC (.int 2147483629)))) (wIfS (tst (wB (kGe) (wVar 2) (wB kPow (wC (.int 10)) (wC (.int 18))))) (wPut (wVar 0) (wC (.int 2)) (wVar 2)) (wNext))))) (wNext)
def drawTail (K : PySem.W.Frag) : WS := wSeq (wIfS (tst (wB (kGt) (wB kIx (wVar 0) (wC (.int 2))) (wC (.int 0)))) (wSeq (wSet 3 (wB kMod (wCall (p1 kInt) (wCons (wB kIx (wVar 0) (wC (.int 2))) (wNil))) (wVar 1))) (wSeq (wPut (wVar 0) (wC (.int 2)) (wB kDiv (wB kIx (wVar 0) (wC (.int 2))) (wVar 1))) (wRet (wVar 3)))) (wNext)) (wSeq (wPut (wVar 0) (wC (.int 4)) (wB kAdd (wB kIx (wVar 0) (wC (.int 4))) (wC (.int 1)))) (wSeq (wSet 4 (wB kMod (wCall (p1 kInt) (wCons (wB kMul (wCall (p1 kInt) (wCons (wB kAdd (wB kIx (wVar 0) (wC (.int 3))) (wB kMul (wC (.int 7919)) (wB kIx (wVar 0) (wC (.int 4))))) (wNil))) (wC (.int 40692))) (wNil))) (wC (.int 2147483647)))) (wSeq (wSet 4 (wB kMod (wCall (p1 kInt) (wCons (wB kMul (wVar 4) (wB kAdd (wB kDiv (wVar 4) (wC (.int 1009))) (wC (.int 69621)))) (wNil))) (wC (.int 2147483647)))) (wSeq (wSet 4 (wB kMod (wCall (p1 kInt) (wCons (wB kMul (wVar 4) (wB kAdd (wB kDiv (wVar 4) (wC (.int 2003))) (wC (.int 40014)))) (wNil))) (wC (.int 2147483563)))) (wRet (wB kMod (wCall (p1 kInt) (wCons (wB kDiv (wVar 4) (wC (.int 16))) (wNil))) (wVar 1)))))))
theorem draw_cut (K : PySem.W.Frag) : w__law_draw K = wSeq (drawHead K) (drawTail K) := rfl
def HI (a : Addr) (cells : List Int) (i : Nat) (d f g : Int) (S : Sto) : Prop := S a = some (.lst [.lst (cells.map PV.int), .int i, .int d, .int f, .int g])
section
variable {a : Addr} {cells : List Int} {i : Nat} {d f g : Int} {S : Sto} {R : RK} {v : PV} {k : Sto → Prop}
theorem HI.at (h : HI a cells i d f g S) : HandAt a S := ⟨cells, i, d, f, g, h⟩
theorem HI.i0 (h : HI a cells i d f g S) : kIx (.ref a) (.int 0) S R = R (.lst (cells.map PV.int)) S := by
  rw [k_ix_ref h]; exact propext ⟨fun ⟨z, h1, h2⟩ => by cases h1; exact h2, fun h => ⟨_, rfl, h⟩⟩
theorem HI.i1 (h : HI a cells i d f g S) : kIx (.ref a) (.int 1) S R = R (.int i) S := by
  rw [k_ix_ref h]; exact propext ⟨fun ⟨z, h1, h2⟩ => by cases h1; exact h2, fun h => ⟨_, rfl, h⟩⟩
theorem HI.i2 (h : HI a cells i d f g S) : kIx (.ref a) (.int 2) S R = R (.int d) S := by
  rw [k_ix_ref h]; exact propext ⟨fun ⟨z, h1, h2⟩ => by cases h1; exact h2, fun h => ⟨_, rfl, h⟩⟩
theorem HI.i3 (h : HI a cells i d f g S) : kIx (.ref a) (.int 3) S R = R (.int f) S := by
  rw [k_ix_ref h]; exact propext ⟨fun ⟨z, h1, h2⟩ => by cases h1; exact h2, fun h => ⟨_, rfl, h⟩⟩
theorem HI.i4 (h : HI a cells i d f g S) : kIx (.ref a) (.int 4) S R = R (.int g) S := by
  rw [k_ix_ref h]; exact propext ⟨fun ⟨z, h1, h2⟩ => by cases h1; exact h2, fun h => ⟨_, rfl, h⟩⟩
theorem k_put {xs : List PV} {n : Nat} (h : S a = some (.lst xs)) (hn : n < xs.length) : kPut (.ref a) (.int n) v S k = k (updS S a (.lst (xs.set n v))) := by
  have e : ixN xs.length (n : Int) = some n := by
    unfold ixN
    rw [if_pos (by omega), if_pos (by omega), Int.toNat_natCast]
  show (match S a with
    | some (.lst xs) => ∃ m, ixN xs.length (n : Int) = some m ∧ k (updS S a (.lst (xs.set m v)))
    | some (.dct ks) => ks.length < sizeLine ∧ k (updS S a (.dct (dput ks (.inl n) v)))
    | _ => False) = _
  rw [h]
  dsimp only
  rw [e]
  exact propext ⟨fun ⟨z, h1, h2⟩ => by cases h1; exact h2, fun h => ⟨_, rfl, h⟩⟩
theorem HI.p1 (h : HI a cells i d f g S) {j : Nat} : kPut (.ref a) (.int 1) (.int j) S k = k (updS S a (.lst [.lst (cells.map PV.int), .int j, .int d, .int f, .int g])) := k_put (n := 1) h (by show 1 < 5; omega)
theorem HI.p2 (h : HI a cells i d f g S) {j : Int} : kPut (.ref a) (.int 2) (.int j) S k = k (updS S a (.lst [.lst (cells.map PV.int), .int i, .int j, .int f, .int g])) := k_put (n := 2) h (by show 2 < 5; omega)
theorem HI.p3 (h : HI a cells i d f g S) {j : Int} : kPut (.ref a) (.int 3) (.int j) S k = k (updS S a (.lst [.lst (cells.map PV.int), .int i, .int d, .int j, .int g])) := k_put (n := 3) h (by show 3 < 5; omega)
theorem HI.p4 (h : HI a cells i d f g S) {j : Int} : kPut (.ref a) (.int 4) (.int j) S k = k (updS S a (.lst [.lst (cells.map PV.int), .int i, .int d, .int f, .int j])) := k_put (n := 4) h (by show 4 < 5; omega)
theorem Off.upd {S' : Sto} {o : MO} (h : Off a S S') : Off a S (updS S' a o) := fun x hx => by rw [updS_ne hx]; exact h x hx
end
theorem draw_tail (K : PySem.W.Frag) {a : Addr} {cells : List Int} {i : Nat} {d f g m : Int} {S S0 : Sto} {R : RK} {Z : ZK} {x y z : Option PV} (h : HI a cells i d f g S) (ho : Off a S0 S) (m0 : 0 < m) (m1 : m < 100000)
    (hR : ∀ n S', 0 ≤ n → n < m → HandAt a S' → Off a S0 S' → R (.int n) S') : drawTail K (fin R Z) [some (.ref a), some (.int m), x, y, z] S := by
  simp -implicitDefEqProofs only [drawTail, ↓Qa, ↓Qb, ↓Qc, ↓Qd, ↓Qe, ↓Qg, ↓Qh, ↓Qi, ↓Qj, ↓Qk, ↓Ql, ↓par2_two, ↓Qm, ↓Qn, ↓Qo, ↓Qp, ↓Qq, ↓Qr, ↓Qs, ↓Qt, ↓Qu, ↓Qv, ↓Qw, ↓Qx, ↓Qy, ↓Qz, ↓Q0, ↓truK_bl, ↓Q3, ↓Q4, ↓Q5, ↓Q6, ↓chK_bl, ↓Q7, ↓Q8, ↓Q9, ↓Ya, ↓Yb, ↓Yc, ↓Yd, ↓Ye, ↓Yf, ↓Yg, ↓Yh, ↓Yi, ↓Yj, ↓Yk, ↓Ym, ↓Yn, ↓Yo, ↓Yp, ↓Yq, ↓Yr, ↓Ys, ↓Yt, ↓Yu, ↓Yv, ↓Yw, ↓Yx, ↓Yy, ↓Yz, ↓Y0, ↓Y1, ↓Y2, ↓Y3, ↓Y4, ↓Y5, ↓Y6, ↓Y7, ↓Y8, ↓Y9, ↓Ja, ↓Jb, ↓Jc, ↓Jd, ↓Je, ↓Jf, ↓Jg, ↓Jh, ↓Ji, ↓Jj, ↓Jk, ↓Jl, ↓Jm, ↓Jn, ↓Jo, ↓Jp, ↓Jq, ↓Jr, ↓Js, ↓Jt, ↓Ju, ↓Jw, ↓Jx, ↓Jy, ↓Jz, ↓J1, ↓J2, ↓J3, ↓J4, ↓J5, ↓J6, ↓J7, ↓J8, ↓J9, ↓Qaa, ↓Qab, ↓Qac, ↓Qad, ↓Qae, ↓par3_three, ↓Qaf, ↓Qag, ↓Qah, ↓Qai, ↓Qaj, ↓Qak, ↓Qal, ↓Qam, ↓Qan, ↓Qao, ↓Qap, ↓Qaq, ↓Qar, ↓Qas, ↓Qat, ↓Qau, ↓Qav, ↓Qaw, ↓Qax, ↓Qay, ↓Qaz, ↓Qa0, ↓Qa1, ↓Qa2, ↓Qa3, ↓Qa4, ↓Qa5, ↓Qa6, ↓Qa7, ↓Qa8, ↓Qa9, ↓Qba, ↓Qbb, ↓Qbc, ↓Qbd, ↓Qbe, ↓Qbf, ↓Qbg, ↓Qbh, ↓Qbi, ↓Qbj, ↓Qbk, ↓Qbl, List.set_cons_zero, List.set_cons_succ, wipeP, h.i2]
  have cd : CDiv d m := ⟨m0, by omega⟩
  by_cases hd : 0 < d
  · rw [decide_eq_true hd]
    simp -implicitDefEqProofs only [↓Qa, ↓Qb, ↓Qc, ↓Qd, ↓Qe, ↓Qg, ↓Qh, ↓Qi, ↓Qj, ↓Qk, ↓Ql, ↓par2_two, ↓Qm, ↓Qn, ↓Qo, ↓Qp, ↓Qq, ↓Qr, ↓Qs, ↓Qt, ↓Qu, ↓Qv, ↓Qw, ↓Qx, ↓Qy, ↓Qz, ↓Q0, ↓truK_bl, ↓Q3, ↓Q4, ↓Q5, ↓Q6, ↓chK_bl, ↓Q7, ↓Q8, ↓Q9, ↓Ya, ↓Yb, ↓Yc, ↓Yd, ↓Ye, ↓Yf, ↓Yg, ↓Yh, ↓Yi, ↓Yj, ↓Yk, ↓Ym, ↓Yn, ↓Yo, ↓Yp, ↓Yq, ↓Yr, ↓Ys, ↓Yt, ↓Yu, ↓Yv, ↓Yw, ↓Yx, ↓Yy, ↓Yz, ↓Y0, ↓Y1, ↓Y2, ↓Y3, ↓Y4, ↓Y5, ↓Y6, ↓Y7, ↓Y8, ↓Y9, ↓Ja, ↓Jb, ↓Jc, ↓Jd, ↓Je, ↓Jf, ↓Jg, ↓Jh, ↓Ji, ↓Jj, ↓Jk, ↓Jl, ↓Jm, ↓Jn, ↓Jo, ↓Jp, ↓Jq, ↓Jr, ↓Js, ↓Jt, ↓Ju, ↓Jw, ↓Jx, ↓Jy, ↓Jz, ↓J1, ↓J2, ↓J3, ↓J4, ↓J5, ↓J6, ↓J7, ↓J8, ↓J9, ↓Qaa, ↓Qab, ↓Qac, ↓Qad, ↓Qae, ↓par3_three, ↓Qaf, ↓Qag, ↓Qah, ↓Qai, ↓Qaj, ↓Qak, ↓Qal, ↓Qam, ↓Qan, ↓Qao, ↓Qap, ↓Qaq, ↓Qar, ↓Qas, ↓Qat, ↓Qau, ↓Qav, ↓Qaw, ↓Qax, ↓Qay, ↓Qaz, ↓Qa0, ↓Qa1, ↓Qa2, ↓Qa3, ↓Qa4, ↓Qa5, ↓Qa6, ↓Qa7, ↓Qa8, ↓Qa9, ↓Qba, ↓Qbb, ↓Qbc, ↓Qbd, ↓Qbe, ↓Qbf, ↓Qbg, ↓Qbh, ↓Qbi, ↓Qbj, ↓Qbk, ↓Qbl, List.set_cons_zero, List.set_cons_succ, wipeP, if_true, h.i2, h.p2]
    exact ⟨m0, cd, gR_now (hR _ _ (Int.emod_nonneg _ (by omega)) (Int.emod_lt_of_pos _ m0) (HI.at (i := i) updS_same) ho.upd)⟩
  · rw [decide_eq_false hd]
    simp -implicitDefEqProofs only [↓Qa, ↓Qb, ↓Qc, ↓Qd, ↓Qe, ↓Qg, ↓Qh, ↓Qi, ↓Qj, ↓Qk, ↓Ql, ↓par2_two, ↓Qm, ↓Qn, ↓Qo, ↓Qp, ↓Qq, ↓Qr, ↓Qs, ↓Qt, ↓Qu, ↓Qv, ↓Qw, ↓Qx, ↓Qy, ↓Qz, ↓Q0, ↓truK_bl, ↓Q3, ↓Q4, ↓Q5, ↓Q6, ↓chK_bl, ↓Q7, ↓Q8, ↓Q9, ↓Ya, ↓Yb, ↓Yc, ↓Yd, ↓Ye, ↓Yf, ↓Yg, ↓Yh, ↓Yi, ↓Yj, ↓Yk, ↓Ym, ↓Yn, ↓Yo, ↓Yp, ↓Yq, ↓Yr, ↓Ys, ↓Yt, ↓Yu, ↓Yv, ↓Yw, ↓Yx, ↓Yy, ↓Yz, ↓Y0, ↓Y1, ↓Y2, ↓Y3, ↓Y4, ↓Y5, ↓Y6, ↓Y7, ↓Y8, ↓Y9, ↓Ja, ↓Jb, ↓Jc, ↓Jd, ↓Je, ↓Jf, ↓Jg, ↓Jh, ↓Ji, ↓Jj, ↓Jk, ↓Jl, ↓Jm, ↓Jn, ↓Jo, ↓Jp, ↓Jq, ↓Jr, ↓Js, ↓Jt, ↓Ju, ↓Jw, ↓Jx, ↓Jy, ↓Jz, ↓J1, ↓J2, ↓J3, ↓J4, ↓J5, ↓J6, ↓J7, ↓J8, ↓J9, ↓Qaa, ↓Qab, ↓Qac, ↓Qad, ↓Qae, ↓par3_three, ↓Qaf, ↓Qag, ↓Qah, ↓Qai, ↓Qaj, ↓Qak, ↓Qal, ↓Qam, ↓Qan, ↓Qao, ↓Qap, ↓Qaq, ↓Qar, ↓Qas, ↓Qat, ↓Qau, ↓Qav, ↓Qaw, ↓Qax, ↓Qay, ↓Qaz, ↓Qa0, ↓Qa1, ↓Qa2, ↓Qa3, ↓Qa4, ↓Qa5, ↓Qa6, ↓Qa7, ↓Qa8, ↓Qa9, ↓Qba, ↓Qbb, ↓Qbc, ↓Qbd, ↓Qbe, ↓Qbf, ↓Qbg, ↓Qbh, ↓Qbi, ↓Qbj, ↓Qbk, ↓Qbl, List.set_cons_zero, List.set_cons_succ, wipeP, Bool.false_eq_true, if_false, h.i4, h.p4]
    have h2 : HI a cells i d f (g + 1) (updS S a (.lst [.lst (cells.map PV.int), .int i, .int d, .int f, .int (g + 1)])) := updS_same
    have ho2 : Off a S0 (updS S a (.lst [.lst (cells.map PV.int), .int i, .int d, .int f, .int (g + 1)])) := ho.upd
    generalize updS S a (.lst [.lst (cells.map PV.int), .int i, .int d, .int f, .int (g + 1)]) = S2 at h2 ho2 ⊢
    have md : ∀ (n : Int) (R' : RK), kMod (.int n) (.int 2147483647) S2 R' = ((0 : Int) < 2147483647 ∧ R' (.int (n % 2147483647)) S2) := fun n R' => Ji
    rw [h2.i3, h2.i4, Jg]
    refine ⟨.inl (by decide), ?_⟩
    rw [Jb, Jz, Jg]
    refine ⟨.inr (by decide), ?_⟩
    rw [Jz, Ji]
    refine ⟨by decide, ?_⟩
    have b1 : ∀ n : Int, 0 ≤ n % 2147483647 ∧ n % 2147483647 < 2147483647 := fun n => ⟨Int.emod_nonneg _ (by decide), Int.emod_lt_of_pos _ (by decide)⟩
    have b2 : ∀ n : Int, 0 ≤ n % 2147483563 ∧ n % 2147483563 < 2147483563 := fun n => ⟨Int.emod_nonneg _ (by decide), Int.emod_lt_of_pos _ (by decide)⟩
    generalize hq1 : (f + 7919 * (g + 1)) * 40692 % 2147483647 = q1
    have c1 := b1 ((f + 7919 * (g + 1)) * 40692)
    rw [hq1] at c1
    rw [Jh]
    refine ⟨⟨by decide, by decide⟩, ?_⟩
    rw [Jb, Jg]
    refine ⟨.inl ⟨by omega, by omega⟩, ?_⟩
    rw [Jz, Ji]
    refine ⟨by decide, ?_⟩
    generalize hq2 : q1 * (q1 / 1009 + 69621) % 2147483647 = q2
    have c2 := b1 (q1 * (q1 / 1009 + 69621))
    rw [hq2] at c2
    rw [Jh]
    refine ⟨⟨by decide, by decide⟩, ?_⟩
    rw [Jb, Jg]
    refine ⟨.inl ⟨by omega, by omega⟩, ?_⟩
    rw [Jz, Ji]
    refine ⟨by decide, ?_⟩
    rw [Jh]
    refine ⟨⟨by decide, by decide⟩, ?_⟩
    rw [Jz, Ji]
    exact ⟨m0, gR_now (hR _ _ (Int.emod_nonneg _ (by omega)) (Int.emod_lt_of_pos _ m0) h2.at ho2)⟩
theorem pure__law_draw (K : PySem.W.Frag) : ∀ ps S R Z, ps.length = 2 → sp__law_draw K ps S R Z → w__law_draw K (fin R Z) (startP n__law_draw ps) S := by
  intro ps S R Z hl h
  obtain ⟨a, m, rfl, ⟨cells, i, d, f, g, hS⟩, m0, m1, hR⟩ := h
  have e : startP n__law_draw [.ref a, .int m] = [some (.ref a), some (.int m), none, none, none] := rfl
  rw [e, draw_cut]
  have hI : HI a cells i d f g S := hS
  have o0 : Off a S S := fun _ _ => rfl
  have tail : ∀ cells i d f g S' x y z, HI a cells i d f g S' → Off a S S' → drawTail K (fin R Z) [some (.ref a), some (.int m), x, y, z] S' := fun cells i d f g S' x y z h ho => draw_tail K h ho m0 m1 hR
  rw [Qd]
  simp -implicitDefEqProofs only [drawHead, ↓Qa, ↓Qb, ↓Qc, ↓Qd, ↓Qe, ↓Qg, ↓Qh, ↓Qi, ↓Qj, ↓Qk, ↓Ql, ↓par2_two, ↓Qm, ↓Qn, ↓Qo, ↓Qp, ↓Qq, ↓Qr, ↓Qs, ↓Qt, ↓Qu, ↓Qv, ↓Qw, ↓Qx, ↓Qy, ↓Qz, ↓Q0, ↓truK_bl, ↓Q3, ↓Q4, ↓Q5, ↓Q6, ↓chK_bl, ↓Q7, ↓Q8, ↓Q9, ↓Ya, ↓Yb, ↓Yc, ↓Yd, ↓Ye, ↓Yf, ↓Yg, ↓Yh, ↓Yi, ↓Yj, ↓Yk, ↓Ym, ↓Yn, ↓Yo, ↓Yp, ↓Yq, ↓Yr, ↓Ys, ↓Yt, ↓Yu, ↓Yv, ↓Yw, ↓Yx, ↓Yy, ↓Yz, ↓Y0, ↓Y1, ↓Y2, ↓Y3, ↓Y4, ↓Y5, ↓Y6, ↓Y7, ↓Y8, ↓Y9, ↓Ja, ↓Jb, ↓Jc, ↓Jd, ↓Je, ↓Jf, ↓Jg, ↓Jh, ↓Ji, ↓Jj, ↓Jk, ↓Jl, ↓Jm, ↓Jn, ↓Jo, ↓Jp, ↓Jq, ↓Jr, ↓Js, ↓Jt, ↓Ju, ↓Jw, ↓Jx, ↓Jy, ↓Jz, ↓J1, ↓J2, ↓J3, ↓J4, ↓J5, ↓J6, ↓J7, ↓J8, ↓J9, ↓Qaa, ↓Qab, ↓Qac, ↓Qad, ↓Qae, ↓par3_three, ↓Qaf, ↓Qag, ↓Qah, ↓Qai, ↓Qaj, ↓Qak, ↓Qal, ↓Qam, ↓Qan, ↓Qao, ↓Qap, ↓Qaq, ↓Qar, ↓Qas, ↓Qat, ↓Qau, ↓Qav, ↓Qaw, ↓Qax, ↓Qay, ↓Qaz, ↓Qa0, ↓Qa1, ↓Qa2, ↓Qa3, ↓Qa4, ↓Qa5, ↓Qa6, ↓Qa7, ↓Qa8, ↓Qa9, ↓Qba, ↓Qbb, ↓Qbc, ↓Qbd, ↓Qbe, ↓Qbf, ↓Qbg, ↓Qbh, ↓Qbi, ↓Qbj, ↓Qbk, ↓Qbl, List.set_cons_zero, List.set_cons_succ, wipeP, hI.i2, hI.i1, hI.i0, List.length_map]
  by_cases h1 : d = 0
  · rw [decide_eq_true h1]
    simp -implicitDefEqProofs only [↓Qa, ↓Qb, ↓Qc, ↓Qd, ↓Qe, ↓Qg, ↓Qh, ↓Qi, ↓Qj, ↓Qk, ↓Ql, ↓par2_two, ↓Qm, ↓Qn, ↓Qo, ↓Qp, ↓Qq, ↓Qr, ↓Qs, ↓Qt, ↓Qu, ↓Qv, ↓Qw, ↓Qx, ↓Qy, ↓Qz, ↓Q0, ↓truK_bl, ↓Q3, ↓Q4, ↓Q5, ↓Q6, ↓chK_bl, ↓Q7, ↓Q8, ↓Q9, ↓Ya, ↓Yb, ↓Yc, ↓Yd, ↓Ye, ↓Yf, ↓Yg, ↓Yh, ↓Yi, ↓Yj, ↓Yk, ↓Ym, ↓Yn, ↓Yo, ↓Yp, ↓Yq, ↓Yr, ↓Ys, ↓Yt, ↓Yu, ↓Yv, ↓Yw, ↓Yx, ↓Yy, ↓Yz, ↓Y0, ↓Y1, ↓Y2, ↓Y3, ↓Y4, ↓Y5, ↓Y6, ↓Y7, ↓Y8, ↓Y9, ↓Ja, ↓Jb, ↓Jc, ↓Jd, ↓Je, ↓Jf, ↓Jg, ↓Jh, ↓Ji, ↓Jj, ↓Jk, ↓Jl, ↓Jm, ↓Jn, ↓Jo, ↓Jp, ↓Jq, ↓Jr, ↓Js, ↓Jt, ↓Ju, ↓Jw, ↓Jx, ↓Jy, ↓Jz, ↓J1, ↓J2, ↓J3, ↓J4, ↓J5, ↓J6, ↓J7, ↓J8, ↓J9, ↓Qaa, ↓Qab, ↓Qac, ↓Qad, ↓Qae, ↓par3_three, ↓Qaf, ↓Qag, ↓Qah, ↓Qai, ↓Qaj, ↓Qak, ↓Qal, ↓Qam, ↓Qan, ↓Qao, ↓Qap, ↓Qaq, ↓Qar, ↓Qas, ↓Qat, ↓Qau, ↓Qav, ↓Qaw, ↓Qax, ↓Qay, ↓Qaz, ↓Qa0, ↓Qa1, ↓Qa2, ↓Qa3, ↓Qa4, ↓Qa5, ↓Qa6, ↓Qa7, ↓Qa8, ↓Qa9, ↓Qba, ↓Qbb, ↓Qbc, ↓Qbd, ↓Qbe, ↓Qbf, ↓Qbg, ↓Qbh, ↓Qbi, ↓Qbj, ↓Qbk, ↓Qbl, List.set_cons_zero, List.set_cons_succ, wipeP, Bool.bne_false, if_true, hI.i1, hI.i0, List.length_map]
    by_cases h2 : (i : Int) < (cells.length : Int)
    · rw [decide_eq_true h2]
      simp -implicitDefEqProofs only [↓Qa, ↓Qb, ↓Qc, ↓Qd, ↓Qe, ↓Qg, ↓Qh, ↓Qi, ↓Qj, ↓Qk, ↓Ql, ↓par2_two, ↓Qm, ↓Qn, ↓Qo, ↓Qp, ↓Qq, ↓Qr, ↓Qs, ↓Qt, ↓Qu, ↓Qv, ↓Qw, ↓Qx, ↓Qy, ↓Qz, ↓Q0, ↓truK_bl, ↓Q3, ↓Q4, ↓Q5, ↓Q6, ↓chK_bl, ↓Q7, ↓Q8, ↓Q9, ↓Ya, ↓Yb, ↓Yc, ↓Yd, ↓Ye, ↓Yf, ↓Yg, ↓Yh, ↓Yi, ↓Yj, ↓Yk, ↓Ym, ↓Yn, ↓Yo, ↓Yp, ↓Yq, ↓Yr, ↓Ys, ↓Yt, ↓Yu, ↓Yv, ↓Yw, ↓Yx, ↓Yy, ↓Yz, ↓Y0, ↓Y1, ↓Y2, ↓Y3, ↓Y4, ↓Y5, ↓Y6, ↓Y7, ↓Y8, ↓Y9, ↓Ja, ↓Jb, ↓Jc, ↓Jd, ↓Je, ↓Jf, ↓Jg, ↓Jh, ↓Ji, ↓Jj, ↓Jk, ↓Jl, ↓Jm, ↓Jn, ↓Jo, ↓Jp, ↓Jq, ↓Jr, ↓Js, ↓Jt, ↓Ju, ↓Jw, ↓Jx, ↓Jy, ↓Jz, ↓J1, ↓J2, ↓J3, ↓J4, ↓J5, ↓J6, ↓J7, ↓J8, ↓J9, ↓Qaa, ↓Qab, ↓Qac, ↓Qad, ↓Qae, ↓par3_three, ↓Qaf, ↓Qag, ↓Qah, ↓Qai, ↓Qaj, ↓Qak, ↓Qal, ↓Qam, ↓Qan, ↓Qao, ↓Qap, ↓Qaq, ↓Qar, ↓Qas, ↓Qat, ↓Qau, ↓Qav, ↓Qaw, ↓Qax, ↓Qay, ↓Qaz, ↓Qa0, ↓Qa1, ↓Qa2, ↓Qa3, ↓Qa4, ↓Qa5, ↓Qa6, ↓Qa7, ↓Qa8, ↓Qa9, ↓Qba, ↓Qbb, ↓Qbc, ↓Qbd, ↓Qbe, ↓Qbf, ↓Qbg, ↓Qbh, ↓Qbi, ↓Qbj, ↓Qbk, ↓Qbl, List.set_cons_zero, List.set_cons_succ, wipeP, if_true, hI.i1, hI.i0]
      have hi : i < cells.length := by omega
      refine ⟨.int cells[i], atI_nn (j := i) rfl (by rw [List.getElem?_map, List.getElem?_eq_getElem hi]; rfl), ?_⟩
      simp -implicitDefEqProofs only [↓Qa, ↓Qb, ↓Qc, ↓Qd, ↓Qe, ↓Qg, ↓Qh, ↓Qi, ↓Qj, ↓Qk, ↓Ql, ↓par2_two, ↓Qm, ↓Qn, ↓Qo, ↓Qp, ↓Qq, ↓Qr, ↓Qs, ↓Qt, ↓Qu, ↓Qv, ↓Qw, ↓Qx, ↓Qy, ↓Qz, ↓Q0, ↓truK_bl, ↓Q3, ↓Q4, ↓Q5, ↓Q6, ↓chK_bl, ↓Q7, ↓Q8, ↓Q9, ↓Ya, ↓Yb, ↓Yc, ↓Yd, ↓Ye, ↓Yf, ↓Yg, ↓Yh, ↓Yi, ↓Yj, ↓Yk, ↓Ym, ↓Yn, ↓Yo, ↓Yp, ↓Yq, ↓Yr, ↓Ys, ↓Yt, ↓Yu, ↓Yv, ↓Yw, ↓Yx, ↓Yy, ↓Yz, ↓Y0, ↓Y1, ↓Y2, ↓Y3, ↓Y4, ↓Y5, ↓Y6, ↓Y7, ↓Y8, ↓Y9, ↓Ja, ↓Jb, ↓Jc, ↓Jd, ↓Je, ↓Jf, ↓Jg, ↓Jh, ↓Ji, ↓Jj, ↓Jk, ↓Jl, ↓Jm, ↓Jn, ↓Jo, ↓Jp, ↓Jq, ↓Jr, ↓Js, ↓Jt, ↓Ju, ↓Jw, ↓Jx, ↓Jy, ↓Jz, ↓J1, ↓J2, ↓J3, ↓J4, ↓J5, ↓J6, ↓J7, ↓J8, ↓J9, ↓Qaa, ↓Qab, ↓Qac, ↓Qad, ↓Qae, ↓par3_three, ↓Qaf, ↓Qag, ↓Qah, ↓Qai, ↓Qaj, ↓Qak, ↓Qal, ↓Qam, ↓Qan, ↓Qao, ↓Qap, ↓Qaq, ↓Qar, ↓Qas, ↓Qat, ↓Qau, ↓Qav, ↓Qaw, ↓Qax, ↓Qay, ↓Qaz, ↓Qa0, ↓Qa1, ↓Qa2, ↓Qa3, ↓Qa4, ↓Qa5, ↓Qa6, ↓Qa7, ↓Qa8, ↓Qa9, ↓Qba, ↓Qbb, ↓Qbc, ↓Qbd, ↓Qbe, ↓Qbf, ↓Qbg, ↓Qbh, ↓Qbi, ↓Qbj, ↓Qbk, ↓Qbl, List.set_cons_zero, List.set_cons_succ, wipeP, hI.i1]
      have ej : ((i : Int) + 1) = ((i + 1 : Nat) : Int) := by omega
      rw [ej, hI.p1]
      have h3 : HI a cells (i + 1) d f g (updS S a (.lst [.lst (cells.map PV.int), .int ((i + 1 : Nat) : Int), .int d, .int f, .int g])) := updS_same
      have o3 : Off a S (updS S a (.lst [.lst (cells.map PV.int), .int ((i + 1 : Nat) : Int), .int d, .int f, .int g])) := o0.upd
      generalize updS S a (.lst [.lst (cells.map PV.int), .int ((i + 1 : Nat) : Int), .int d, .int f, .int g]) = S3 at h3 o3 ⊢
      rw [h3.i3, Jg]
      refine ⟨.inr (by decide), .inr (by decide), ?_⟩
      rw [Jb, Jb, Jz, Ji]
      refine ⟨by decide, ?_⟩
      rw [h3.p3]
      refine ⟨⟨by decide, by decide, by decide⟩, ?_⟩
      generalize (f * 69621 + cells[i] * 48271 + 17) % 2147483629 = f2
      have h4 : HI a cells (i + 1) d f2 g (updS S3 a (.lst [.lst (cells.map PV.int), .int ((i + 1 : Nat) : Int), .int d, .int f2, .int g])) := updS_same
      have o4 : Off a S (updS S3 a (.lst [.lst (cells.map PV.int), .int ((i + 1 : Nat) : Int), .int d, .int f2, .int g])) := o3.upd
      generalize updS S3 a (.lst [.lst (cells.map PV.int), .int ((i + 1 : Nat) : Int), .int d, .int f2, .int g]) = S4 at h4 o4 ⊢
      split
      · rw [h4.p2]
        exact tail cells (i + 1) cells[i] f2 g _ _ _ _ updS_same o4.upd
      · exact tail _ _ _ _ _ _ _ _ _ h4 o4
    · rw [decide_eq_false h2]
      simp -implicitDefEqProofs only [↓Qa, ↓Qb, ↓Qc, ↓Qd, ↓Qe, ↓Qg, ↓Qh, ↓Qi, ↓Qj, ↓Qk, ↓Ql, ↓par2_two, ↓Qm, ↓Qn, ↓Qo, ↓Qp, ↓Qq, ↓Qr, ↓Qs, ↓Qt, ↓Qu, ↓Qv, ↓Qw, ↓Qx, ↓Qy, ↓Qz, ↓Q0, ↓truK_bl, ↓Q3, ↓Q4, ↓Q5, ↓Q6, ↓chK_bl, ↓Q7, ↓Q8, ↓Q9, ↓Ya, ↓Yb, ↓Yc, ↓Yd, ↓Ye, ↓Yf, ↓Yg, ↓Yh, ↓Yi, ↓Yj, ↓Yk, ↓Ym, ↓Yn, ↓Yo, ↓Yp, ↓Yq, ↓Yr, ↓Ys, ↓Yt, ↓Yu, ↓Yv, ↓Yw, ↓Yx, ↓Yy, ↓Yz, ↓Y0, ↓Y1, ↓Y2, ↓Y3, ↓Y4, ↓Y5, ↓Y6, ↓Y7, ↓Y8, ↓Y9, ↓Ja, ↓Jb, ↓Jc, ↓Jd, ↓Je, ↓Jf, ↓Jg, ↓Jh, ↓Ji, ↓Jj, ↓Jk, ↓Jl, ↓Jm, ↓Jn, ↓Jo, ↓Jp, ↓Jq, ↓Jr, ↓Js, ↓Jt, ↓Ju, ↓Jw, ↓Jx, ↓Jy, ↓Jz, ↓J1, ↓J2, ↓J3, ↓J4, ↓J5, ↓J6, ↓J7, ↓J8, ↓J9, ↓Qaa, ↓Qab, ↓Qac, ↓Qad, ↓Qae, ↓par3_three, ↓Qaf, ↓Qag, ↓Qah, ↓Qai, ↓Qaj, ↓Qak, ↓Qal, ↓Qam, ↓Qan, ↓Qao, ↓Qap, ↓Qaq, ↓Qar, ↓Qas, ↓Qat, ↓Qau, ↓Qav, ↓Qaw, ↓Qax, ↓Qay, ↓Qaz, ↓Qa0, ↓Qa1, ↓Qa2, ↓Qa3, ↓Qa4, ↓Qa5, ↓Qa6, ↓Qa7, ↓Qa8, ↓Qa9, ↓Qba, ↓Qbb, ↓Qbc, ↓Qbd, ↓Qbe, ↓Qbf, ↓Qbg, ↓Qbh, ↓Qbi, ↓Qbj, ↓Qbk, ↓Qbl, List.set_cons_zero, List.set_cons_succ, wipeP, Bool.false_eq_true, if_false]
      exact tail _ _ _ _ _ _ _ _ _ hI o0
  · rw [decide_eq_false h1]
    simp -implicitDefEqProofs only [↓Qa, ↓Qb, ↓Qc, ↓Qd, ↓Qe, ↓Qg, ↓Qh, ↓Qi, ↓Qj, ↓Qk, ↓Ql, ↓par2_two, ↓Qm, ↓Qn, ↓Qo, ↓Qp, ↓Qq, ↓Qr, ↓Qs, ↓Qt, ↓Qu, ↓Qv, ↓Qw, ↓Qx, ↓Qy, ↓Qz, ↓Q0, ↓truK_bl, ↓Q3, ↓Q4, ↓Q5, ↓Q6, ↓chK_bl, ↓Q7, ↓Q8, ↓Q9, ↓Ya, ↓Yb, ↓Yc, ↓Yd, ↓Ye, ↓Yf, ↓Yg, ↓Yh, ↓Yi, ↓Yj, ↓Yk, ↓Ym, ↓Yn, ↓Yo, ↓Yp, ↓Yq, ↓Yr, ↓Ys, ↓Yt, ↓Yu, ↓Yv, ↓Yw, ↓Yx, ↓Yy, ↓Yz, ↓Y0, ↓Y1, ↓Y2, ↓Y3, ↓Y4, ↓Y5, ↓Y6, ↓Y7, ↓Y8, ↓Y9, ↓Ja, ↓Jb, ↓Jc, ↓Jd, ↓Je, ↓Jf, ↓Jg, ↓Jh, ↓Ji, ↓Jj, ↓Jk, ↓Jl, ↓Jm, ↓Jn, ↓Jo, ↓Jp, ↓Jq, ↓Jr, ↓Js, ↓Jt, ↓Ju, ↓Jw, ↓Jx, ↓Jy, ↓Jz, ↓J1, ↓J2, ↓J3, ↓J4, ↓J5, ↓J6, ↓J7, ↓J8, ↓J9, ↓Qaa, ↓Qab, ↓Qac, ↓Qad, ↓Qae, ↓par3_three, ↓Qaf, ↓Qag, ↓Qah, ↓Qai, ↓Qaj, ↓Qak, ↓Qal, ↓Qam, ↓Qan, ↓Qao, ↓Qap, ↓Qaq, ↓Qar, ↓Qas, ↓Qat, ↓Qau, ↓Qav, ↓Qaw, ↓Qax, ↓Qay, ↓Qaz, ↓Qa0, ↓Qa1, ↓Qa2, ↓Qa3, ↓Qa4, ↓Qa5, ↓Qa6, ↓Qa7, ↓Qa8, ↓Qa9, ↓Qba, ↓Qbb, ↓Qbc, ↓Qbd, ↓Qbe, ↓Qbf, ↓Qbg, ↓Qbh, ↓Qbi, ↓Qbj, ↓Qbk, ↓Qbl, List.set_cons_zero, List.set_cons_succ, wipeP, Bool.bne_false, Bool.false_eq_true, if_false]
    exact tail _ _ _ _ _ _ _ _ _ hI o0

theorem t_draw {K : PySem.W.Frag} {S : Sto} {R : RK} {Z : ZK} {a : Addr} {m : Int} (h : HandAt a S) (m0 : 0 < m) (m1 : m < 100000) (hR : ∀ n S', 0 ≤ n → n < m → HandAt a S' → Off a S S' → R (.int n) S') : sp__law_draw K [.ref a, .int m] S R Z := ⟨a, m, rfl, h, m0, m1, hR⟩
theorem t_anyT {K : PySem.W.Frag} {S : Sto} {R : RK} {Z : ZK} {a : Addr} {q : PV} {xs : List PV} (hq : seqOf q = some xs) (h : HandAt a S) (m0 : 0 < xs.length) (m1 : xs.length < 100000) (hR : ∀ x ∈ xs, ∀ S', HandAt a S' → Off a S S' → R x S') : sp__law_any K [.ref a, q] S R Z := ⟨a, xs, _, rfl, .inl hq, h, m0, m1, hR⟩
theorem t_any {K : PySem.W.Frag} {S : Sto} {R : RK} {Z : ZK} {a : Addr} {xs : List PV} (h : HandAt a S) (m0 : 0 < xs.length) (m1 : xs.length < 100000) (hR : ∀ x ∈ xs, ∀ S', HandAt a S' → Off a S S' → R x S') : sp__law_any K [.ref a, .lst xs] S R Z := ⟨a, xs, _, rfl, .inl rfl, h, m0, m1, hR⟩
theorem Off.tr {a : Addr} {S S1 S2 : Sto} (h : Off a S S1) (h2 : Off a S1 S2) : Off a S S2 := fun x hx => (h2 x hx).trans (h x hx)
theorem atI_pos {α : Type} {xs : List α} {n : Int} (h0 : 0 ≤ n) (h1 : n < xs.length) : ∃ x ∈ xs, atI xs n = some x := by
  have hi : n.toNat < xs.length := by omega
  exact ⟨xs[n.toNat], List.getElem_mem hi, atI_nn (j := n.toNat) (by omega) (List.getElem?_eq_getElem hi)⟩
theorem pure__law_any (K : PySem.W.Frag) : ∀ ps S R Z, ps.length = 2 → sp__law_any K ps S R Z → w__law_any K (fin R Z) (startP n__law_any ps) S := by
  intro ps S R Z hl h
  obtain ⟨a, xs, q, rfl, hq, hS, m0, m1, hR⟩ := h
  have e : startP n__law_any [.ref a, q] = [some (.ref a), some q] := rfl
  rw [e]
  have sq : ∀ ys, seqOf q = some ys → q = .lst ys ∨ q = .tup ys := fun ys e => by
    cases q <;> simp only [seqOf, Option.some.injEq, reduceCtorEq] at e
    · subst e; exact .inr rfl
    · subst e; exact .inl rfl
  have l2 : ∀ (R' : RK), kLen q S R' = R' (.int xs.length) S := fun R' => by
    rcases hq with hq | ⟨r, rfl, hr, hs⟩
    · rcases sq xs hq with rfl | rfl <;> rfl
    · rw [k_len_ref hs]
  have ix : ∀ (i : Int) (S' : Sto) (R' : RK), Off a S S' → kIx q (.int i) S' R' = ∃ z, atI xs i = some z ∧ R' z S' := fun i S' R' o => by
    rcases hq with hq | ⟨r, rfl, hr, hs⟩
    · rcases sq xs hq with rfl | rfl <;> rfl
    · rw [k_ix_ref (by rw [o r hr]; exact hs)]
  simp -implicitDefEqProofs only [w__law_any, ↓Qa, ↓Qb, ↓Qc, ↓Qd, ↓Qe, ↓Qg, ↓Qh, ↓Qi, ↓Qj, ↓Qk, ↓Ql, ↓par2_two, ↓Qm, ↓Qn, ↓Qo, ↓Qp, ↓Qq, ↓Qr, ↓Qs, ↓Qt, ↓Qu, ↓Qv, ↓Qw, ↓Qx, ↓Qy, ↓Qz, ↓Q0, ↓truK_bl, ↓Q3, ↓Q4, ↓Q5, ↓Q6, ↓chK_bl, ↓Q7, ↓Q8, ↓Q9, ↓Ya, ↓Yb, ↓Yc, ↓Yd, ↓Ye, ↓Yf, ↓Yg, ↓Yh, ↓Yi, ↓Yj, ↓Yk, ↓Ym, ↓Yn, ↓Yo, ↓Yp, ↓Yq, ↓Yr, ↓Ys, ↓Yt, ↓Yu, ↓Yv, ↓Yw, ↓Yx, ↓Yy, ↓Yz, ↓Y0, ↓Y1, ↓Y2, ↓Y3, ↓Y4, ↓Y5, ↓Y6, ↓Y7, ↓Y8, ↓Y9, ↓Ja, ↓Jb, ↓Jc, ↓Jd, ↓Je, ↓Jf, ↓Jg, ↓Jh, ↓Ji, ↓Jj, ↓Jk, ↓Jl, ↓Jm, ↓Jn, ↓Jo, ↓Jp, ↓Jq, ↓Jr, ↓Js, ↓Jt, ↓Ju, ↓Jw, ↓Jx, ↓Jy, ↓Jz, ↓J1, ↓J2, ↓J3, ↓J4, ↓J5, ↓J6, ↓J7, ↓J8, ↓J9, ↓Qaa, ↓Qab, ↓Qac, ↓Qad, ↓Qae, ↓par3_three, ↓Qaf, ↓Qag, ↓Qah, ↓Qai, ↓Qaj, ↓Qak, ↓Qal, ↓Qam, ↓Qan, ↓Qao, ↓Qap, ↓Qaq, ↓Qar, ↓Qas, ↓Qat, ↓Qau, ↓Qav, ↓Qaw, ↓Qax, ↓Qay, ↓Qaz, ↓Qa0, ↓Qa1, ↓Qa2, ↓Qa3, ↓Qa4, ↓Qa5, ↓Qa6, ↓Qa7, ↓Qa8, ↓Qa9, ↓Qba, ↓Qbb, ↓Qbc, ↓Qbd, ↓Qbe, ↓Qbf, ↓Qbg, ↓Qbh, ↓Qbi, ↓Qbj, ↓Qbk, ↓Qbl, List.set_cons_zero, List.set_cons_succ, wipeP, ↓l2]
  refine ⟨rfl, t_draw hS (by omega) (by omega) fun n S' h0 h1 hh ho => ?_⟩
  obtain ⟨x, hx, h2⟩ := atI_pos h0 h1
  rw [ix n S' _ ho]
  exact ⟨x, h2, gR_now (hR x hx S' hh ho)⟩

theorem k_sl_lst {S : Sto} {R : RK} {xs : List PV} {lo hi : Option Int} : kSl (.lst xs) lo hi S R = R (.lst (cutP xs lo hi)) S := rfl
theorem pool7_ok : (∀ t ∈ pool7, nameB t = true) ∧ pool7.Nodup := by
  refine ⟨fun t ht => ?_, by decide +kernel⟩
  have : pool7.all nameB = true := by decide +kernel
  exact List.all_eq_true.mp this t ht
theorem names8_ok : (∀ t ∈ names8, nameB t = true) ∧ names8.Pairwise (fun a b => ltS a b = true) := by
  refine ⟨fun t ht => ?_, by decide +kernel⟩
  have : names8.all nameB = true := by decide +kernel
  exact List.all_eq_true.mp this t ht
theorem pop_perm {α : Type} : ∀ (l : List α) (j : Nat) (y : α), l[j]? = some y → (y :: l.eraseIdx j).Perm l
  | [], _, _, h => by simp at h
  | x :: l, 0, y, h => by
    cases h; exact .refl _
  | x :: l, j + 1, y, h => by
    have h : l[j]? = some y := by simpa using h
    exact (List.Perm.swap x y _).trans ((pop_perm l j y h).cons x)
theorem road_mk {ts : List Str} {z : Str} {i j ln rm : Int} (tn : ∀ t ∈ ts, nameB t = true) (nd : ts.Nodup) (hz : nameB z = true) (i0 : 0 ≤ i) (i1 : i < (ts.length : Int)) (j0 : 0 ≤ j) (j1 : j < (ts.length : Int)) (hij : i ≠ j) (l0 : -1000 ≤ ln) (l1 : ln ≤ 1000) (m0 : 0 ≤ rm) (m1 : rm ≤ 1000) :
    ∃ b f : Str, atI (ts.map PV.str) i = some (.str b) ∧ atI (ts.map PV.str) j = some (.str f) ∧ roadB ts ⟨z, b, f, ln, rm⟩ = true := by
  have hi : i.toNat < ts.length := by omega
  have hj : j.toNat < ts.length := by omega
  refine ⟨ts[i.toNat], ts[j.toNat], atI_nn (j := i.toNat) (by omega) (by rw [List.getElem?_map, List.getElem?_eq_getElem hi]; rfl), atI_nn (j := j.toNat) (by omega) (by rw [List.getElem?_map, List.getElem?_eq_getElem hj]; rfl), ?_⟩
  have nee : ts[i.toNat] ≠ ts[j.toNat] := fun e => by
    rcases Nat.lt_or_gt_of_ne (show i.toNat ≠ j.toNat by omega) with q | q
    · exact List.pairwise_iff_getElem.mp nd _ _ hi hj q e
    · exact List.pairwise_iff_getElem.mp nd _ _ hj hi q e.symm
  exact roadB_all.mpr ⟨hz, tn _ (List.getElem_mem hi), tn _ (List.getElem_mem hj), nee, List.getElem_mem hi, List.getElem_mem hj, ⟨l0, l1⟩, m0, m1⟩
theorem HandAt.upd {a r : Addr} {S : Sto} {o : MO} (h : HandAt a S) (n : r ≠ a) : HandAt a (updS S r o) := by
  obtain ⟨c1, c2, c3, c4, c5, c6⟩ := h
  exact ⟨c1, c2, c3, c4, c5, by rw [updS_ne (Ne.symm n)]; exact c6⟩
theorem HandAt.ne {a r : Addr} {S : Sto} (h : HandAt a S) (n : S r = none) : r ≠ a := fun z => by
  obtain ⟨c1, c2, c3, c4, c5, c6⟩ := h
  rw [z, c6] at n; cases n
theorem map_erase {α β : Type} (f : α → β) : ∀ (xs : List α) (j : Nat), (xs.map f).eraseIdx j = (xs.eraseIdx j).map f
  | [], _ => rfl
  | _ :: _, 0 => rfl
  | x :: xs, j + 1 => congrArg (f x :: ·) (map_erase f xs j)
theorem towns_loop {K : PySem.W.Frag} {a p t : Addr} {m f : Int} {S1 : Sto} {P : PEnds} (n : Nat) (hn : n ≤ 7) (hpa : p ≠ a) (hta : t ≠ a) (hpt : p ≠ t) (h1 : HandAt a S1) (hp : S1 p = some (.lst (pool7.map PV.str))) (ht : S1 t = some (.lst []))
    (hP : ∀ (ts : List Str) x5 S', ts.Nodup → (∀ x ∈ ts, x ∈ pool7) → ts.length ≤ 7 → HandAt a S' → S' t = some (.lst (ts.map PV.str)) → (∀ x, x ≠ a → x ≠ p → x ≠ t → S' x = S1 x) → P.nx [some (.ref a), some (.int m), some (.int f), some (.ref p), some (.ref t), x5, none, none, none, none, none, none] S') :
    wForL (fun _ => True) (.nm 5) (w__law_parts_1 K) P ((List.range n).map fun (k : Nat) => PV.int (0 + k)) [some (.ref a), some (.int m), some (.int f), some (.ref p), some (.ref t), none, none, none, none, none, none, none] S1 := by
  refine wForL_inv (fun (k : Nat) => PV.int (0 + k)) (fun rest ρ S' => ∃ ts ps : List Str, (ts ++ ps).Perm pool7 ∧ ts.length + rest.length = n ∧ HandAt a S' ∧ S' p = some (.lst (ps.map PV.str)) ∧ S' t = some (.lst (ts.map PV.str)) ∧ (∀ x, x ≠ a → x ≠ p → x ≠ t → S' x = S1 x) ∧
      ∃ x5, ρ = [some (.ref a), some (.int m), some (.int f), some (.ref p), some (.ref t), x5, none, none, none, none, none, none])
    (fun k rest ρ S' ⟨ts, ps, pm, hl, hh, gp, gt, off, x5, er⟩ => ⟨trivial, fun N hN => ?_⟩) (fun ρ S' ⟨ts, ps, pm, hl, hh, gp, gt, off, x5, er⟩ => ⟨trivial, ?_⟩) (List.range n) _ S1
    ⟨[], pool7, .refl _, by rw [List.length_range]; simp, h1, hp, ht, fun _ _ _ _ => rfl, none, rfl⟩
  · subst er
    rw [List.length_cons] at hl
    have hpl : ts.length + ps.length = 7 := by
      have := pm.length_eq
      rw [List.length_append] at this; exact this
    simp -implicitDefEqProofs only [w__law_parts_1, ↓Qa, ↓Qb, ↓Qc, ↓Qd, ↓Qe, ↓Qg, ↓Qh, ↓Qi, ↓Qj, ↓Qk, ↓Ql, ↓par2_two, ↓Qm, ↓Qn, ↓Qo, ↓Qp, ↓Qq, ↓Qr, ↓Qs, ↓Qt, ↓Qu, ↓Qv, ↓Qw, ↓Qx, ↓Qy, ↓Qz, ↓Q0, ↓truK_bl, ↓Q3, ↓Q4, ↓Q5, ↓Q6, ↓chK_bl, ↓Q7, ↓Q8, ↓Q9, ↓Ya, ↓Yb, ↓Yc, ↓Yd, ↓Ye, ↓Yf, ↓Yg, ↓Yh, ↓Yi, ↓Yj, ↓Yk, ↓Ym, ↓Yn, ↓Yo, ↓Yp, ↓Yq, ↓Yr, ↓Ys, ↓Yt, ↓Yu, ↓Yv, ↓Yw, ↓Yx, ↓Yy, ↓Yz, ↓Y0, ↓Y1, ↓Y2, ↓Y3, ↓Y4, ↓Y5, ↓Y6, ↓Y7, ↓Y8, ↓Y9, ↓Ja, ↓Jb, ↓Jc, ↓Jd, ↓Je, ↓Jf, ↓Jg, ↓Jh, ↓Ji, ↓Jj, ↓Jk, ↓Jl, ↓Jm, ↓Jn, ↓Jo, ↓Jp, ↓Jq, ↓Jr, ↓Js, ↓Jt, ↓Ju, ↓Jw, ↓Jx, ↓Jy, ↓Jz, ↓J1, ↓J2, ↓J3, ↓J4, ↓J5, ↓J6, ↓J7, ↓J8, ↓J9, ↓Qaa, ↓Qab, ↓Qac, ↓Qad, ↓Qae, ↓par3_three, ↓Qaf, ↓Qag, ↓Qah, ↓Qai, ↓Qaj, ↓Qak, ↓Qal, ↓Qam, ↓Qan, ↓Qao, ↓Qap, ↓Qaq, ↓Qar, ↓Qas, ↓Qat, ↓Qau, ↓Qav, ↓Qaw, ↓Qax, ↓Qay, ↓Qaz, ↓Qa0, ↓Qa1, ↓Qa2, ↓Qa3, ↓Qa4, ↓Qa5, ↓Qa6, ↓Qa7, ↓Qa8, ↓Qa9, ↓Qba, ↓Qbb, ↓Qbc, ↓Qbd, ↓Qbe, ↓Qbf, ↓Qbg, ↓Qbh, ↓Qbi, ↓Qbj, ↓Qbk, ↓Qbl, List.set_cons_zero, List.set_cons_succ, wipeP, k_len_ref gp, List.length_map]
    refine ⟨by rw [k_tyB_ref gt]; trivial, by rw [k_tyB_ref gp]; trivial, rfl, t_draw hh (by omega) (by omega) fun i S2 i0 i1 h2 o2 => ?_⟩
    have gp2 : S2 p = some (.lst (ps.map PV.str)) := by rw [o2 p hpa]; exact gp
    have gt2 : S2 t = some (.lst (ts.map PV.str)) := by rw [o2 t hta]; exact gt
    obtain ⟨j, rfl⟩ : ∃ j : Nat, i = j := ⟨i.toNat, by omega⟩
    have hj : j < ps.length := by omega
    rw [k_pop gp2 (show (ps.map PV.str)[j]? = some (.str ps[j]) by rw [List.getElem?_map, List.getElem?_eq_getElem hj]; rfl) (sz0 (by rw [List.length_map]; omega))]
    have gt3 : updS S2 p (.lst ((ps.map PV.str).eraseIdx j)) t = some (.lst (ts.map PV.str)) := by rw [updS_ne hpt.symm]; exact gt2
    rw [k_app gt3]
    refine ⟨sz0 (by rw [List.length_map]; omega), hN _ _ ⟨ts ++ [ps[j]], ps.eraseIdx j, ?_, by rw [List.length_append, List.length_singleton]; omega, (h2.upd hpa).upd hta, ?_, ?_, fun x g1 g2 g3 => ?_, _, rfl⟩⟩
    · have := pop_perm ps j ps[j] (List.getElem?_eq_getElem hj)
      rw [List.append_assoc]
      exact (List.Perm.append_left ts this).trans pm
    · rw [updS_ne hpt, updS_same]
      congr 2
      rw [map_erase]
    · rw [updS_same, List.map_append]; rfl
    · rw [updS_ne g3, updS_ne g2, o2 x g1]; exact off x g1 g2 g3
  · subst er
    have nd : (ts ++ ps).Nodup := pm.nodup_iff.mpr pool7_ok.2
    refine hP ts _ S' (List.nodup_append.mp nd).1 (fun x hx => pm.mem_iff.mp (List.mem_append_left _ hx)) ?_ hh gt off
    have := pm.length_eq
    rw [List.length_append] at this
    have e7 : pool7.length = 7 := rfl
    omega
theorem roads_loop {K : PySem.W.Frag} {a r : Addr} {m f : Int} {bb : Bool} {low : Int} {x3 x5 : Option PV} {S1 : Sto} {ts zs : List Str} {P : PEnds} (har : r ≠ a) (h1 : HandAt a S1) (hr : S1 r = some (.lst [])) (tn : ∀ t ∈ ts, nameB t = true) (ta : ts.Pairwise fun a b => ltS a b = true) (tl : ts.length ≤ 7)
    (zn : ∀ t ∈ zs, nameB t = true) (za : zs.Pairwise fun a b => ltS a b = true) (zl : zs.length ≤ 8) (n2 : zs ≠ [] → 2 ≤ ts.length) (lo : -2 ≤ low ∧ low ≤ 0)
    (hP : ∀ (rs : List Road) x9 x10 x11 S', NetOk ts rs → rs.length ≤ 8 → (∀ r ∈ rs, r.name ∈ zs) → HandAt a S' → S' r = some (.lst (rs.map roadP)) → (∀ x, x ≠ a → x ≠ r → S' x = S1 x) → P.nx [some (.ref a), some (.int m), some (.int f), x3, some (.lst (ts.map PV.str)), x5, some (.ref r), some (.bl bb), some (.int low), x9, x10, x11] S') :
    wForL (fun _ => True) (.nm 9) (w__law_parts_2 K) P (zs.map PV.str) [some (.ref a), some (.int m), some (.int f), x3, some (.lst (ts.map PV.str)), x5, some (.ref r), some (.bl bb), some (.int low), none, none, none] S1 := by
  refine wForL_inv PV.str (fun rest ρ S' => ∃ done : List Road, zs = done.map Road.name ++ rest ∧ (∀ q ∈ done, roadB ts q = true) ∧ HandAt a S' ∧ S' r = some (.lst (done.map roadP)) ∧ (∀ x, x ≠ a → x ≠ r → S' x = S1 x) ∧
      ∃ x9 x10 x11, ρ = [some (.ref a), some (.int m), some (.int f), x3, some (.lst (ts.map PV.str)), x5, some (.ref r), some (.bl bb), some (.int low), x9, x10, x11])
    (fun z rest ρ S' ⟨done, e, hd, hh, gr, off, x9, x10, x11, er⟩ => ⟨trivial, fun N hN => ?_⟩) (fun ρ S' ⟨done, e, hd, hh, gr, off, x9, x10, x11, er⟩ => ⟨trivial, ?_⟩) zs _ S1
    ⟨[], rfl, by simp, h1, hr, fun _ _ _ => rfl, none, none, none, rfl⟩
  · subst er
    have t2 := n2 (by rw [e]; simp)
    have hl : ((ts.map PV.str).length : Int) = (ts.length : Int) := by rw [List.length_map]
    obtain ⟨q, hq⟩ : ∃ q, q = PV.lst (ts.map PV.str) := ⟨_, rfl⟩
    have l2 : ∀ (S : Sto) (R' : RK), kLen q S R' = R' (.int ts.length) S := fun S R' => by rw [hq, Jx, hl]
    have ix : ∀ (i : Int) (S : Sto) (R' : RK), kIx q (.int i) S R' = ∃ z, atI (ts.map PV.str) i = some z ∧ R' z S := fun i S R' => by rw [hq]; rfl
    have hN : ∀ S'' x9 x10 x11, (∃ done : List Road, zs = done.map Road.name ++ rest ∧ (∀ q ∈ done, roadB ts q = true) ∧ HandAt a S'' ∧ S'' r = some (.lst (done.map roadP)) ∧ (∀ x, x ≠ a → x ≠ r → S'' x = S1 x)) → N [some (.ref a), some (.int m), some (.int f), x3, some q, x5, some (.ref r), some (.bl bb), some (.int low), x9, x10, x11] S'' := fun S'' x9 x10 x11 ⟨done, g1, g2, g3, g4, g5⟩ => hN _ _ ⟨done, g1, g2, g3, g4, g5, x9, x10, x11, by rw [hq]⟩
    rw [← hq]
    have zz : nameB z = true := zn z (by rw [e]; simp)
    have dl : done.length ≤ 8 := by
      have := congrArg List.length e
      rw [List.length_append, List.length_map] at this; omega
    -- the road put in
    have core : ∀ (i j : Int) (S3 : Sto), 0 ≤ i → i < ts.length → 0 ≤ j → j < ts.length → i ≠ j → HandAt a S3 → Off a S' S3 → ∀ (P' : PEnds), P'.nx = N → wExpr (wBM "list" kApp (wVar 6) (wCons (wTup (wCons (wVar 9) (wCons (wB kIx (wVar 4) (wVar 10)) (wCons (wB kIx (wVar 4) (wVar 11)) (wCons (wB kAdd (wVar 8) (wCall (arN 2 (sp__law_draw K)) (wCons (wVar 0) (wCons (wC (.int 6)) (wNil))))) (wCons (wCall (arN 2 (sp__law_draw K)) (wCons (wVar 0) (wCons (wC (.int 4)) (wNil)))) (wNil))))))) (wNil))) P'
        [some (.ref a), some (.int m), some (.int f), x3, some q, x5, some (.ref r), some (.bl bb), some (.int low), some (.str z), some (.int i), some (.int j)] S3 := by
      intro i j S3 i0 i1 j0 j1 hij h3 o3 P' eP
      have gr3 : S3 r = some (.lst (done.map roadP)) := by rw [o3 r har]; exact gr
      simp -implicitDefEqProofs only [↓Qa, ↓Qb, ↓Qc, ↓Qd, ↓Qe, ↓Qg, ↓Qh, ↓Qi, ↓Qj, ↓Qk, ↓Ql, ↓par2_two, ↓Qm, ↓Qn, ↓Qo, ↓Qp, ↓Qq, ↓Qr, ↓Qs, ↓Qt, ↓Qu, ↓Qv, ↓Qw, ↓Qx, ↓Qy, ↓Qz, ↓Q0, ↓truK_bl, ↓Q3, ↓Q4, ↓Q5, ↓Q6, ↓chK_bl, ↓Q7, ↓Q8, ↓Q9, ↓Ya, ↓Yb, ↓Yc, ↓Yd, ↓Ye, ↓Yf, ↓Yg, ↓Yh, ↓Yi, ↓Yj, ↓Yk, ↓Ym, ↓Yn, ↓Yo, ↓Yp, ↓Yq, ↓Yr, ↓Ys, ↓Yt, ↓Yu, ↓Yv, ↓Yw, ↓Yx, ↓Yy, ↓Yz, ↓Y0, ↓Y1, ↓Y2, ↓Y3, ↓Y4, ↓Y5, ↓Y6, ↓Y7, ↓Y8, ↓Y9, ↓Ja, ↓Jb, ↓Jc, ↓Jd, ↓Je, ↓Jf, ↓Jg, ↓Jh, ↓Ji, ↓Jj, ↓Jk, ↓Jl, ↓Jm, ↓Jn, ↓Jo, ↓Jp, ↓Jq, ↓Jr, ↓Js, ↓Jt, ↓Ju, ↓Jw, ↓Jx, ↓Jy, ↓Jz, ↓J1, ↓J2, ↓J3, ↓J4, ↓J5, ↓J6, ↓J7, ↓J8, ↓J9, ↓Qaa, ↓Qab, ↓Qac, ↓Qad, ↓Qae, ↓par3_three, ↓Qaf, ↓Qag, ↓Qah, ↓Qai, ↓Qaj, ↓Qak, ↓Qal, ↓Qam, ↓Qan, ↓Qao, ↓Qap, ↓Qaq, ↓Qar, ↓Qas, ↓Qat, ↓Qau, ↓Qav, ↓Qaw, ↓Qax, ↓Qay, ↓Qaz, ↓Qa0, ↓Qa1, ↓Qa2, ↓Qa3, ↓Qa4, ↓Qa5, ↓Qa6, ↓Qa7, ↓Qa8, ↓Qa9, ↓Qba, ↓Qbb, ↓Qbc, ↓Qbd, ↓Qbe, ↓Qbf, ↓Qbg, ↓Qbh, ↓Qbi, ↓Qbj, ↓Qbk, ↓Qbl, List.set_cons_zero, List.set_cons_succ, wipeP, ↓ix]
      refine ⟨by rw [k_tyB_ref gr3]; trivial, ?_⟩
      obtain ⟨b0, f0, eb, ef, _⟩ := road_mk (z := z) (ln := 0) (rm := 0) tn (pw_nodup ta) zz i0 i1 j0 j1 hij (by omega) (by omega) (by omega) (by omega)
      refine ⟨_, eb, _, ef, rfl, t_draw h3 (by omega) (by omega) fun d1 S4 d10 d11 h4 o4 => ⟨rfl, t_draw h4 (by omega) (by omega) fun d2 S5 d20 d21 h5 o5 => ?_⟩⟩
      obtain ⟨b, g, eb', ef', hrd⟩ := road_mk (z := z) (ln := low + d1) (rm := d2) tn (pw_nodup ta) zz i0 i1 j0 j1 hij (by omega) (by omega) (by omega) (by omega)
      rw [eb] at eb'; cases eb'
      rw [ef] at ef'; cases ef'
      have gr5 : S5 r = some (.lst (done.map roadP)) := by rw [o5 r har, o4 r har]; exact gr3
      refine ⟨sz0 (by simp), ?_⟩
      rw [k_app gr5, eP]
      refine ⟨sz0 (by rw [List.length_map]; omega), hN _ _ _ _ ⟨done ++ [⟨z, b0, f0, low + d1, d2⟩], ?_, fun q hq => ?_, h5.upd har, ?_, fun x hx hx' => ?_⟩⟩
      · rw [e, List.map_append, List.append_assoc]; rfl
      · rcases List.mem_append.mp hq with hq | hq
        · exact hd q hq
        · rw [List.mem_singleton.mp hq]; exact hrd
      · rw [updS_same, List.map_append]; rfl
      · rw [updS_ne hx', o5 x hx, o4 x hx, o3 x hx]; exact off x hx hx'
    have hw : w__law_parts_2 K = wSeq (wPar 10 11 (wCons (wCall (arN 2 (sp__law_draw K)) (wCons (wVar 0) (wCons (wCall (p1 kLen) (wCons (wVar 4) (wNil))) (wNil)))) (wCons (wCall (arN 2 (sp__law_draw K)) (wCons (wVar 0) (wCons (wB kSub (wCall (p1 kLen) (wCons (wVar 4) (wNil))) (wC (.int 1))) (wNil)))) (wNil)))) (wSeq (wSet 11 (wB kAdd (wVar 11) (wCall (p1 kInt) (wCons (wB (kGe) (wVar 11) (wVar 10)) (wNil))))) (wSeq (wIfS (wTru (wVar 7)) (wPar 10 11 (wCons (wCall (p2 kMin2) (wCons (wVar 10) (wCons (wVar 11) (wNil)))) (wCons (wCall (p2 kMax2) (wCons (wVar 10) (wCons (wVar 11) (wNil)))) (wNil)))) (wNext)) (wExpr (wBM "list" kApp (wVar 6) (wCons (wTup (wCons (wVar 9) (wCons (wB kIx (wVar 4) (wVar 10)) (wCons (wB kIx (wVar 4) (wVar 11)) (wCons (wB kAdd (wVar 8) (wCall (arN 2 (sp__law_draw K)) (wCons (wVar 0) (wCons (wC (.int 6)) (wNil))))) (wCons (wCall (arN 2 (sp__law_draw K)) (wCons (wVar 0) (wCons (wC (.int 4)) (wNil)))) (wNil))))))) (wNil)))))) := rfl
    rw [hw]
    generalize hex : wExpr (wBM "list" kApp (wVar 6) (wCons (wTup (wCons (wVar 9) (wCons (wB kIx (wVar 4) (wVar 10)) (wCons (wB kIx (wVar 4) (wVar 11)) (wCons (wB kAdd (wVar 8) (wCall (arN 2 (sp__law_draw K)) (wCons (wVar 0) (wCons (wC (.int 6)) (wNil))))) (wCons (wCall (arN 2 (sp__law_draw K)) (wCons (wVar 0) (wCons (wC (.int 4)) (wNil)))) (wNil))))))) (wNil))) = we at core ⊢
    simp -implicitDefEqProofs only [↓Qa, ↓Qb, ↓Qc, ↓Qd, ↓Qe, ↓Qg, ↓Qh, ↓Qi, ↓Qj, ↓Qk, ↓Ql, ↓par2_two, ↓Qm, ↓Qn, ↓Qo, ↓Qp, ↓Qq, ↓Qr, ↓Qs, ↓Qt, ↓Qu, ↓Qv, ↓Qw, ↓Qx, ↓Qy, ↓Qz, ↓Q0, ↓truK_bl, ↓Q3, ↓Q4, ↓Q5, ↓Q6, ↓chK_bl, ↓Q7, ↓Q8, ↓Q9, ↓Ya, ↓Yb, ↓Yc, ↓Yd, ↓Ye, ↓Yf, ↓Yg, ↓Yh, ↓Yi, ↓Yj, ↓Yk, ↓Ym, ↓Yn, ↓Yo, ↓Yp, ↓Yq, ↓Yr, ↓Ys, ↓Yt, ↓Yu, ↓Yv, ↓Yw, ↓Yx, ↓Yy, ↓Yz, ↓Y0, ↓Y1, ↓Y2, ↓Y3, ↓Y4, ↓Y5, ↓Y6, ↓Y7, ↓Y8, ↓Y9, ↓Ja, ↓Jb, ↓Jc, ↓Jd, ↓Je, ↓Jf, ↓Jg, ↓Jh, ↓Ji, ↓Jj, ↓Jk, ↓Jl, ↓Jm, ↓Jn, ↓Jo, ↓Jp, ↓Jq, ↓Jr, ↓Js, ↓Jt, ↓Ju, ↓Jw, ↓Jx, ↓Jy, ↓Jz, ↓J1, ↓J2, ↓J3, ↓J4, ↓J5, ↓J6, ↓J7, ↓J8, ↓J9, ↓Qaa, ↓Qab, ↓Qac, ↓Qad, ↓Qae, ↓par3_three, ↓Qaf, ↓Qag, ↓Qah, ↓Qai, ↓Qaj, ↓Qak, ↓Qal, ↓Qam, ↓Qan, ↓Qao, ↓Qap, ↓Qaq, ↓Qar, ↓Qas, ↓Qat, ↓Qau, ↓Qav, ↓Qaw, ↓Qax, ↓Qay, ↓Qaz, ↓Qa0, ↓Qa1, ↓Qa2, ↓Qa3, ↓Qa4, ↓Qa5, ↓Qa6, ↓Qa7, ↓Qa8, ↓Qa9, ↓Qba, ↓Qbb, ↓Qbc, ↓Qbd, ↓Qbe, ↓Qbf, ↓Qbg, ↓Qbh, ↓Qbi, ↓Qbj, ↓Qbk, ↓Qbl, List.set_cons_zero, List.set_cons_succ, wipeP, l2]
    refine ⟨rfl, t_draw hh (by omega) (by omega) fun i S2 i0 i1 h2 o2 => ?_⟩
    refine ⟨rfl, t_draw h2 (by omega) (by omega) fun j S3 j0 j1 h3 o3 => ?_⟩
    simp -implicitDefEqProofs only [↓Qa, ↓Qb, ↓Qc, ↓Qd, ↓Qe, ↓Qg, ↓Qh, ↓Qi, ↓Qj, ↓Qk, ↓Ql, ↓par2_two, ↓Qm, ↓Qn, ↓Qo, ↓Qp, ↓Qq, ↓Qr, ↓Qs, ↓Qt, ↓Qu, ↓Qv, ↓Qw, ↓Qx, ↓Qy, ↓Qz, ↓Q0, ↓truK_bl, ↓Q3, ↓Q4, ↓Q5, ↓Q6, ↓chK_bl, ↓Q7, ↓Q8, ↓Q9, ↓Ya, ↓Yb, ↓Yc, ↓Yd, ↓Ye, ↓Yf, ↓Yg, ↓Yh, ↓Yi, ↓Yj, ↓Yk, ↓Ym, ↓Yn, ↓Yo, ↓Yp, ↓Yq, ↓Yr, ↓Ys, ↓Yt, ↓Yu, ↓Yv, ↓Yw, ↓Yx, ↓Yy, ↓Yz, ↓Y0, ↓Y1, ↓Y2, ↓Y3, ↓Y4, ↓Y5, ↓Y6, ↓Y7, ↓Y8, ↓Y9, ↓Ja, ↓Jb, ↓Jc, ↓Jd, ↓Je, ↓Jf, ↓Jg, ↓Jh, ↓Ji, ↓Jj, ↓Jk, ↓Jl, ↓Jm, ↓Jn, ↓Jo, ↓Jp, ↓Jq, ↓Jr, ↓Js, ↓Jt, ↓Ju, ↓Jw, ↓Jx, ↓Jy, ↓Jz, ↓J1, ↓J2, ↓J3, ↓J4, ↓J5, ↓J6, ↓J7, ↓J8, ↓J9, ↓Qaa, ↓Qab, ↓Qac, ↓Qad, ↓Qae, ↓par3_three, ↓Qaf, ↓Qag, ↓Qah, ↓Qai, ↓Qaj, ↓Qak, ↓Qal, ↓Qam, ↓Qan, ↓Qao, ↓Qap, ↓Qaq, ↓Qar, ↓Qas, ↓Qat, ↓Qau, ↓Qav, ↓Qaw, ↓Qax, ↓Qay, ↓Qaz, ↓Qa0, ↓Qa1, ↓Qa2, ↓Qa3, ↓Qa4, ↓Qa5, ↓Qa6, ↓Qa7, ↓Qa8, ↓Qa9, ↓Qba, ↓Qbb, ↓Qbc, ↓Qbd, ↓Qbe, ↓Qbf, ↓Qbg, ↓Qbh, ↓Qbi, ↓Qbj, ↓Qbk, ↓Qbl, List.set_cons_zero, List.set_cons_succ, wipeP]
    obtain ⟨j', ej⟩ : ∃ j', j' = (j + if decide (i ≤ j) = true then 1 else 0) := ⟨_, rfl⟩
    have hj' : 0 ≤ j' ∧ j' < ts.length ∧ i ≠ j' := by
      rw [ej]
      by_cases hij : i ≤ j
      · rw [if_pos (decide_eq_true hij)]; omega
      · rw [if_neg (by simpa using hij)]; omega
    rw [← ej]
    refine ⟨bb, rfl, ?_⟩
    cases bb with
    | false =>
      simp only [Bool.false_eq_true, if_false]
      exact core i j' S3 i0 i1 hj'.1 hj'.2.1 hj'.2.2 h3 (o2.tr o3) _ rfl
    | true =>
      simp -implicitDefEqProofs only [↓Qa, ↓Qb, ↓Qc, ↓Qd, ↓Qe, ↓Qg, ↓Qh, ↓Qi, ↓Qj, ↓Qk, ↓Ql, ↓par2_two, ↓Qm, ↓Qn, ↓Qo, ↓Qp, ↓Qq, ↓Qr, ↓Qs, ↓Qt, ↓Qu, ↓Qv, ↓Qw, ↓Qx, ↓Qy, ↓Qz, ↓Q0, ↓truK_bl, ↓Q3, ↓Q4, ↓Q5, ↓Q6, ↓chK_bl, ↓Q7, ↓Q8, ↓Q9, ↓Ya, ↓Yb, ↓Yc, ↓Yd, ↓Ye, ↓Yf, ↓Yg, ↓Yh, ↓Yi, ↓Yj, ↓Yk, ↓Ym, ↓Yn, ↓Yo, ↓Yp, ↓Yq, ↓Yr, ↓Ys, ↓Yt, ↓Yu, ↓Yv, ↓Yw, ↓Yx, ↓Yy, ↓Yz, ↓Y0, ↓Y1, ↓Y2, ↓Y3, ↓Y4, ↓Y5, ↓Y6, ↓Y7, ↓Y8, ↓Y9, ↓Ja, ↓Jb, ↓Jc, ↓Jd, ↓Je, ↓Jf, ↓Jg, ↓Jh, ↓Ji, ↓Jj, ↓Jk, ↓Jl, ↓Jm, ↓Jn, ↓Jo, ↓Jp, ↓Jq, ↓Jr, ↓Js, ↓Jt, ↓Ju, ↓Jw, ↓Jx, ↓Jy, ↓Jz, ↓J1, ↓J2, ↓J3, ↓J4, ↓J5, ↓J6, ↓J7, ↓J8, ↓J9, ↓Qaa, ↓Qab, ↓Qac, ↓Qad, ↓Qae, ↓par3_three, ↓Qaf, ↓Qag, ↓Qah, ↓Qai, ↓Qaj, ↓Qak, ↓Qal, ↓Qam, ↓Qan, ↓Qao, ↓Qap, ↓Qaq, ↓Qar, ↓Qas, ↓Qat, ↓Qau, ↓Qav, ↓Qaw, ↓Qax, ↓Qay, ↓Qaz, ↓Qa0, ↓Qa1, ↓Qa2, ↓Qa3, ↓Qa4, ↓Qa5, ↓Qa6, ↓Qa7, ↓Qa8, ↓Qa9, ↓Qba, ↓Qbb, ↓Qbc, ↓Qbd, ↓Qbe, ↓Qbf, ↓Qbg, ↓Qbh, ↓Qbi, ↓Qbj, ↓Qbk, ↓Qbl, List.set_cons_zero, List.set_cons_succ, wipeP, if_true, Qar, Qaq]
      refine core _ _ S3 ?_ ?_ ?_ ?_ ?_ h3 (o2.tr o3) _ rfl
      all_goals (split <;> first | omega | (split <;> omega))
  · subst er
    rw [List.append_nil] at e
    have hdl : done.length ≤ 8 := by
      have := congrArg List.length e
      rw [List.length_map] at this; omega
    refine hP done _ _ _ S' ⟨tn, ta, by omega, hd, ?_, by omega⟩ hdl (fun r hr => by rw [e]; exact List.mem_map.mpr ⟨r, hr, rfl⟩) hh gr off
    rw [e] at za; exact List.pairwise_map.mp za

theorem pure__law_parts (K : PySem.W.Frag) : ∀ ps S R Z, ps.length = 3 → sp__law_parts K ps S R Z → w__law_parts K (fin R Z) (startP n__law_parts ps) S := by
  intro ps S R Z hl h
  obtain ⟨a, m, f, rfl, hS, ⟨m0, m1⟩, ⟨f0, f1⟩, hR⟩ := h
  have e : startP n__law_parts [.ref a, .int m, .int f] = [some (.ref a), some (.int m), some (.int f), none, none, none, none, none, none, none, none, none] := rfl
  rw [e]
  simp -implicitDefEqProofs only [w__law_parts, ↓Qa, ↓Qb, ↓Qc, ↓Qd, ↓Qe, ↓Qg, ↓Qh, ↓Qi, ↓Qj, ↓Qk, ↓Ql, ↓par2_two, ↓Qm, ↓Qn, ↓Qo, ↓Qp, ↓Qq, ↓Qr, ↓Qs, ↓Qt, ↓Qu, ↓Qv, ↓Qw, ↓Qx, ↓Qy, ↓Qz, ↓Q0, ↓truK_bl, ↓Q3, ↓Q4, ↓Q5, ↓Q6, ↓chK_bl, ↓Q7, ↓Q8, ↓Q9, ↓Ya, ↓Yb, ↓Yc, ↓Yd, ↓Ye, ↓Yf, ↓Yg, ↓Yh, ↓Yi, ↓Yj, ↓Yk, ↓Ym, ↓Yn, ↓Yo, ↓Yp, ↓Yq, ↓Yr, ↓Ys, ↓Yt, ↓Yu, ↓Yv, ↓Yw, ↓Yx, ↓Yy, ↓Yz, ↓Y0, ↓Y1, ↓Y2, ↓Y3, ↓Y4, ↓Y5, ↓Y6, ↓Y7, ↓Y8, ↓Y9, ↓Ja, ↓Jb, ↓Jc, ↓Jd, ↓Je, ↓Jf, ↓Jg, ↓Jh, ↓Ji, ↓Jj, ↓Jk, ↓Jl, ↓Jm, ↓Jn, ↓Jo, ↓Jp, ↓Jq, ↓Jr, ↓Js, ↓Jt, ↓Ju, ↓Jw, ↓Jx, ↓Jy, ↓Jz, ↓J1, ↓J2, ↓J3, ↓J4, ↓J5, ↓J6, ↓J7, ↓J8, ↓J9, ↓Qaa, ↓Qab, ↓Qac, ↓Qad, ↓Qae, ↓par3_three, ↓Qaf, ↓Qag, ↓Qah, ↓Qai, ↓Qaj, ↓Qak, ↓Qal, ↓Qam, ↓Qan, ↓Qao, ↓Qap, ↓Qaq, ↓Qar, ↓Qas, ↓Qat, ↓Qau, ↓Qav, ↓Qaw, ↓Qax, ↓Qay, ↓Qaz, ↓Qa0, ↓Qa1, ↓Qa2, ↓Qa3, ↓Qa4, ↓Qa5, ↓Qa6, ↓Qa7, ↓Qa8, ↓Qa9, ↓Qba, ↓Qbb, ↓Qbc, ↓Qbd, ↓Qbe, ↓Qbf, ↓Qbg, ↓Qbh, ↓Qbi, ↓Qbj, ↓Qbk, ↓Qbl, List.set_cons_zero, List.set_cons_succ, wipeP]
  refine ⟨sz0 (by simp), fun p hp => ⟨sz0 (by simp), fun t ht => ?_⟩⟩
  have hpa := hS.ne hp
  have hpt : p ≠ t := fun z => by rw [← z, updS_same] at ht; cases ht
  have ht0 : S t = none := by rwa [updS_ne hpt.symm] at ht
  have hta := hS.ne ht0
  refine ⟨rfl, t_draw ((hS.upd hpa).upd hta) (by omega) (by omega) fun n S1 n0 n1 h1 o1 => ?_⟩
  simp -implicitDefEqProofs only [↓Qa, ↓Qb, ↓Qc, ↓Qd, ↓Qe, ↓Qg, ↓Qh, ↓Qi, ↓Qj, ↓Qk, ↓Ql, ↓par2_two, ↓Qm, ↓Qn, ↓Qo, ↓Qp, ↓Qq, ↓Qr, ↓Qs, ↓Qt, ↓Qu, ↓Qv, ↓Qw, ↓Qx, ↓Qy, ↓Qz, ↓Q0, ↓truK_bl, ↓Q3, ↓Q4, ↓Q5, ↓Q6, ↓chK_bl, ↓Q7, ↓Q8, ↓Q9, ↓Ya, ↓Yb, ↓Yc, ↓Yd, ↓Ye, ↓Yf, ↓Yg, ↓Yh, ↓Yi, ↓Yj, ↓Yk, ↓Ym, ↓Yn, ↓Yo, ↓Yp, ↓Yq, ↓Yr, ↓Ys, ↓Yt, ↓Yu, ↓Yv, ↓Yw, ↓Yx, ↓Yy, ↓Yz, ↓Y0, ↓Y1, ↓Y2, ↓Y3, ↓Y4, ↓Y5, ↓Y6, ↓Y7, ↓Y8, ↓Y9, ↓Ja, ↓Jb, ↓Jc, ↓Jd, ↓Je, ↓Jf, ↓Jg, ↓Jh, ↓Ji, ↓Jj, ↓Jk, ↓Jl, ↓Jm, ↓Jn, ↓Jo, ↓Jp, ↓Jq, ↓Jr, ↓Js, ↓Jt, ↓Ju, ↓Jw, ↓Jx, ↓Jy, ↓Jz, ↓J1, ↓J2, ↓J3, ↓J4, ↓J5, ↓J6, ↓J7, ↓J8, ↓J9, ↓Qaa, ↓Qab, ↓Qac, ↓Qad, ↓Qae, ↓par3_three, ↓Qaf, ↓Qag, ↓Qah, ↓Qai, ↓Qaj, ↓Qak, ↓Qal, ↓Qam, ↓Qan, ↓Qao, ↓Qap, ↓Qaq, ↓Qar, ↓Qas, ↓Qat, ↓Qau, ↓Qav, ↓Qaw, ↓Qax, ↓Qay, ↓Qaz, ↓Qa0, ↓Qa1, ↓Qa2, ↓Qa3, ↓Qa4, ↓Qa5, ↓Qa6, ↓Qa7, ↓Qa8, ↓Qa9, ↓Qba, ↓Qbb, ↓Qbc, ↓Qbd, ↓Qbe, ↓Qbf, ↓Qbg, ↓Qbh, ↓Qbi, ↓Qbj, ↓Qbk, ↓Qbl, List.set_cons_zero, List.set_cons_succ, wipeP]
  refine ⟨by omega, ?_⟩
  refine towns_loop n.toNat (by omega) hpa hta hpt h1 (by rw [o1 p hpa, updS_ne hpt, updS_same]; rfl) (by rw [o1 t hta, updS_same]) fun ts0 x5 S2 nd tn0 tl0 h2 gt off2 => ?_
  have off2' : ∀ x, x ≠ a → x ≠ p → x ≠ t → S2 x = S x := fun x g1 g2 g3 => by rw [off2 x g1 g2 g3, o1 x g1, updS_ne g3, updS_ne g2]
  simp -implicitDefEqProofs only [↓Qa, ↓Qb, ↓Qc, ↓Qd, ↓Qe, ↓Qg, ↓Qh, ↓Qi, ↓Qj, ↓Qk, ↓Ql, ↓par2_two, ↓Qm, ↓Qn, ↓Qo, ↓Qp, ↓Qq, ↓Qr, ↓Qs, ↓Qt, ↓Qu, ↓Qv, ↓Qw, ↓Qx, ↓Qy, ↓Qz, ↓Q0, ↓truK_bl, ↓Q3, ↓Q4, ↓Q5, ↓Q6, ↓chK_bl, ↓Q7, ↓Q8, ↓Q9, ↓Ya, ↓Yb, ↓Yc, ↓Yd, ↓Ye, ↓Yf, ↓Yg, ↓Yh, ↓Yi, ↓Yj, ↓Yk, ↓Ym, ↓Yn, ↓Yo, ↓Yp, ↓Yq, ↓Yr, ↓Ys, ↓Yt, ↓Yu, ↓Yv, ↓Yw, ↓Yx, ↓Yy, ↓Yz, ↓Y0, ↓Y1, ↓Y2, ↓Y3, ↓Y4, ↓Y5, ↓Y6, ↓Y7, ↓Y8, ↓Y9, ↓Ja, ↓Jb, ↓Jc, ↓Jd, ↓Je, ↓Jf, ↓Jg, ↓Jh, ↓Ji, ↓Jj, ↓Jk, ↓Jl, ↓Jm, ↓Jn, ↓Jo, ↓Jp, ↓Jq, ↓Jr, ↓Js, ↓Jt, ↓Ju, ↓Jw, ↓Jx, ↓Jy, ↓Jz, ↓J1, ↓J2, ↓J3, ↓J4, ↓J5, ↓J6, ↓J7, ↓J8, ↓J9, ↓Qaa, ↓Qab, ↓Qac, ↓Qad, ↓Qae, ↓par3_three, ↓Qaf, ↓Qag, ↓Qah, ↓Qai, ↓Qaj, ↓Qak, ↓Qal, ↓Qam, ↓Qan, ↓Qao, ↓Qap, ↓Qaq, ↓Qar, ↓Qas, ↓Qat, ↓Qau, ↓Qav, ↓Qaw, ↓Qax, ↓Qay, ↓Qaz, ↓Qa0, ↓Qa1, ↓Qa2, ↓Qa3, ↓Qa4, ↓Qa5, ↓Qa6, ↓Qa7, ↓Qa8, ↓Qa9, ↓Qba, ↓Qbb, ↓Qbc, ↓Qbd, ↓Qbe, ↓Qbf, ↓Qbg, ↓Qbh, ↓Qbi, ↓Qbj, ↓Qbk, ↓Qbl, List.set_cons_zero, List.set_cons_succ, wipeP]
  refine k_sorted_strs (ss := ts0) (by rw [dr_refL gt]; rfl) ?_
  obtain ⟨ts, hts⟩ : ∃ ts, ts = srtS ts0 := ⟨_, rfl⟩
  rw [← hts]
  have pm : ts.Perm ts0 := by rw [hts]; exact srtS_perm ts0
  have tp : ∀ x ∈ ts, x ∈ pool7 := fun x hx => tn0 x (pm.mem_iff.mp hx)
  have tn : ∀ x ∈ ts, nameB x = true := fun x hx => pool7_ok.1 x (tp x hx)
  have tnd := pm.nodup_iff.mpr nd
  have ta : UpS ts := by rw [hts]; exact srtS_up nd
  have tl : ts.length ≤ 7 := by rw [pm.length_eq]; exact tl0
  obtain ⟨q, hq⟩ : ∃ q, q = PV.lst (ts.map PV.str) := ⟨_, rfl⟩
  have l2 : ∀ (S : Sto) (R' : RK), kLen q S R' = R' (.int ts.length) S := fun S R' => by rw [hq, Jx, List.length_map]
  rw [← hq]
  refine ⟨sz0 (by simp), fun r hr => ⟨rfl, t_draw (h2.upd (h2.ne hr)) (by omega) (by omega) fun d S3 d0 d1 h3 o3 => ?_⟩⟩
  have har := h2.ne hr
  simp -implicitDefEqProofs only [↓Qa, ↓Qb, ↓Qc, ↓Qd, ↓Qe, ↓Qg, ↓Qh, ↓Qi, ↓Qj, ↓Qk, ↓Ql, ↓par2_two, ↓Qm, ↓Qn, ↓Qo, ↓Qp, ↓Qq, ↓Qr, ↓Qs, ↓Qt, ↓Qu, ↓Qv, ↓Qw, ↓Qx, ↓Qy, ↓Qz, ↓Q0, ↓truK_bl, ↓Q3, ↓Q4, ↓Q5, ↓Q6, ↓chK_bl, ↓Q7, ↓Q8, ↓Q9, ↓Ya, ↓Yb, ↓Yc, ↓Yd, ↓Ye, ↓Yf, ↓Yg, ↓Yh, ↓Yi, ↓Yj, ↓Yk, ↓Ym, ↓Yn, ↓Yo, ↓Yp, ↓Yq, ↓Yr, ↓Ys, ↓Yt, ↓Yu, ↓Yv, ↓Yw, ↓Yx, ↓Yy, ↓Yz, ↓Y0, ↓Y1, ↓Y2, ↓Y3, ↓Y4, ↓Y5, ↓Y6, ↓Y7, ↓Y8, ↓Y9, ↓Ja, ↓Jb, ↓Jc, ↓Jd, ↓Je, ↓Jf, ↓Jg, ↓Jh, ↓Ji, ↓Jj, ↓Jk, ↓Jl, ↓Jm, ↓Jn, ↓Jo, ↓Jp, ↓Jq, ↓Jr, ↓Js, ↓Jt, ↓Ju, ↓Jw, ↓Jx, ↓Jy, ↓Jz, ↓J1, ↓J2, ↓J3, ↓J4, ↓J5, ↓J6, ↓J7, ↓J8, ↓J9, ↓Qaa, ↓Qab, ↓Qac, ↓Qad, ↓Qae, ↓par3_three, ↓Qaf, ↓Qag, ↓Qah, ↓Qai, ↓Qaj, ↓Qak, ↓Qal, ↓Qam, ↓Qan, ↓Qao, ↓Qap, ↓Qaq, ↓Qar, ↓Qas, ↓Qat, ↓Qau, ↓Qav, ↓Qaw, ↓Qax, ↓Qay, ↓Qaz, ↓Qa0, ↓Qa1, ↓Qa2, ↓Qa3, ↓Qa4, ↓Qa5, ↓Qa6, ↓Qa7, ↓Qa8, ↓Qa9, ↓Qba, ↓Qbb, ↓Qbc, ↓Qbd, ↓Qbe, ↓Qbf, ↓Qbg, ↓Qbh, ↓Qbi, ↓Qbj, ↓Qbk, ↓Qbl, List.set_cons_zero, List.set_cons_succ, wipeP]
  refine ⟨sz0 (by simp), rfl, t_any h3 (by simp) (by simp) fun x hx S4 h4 o4 => ?_⟩
  obtain ⟨low, rfl, lo⟩ : ∃ n : Int, x = .int n ∧ (-2 ≤ n ∧ n ≤ 0) := by
    simp only [List.mem_cons, List.not_mem_nil, or_false] at hx
    rcases hx with rfl | rfl | rfl
    · exact ⟨_, rfl, by omega, by omega⟩
    · exact ⟨_, rfl, by omega, by omega⟩
    · exact ⟨_, rfl, by omega, by omega⟩
  simp -implicitDefEqProofs only [↓Qa, ↓Qb, ↓Qc, ↓Qd, ↓Qe, ↓Qg, ↓Qh, ↓Qi, ↓Qj, ↓Qk, ↓Ql, ↓par2_two, ↓Qm, ↓Qn, ↓Qo, ↓Qp, ↓Qq, ↓Qr, ↓Qs, ↓Qt, ↓Qu, ↓Qv, ↓Qw, ↓Qx, ↓Qy, ↓Qz, ↓Q0, ↓truK_bl, ↓Q3, ↓Q4, ↓Q5, ↓Q6, ↓chK_bl, ↓Q7, ↓Q8, ↓Q9, ↓Ya, ↓Yb, ↓Yc, ↓Yd, ↓Ye, ↓Yf, ↓Yg, ↓Yh, ↓Yi, ↓Yj, ↓Yk, ↓Ym, ↓Yn, ↓Yo, ↓Yp, ↓Yq, ↓Yr, ↓Ys, ↓Yt, ↓Yu, ↓Yv, ↓Yw, ↓Yx, ↓Yy, ↓Yz, ↓Y0, ↓Y1, ↓Y2, ↓Y3, ↓Y4, ↓Y5, ↓Y6, ↓Y7, ↓Y8, ↓Y9, ↓Ja, ↓Jb, ↓Jc, ↓Jd, ↓Je, ↓Jf, ↓Jg, ↓Jh, ↓Ji, ↓Jj, ↓Jk, ↓Jl, ↓Jm, ↓Jn, ↓Jo, ↓Jp, ↓Jq, ↓Jr, ↓Js, ↓Jt, ↓Ju, ↓Jw, ↓Jx, ↓Jy, ↓Jz, ↓J1, ↓J2, ↓J3, ↓J4, ↓J5, ↓J6, ↓J7, ↓J8, ↓J9, ↓Qaa, ↓Qab, ↓Qac, ↓Qad, ↓Qae, ↓par3_three, ↓Qaf, ↓Qag, ↓Qah, ↓Qai, ↓Qaj, ↓Qak, ↓Qal, ↓Qam, ↓Qan, ↓Qao, ↓Qap, ↓Qaq, ↓Qar, ↓Qas, ↓Qat, ↓Qau, ↓Qav, ↓Qaw, ↓Qax, ↓Qay, ↓Qaz, ↓Qa0, ↓Qa1, ↓Qa2, ↓Qa3, ↓Qa4, ↓Qa5, ↓Qa6, ↓Qa7, ↓Qa8, ↓Qa9, ↓Qba, ↓Qbb, ↓Qbc, ↓Qbd, ↓Qbe, ↓Qbf, ↓Qbg, ↓Qbh, ↓Qbi, ↓Qbj, ↓Qbk, ↓Qbl, List.set_cons_zero, List.set_cons_succ, wipeP, l2]
  have gr4 : S4 r = some (.lst []) := by rw [o4 r har, o3 r har, updS_same]
  refine ⟨sz0 (by simp), ?_⟩
  have ksl : ∀ (i : Int) (S : Sto) (R' : RK), 0 ≤ i → i ≤ 8 → kSl (.lst [.str "p", .str "q", .str "r", .str "s", .str "t", .str "u", .str "vv", .str "w"]) none (some i) S R' = R' (.lst ((names8.take i.toNat).map PV.str)) S := fun i S R' h0 h8 => by
    have e : cutP (names8.map PV.str) none (some i) = (names8.take i.toNat).map PV.str := by
      unfold cutP
      have e1 : HT.sIx (names8.map PV.str).length (names8.map PV.str).length (some i) = i.toNat := by
        show (if i < 0 then (i + (8 : Int)).toNat else min i.toNat 8) = _
        rw [if_neg (by omega)]; omega
      rw [e1, List.map_take]; rfl
    rw [show ([PV.str "p", .str "q", .str "r", .str "s", .str "t", .str "u", .str "vv", .str "w"] : List PV) = names8.map PV.str from rfl, k_sl_lst, e]
  generalize hP : ({ nx := wRet (wTup (wCons (wCall (p1 kTup) (wCons (wVar 4) wNil)) (wCons (wCall (p1 kTup) (wCons (wVar 6) wNil)) wNil))) (fin R Z), rt := gR R, ex := fun e x S' => zfg Z e S' } : PEnds) = P
  have core2 : ∀ (i : Int) (S5 : Sto), 0 ≤ i → i ≤ 8 → (0 < i → 2 ≤ ts.length) → HandAt a S5 → Off a S4 S5 → wForL (fun _ => True) (.nm 9) (w__law_parts_2 K) P ((names8.take i.toNat).map PV.str) [some (.ref a), some (.int m), some (.int f), some (.ref p), some q, x5, some (.ref r), some (.bl (decide (d = 0) != false)), some (.int low), none, none, none] S5 := by
    intro i S5 i0 i8 i2 h5 o5
    subst hP hq
    refine roads_loop har h5 (by rw [o5 r har]; exact gr4) tn ta tl (fun x hx => names8_ok.1 x (List.mem_of_mem_take hx)) (names8_ok.2.sublist (List.take_sublist _ _)) (by rw [List.length_take]; have : names8.length = 8 := rfl; omega) (fun hz => i2 (by
      refine Classical.byContradiction fun z => hz ?_
      rw [show i.toNat = 0 by omega, List.take_zero])) lo fun rs x9 x10 x11 S6 ok rl rn6 h6 gr6 off6 => ?_
    simp -implicitDefEqProofs only [↓Qa, ↓Qb, ↓Qc, ↓Qd, ↓Qe, ↓Qg, ↓Qh, ↓Qi, ↓Qj, ↓Qk, ↓Ql, ↓par2_two, ↓Qm, ↓Qn, ↓Qo, ↓Qp, ↓Qq, ↓Qr, ↓Qs, ↓Qt, ↓Qu, ↓Qv, ↓Qw, ↓Qx, ↓Qy, ↓Qz, ↓Q0, ↓truK_bl, ↓Q3, ↓Q4, ↓Q5, ↓Q6, ↓chK_bl, ↓Q7, ↓Q8, ↓Q9, ↓Ya, ↓Yb, ↓Yc, ↓Yd, ↓Ye, ↓Yf, ↓Yg, ↓Yh, ↓Yi, ↓Yj, ↓Yk, ↓Ym, ↓Yn, ↓Yo, ↓Yp, ↓Yq, ↓Yr, ↓Ys, ↓Yt, ↓Yu, ↓Yv, ↓Yw, ↓Yx, ↓Yy, ↓Yz, ↓Y0, ↓Y1, ↓Y2, ↓Y3, ↓Y4, ↓Y5, ↓Y6, ↓Y7, ↓Y8, ↓Y9, ↓Ja, ↓Jb, ↓Jc, ↓Jd, ↓Je, ↓Jf, ↓Jg, ↓Jh, ↓Ji, ↓Jj, ↓Jk, ↓Jl, ↓Jm, ↓Jn, ↓Jo, ↓Jp, ↓Jq, ↓Jr, ↓Js, ↓Jt, ↓Ju, ↓Jw, ↓Jx, ↓Jy, ↓Jz, ↓J1, ↓J2, ↓J3, ↓J4, ↓J5, ↓J6, ↓J7, ↓J8, ↓J9, ↓Qaa, ↓Qab, ↓Qac, ↓Qad, ↓Qae, ↓par3_three, ↓Qaf, ↓Qag, ↓Qah, ↓Qai, ↓Qaj, ↓Qak, ↓Qal, ↓Qam, ↓Qan, ↓Qao, ↓Qap, ↓Qaq, ↓Qar, ↓Qas, ↓Qat, ↓Qau, ↓Qav, ↓Qaw, ↓Qax, ↓Qay, ↓Qaz, ↓Qa0, ↓Qa1, ↓Qa2, ↓Qa3, ↓Qa4, ↓Qa5, ↓Qa6, ↓Qa7, ↓Qa8, ↓Qa9, ↓Qba, ↓Qbb, ↓Qbc, ↓Qbd, ↓Qbe, ↓Qbf, ↓Qbg, ↓Qbh, ↓Qbi, ↓Qbj, ↓Qbk, ↓Qbl, List.set_cons_zero, List.set_cons_succ, wipeP, k_tup_ref gr6]
    refine ⟨sz0 (by simp), gR_sub (S' := fun x => if x = p ∨ x = t ∨ x = r then none else S6 x) (fun x o e => ?_) (hR ts rs _ ok (by omega) rl tp (fun r hr => List.mem_of_mem_take (rn6 r hr)) ?_ fun x hx => ?_)⟩
    · have e : (if x = p ∨ x = t ∨ x = r then none else S6 x) = some o := e
      split at e
      · cases e
      · exact e
    · obtain ⟨c1, c2, c3, c4, c5, c6⟩ := h6
      refine ⟨c1, c2, c3, c4, c5, ?_⟩
      show (if a = p ∨ a = t ∨ a = r then none else S6 a) = _
      rw [if_neg (fun z => z.elim (fun z => hpa z.symm) fun z => z.elim (fun z => hta z.symm) fun z => har z.symm)]
      exact c6
    · show (if x = p ∨ x = t ∨ x = r then none else S6 x) = S x
      have chain : x ≠ r → x ≠ p → x ≠ t → S6 x = S x := fun g1 g2 g3 => by
        rw [off6 x hx g1, o5 x hx, o4 x hx, o3 x hx, updS_ne g1]; exact off2' x hx g2 g3
      split
      · rename_i c
        by_cases g2 : x = p
        · rw [g2]; exact hp.symm
        · by_cases g3 : x = t
          · rw [g3]; exact ht0.symm
          · have g1 : x = r := by
              rcases c with c | c | c
              · exact absurd c g2
              · exact absurd c g3
              · exact c
            rw [← off2' x hx g2 g3, g1]; exact hr.symm
      · rename_i c
        exact chain (fun z => c (.inr (.inr z))) (fun z => c (.inl z)) (fun z => c (.inr (.inl z)))
  by_cases h2t : 1 < (ts.length : Int)
  · rw [if_pos (decide_eq_true h2t)]
    refine ⟨rfl, t_draw h4 (by omega) (by omega) fun i S5 i0 i1 h5 o5 => ?_⟩
    simp -implicitDefEqProofs only [↓Qa, ↓Qb, ↓Qc, ↓Qd, ↓Qe, ↓Qg, ↓Qh, ↓Qi, ↓Qj, ↓Qk, ↓Ql, ↓par2_two, ↓Qm, ↓Qn, ↓Qo, ↓Qp, ↓Qq, ↓Qr, ↓Qs, ↓Qt, ↓Qu, ↓Qv, ↓Qw, ↓Qx, ↓Qy, ↓Qz, ↓Q0, ↓truK_bl, ↓Q3, ↓Q4, ↓Q5, ↓Q6, ↓chK_bl, ↓Q7, ↓Q8, ↓Q9, ↓Ya, ↓Yb, ↓Yc, ↓Yd, ↓Ye, ↓Yf, ↓Yg, ↓Yh, ↓Yi, ↓Yj, ↓Yk, ↓Ym, ↓Yn, ↓Yo, ↓Yp, ↓Yq, ↓Yr, ↓Ys, ↓Yt, ↓Yu, ↓Yv, ↓Yw, ↓Yx, ↓Yy, ↓Yz, ↓Y0, ↓Y1, ↓Y2, ↓Y3, ↓Y4, ↓Y5, ↓Y6, ↓Y7, ↓Y8, ↓Y9, ↓Ja, ↓Jb, ↓Jc, ↓Jd, ↓Je, ↓Jf, ↓Jg, ↓Jh, ↓Ji, ↓Jj, ↓Jk, ↓Jl, ↓Jm, ↓Jn, ↓Jo, ↓Jp, ↓Jq, ↓Jr, ↓Js, ↓Jt, ↓Ju, ↓Jw, ↓Jx, ↓Jy, ↓Jz, ↓J1, ↓J2, ↓J3, ↓J4, ↓J5, ↓J6, ↓J7, ↓J8, ↓J9, ↓Qaa, ↓Qab, ↓Qac, ↓Qad, ↓Qae, ↓par3_three, ↓Qaf, ↓Qag, ↓Qah, ↓Qai, ↓Qaj, ↓Qak, ↓Qal, ↓Qam, ↓Qan, ↓Qao, ↓Qap, ↓Qaq, ↓Qar, ↓Qas, ↓Qat, ↓Qau, ↓Qav, ↓Qaw, ↓Qax, ↓Qay, ↓Qaz, ↓Qa0, ↓Qa1, ↓Qa2, ↓Qa3, ↓Qa4, ↓Qa5, ↓Qa6, ↓Qa7, ↓Qa8, ↓Qa9, ↓Qba, ↓Qbb, ↓Qbc, ↓Qbd, ↓Qbe, ↓Qbf, ↓Qbg, ↓Qbh, ↓Qbi, ↓Qbj, ↓Qbk, ↓Qbl, List.set_cons_zero, List.set_cons_succ, wipeP]
    rw [ksl i _ _ i0 (by omega), J8]
    exact core2 i S5 i0 (by omega) (fun _ => by omega) h5 o5
  · rw [if_neg (by simpa using h2t), ksl 0 _ _ (by omega) (by omega), J8]
    exact core2 0 S4 (by omega) (by omega) (fun h => absurd h (by omega)) h4 fun _ _ => rfl

theorem gR_end {R : RK} {p : PV} {S S' : Sto} (h : ∀ x o, S x = some o → S' x = some o) (r : R p S) : gR R p S' := gR_sub h r
/-- outside of a, what was there stays -/
def KpS (a : Addr) (S S' : Sto) : Prop := ∀ x o, x ≠ a → S x = some o → S' x = some o
theorem KpS.refl {a : Addr} {S : Sto} : KpS a S S := fun _ _ _ h => h
theorem KpS.tr {a : Addr} {S S1 S2 : Sto} (h : KpS a S S1) (h2 : KpS a S1 S2) : KpS a S S2 := fun x o n e => h2 x o n (h x o n e)
theorem KpS.off {a : Addr} {S S1 S2 : Sto} (h : KpS a S S1) (h2 : Off a S1 S2) : KpS a S S2 := fun x o n e => (h2 x n).trans (h x o n e)
theorem KpS.new {a x : Addr} {S S1 : Sto} {o : MO} (h : KpS a S S1) (n : S1 x = none) : KpS a S (updS S1 x o) := fun y u ny e => by
  have := h y u ny e
  rw [updS_ne fun z => by rw [z, n] at this; cases this]; exact this
theorem gR_hand {R : RK} {p : PV} {a : Addr} {S S' : Sto} (k : KpS a S S') (h : HandAt a S') (r : ∀ S'', HandAt a S'' → Off a S S'' → R p S'') : gR R p S' := by
  obtain ⟨c1, c2, c3, c4, c5, c6⟩ := h
  refine gR_sub (S' := fun x => if x = a then S' x else S x) (fun x o e => ?_) (r _ ⟨c1, c2, c3, c4, c5, ?_⟩ fun x hx => if_neg hx)
  · have e : (if x = a then S' x else S x) = some o := e
    by_cases h : x = a
    · rw [if_pos h] at e; exact e
    · rw [if_neg h] at e; exact k x o h e
  · show (if a = a then S' a else S a) = _
    rw [if_pos rfl]; exact c6
theorem dget_namedP {rs : List Road} {x : Str} : dget (namedP rs) (.inr x) = (rs.find? fun q => decide (q.name = x)).map roadP := by
  induction rs with
  | nil => rfl
  | cons r rs ih =>
    show dget ((.inr r.name, roadP r) :: namedP rs) (.inr x) = _
    by_cases e : r.name = x
    · rw [dget_pos (p := (.inr r.name, roadP r)) (by rw [e]), List.find?_cons_of_pos (by simpa using e)]; rfl
    · rw [dget_neg (p := (.inr r.name, roadP r)) (fun z => e (Sum.inr.inj z)), List.find?_cons_of_neg (by simpa using e)]; exact ih
section
variable {K : PySem.W.Frag} {S : Sto} {R : RK} {Z : ZK}
theorem it_roads {rs : List Road} {RI : List PV → (Sto → Prop) → Sto → Prop} : itK (roadsP rs) S RI = RI (rs.map roadP) (fun _ => True) S := rfl
theorem it_towns {ts : List Str} {RI : List PV → (Sto → Prop) → Sto → Prop} : itK (townsP ts) S RI = RI (ts.map PV.str) (fun _ => True) S := rfl
theorem ix_road {r : Road} {i : Int} : kIx (roadP r) (.int i) S R = ∃ z, atI [PV.str r.name, .str r.bgn, .str r.fin, .int r.len, .int r.room] i = some z ∧ R z S := rfl
end
theorem find_name {rs : List Road} {x : Str} {q : Road} (h : rs.find? (fun q => decide (q.name = x)) = some q) : q ∈ rs ∧ q.name = x := ⟨List.mem_of_find?_eq_some h, of_decide_eq_true (List.find?_some (p := fun q : Road => decide (q.name = x)) h)⟩
theorem seq_any {A T : WS} {P : PEnds} {ρ : Slots} {S : Sto} (h : ∀ N : Slots → Sto → Prop, N = T P → A { P with nx := N } ρ S) : wSeq A T P ρ S := h _ rfl
theorem atI_last {α : Type} {xs : List α} {x : α} : atI (xs ++ [x]) (-1) = some x := by
  have e : ixN (xs ++ [x]).length (-1) = some xs.length := by
    unfold ixN
    rw [List.length_append, List.length_singleton]
    simp only [Int.natCast_add, Int.natCast_one]
    rw [if_neg (by decide), if_pos (by omega)]
    exact congrArg some (by omega)
  unfold atI
  rw [e]
  show (xs ++ [x])[xs.length]? = some x
  simp
theorem dmrg_acc : ∀ (kvs acc : List (Key × PV)), ((acc ++ kvs).map Prod.fst).Nodup → kvs.foldl (fun acc kv => dput acc kv.1 kv.2) acc = acc ++ kvs
  | [], acc, _ => by rw [List.append_nil]; rfl
  | kv :: kvs, acc, h => by
    have hn : kv.1 ∉ acc.map (·.1) := fun z => by
      rw [List.map_append, List.nodup_append] at h
      exact h.2.2 _ z kv.1 (List.mem_map.mpr ⟨kv, List.mem_cons_self, rfl⟩) rfl
    show kvs.foldl _ (dput acc kv.1 kv.2) = _
    rw [dput_fresh hn, dmrg_acc kvs (acc ++ [(kv.1, kv.2)]) (by rw [List.append_assoc]; exact h), List.append_assoc]; rfl
theorem dmrg_nodup {kvs : List (Key × PV)} (h : (kvs.map Prod.fst).Nodup) : dmrg kvs = kvs := dmrg_acc kvs [] h
theorem named_nodup {rs : List Road} (h : (rs.map Road.name).Nodup) : ((namedP rs).map Prod.fst).Nodup := by
  unfold namedP
  rw [List.map_map]
  show (rs.map fun r => (Sum.inr r.name : Key)).Nodup
  have : rs.map (fun r => (Sum.inr r.name : Key)) = (rs.map Road.name).map Sum.inr := by rw [List.map_map]; rfl
  rw [this]
  exact List.Pairwise.map _ (fun a b h e => h (Sum.inr.inj e)) h
theorem k_dictP_roads {S : Sto} {R : RK} {rs : List Road} (h : (rs.map Road.name).Nodup) (hR : R (.dct (namedP rs)) S) : kDictP (.lst (rs.map fun r => .tup [.str r.name, roadP r])) S R := by
  refine ⟨namedP rs, ?_, ?_⟩
  · rw [Y3]; unfold namedP; rw [List.map_map]; rfl
  · rw [dmrg_nodup (named_nodup h)]; exact hR

section
variable {K : PySem.W.Frag} {S : Sto} {R : RK} {Z : ZK} {C : Addr} {ts : List Str} {rs : List Road}
theorem t_is_names {p : PV} (hp : PnT p) (hf : Few p) (h : R (.bl (isNames p)) S) : sp_is_names K [p] S R Z := ⟨p, rfl, hp, hf, h⟩
theorem t_far_end {r : Road} {x : Str} (h : R (.str (if r.bgn = x then r.fin else r.bgn)) S) : sp_far_end K [roadP r, .str x] S R Z := ⟨r, x, rfl, h⟩
theorem t_raw_ends {x : Str} {ns : List Str} (hC : C ∈ netCs K) (hl : ns.length ≤ 1000) (h : R (wayP (wayR rs false x ns)) S) : sp_raw_ends K [netP C ts rs, .str x, townsP ns] S R Z := ⟨C, ts, rs, x, ns, rfl, hC, hl, h⟩
theorem t_raw_walked {x : Str} {ns : List Str} (hC : C ∈ netCs K) (hl : ns.length ≤ 1000) (h : R (wayP (wayR rs true x ns)) S) : sp_raw_walked K [netP C ts rs, .str x, townsP ns] S R Z := ⟨C, ts, rs, x, ns, rfl, hC, hl, h⟩
theorem t_ends_by {p q : PV} (hC : C ∈ netCs K) (hp : Pn p) (hq : PnT q) (hf : Few q) (h : endsK K R Z S ts rs false p q) : sp_ends_by K [netP C ts rs, p, q] S R Z := ⟨C, ts, rs, p, q, rfl, hC, hp, hq, hf, h⟩
theorem t_ends_walked {p q : PV} (hC : C ∈ netCs K) (hp : Pn p) (hq : PnT q) (hf : Few q) (h : endsK K R Z S ts rs true p q) : sp_ends_walked K [netP C ts rs, p, q] S R Z := ⟨C, ts, rs, p, q, rfl, hC, hp, hq, hf, h⟩
theorem t_raw_length {ns : List Str} (hC : C ∈ netCs K) (hl : ns.length ≤ 1000) (hn : ∀ n ∈ ns, n ∈ rs.map Road.name) (h : R (.int (lenOf rs ns)) S) : sp_raw_length K [netP C ts rs, townsP ns] S R Z := ⟨C, ts, rs, ns, rfl, hC, hl, hn, h⟩
theorem t_length_of {q : PV} (hC : C ∈ netCs K) (hq : PnT q) (hf : Few q) (h : lensK K R Z S rs q) : sp_length_of K [netP C ts rs, q] S R Z := ⟨C, ts, rs, q, rfl, hC, hq, hf, h⟩
end
theorem isNames_eq {p : PV} (h : isNames p = true) : ∃ ns, p = townsP ns := by
  unfold isNames at h
  split at h
  · rename_i xs
    have key : ∀ xs : List PV, xs.all isStrP = true → ∃ ns : List Str, xs = ns.map PV.str := fun xs => by
      induction xs with
      | nil => exact fun _ => ⟨[], rfl⟩
      | cons x r ih =>
        intro h
        rw [List.all_cons, Bool.and_eq_true] at h
        obtain ⟨ns, rfl⟩ := ih h.2
        cases x with
        | str z => exact ⟨z :: ns, rfl⟩
        | _ => cases h.1
    obtain ⟨ns, rfl⟩ := key xs h
    exact ⟨ns, rfl⟩
  · cases h
theorem isNames_towns (ns : List Str) : isNames (townsP ns) = true := by
  show (ns.map PV.str).all isStrP = true
  rw [List.all_map]
  exact List.all_eq_true.mpr fun _ _ => rfl
theorem pure_is_names (K : PySem.W.Frag) : ∀ ps S R Z, ps.length = 1 → sp_is_names K ps S R Z → w_is_names K (fin R Z) (startP n_is_names ps) S := by
  intro ps S R Z hl h
  obtain ⟨p, rfl, hp, hf, hR⟩ := h
  have e : startP n_is_names [p] = [some p, none] := rfl
  rw [e]
  simp -implicitDefEqProofs only [w_is_names, ↓Qa, ↓Qb, ↓Qc, ↓Qd, ↓Qe, ↓Qg, ↓Qh, ↓Qi, ↓Qj, ↓Qk, ↓Ql, ↓par2_two, ↓Qm, ↓Qn, ↓Qo, ↓Qp, ↓Qq, ↓Qr, ↓Qs, ↓Qt, ↓Qu, ↓Qv, ↓Qw, ↓Qx, ↓Qy, ↓Qz, ↓Q0, ↓truK_bl, ↓Q3, ↓Q4, ↓Q5, ↓Q6, ↓chK_bl, ↓Q7, ↓Q8, ↓Q9, ↓Ya, ↓Yb, ↓Yc, ↓Yd, ↓Ye, ↓Yf, ↓Yg, ↓Yh, ↓Yi, ↓Yj, ↓Yk, ↓Ym, ↓Yn, ↓Yo, ↓Yp, ↓Yq, ↓Yr, ↓Ys, ↓Yt, ↓Yu, ↓Yv, ↓Yw, ↓Yx, ↓Yy, ↓Yz, ↓Y0, ↓Y1, ↓Y2, ↓Y3, ↓Y4, ↓Y5, ↓Y6, ↓Y7, ↓Y8, ↓Y9, ↓Ja, ↓Jb, ↓Jc, ↓Jd, ↓Je, ↓Jf, ↓Jg, ↓Jh, ↓Ji, ↓Jj, ↓Jk, ↓Jl, ↓Jm, ↓Jn, ↓Jo, ↓Jp, ↓Jq, ↓Jr, ↓Js, ↓Jt, ↓Ju, ↓Jw, ↓Jx, ↓Jy, ↓Jz, ↓J1, ↓J2, ↓J3, ↓J4, ↓J5, ↓J6, ↓J7, ↓J8, ↓J9, ↓Qaa, ↓Qab, ↓Qac, ↓Qad, ↓Qae, ↓par3_three, ↓Qaf, ↓Qag, ↓Qah, ↓Qai, ↓Qaj, ↓Qak, ↓Qal, ↓Qam, ↓Qan, ↓Qao, ↓Qap, ↓Qaq, ↓Qar, ↓Qas, ↓Qat, ↓Qau, ↓Qav, ↓Qaw, ↓Qax, ↓Qay, ↓Qaz, ↓Qa0, ↓Qa1, ↓Qa2, ↓Qa3, ↓Qa4, ↓Qa5, ↓Qa6, ↓Qa7, ↓Qa8, ↓Qa9, ↓Qba, ↓Qbb, ↓Qbc, ↓Qbd, ↓Qbe, ↓Qbf, ↓Qbg, ↓Qbh, ↓Qbi, ↓Qbj, ↓Qbk, ↓Qbl, List.set_cons_zero, List.set_cons_succ, wipeP]
  rw [k_isB_pn (by decide) hp.1]
  rcases pn_tup_or hp.1 with ⟨xs, rfl⟩ | ⟨hi, hn⟩
  · rw [isA_tup]
    simp -implicitDefEqProofs only [↓Qa, ↓Qb, ↓Qc, ↓Qd, ↓Qe, ↓Qg, ↓Qh, ↓Qi, ↓Qj, ↓Qk, ↓Ql, ↓par2_two, ↓Qm, ↓Qn, ↓Qo, ↓Qp, ↓Qq, ↓Qr, ↓Qs, ↓Qt, ↓Qu, ↓Qv, ↓Qw, ↓Qx, ↓Qy, ↓Qz, ↓Q0, ↓truK_bl, ↓Q3, ↓Q4, ↓Q5, ↓Q6, ↓chK_bl, ↓Q7, ↓Q8, ↓Q9, ↓Ya, ↓Yb, ↓Yc, ↓Yd, ↓Ye, ↓Yf, ↓Yg, ↓Yh, ↓Yi, ↓Yj, ↓Yk, ↓Ym, ↓Yn, ↓Yo, ↓Yp, ↓Yq, ↓Yr, ↓Ys, ↓Yt, ↓Yu, ↓Yv, ↓Yw, ↓Yx, ↓Yy, ↓Yz, ↓Y0, ↓Y1, ↓Y2, ↓Y3, ↓Y4, ↓Y5, ↓Y6, ↓Y7, ↓Y8, ↓Y9, ↓Ja, ↓Jb, ↓Jc, ↓Jd, ↓Je, ↓Jf, ↓Jg, ↓Jh, ↓Ji, ↓Jj, ↓Jk, ↓Jl, ↓Jm, ↓Jn, ↓Jo, ↓Jp, ↓Jq, ↓Jr, ↓Js, ↓Jt, ↓Ju, ↓Jw, ↓Jx, ↓Jy, ↓Jz, ↓J1, ↓J2, ↓J3, ↓J4, ↓J5, ↓J6, ↓J7, ↓J8, ↓J9, ↓Qaa, ↓Qab, ↓Qac, ↓Qad, ↓Qae, ↓par3_three, ↓Qaf, ↓Qag, ↓Qah, ↓Qai, ↓Qaj, ↓Qak, ↓Qal, ↓Qam, ↓Qan, ↓Qao, ↓Qap, ↓Qaq, ↓Qar, ↓Qas, ↓Qat, ↓Qau, ↓Qav, ↓Qaw, ↓Qax, ↓Qay, ↓Qaz, ↓Qa0, ↓Qa1, ↓Qa2, ↓Qa3, ↓Qa4, ↓Qa5, ↓Qa6, ↓Qa7, ↓Qa8, ↓Qa9, ↓Qba, ↓Qbb, ↓Qbc, ↓Qbd, ↓Qbe, ↓Qbf, ↓Qbg, ↓Qbh, ↓Qbi, ↓Qbj, ↓Qbk, ↓Qbl, List.set_cons_zero, List.set_cons_succ, wipeP, if_true]
    have hx : ∀ x ∈ xs, Pn x := hp.2 xs rfl
    conv => arg 7; rw [← List.map_id xs]
    refine wLcL_allM (fun x : PV => id x) (fun x => .bl (isStrP x)) trivial xs (fun x hxm R' hR' => ?_) (sz0 (by have := hf xs rfl; omega)) ?_
    · simp -implicitDefEqProofs only [w_is_names_1, ↓Qa, ↓Qb, ↓Qc, ↓Qd, ↓Qe, ↓Qg, ↓Qh, ↓Qi, ↓Qj, ↓Qk, ↓Ql, ↓par2_two, ↓Qm, ↓Qn, ↓Qo, ↓Qp, ↓Qq, ↓Qr, ↓Qs, ↓Qt, ↓Qu, ↓Qv, ↓Qw, ↓Qx, ↓Qy, ↓Qz, ↓Q0, ↓truK_bl, ↓Q3, ↓Q4, ↓Q5, ↓Q6, ↓chK_bl, ↓Q7, ↓Q8, ↓Q9, ↓Ya, ↓Yb, ↓Yc, ↓Yd, ↓Ye, ↓Yf, ↓Yg, ↓Yh, ↓Yi, ↓Yj, ↓Yk, ↓Ym, ↓Yn, ↓Yo, ↓Yp, ↓Yq, ↓Yr, ↓Ys, ↓Yt, ↓Yu, ↓Yv, ↓Yw, ↓Yx, ↓Yy, ↓Yz, ↓Y0, ↓Y1, ↓Y2, ↓Y3, ↓Y4, ↓Y5, ↓Y6, ↓Y7, ↓Y8, ↓Y9, ↓Ja, ↓Jb, ↓Jc, ↓Jd, ↓Je, ↓Jf, ↓Jg, ↓Jh, ↓Ji, ↓Jj, ↓Jk, ↓Jl, ↓Jm, ↓Jn, ↓Jo, ↓Jp, ↓Jq, ↓Jr, ↓Js, ↓Jt, ↓Ju, ↓Jw, ↓Jx, ↓Jy, ↓Jz, ↓J1, ↓J2, ↓J3, ↓J4, ↓J5, ↓J6, ↓J7, ↓J8, ↓J9, ↓Qaa, ↓Qab, ↓Qac, ↓Qad, ↓Qae, ↓par3_three, ↓Qaf, ↓Qag, ↓Qah, ↓Qai, ↓Qaj, ↓Qak, ↓Qal, ↓Qam, ↓Qan, ↓Qao, ↓Qap, ↓Qaq, ↓Qar, ↓Qas, ↓Qat, ↓Qau, ↓Qav, ↓Qaw, ↓Qax, ↓Qay, ↓Qaz, ↓Qa0, ↓Qa1, ↓Qa2, ↓Qa3, ↓Qa4, ↓Qa5, ↓Qa6, ↓Qa7, ↓Qa8, ↓Qa9, ↓Qba, ↓Qbb, ↓Qbc, ↓Qbd, ↓Qbe, ↓Qbf, ↓Qbg, ↓Qbh, ↓Qbi, ↓Qbj, ↓Qbk, ↓Qbl, List.set_cons_zero, List.set_cons_succ, wipeP, id]
      rw [k_isB_pn (by decide) (hx x hxm)]
      have : isA x "str" = isStrP x := by
        rcases pn_str_or (hx x hxm) with ⟨z, rfl, _⟩ | ⟨h1, h2⟩
        · rw [isA_str]; rfl
        · rw [h1]
          unfold isStrP
          cases x <;> first | rfl | exact absurd rfl (h2 _)
      rw [this]; exact hR'
    · rw [k_allM]
      exact gR_now hR
  · rw [hi]
    simp -implicitDefEqProofs only [↓Qa, ↓Qb, ↓Qc, ↓Qd, ↓Qe, ↓Qg, ↓Qh, ↓Qi, ↓Qj, ↓Qk, ↓Ql, ↓par2_two, ↓Qm, ↓Qn, ↓Qo, ↓Qp, ↓Qq, ↓Qr, ↓Qs, ↓Qt, ↓Qu, ↓Qv, ↓Qw, ↓Qx, ↓Qy, ↓Qz, ↓Q0, ↓truK_bl, ↓Q3, ↓Q4, ↓Q5, ↓Q6, ↓chK_bl, ↓Q7, ↓Q8, ↓Q9, ↓Ya, ↓Yb, ↓Yc, ↓Yd, ↓Ye, ↓Yf, ↓Yg, ↓Yh, ↓Yi, ↓Yj, ↓Yk, ↓Ym, ↓Yn, ↓Yo, ↓Yp, ↓Yq, ↓Yr, ↓Ys, ↓Yt, ↓Yu, ↓Yv, ↓Yw, ↓Yx, ↓Yy, ↓Yz, ↓Y0, ↓Y1, ↓Y2, ↓Y3, ↓Y4, ↓Y5, ↓Y6, ↓Y7, ↓Y8, ↓Y9, ↓Ja, ↓Jb, ↓Jc, ↓Jd, ↓Je, ↓Jf, ↓Jg, ↓Jh, ↓Ji, ↓Jj, ↓Jk, ↓Jl, ↓Jm, ↓Jn, ↓Jo, ↓Jp, ↓Jq, ↓Jr, ↓Js, ↓Jt, ↓Ju, ↓Jw, ↓Jx, ↓Jy, ↓Jz, ↓J1, ↓J2, ↓J3, ↓J4, ↓J5, ↓J6, ↓J7, ↓J8, ↓J9, ↓Qaa, ↓Qab, ↓Qac, ↓Qad, ↓Qae, ↓par3_three, ↓Qaf, ↓Qag, ↓Qah, ↓Qai, ↓Qaj, ↓Qak, ↓Qal, ↓Qam, ↓Qan, ↓Qao, ↓Qap, ↓Qaq, ↓Qar, ↓Qas, ↓Qat, ↓Qau, ↓Qav, ↓Qaw, ↓Qax, ↓Qay, ↓Qaz, ↓Qa0, ↓Qa1, ↓Qa2, ↓Qa3, ↓Qa4, ↓Qa5, ↓Qa6, ↓Qa7, ↓Qa8, ↓Qa9, ↓Qba, ↓Qbb, ↓Qbc, ↓Qbd, ↓Qbe, ↓Qbf, ↓Qbg, ↓Qbh, ↓Qbi, ↓Qbj, ↓Qbk, ↓Qbl, List.set_cons_zero, List.set_cons_succ, wipeP, Bool.false_eq_true, if_false]
    have : isNames p = false := by
      unfold isNames
      cases p <;> first | rfl | exact absurd rfl (hn _)
    rw [this] at hR
    exact gR_now hR
theorem pure_far_end (K : PySem.W.Frag) : ∀ ps S R Z, ps.length = 2 → sp_far_end K ps S R Z → w_far_end K (fin R Z) (startP n_far_end ps) S := by
  intro ps S R Z hl h
  obtain ⟨r, x, rfl, hR⟩ := h
  have e : startP n_far_end [roadP r, .str x] = [some (roadP r), some (.str x)] := rfl
  rw [e]
  simp -implicitDefEqProofs only [w_far_end, ↓Qa, ↓Qb, ↓Qc, ↓Qd, ↓Qe, ↓Qg, ↓Qh, ↓Qi, ↓Qj, ↓Qk, ↓Ql, ↓par2_two, ↓Qm, ↓Qn, ↓Qo, ↓Qp, ↓Qq, ↓Qr, ↓Qs, ↓Qt, ↓Qu, ↓Qv, ↓Qw, ↓Qx, ↓Qy, ↓Qz, ↓Q0, ↓truK_bl, ↓Q3, ↓Q4, ↓Q5, ↓Q6, ↓chK_bl, ↓Q7, ↓Q8, ↓Q9, ↓Ya, ↓Yb, ↓Yc, ↓Yd, ↓Ye, ↓Yf, ↓Yg, ↓Yh, ↓Yi, ↓Yj, ↓Yk, ↓Ym, ↓Yn, ↓Yo, ↓Yp, ↓Yq, ↓Yr, ↓Ys, ↓Yt, ↓Yu, ↓Yv, ↓Yw, ↓Yx, ↓Yy, ↓Yz, ↓Y0, ↓Y1, ↓Y2, ↓Y3, ↓Y4, ↓Y5, ↓Y6, ↓Y7, ↓Y8, ↓Y9, ↓Ja, ↓Jb, ↓Jc, ↓Jd, ↓Je, ↓Jf, ↓Jg, ↓Jh, ↓Ji, ↓Jj, ↓Jk, ↓Jl, ↓Jm, ↓Jn, ↓Jo, ↓Jp, ↓Jq, ↓Jr, ↓Js, ↓Jt, ↓Ju, ↓Jw, ↓Jx, ↓Jy, ↓Jz, ↓J1, ↓J2, ↓J3, ↓J4, ↓J5, ↓J6, ↓J7, ↓J8, ↓J9, ↓Qaa, ↓Qab, ↓Qac, ↓Qad, ↓Qae, ↓par3_three, ↓Qaf, ↓Qag, ↓Qah, ↓Qai, ↓Qaj, ↓Qak, ↓Qal, ↓Qam, ↓Qan, ↓Qao, ↓Qap, ↓Qaq, ↓Qar, ↓Qas, ↓Qat, ↓Qau, ↓Qav, ↓Qaw, ↓Qax, ↓Qay, ↓Qaz, ↓Qa0, ↓Qa1, ↓Qa2, ↓Qa3, ↓Qa4, ↓Qa5, ↓Qa6, ↓Qa7, ↓Qa8, ↓Qa9, ↓Qba, ↓Qbb, ↓Qbc, ↓Qbd, ↓Qbe, ↓Qbf, ↓Qbg, ↓Qbh, ↓Qbi, ↓Qbj, ↓Qbk, ↓Qbl, List.set_cons_zero, List.set_cons_succ, wipeP, ix_road]
  refine ⟨.str r.bgn, rfl, ?_⟩
  simp -implicitDefEqProofs only [↓Qa, ↓Qb, ↓Qc, ↓Qd, ↓Qe, ↓Qg, ↓Qh, ↓Qi, ↓Qj, ↓Qk, ↓Ql, ↓par2_two, ↓Qm, ↓Qn, ↓Qo, ↓Qp, ↓Qq, ↓Qr, ↓Qs, ↓Qt, ↓Qu, ↓Qv, ↓Qw, ↓Qx, ↓Qy, ↓Qz, ↓Q0, ↓truK_bl, ↓Q3, ↓Q4, ↓Q5, ↓Q6, ↓chK_bl, ↓Q7, ↓Q8, ↓Q9, ↓Ya, ↓Yb, ↓Yc, ↓Yd, ↓Ye, ↓Yf, ↓Yg, ↓Yh, ↓Yi, ↓Yj, ↓Yk, ↓Ym, ↓Yn, ↓Yo, ↓Yp, ↓Yq, ↓Yr, ↓Ys, ↓Yt, ↓Yu, ↓Yv, ↓Yw, ↓Yx, ↓Yy, ↓Yz, ↓Y0, ↓Y1, ↓Y2, ↓Y3, ↓Y4, ↓Y5, ↓Y6, ↓Y7, ↓Y8, ↓Y9, ↓Ja, ↓Jb, ↓Jc, ↓Jd, ↓Je, ↓Jf, ↓Jg, ↓Jh, ↓Ji, ↓Jj, ↓Jk, ↓Jl, ↓Jm, ↓Jn, ↓Jo, ↓Jp, ↓Jq, ↓Jr, ↓Js, ↓Jt, ↓Ju, ↓Jw, ↓Jx, ↓Jy, ↓Jz, ↓J1, ↓J2, ↓J3, ↓J4, ↓J5, ↓J6, ↓J7, ↓J8, ↓J9, ↓Qaa, ↓Qab, ↓Qac, ↓Qad, ↓Qae, ↓par3_three, ↓Qaf, ↓Qag, ↓Qah, ↓Qai, ↓Qaj, ↓Qak, ↓Qal, ↓Qam, ↓Qan, ↓Qao, ↓Qap, ↓Qaq, ↓Qar, ↓Qas, ↓Qat, ↓Qau, ↓Qav, ↓Qaw, ↓Qax, ↓Qay, ↓Qaz, ↓Qa0, ↓Qa1, ↓Qa2, ↓Qa3, ↓Qa4, ↓Qa5, ↓Qa6, ↓Qa7, ↓Qa8, ↓Qa9, ↓Qba, ↓Qbb, ↓Qbc, ↓Qbd, ↓Qbe, ↓Qbf, ↓Qbg, ↓Qbh, ↓Qbi, ↓Qbj, ↓Qbk, ↓Qbl, List.set_cons_zero, List.set_cons_succ, wipeP, Bool.bne_false]
  by_cases h : r.bgn = x
  · rw [if_pos h] at hR
    rw [decide_eq_true h]
    simp only [if_true]
    exact ⟨_, rfl, gR_now hR⟩
  · rw [if_neg h] at hR
    rw [decide_eq_false h]
    simp only [Bool.false_eq_true, if_false]
    exact ⟨_, rfl, gR_now hR⟩
theorem dgetR {rs : List Road} {n : Str} : dget (namedP rs) (.inr n) = (findR rs n).map roadP := dget_namedP
theorem findR_none {rs : List Road} {n : Str} (h : findR rs n = none) : n ∉ rs.map Road.name := fun z => by
  obtain ⟨q, hq, e⟩ := List.mem_map.mp z
  exact absurd (List.find?_eq_none.mp h q hq) (by simp [e])
theorem findR_some {rs : List Road} {n : Str} {q : Road} (h : findR rs n = some q) : n ∈ rs.map Road.name := List.mem_map.mpr ⟨q, (find_name h).1, (find_name h).2⟩
theorem goR_cons {rs : List Road} {b : Bool} {x n : Str} {ns : List Str} : goR rs b x (n :: ns) = match findR rs n with
    | none => none
    | some q => if q.bgn = x then (goR rs b q.fin ns).map (q.fin :: ·) else if b = true ∧ q.fin = x then (goR rs b q.bgn ns).map (q.bgn :: ·) else none := rfl
theorem mapmap {o : Option (List Str)} {acc : List Str} {y : Str} : (o.map (y :: ·)).map (acc ++ ·) = o.map ((acc ++ [y]) ++ ·) := by
  cases o with
  | none => rfl
  | some w => simp
/-- the shape of the loops: found holds acc ++ [x] -/
def Led (b : Addr) (S S' : Sto) (acc : List Str) (x : Str) : Prop := S' b = some (.lst ((acc ++ [x]).map PV.str)) ∧ ∀ y, y ≠ b → S' y = S y
theorem Led.ix {b : Addr} {S S' : Sto} {acc : List Str} {x : Str} (h : Led b S S' acc x) {R : RK} (hR : R (.str x) S') : kIx (.ref b) (.int (-1)) S' R := by
  rw [k_ix_ref h.1, List.map_append, List.map_singleton, atI_last]
  exact ⟨_, rfl, hR⟩
theorem Led.app {b : Addr} {S S' : Sto} {acc : List Str} {x y : Str} (h : Led b S S' acc x) : Led b S (updS S' b (.lst ((acc ++ [x]).map PV.str ++ [.str y]))) (acc ++ [x]) y := ⟨by
  rw [updS_same, List.map_append (l₂ := [y])]; rfl, fun z hz => by rw [updS_ne hz]; exact h.2 z hz⟩
theorem Led.out {b : Addr} {S S' : Sto} {acc : List Str} {x : Str} (h : Led b S S' acc x) (hb : S b = none) {R : RK} {p : PV} (hR : R p S) : gR R p S' := gR_end (fun y o e => by
  have : y ≠ b := fun z => by rw [z, hb] at e; cases e
  rw [h.2 y this]; exact e) hR
theorem pure_raw_ends (K : PySem.W.Frag) : ∀ ps S R Z, ps.length = 3 → sp_raw_ends K ps S R Z → w_raw_ends K (fin R Z) (startP n_raw_ends ps) S := by
  intro ps S R Z hl h
  obtain ⟨C, ts, rs, x, ns, rfl, hC, hn, hR⟩ := h
  have e : startP n_raw_ends [netP C ts rs, .str x, townsP ns] = [some (netP C ts rs), some (.str x), some (townsP ns), none, none] := rfl
  rw [e]
  simp -implicitDefEqProofs only [w_raw_ends, ↓Qa, ↓Qb, ↓Qc, ↓Qd, ↓Qe, ↓Qg, ↓Qh, ↓Qi, ↓Qj, ↓Qk, ↓Ql, ↓par2_two, ↓Qm, ↓Qn, ↓Qo, ↓Qp, ↓Qq, ↓Qr, ↓Qs, ↓Qt, ↓Qu, ↓Qv, ↓Qw, ↓Qx, ↓Qy, ↓Qz, ↓Q0, ↓truK_bl, ↓Q3, ↓Q4, ↓Q5, ↓Q6, ↓chK_bl, ↓Q7, ↓Q8, ↓Q9, ↓Ya, ↓Yb, ↓Yc, ↓Yd, ↓Ye, ↓Yf, ↓Yg, ↓Yh, ↓Yi, ↓Yj, ↓Yk, ↓Ym, ↓Yn, ↓Yo, ↓Yp, ↓Yq, ↓Yr, ↓Ys, ↓Yt, ↓Yu, ↓Yv, ↓Yw, ↓Yx, ↓Yy, ↓Yz, ↓Y0, ↓Y1, ↓Y2, ↓Y3, ↓Y4, ↓Y5, ↓Y6, ↓Y7, ↓Y8, ↓Y9, ↓Ja, ↓Jb, ↓Jc, ↓Jd, ↓Je, ↓Jf, ↓Jg, ↓Jh, ↓Ji, ↓Jj, ↓Jk, ↓Jl, ↓Jm, ↓Jn, ↓Jo, ↓Jp, ↓Jq, ↓Jr, ↓Js, ↓Jt, ↓Ju, ↓Jw, ↓Jx, ↓Jy, ↓Jz, ↓J1, ↓J2, ↓J3, ↓J4, ↓J5, ↓J6, ↓J7, ↓J8, ↓J9, ↓Qaa, ↓Qab, ↓Qac, ↓Qad, ↓Qae, ↓par3_three, ↓Qaf, ↓Qag, ↓Qah, ↓Qai, ↓Qaj, ↓Qak, ↓Qal, ↓Qam, ↓Qan, ↓Qao, ↓Qap, ↓Qaq, ↓Qar, ↓Qas, ↓Qat, ↓Qau, ↓Qav, ↓Qaw, ↓Qax, ↓Qay, ↓Qaz, ↓Qa0, ↓Qa1, ↓Qa2, ↓Qa3, ↓Qa4, ↓Qa5, ↓Qa6, ↓Qa7, ↓Qa8, ↓Qa9, ↓Qba, ↓Qbb, ↓Qbc, ↓Qbd, ↓Qbe, ↓Qbf, ↓Qbg, ↓Qbh, ↓Qbi, ↓Qbj, ↓Qbk, ↓Qbl, List.set_cons_zero, List.set_cons_succ, wipeP]
  refine ⟨sz0 (by simp), fun b hb => ?_⟩
  simp -implicitDefEqProofs only [w_raw_ends_3, ↓Qa, ↓Qb, ↓Qc, ↓Qd, ↓Qe, ↓Qg, ↓Qh, ↓Qi, ↓Qj, ↓Qk, ↓Ql, ↓par2_two, ↓Qm, ↓Qn, ↓Qo, ↓Qp, ↓Qq, ↓Qr, ↓Qs, ↓Qt, ↓Qu, ↓Qv, ↓Qw, ↓Qx, ↓Qy, ↓Qz, ↓Q0, ↓truK_bl, ↓Q3, ↓Q4, ↓Q5, ↓Q6, ↓chK_bl, ↓Q7, ↓Q8, ↓Q9, ↓Ya, ↓Yb, ↓Yc, ↓Yd, ↓Ye, ↓Yf, ↓Yg, ↓Yh, ↓Yi, ↓Yj, ↓Yk, ↓Ym, ↓Yn, ↓Yo, ↓Yp, ↓Yq, ↓Yr, ↓Ys, ↓Yt, ↓Yu, ↓Yv, ↓Yw, ↓Yx, ↓Yy, ↓Yz, ↓Y0, ↓Y1, ↓Y2, ↓Y3, ↓Y4, ↓Y5, ↓Y6, ↓Y7, ↓Y8, ↓Y9, ↓Ja, ↓Jb, ↓Jc, ↓Jd, ↓Je, ↓Jf, ↓Jg, ↓Jh, ↓Ji, ↓Jj, ↓Jk, ↓Jl, ↓Jm, ↓Jn, ↓Jo, ↓Jp, ↓Jq, ↓Jr, ↓Js, ↓Jt, ↓Ju, ↓Jw, ↓Jx, ↓Jy, ↓Jz, ↓J1, ↓J2, ↓J3, ↓J4, ↓J5, ↓J6, ↓J7, ↓J8, ↓J9, ↓Qaa, ↓Qab, ↓Qac, ↓Qad, ↓Qae, ↓par3_three, ↓Qaf, ↓Qag, ↓Qah, ↓Qai, ↓Qaj, ↓Qak, ↓Qal, ↓Qam, ↓Qan, ↓Qao, ↓Qap, ↓Qaq, ↓Qar, ↓Qas, ↓Qat, ↓Qau, ↓Qav, ↓Qaw, ↓Qax, ↓Qay, ↓Qaz, ↓Qa0, ↓Qa1, ↓Qa2, ↓Qa3, ↓Qa4, ↓Qa5, ↓Qa6, ↓Qa7, ↓Qa8, ↓Qa9, ↓Qba, ↓Qbb, ↓Qbc, ↓Qbd, ↓Qbe, ↓Qbf, ↓Qbg, ↓Qbh, ↓Qbi, ↓Qbj, ↓Qbk, ↓Qbl, List.set_cons_zero, List.set_cons_succ, wipeP, it_towns]
  have e0 : wayR rs false x ns = (goR rs false x ns).map (([] ++ [x]) ++ ·) := rfl
  refine wForL_inv PV.str (fun rest ρ S' => ∃ acc y x4, Led b S S' acc y ∧ acc.length + rest.length ≤ 1000 ∧ wayR rs false x ns = (goR rs false y rest).map ((acc ++ [y]) ++ ·) ∧ ρ = [some (netP C ts rs), some (.str x), some (townsP ns), some (.ref b), x4])
    (fun n rest ρ S' ⟨acc, y, x4, L, l, eg, er⟩ => ⟨trivial, fun N hN => ?_⟩) (fun ρ S' ⟨acc, y, x4, L, l, eg, er⟩ => ⟨trivial, ?_⟩) ns _ _ ⟨[], x, none, ⟨updS_same, fun y hy => updS_ne hy⟩, by simpa using hn, e0, rfl⟩
  · subst er
    rw [goR_cons] at eg
    rw [List.length_cons] at l
    simp -implicitDefEqProofs only [w_raw_ends_1, ↓Qa, ↓Qb, ↓Qc, ↓Qd, ↓Qe, ↓Qg, ↓Qh, ↓Qi, ↓Qj, ↓Qk, ↓Ql, ↓par2_two, ↓Qm, ↓Qn, ↓Qo, ↓Qp, ↓Qq, ↓Qr, ↓Qs, ↓Qt, ↓Qu, ↓Qv, ↓Qw, ↓Qx, ↓Qy, ↓Qz, ↓Q0, ↓truK_bl, ↓Q3, ↓Q4, ↓Q5, ↓Q6, ↓chK_bl, ↓Q7, ↓Q8, ↓Q9, ↓Ya, ↓Yb, ↓Yc, ↓Yd, ↓Ye, ↓Yf, ↓Yg, ↓Yh, ↓Yi, ↓Yj, ↓Yk, ↓Ym, ↓Yn, ↓Yo, ↓Yp, ↓Yq, ↓Yr, ↓Ys, ↓Yt, ↓Yu, ↓Yv, ↓Yw, ↓Yx, ↓Yy, ↓Yz, ↓Y0, ↓Y1, ↓Y2, ↓Y3, ↓Y4, ↓Y5, ↓Y6, ↓Y7, ↓Y8, ↓Y9, ↓Ja, ↓Jb, ↓Jc, ↓Jd, ↓Je, ↓Jf, ↓Jg, ↓Jh, ↓Ji, ↓Jj, ↓Jk, ↓Jl, ↓Jm, ↓Jn, ↓Jo, ↓Jp, ↓Jq, ↓Jr, ↓Js, ↓Jt, ↓Ju, ↓Jw, ↓Jx, ↓Jy, ↓Jz, ↓J1, ↓J2, ↓J3, ↓J4, ↓J5, ↓J6, ↓J7, ↓J8, ↓J9, ↓Qaa, ↓Qab, ↓Qac, ↓Qad, ↓Qae, ↓par3_three, ↓Qaf, ↓Qag, ↓Qah, ↓Qai, ↓Qaj, ↓Qak, ↓Qal, ↓Qam, ↓Qan, ↓Qao, ↓Qap, ↓Qaq, ↓Qar, ↓Qas, ↓Qat, ↓Qau, ↓Qav, ↓Qaw, ↓Qax, ↓Qay, ↓Qaz, ↓Qa0, ↓Qa1, ↓Qa2, ↓Qa3, ↓Qa4, ↓Qa5, ↓Qa6, ↓Qa7, ↓Qa8, ↓Qa9, ↓Qba, ↓Qbb, ↓Qbc, ↓Qbd, ↓Qbe, ↓Qbf, ↓Qbg, ↓Qbh, ↓Qbi, ↓Qbj, ↓Qbk, ↓Qbl, List.set_cons_zero, List.set_cons_succ, wipeP, f_named hC, J9, dget_named]
    cases hf : findR rs n with
    | none =>
      rw [hf] at eg
      rw [decide_eq_false (findR_none hf)]
      simp -implicitDefEqProofs only [↓Qa, ↓Qb, ↓Qc, ↓Qd, ↓Qe, ↓Qg, ↓Qh, ↓Qi, ↓Qj, ↓Qk, ↓Ql, ↓par2_two, ↓Qm, ↓Qn, ↓Qo, ↓Qp, ↓Qq, ↓Qr, ↓Qs, ↓Qt, ↓Qu, ↓Qv, ↓Qw, ↓Qx, ↓Qy, ↓Qz, ↓Q0, ↓truK_bl, ↓Q3, ↓Q4, ↓Q5, ↓Q6, ↓chK_bl, ↓Q7, ↓Q8, ↓Q9, ↓Ya, ↓Yb, ↓Yc, ↓Yd, ↓Ye, ↓Yf, ↓Yg, ↓Yh, ↓Yi, ↓Yj, ↓Yk, ↓Ym, ↓Yn, ↓Yo, ↓Yp, ↓Yq, ↓Yr, ↓Ys, ↓Yt, ↓Yu, ↓Yv, ↓Yw, ↓Yx, ↓Yy, ↓Yz, ↓Y0, ↓Y1, ↓Y2, ↓Y3, ↓Y4, ↓Y5, ↓Y6, ↓Y7, ↓Y8, ↓Y9, ↓Ja, ↓Jb, ↓Jc, ↓Jd, ↓Je, ↓Jf, ↓Jg, ↓Jh, ↓Ji, ↓Jj, ↓Jk, ↓Jl, ↓Jm, ↓Jn, ↓Jo, ↓Jp, ↓Jq, ↓Jr, ↓Js, ↓Jt, ↓Ju, ↓Jw, ↓Jx, ↓Jy, ↓Jz, ↓J1, ↓J2, ↓J3, ↓J4, ↓J5, ↓J6, ↓J7, ↓J8, ↓J9, ↓Qaa, ↓Qab, ↓Qac, ↓Qad, ↓Qae, ↓par3_three, ↓Qaf, ↓Qag, ↓Qah, ↓Qai, ↓Qaj, ↓Qak, ↓Qal, ↓Qam, ↓Qan, ↓Qao, ↓Qap, ↓Qaq, ↓Qar, ↓Qas, ↓Qat, ↓Qau, ↓Qav, ↓Qaw, ↓Qax, ↓Qay, ↓Qaz, ↓Qa0, ↓Qa1, ↓Qa2, ↓Qa3, ↓Qa4, ↓Qa5, ↓Qa6, ↓Qa7, ↓Qa8, ↓Qa9, ↓Qba, ↓Qbb, ↓Qbc, ↓Qbd, ↓Qbe, ↓Qbf, ↓Qbg, ↓Qbh, ↓Qbi, ↓Qbj, ↓Qbk, ↓Qbl, List.set_cons_zero, List.set_cons_succ, wipeP, Bool.bne_true, Bool.not_false, if_true]
      rw [eg] at hR
      exact L.out hb hR
    | some q =>
      rw [hf] at eg
      dsimp only at eg
      rw [decide_eq_true (findR_some hf)]
      simp -implicitDefEqProofs only [↓Qa, ↓Qb, ↓Qc, ↓Qd, ↓Qe, ↓Qg, ↓Qh, ↓Qi, ↓Qj, ↓Qk, ↓Ql, ↓par2_two, ↓Qm, ↓Qn, ↓Qo, ↓Qp, ↓Qq, ↓Qr, ↓Qs, ↓Qt, ↓Qu, ↓Qv, ↓Qw, ↓Qx, ↓Qy, ↓Qz, ↓Q0, ↓truK_bl, ↓Q3, ↓Q4, ↓Q5, ↓Q6, ↓chK_bl, ↓Q7, ↓Q8, ↓Q9, ↓Ya, ↓Yb, ↓Yc, ↓Yd, ↓Ye, ↓Yf, ↓Yg, ↓Yh, ↓Yi, ↓Yj, ↓Yk, ↓Ym, ↓Yn, ↓Yo, ↓Yp, ↓Yq, ↓Yr, ↓Ys, ↓Yt, ↓Yu, ↓Yv, ↓Yw, ↓Yx, ↓Yy, ↓Yz, ↓Y0, ↓Y1, ↓Y2, ↓Y3, ↓Y4, ↓Y5, ↓Y6, ↓Y7, ↓Y8, ↓Y9, ↓Ja, ↓Jb, ↓Jc, ↓Jd, ↓Je, ↓Jf, ↓Jg, ↓Jh, ↓Ji, ↓Jj, ↓Jk, ↓Jl, ↓Jm, ↓Jn, ↓Jo, ↓Jp, ↓Jq, ↓Jr, ↓Js, ↓Jt, ↓Ju, ↓Jw, ↓Jx, ↓Jy, ↓Jz, ↓J1, ↓J2, ↓J3, ↓J4, ↓J5, ↓J6, ↓J7, ↓J8, ↓J9, ↓Qaa, ↓Qab, ↓Qac, ↓Qad, ↓Qae, ↓par3_three, ↓Qaf, ↓Qag, ↓Qah, ↓Qai, ↓Qaj, ↓Qak, ↓Qal, ↓Qam, ↓Qan, ↓Qao, ↓Qap, ↓Qaq, ↓Qar, ↓Qas, ↓Qat, ↓Qau, ↓Qav, ↓Qaw, ↓Qax, ↓Qay, ↓Qaz, ↓Qa0, ↓Qa1, ↓Qa2, ↓Qa3, ↓Qa4, ↓Qa5, ↓Qa6, ↓Qa7, ↓Qa8, ↓Qa9, ↓Qba, ↓Qbb, ↓Qbc, ↓Qbd, ↓Qbe, ↓Qbf, ↓Qbg, ↓Qbh, ↓Qbi, ↓Qbj, ↓Qbk, ↓Qbl, List.set_cons_zero, List.set_cons_succ, wipeP, Bool.bne_true, Bool.not_true, Bool.false_eq_true, if_false, f_named hC, dgetR, hf, Option.map_some]
      refine ⟨roadP q, rfl, ?_⟩
      rw [ix_road]
      refine ⟨.str q.bgn, rfl, L.ix ?_⟩
      simp -implicitDefEqProofs only [↓Qa, ↓Qb, ↓Qc, ↓Qd, ↓Qe, ↓Qg, ↓Qh, ↓Qi, ↓Qj, ↓Qk, ↓Ql, ↓par2_two, ↓Qm, ↓Qn, ↓Qo, ↓Qp, ↓Qq, ↓Qr, ↓Qs, ↓Qt, ↓Qu, ↓Qv, ↓Qw, ↓Qx, ↓Qy, ↓Qz, ↓Q0, ↓truK_bl, ↓Q3, ↓Q4, ↓Q5, ↓Q6, ↓chK_bl, ↓Q7, ↓Q8, ↓Q9, ↓Ya, ↓Yb, ↓Yc, ↓Yd, ↓Ye, ↓Yf, ↓Yg, ↓Yh, ↓Yi, ↓Yj, ↓Yk, ↓Ym, ↓Yn, ↓Yo, ↓Yp, ↓Yq, ↓Yr, ↓Ys, ↓Yt, ↓Yu, ↓Yv, ↓Yw, ↓Yx, ↓Yy, ↓Yz, ↓Y0, ↓Y1, ↓Y2, ↓Y3, ↓Y4, ↓Y5, ↓Y6, ↓Y7, ↓Y8, ↓Y9, ↓Ja, ↓Jb, ↓Jc, ↓Jd, ↓Je, ↓Jf, ↓Jg, ↓Jh, ↓Ji, ↓Jj, ↓Jk, ↓Jl, ↓Jm, ↓Jn, ↓Jo, ↓Jp, ↓Jq, ↓Jr, ↓Js, ↓Jt, ↓Ju, ↓Jw, ↓Jx, ↓Jy, ↓Jz, ↓J1, ↓J2, ↓J3, ↓J4, ↓J5, ↓J6, ↓J7, ↓J8, ↓J9, ↓Qaa, ↓Qab, ↓Qac, ↓Qad, ↓Qae, ↓par3_three, ↓Qaf, ↓Qag, ↓Qah, ↓Qai, ↓Qaj, ↓Qak, ↓Qal, ↓Qam, ↓Qan, ↓Qao, ↓Qap, ↓Qaq, ↓Qar, ↓Qas, ↓Qat, ↓Qau, ↓Qav, ↓Qaw, ↓Qax, ↓Qay, ↓Qaz, ↓Qa0, ↓Qa1, ↓Qa2, ↓Qa3, ↓Qa4, ↓Qa5, ↓Qa6, ↓Qa7, ↓Qa8, ↓Qa9, ↓Qba, ↓Qbb, ↓Qbc, ↓Qbd, ↓Qbe, ↓Qbf, ↓Qbg, ↓Qbh, ↓Qbi, ↓Qbj, ↓Qbk, ↓Qbl, List.set_cons_zero, List.set_cons_succ, wipeP]
      by_cases hq : q.bgn = y
      · rw [if_pos hq, mapmap] at eg
        rw [decide_eq_true hq]
        simp -implicitDefEqProofs only [↓Qa, ↓Qb, ↓Qc, ↓Qd, ↓Qe, ↓Qg, ↓Qh, ↓Qi, ↓Qj, ↓Qk, ↓Ql, ↓par2_two, ↓Qm, ↓Qn, ↓Qo, ↓Qp, ↓Qq, ↓Qr, ↓Qs, ↓Qt, ↓Qu, ↓Qv, ↓Qw, ↓Qx, ↓Qy, ↓Qz, ↓Q0, ↓truK_bl, ↓Q3, ↓Q4, ↓Q5, ↓Q6, ↓chK_bl, ↓Q7, ↓Q8, ↓Q9, ↓Ya, ↓Yb, ↓Yc, ↓Yd, ↓Ye, ↓Yf, ↓Yg, ↓Yh, ↓Yi, ↓Yj, ↓Yk, ↓Ym, ↓Yn, ↓Yo, ↓Yp, ↓Yq, ↓Yr, ↓Ys, ↓Yt, ↓Yu, ↓Yv, ↓Yw, ↓Yx, ↓Yy, ↓Yz, ↓Y0, ↓Y1, ↓Y2, ↓Y3, ↓Y4, ↓Y5, ↓Y6, ↓Y7, ↓Y8, ↓Y9, ↓Ja, ↓Jb, ↓Jc, ↓Jd, ↓Je, ↓Jf, ↓Jg, ↓Jh, ↓Ji, ↓Jj, ↓Jk, ↓Jl, ↓Jm, ↓Jn, ↓Jo, ↓Jp, ↓Jq, ↓Jr, ↓Js, ↓Jt, ↓Ju, ↓Jw, ↓Jx, ↓Jy, ↓Jz, ↓J1, ↓J2, ↓J3, ↓J4, ↓J5, ↓J6, ↓J7, ↓J8, ↓J9, ↓Qaa, ↓Qab, ↓Qac, ↓Qad, ↓Qae, ↓par3_three, ↓Qaf, ↓Qag, ↓Qah, ↓Qai, ↓Qaj, ↓Qak, ↓Qal, ↓Qam, ↓Qan, ↓Qao, ↓Qap, ↓Qaq, ↓Qar, ↓Qas, ↓Qat, ↓Qau, ↓Qav, ↓Qaw, ↓Qax, ↓Qay, ↓Qaz, ↓Qa0, ↓Qa1, ↓Qa2, ↓Qa3, ↓Qa4, ↓Qa5, ↓Qa6, ↓Qa7, ↓Qa8, ↓Qa9, ↓Qba, ↓Qbb, ↓Qbc, ↓Qbd, ↓Qbe, ↓Qbf, ↓Qbg, ↓Qbh, ↓Qbi, ↓Qbj, ↓Qbk, ↓Qbl, List.set_cons_zero, List.set_cons_succ, wipeP, Bool.bne_true, Bool.not_true, Bool.false_eq_true, if_false, f_named hC]
        refine ⟨by rw [k_tyB_ref L.1]; trivial, roadP q, rfl, ?_⟩
        rw [ix_road]
        refine ⟨.str q.fin, rfl, ?_⟩
        rw [k_app L.1]
        exact ⟨by rw [List.length_map, List.length_append, sizeLine_eq]; simp; omega, hN _ _ ⟨acc ++ [y], q.fin, _, L.app, by rw [List.length_append, List.length_singleton]; omega, eg, rfl⟩⟩
      · rw [if_neg hq, if_neg (fun z => by cases z.1)] at eg
        rw [decide_eq_false hq]
        simp -implicitDefEqProofs only [↓Qa, ↓Qb, ↓Qc, ↓Qd, ↓Qe, ↓Qg, ↓Qh, ↓Qi, ↓Qj, ↓Qk, ↓Ql, ↓par2_two, ↓Qm, ↓Qn, ↓Qo, ↓Qp, ↓Qq, ↓Qr, ↓Qs, ↓Qt, ↓Qu, ↓Qv, ↓Qw, ↓Qx, ↓Qy, ↓Qz, ↓Q0, ↓truK_bl, ↓Q3, ↓Q4, ↓Q5, ↓Q6, ↓chK_bl, ↓Q7, ↓Q8, ↓Q9, ↓Ya, ↓Yb, ↓Yc, ↓Yd, ↓Ye, ↓Yf, ↓Yg, ↓Yh, ↓Yi, ↓Yj, ↓Yk, ↓Ym, ↓Yn, ↓Yo, ↓Yp, ↓Yq, ↓Yr, ↓Ys, ↓Yt, ↓Yu, ↓Yv, ↓Yw, ↓Yx, ↓Yy, ↓Yz, ↓Y0, ↓Y1, ↓Y2, ↓Y3, ↓Y4, ↓Y5, ↓Y6, ↓Y7, ↓Y8, ↓Y9, ↓Ja, ↓Jb, ↓Jc, ↓Jd, ↓Je, ↓Jf, ↓Jg, ↓Jh, ↓Ji, ↓Jj, ↓Jk, ↓Jl, ↓Jm, ↓Jn, ↓Jo, ↓Jp, ↓Jq, ↓Jr, ↓Js, ↓Jt, ↓Ju, ↓Jw, ↓Jx, ↓Jy, ↓Jz, ↓J1, ↓J2, ↓J3, ↓J4, ↓J5, ↓J6, ↓J7, ↓J8, ↓J9, ↓Qaa, ↓Qab, ↓Qac, ↓Qad, ↓Qae, ↓par3_three, ↓Qaf, ↓Qag, ↓Qah, ↓Qai, ↓Qaj, ↓Qak, ↓Qal, ↓Qam, ↓Qan, ↓Qao, ↓Qap, ↓Qaq, ↓Qar, ↓Qas, ↓Qat, ↓Qau, ↓Qav, ↓Qaw, ↓Qax, ↓Qay, ↓Qaz, ↓Qa0, ↓Qa1, ↓Qa2, ↓Qa3, ↓Qa4, ↓Qa5, ↓Qa6, ↓Qa7, ↓Qa8, ↓Qa9, ↓Qba, ↓Qbb, ↓Qbc, ↓Qbd, ↓Qbe, ↓Qbf, ↓Qbg, ↓Qbh, ↓Qbi, ↓Qbj, ↓Qbk, ↓Qbl, List.set_cons_zero, List.set_cons_succ, wipeP, Bool.bne_true, Bool.not_false, if_true]
        rw [eg] at hR
        exact L.out hb hR
  · subst er
    simp -implicitDefEqProofs only [w_raw_ends_2, ↓Qa, ↓Qb, ↓Qc, ↓Qd, ↓Qe, ↓Qg, ↓Qh, ↓Qi, ↓Qj, ↓Qk, ↓Ql, ↓par2_two, ↓Qm, ↓Qn, ↓Qo, ↓Qp, ↓Qq, ↓Qr, ↓Qs, ↓Qt, ↓Qu, ↓Qv, ↓Qw, ↓Qx, ↓Qy, ↓Qz, ↓Q0, ↓truK_bl, ↓Q3, ↓Q4, ↓Q5, ↓Q6, ↓chK_bl, ↓Q7, ↓Q8, ↓Q9, ↓Ya, ↓Yb, ↓Yc, ↓Yd, ↓Ye, ↓Yf, ↓Yg, ↓Yh, ↓Yi, ↓Yj, ↓Yk, ↓Ym, ↓Yn, ↓Yo, ↓Yp, ↓Yq, ↓Yr, ↓Ys, ↓Yt, ↓Yu, ↓Yv, ↓Yw, ↓Yx, ↓Yy, ↓Yz, ↓Y0, ↓Y1, ↓Y2, ↓Y3, ↓Y4, ↓Y5, ↓Y6, ↓Y7, ↓Y8, ↓Y9, ↓Ja, ↓Jb, ↓Jc, ↓Jd, ↓Je, ↓Jf, ↓Jg, ↓Jh, ↓Ji, ↓Jj, ↓Jk, ↓Jl, ↓Jm, ↓Jn, ↓Jo, ↓Jp, ↓Jq, ↓Jr, ↓Js, ↓Jt, ↓Ju, ↓Jw, ↓Jx, ↓Jy, ↓Jz, ↓J1, ↓J2, ↓J3, ↓J4, ↓J5, ↓J6, ↓J7, ↓J8, ↓J9, ↓Qaa, ↓Qab, ↓Qac, ↓Qad, ↓Qae, ↓par3_three, ↓Qaf, ↓Qag, ↓Qah, ↓Qai, ↓Qaj, ↓Qak, ↓Qal, ↓Qam, ↓Qan, ↓Qao, ↓Qap, ↓Qaq, ↓Qar, ↓Qas, ↓Qat, ↓Qau, ↓Qav, ↓Qaw, ↓Qax, ↓Qay, ↓Qaz, ↓Qa0, ↓Qa1, ↓Qa2, ↓Qa3, ↓Qa4, ↓Qa5, ↓Qa6, ↓Qa7, ↓Qa8, ↓Qa9, ↓Qba, ↓Qbb, ↓Qbc, ↓Qbd, ↓Qbe, ↓Qbf, ↓Qbg, ↓Qbh, ↓Qbi, ↓Qbj, ↓Qbk, ↓Qbl, List.set_cons_zero, List.set_cons_succ, wipeP, k_tup_ref L.1]
    have eg : wayR rs false x ns = some ((acc ++ [y]) ++ []) := eg
    rw [eg, List.append_nil] at hR
    exact L.out hb hR
theorem pure_raw_walked (K : PySem.W.Frag) : ∀ ps S R Z, ps.length = 3 → sp_raw_walked K ps S R Z → w_raw_walked K (fin R Z) (startP n_raw_walked ps) S := by
  intro ps S R Z hl h
  obtain ⟨C, ts, rs, x, ns, rfl, hC, hn, hR⟩ := h
  have e : startP n_raw_walked [netP C ts rs, .str x, townsP ns] = [some (netP C ts rs), some (.str x), some (townsP ns), none, none] := rfl
  rw [e]
  simp -implicitDefEqProofs only [w_raw_walked, ↓Qa, ↓Qb, ↓Qc, ↓Qd, ↓Qe, ↓Qg, ↓Qh, ↓Qi, ↓Qj, ↓Qk, ↓Ql, ↓par2_two, ↓Qm, ↓Qn, ↓Qo, ↓Qp, ↓Qq, ↓Qr, ↓Qs, ↓Qt, ↓Qu, ↓Qv, ↓Qw, ↓Qx, ↓Qy, ↓Qz, ↓Q0, ↓truK_bl, ↓Q3, ↓Q4, ↓Q5, ↓Q6, ↓chK_bl, ↓Q7, ↓Q8, ↓Q9, ↓Ya, ↓Yb, ↓Yc, ↓Yd, ↓Ye, ↓Yf, ↓Yg, ↓Yh, ↓Yi, ↓Yj, ↓Yk, ↓Ym, ↓Yn, ↓Yo, ↓Yp, ↓Yq, ↓Yr, ↓Ys, ↓Yt, ↓Yu, ↓Yv, ↓Yw, ↓Yx, ↓Yy, ↓Yz, ↓Y0, ↓Y1, ↓Y2, ↓Y3, ↓Y4, ↓Y5, ↓Y6, ↓Y7, ↓Y8, ↓Y9, ↓Ja, ↓Jb, ↓Jc, ↓Jd, ↓Je, ↓Jf, ↓Jg, ↓Jh, ↓Ji, ↓Jj, ↓Jk, ↓Jl, ↓Jm, ↓Jn, ↓Jo, ↓Jp, ↓Jq, ↓Jr, ↓Js, ↓Jt, ↓Ju, ↓Jw, ↓Jx, ↓Jy, ↓Jz, ↓J1, ↓J2, ↓J3, ↓J4, ↓J5, ↓J6, ↓J7, ↓J8, ↓J9, ↓Qaa, ↓Qab, ↓Qac, ↓Qad, ↓Qae, ↓par3_three, ↓Qaf, ↓Qag, ↓Qah, ↓Qai, ↓Qaj, ↓Qak, ↓Qal, ↓Qam, ↓Qan, ↓Qao, ↓Qap, ↓Qaq, ↓Qar, ↓Qas, ↓Qat, ↓Qau, ↓Qav, ↓Qaw, ↓Qax, ↓Qay, ↓Qaz, ↓Qa0, ↓Qa1, ↓Qa2, ↓Qa3, ↓Qa4, ↓Qa5, ↓Qa6, ↓Qa7, ↓Qa8, ↓Qa9, ↓Qba, ↓Qbb, ↓Qbc, ↓Qbd, ↓Qbe, ↓Qbf, ↓Qbg, ↓Qbh, ↓Qbi, ↓Qbj, ↓Qbk, ↓Qbl, List.set_cons_zero, List.set_cons_succ, wipeP]
  refine ⟨sz0 (by simp), fun b hb => ?_⟩
  simp -implicitDefEqProofs only [w_raw_walked_3, ↓Qa, ↓Qb, ↓Qc, ↓Qd, ↓Qe, ↓Qg, ↓Qh, ↓Qi, ↓Qj, ↓Qk, ↓Ql, ↓par2_two, ↓Qm, ↓Qn, ↓Qo, ↓Qp, ↓Qq, ↓Qr, ↓Qs, ↓Qt, ↓Qu, ↓Qv, ↓Qw, ↓Qx, ↓Qy, ↓Qz, ↓Q0, ↓truK_bl, ↓Q3, ↓Q4, ↓Q5, ↓Q6, ↓chK_bl, ↓Q7, ↓Q8, ↓Q9, ↓Ya, ↓Yb, ↓Yc, ↓Yd, ↓Ye, ↓Yf, ↓Yg, ↓Yh, ↓Yi, ↓Yj, ↓Yk, ↓Ym, ↓Yn, ↓Yo, ↓Yp, ↓Yq, ↓Yr, ↓Ys, ↓Yt, ↓Yu, ↓Yv, ↓Yw, ↓Yx, ↓Yy, ↓Yz, ↓Y0, ↓Y1, ↓Y2, ↓Y3, ↓Y4, ↓Y5, ↓Y6, ↓Y7, ↓Y8, ↓Y9, ↓Ja, ↓Jb, ↓Jc, ↓Jd, ↓Je, ↓Jf, ↓Jg, ↓Jh, ↓Ji, ↓Jj, ↓Jk, ↓Jl, ↓Jm, ↓Jn, ↓Jo, ↓Jp, ↓Jq, ↓Jr, ↓Js, ↓Jt, ↓Ju, ↓Jw, ↓Jx, ↓Jy, ↓Jz, ↓J1, ↓J2, ↓J3, ↓J4, ↓J5, ↓J6, ↓J7, ↓J8, ↓J9, ↓Qaa, ↓Qab, ↓Qac, ↓Qad, ↓Qae, ↓par3_three, ↓Qaf, ↓Qag, ↓Qah, ↓Qai, ↓Qaj, ↓Qak, ↓Qal, ↓Qam, ↓Qan, ↓Qao, ↓Qap, ↓Qaq, ↓Qar, ↓Qas, ↓Qat, ↓Qau, ↓Qav, ↓Qaw, ↓Qax, ↓Qay, ↓Qaz, ↓Qa0, ↓Qa1, ↓Qa2, ↓Qa3, ↓Qa4, ↓Qa5, ↓Qa6, ↓Qa7, ↓Qa8, ↓Qa9, ↓Qba, ↓Qbb, ↓Qbc, ↓Qbd, ↓Qbe, ↓Qbf, ↓Qbg, ↓Qbh, ↓Qbi, ↓Qbj, ↓Qbk, ↓Qbl, List.set_cons_zero, List.set_cons_succ, wipeP, it_towns]
  have e0 : wayR rs true x ns = (goR rs true x ns).map (([] ++ [x]) ++ ·) := rfl
  refine wForL_inv PV.str (fun rest ρ S' => ∃ acc y x4, Led b S S' acc y ∧ acc.length + rest.length ≤ 1000 ∧ wayR rs true x ns = (goR rs true y rest).map ((acc ++ [y]) ++ ·) ∧ ρ = [some (netP C ts rs), some (.str x), some (townsP ns), some (.ref b), x4])
    (fun n rest ρ S' ⟨acc, y, x4, L, l, eg, er⟩ => ⟨trivial, fun N hN => ?_⟩) (fun ρ S' ⟨acc, y, x4, L, l, eg, er⟩ => ⟨trivial, ?_⟩) ns _ _ ⟨[], x, none, ⟨updS_same, fun y hy => updS_ne hy⟩, by simpa using hn, e0, rfl⟩
  · subst er
    rw [goR_cons] at eg
    rw [List.length_cons] at l
    simp -implicitDefEqProofs only [w_raw_walked_1, ↓Qa, ↓Qb, ↓Qc, ↓Qd, ↓Qe, ↓Qg, ↓Qh, ↓Qi, ↓Qj, ↓Qk, ↓Ql, ↓par2_two, ↓Qm, ↓Qn, ↓Qo, ↓Qp, ↓Qq, ↓Qr, ↓Qs, ↓Qt, ↓Qu, ↓Qv, ↓Qw, ↓Qx, ↓Qy, ↓Qz, ↓Q0, ↓truK_bl, ↓Q3, ↓Q4, ↓Q5, ↓Q6, ↓chK_bl, ↓Q7, ↓Q8, ↓Q9, ↓Ya, ↓Yb, ↓Yc, ↓Yd, ↓Ye, ↓Yf, ↓Yg, ↓Yh, ↓Yi, ↓Yj, ↓Yk, ↓Ym, ↓Yn, ↓Yo, ↓Yp, ↓Yq, ↓Yr, ↓Ys, ↓Yt, ↓Yu, ↓Yv, ↓Yw, ↓Yx, ↓Yy, ↓Yz, ↓Y0, ↓Y1, ↓Y2, ↓Y3, ↓Y4, ↓Y5, ↓Y6, ↓Y7, ↓Y8, ↓Y9, ↓Ja, ↓Jb, ↓Jc, ↓Jd, ↓Je, ↓Jf, ↓Jg, ↓Jh, ↓Ji, ↓Jj, ↓Jk, ↓Jl, ↓Jm, ↓Jn, ↓Jo, ↓Jp, ↓Jq, ↓Jr, ↓Js, ↓Jt, ↓Ju, ↓Jw, ↓Jx, ↓Jy, ↓Jz, ↓J1, ↓J2, ↓J3, ↓J4, ↓J5, ↓J6, ↓J7, ↓J8, ↓J9, ↓Qaa, ↓Qab, ↓Qac, ↓Qad, ↓Qae, ↓par3_three, ↓Qaf, ↓Qag, ↓Qah, ↓Qai, ↓Qaj, ↓Qak, ↓Qal, ↓Qam, ↓Qan, ↓Qao, ↓Qap, ↓Qaq, ↓Qar, ↓Qas, ↓Qat, ↓Qau, ↓Qav, ↓Qaw, ↓Qax, ↓Qay, ↓Qaz, ↓Qa0, ↓Qa1, ↓Qa2, ↓Qa3, ↓Qa4, ↓Qa5, ↓Qa6, ↓Qa7, ↓Qa8, ↓Qa9, ↓Qba, ↓Qbb, ↓Qbc, ↓Qbd, ↓Qbe, ↓Qbf, ↓Qbg, ↓Qbh, ↓Qbi, ↓Qbj, ↓Qbk, ↓Qbl, List.set_cons_zero, List.set_cons_succ, wipeP, f_named hC, J9, dget_named]
    cases hf : findR rs n with
    | none =>
      rw [hf] at eg
      rw [decide_eq_false (findR_none hf)]
      simp -implicitDefEqProofs only [↓Qa, ↓Qb, ↓Qc, ↓Qd, ↓Qe, ↓Qg, ↓Qh, ↓Qi, ↓Qj, ↓Qk, ↓Ql, ↓par2_two, ↓Qm, ↓Qn, ↓Qo, ↓Qp, ↓Qq, ↓Qr, ↓Qs, ↓Qt, ↓Qu, ↓Qv, ↓Qw, ↓Qx, ↓Qy, ↓Qz, ↓Q0, ↓truK_bl, ↓Q3, ↓Q4, ↓Q5, ↓Q6, ↓chK_bl, ↓Q7, ↓Q8, ↓Q9, ↓Ya, ↓Yb, ↓Yc, ↓Yd, ↓Ye, ↓Yf, ↓Yg, ↓Yh, ↓Yi, ↓Yj, ↓Yk, ↓Ym, ↓Yn, ↓Yo, ↓Yp, ↓Yq, ↓Yr, ↓Ys, ↓Yt, ↓Yu, ↓Yv, ↓Yw, ↓Yx, ↓Yy, ↓Yz, ↓Y0, ↓Y1, ↓Y2, ↓Y3, ↓Y4, ↓Y5, ↓Y6, ↓Y7, ↓Y8, ↓Y9, ↓Ja, ↓Jb, ↓Jc, ↓Jd, ↓Je, ↓Jf, ↓Jg, ↓Jh, ↓Ji, ↓Jj, ↓Jk, ↓Jl, ↓Jm, ↓Jn, ↓Jo, ↓Jp, ↓Jq, ↓Jr, ↓Js, ↓Jt, ↓Ju, ↓Jw, ↓Jx, ↓Jy, ↓Jz, ↓J1, ↓J2, ↓J3, ↓J4, ↓J5, ↓J6, ↓J7, ↓J8, ↓J9, ↓Qaa, ↓Qab, ↓Qac, ↓Qad, ↓Qae, ↓par3_three, ↓Qaf, ↓Qag, ↓Qah, ↓Qai, ↓Qaj, ↓Qak, ↓Qal, ↓Qam, ↓Qan, ↓Qao, ↓Qap, ↓Qaq, ↓Qar, ↓Qas, ↓Qat, ↓Qau, ↓Qav, ↓Qaw, ↓Qax, ↓Qay, ↓Qaz, ↓Qa0, ↓Qa1, ↓Qa2, ↓Qa3, ↓Qa4, ↓Qa5, ↓Qa6, ↓Qa7, ↓Qa8, ↓Qa9, ↓Qba, ↓Qbb, ↓Qbc, ↓Qbd, ↓Qbe, ↓Qbf, ↓Qbg, ↓Qbh, ↓Qbi, ↓Qbj, ↓Qbk, ↓Qbl, List.set_cons_zero, List.set_cons_succ, wipeP, Bool.bne_true, Bool.not_false, if_true]
      rw [eg] at hR
      exact L.out hb hR
    | some q =>
      rw [hf] at eg
      dsimp only at eg
      rw [decide_eq_true (findR_some hf)]
      have sl : ∀ (S' : Sto) R', kSl (roadP q) (some 1) (some 3) S' R' = R' (.tup [.str q.bgn, .str q.fin]) S' := fun _ _ => rfl
      simp -implicitDefEqProofs only [↓Qa, ↓Qb, ↓Qc, ↓Qd, ↓Qe, ↓Qg, ↓Qh, ↓Qi, ↓Qj, ↓Qk, ↓Ql, ↓par2_two, ↓Qm, ↓Qn, ↓Qo, ↓Qp, ↓Qq, ↓Qr, ↓Qs, ↓Qt, ↓Qu, ↓Qv, ↓Qw, ↓Qx, ↓Qy, ↓Qz, ↓Q0, ↓truK_bl, ↓Q3, ↓Q4, ↓Q5, ↓Q6, ↓chK_bl, ↓Q7, ↓Q8, ↓Q9, ↓Ya, ↓Yb, ↓Yc, ↓Yd, ↓Ye, ↓Yf, ↓Yg, ↓Yh, ↓Yi, ↓Yj, ↓Yk, ↓Ym, ↓Yn, ↓Yo, ↓Yp, ↓Yq, ↓Yr, ↓Ys, ↓Yt, ↓Yu, ↓Yv, ↓Yw, ↓Yx, ↓Yy, ↓Yz, ↓Y0, ↓Y1, ↓Y2, ↓Y3, ↓Y4, ↓Y5, ↓Y6, ↓Y7, ↓Y8, ↓Y9, ↓Ja, ↓Jb, ↓Jc, ↓Jd, ↓Je, ↓Jf, ↓Jg, ↓Jh, ↓Ji, ↓Jj, ↓Jk, ↓Jl, ↓Jm, ↓Jn, ↓Jo, ↓Jp, ↓Jq, ↓Jr, ↓Js, ↓Jt, ↓Ju, ↓Jw, ↓Jx, ↓Jy, ↓Jz, ↓J1, ↓J2, ↓J3, ↓J4, ↓J5, ↓J6, ↓J7, ↓J8, ↓J9, ↓Qaa, ↓Qab, ↓Qac, ↓Qad, ↓Qae, ↓par3_three, ↓Qaf, ↓Qag, ↓Qah, ↓Qai, ↓Qaj, ↓Qak, ↓Qal, ↓Qam, ↓Qan, ↓Qao, ↓Qap, ↓Qaq, ↓Qar, ↓Qas, ↓Qat, ↓Qau, ↓Qav, ↓Qaw, ↓Qax, ↓Qay, ↓Qaz, ↓Qa0, ↓Qa1, ↓Qa2, ↓Qa3, ↓Qa4, ↓Qa5, ↓Qa6, ↓Qa7, ↓Qa8, ↓Qa9, ↓Qba, ↓Qbb, ↓Qbc, ↓Qbd, ↓Qbe, ↓Qbf, ↓Qbg, ↓Qbh, ↓Qbi, ↓Qbj, ↓Qbk, ↓Qbl, List.set_cons_zero, List.set_cons_succ, wipeP, Bool.bne_true, Bool.not_true, Bool.false_eq_true, if_false, f_named hC, dgetR, hf, Option.map_some]
      refine L.ix ⟨roadP q, rfl, ?_⟩
      rw [sl, k_in_strs (ts := [q.bgn, q.fin]) rfl]
      have step : ∀ z : Str, wayR rs true x ns = (goR rs true z rest).map ((acc ++ [y] ++ [z]) ++ ·) → (if q.bgn = y then q.fin else q.bgn) = z → wExpr (wBM "list" kApp (wVar 3) (wCons (wCall (arN 2 (sp_far_end K)) (wCons (wB kIx (wFld (netCs K) "named" (wVar 0)) (wVar 4)) (wCons (wB kIx (wVar 3) (w1 kNeg (wC (.int 1)))) (wNil)))) (wNil))) { nx := N, rt := gR R, bk := fun _ _ => False, ct := N, ex := fun e _ S' => zfg Z e S' } [some (netP C ts rs), some (.str x), some (townsP ns), some (.ref b), some (.str n)] S' := fun z hz ez => by
        simp -implicitDefEqProofs only [↓Qa, ↓Qb, ↓Qc, ↓Qd, ↓Qe, ↓Qg, ↓Qh, ↓Qi, ↓Qj, ↓Qk, ↓Ql, ↓par2_two, ↓Qm, ↓Qn, ↓Qo, ↓Qp, ↓Qq, ↓Qr, ↓Qs, ↓Qt, ↓Qu, ↓Qv, ↓Qw, ↓Qx, ↓Qy, ↓Qz, ↓Q0, ↓truK_bl, ↓Q3, ↓Q4, ↓Q5, ↓Q6, ↓chK_bl, ↓Q7, ↓Q8, ↓Q9, ↓Ya, ↓Yb, ↓Yc, ↓Yd, ↓Ye, ↓Yf, ↓Yg, ↓Yh, ↓Yi, ↓Yj, ↓Yk, ↓Ym, ↓Yn, ↓Yo, ↓Yp, ↓Yq, ↓Yr, ↓Ys, ↓Yt, ↓Yu, ↓Yv, ↓Yw, ↓Yx, ↓Yy, ↓Yz, ↓Y0, ↓Y1, ↓Y2, ↓Y3, ↓Y4, ↓Y5, ↓Y6, ↓Y7, ↓Y8, ↓Y9, ↓Ja, ↓Jb, ↓Jc, ↓Jd, ↓Je, ↓Jf, ↓Jg, ↓Jh, ↓Ji, ↓Jj, ↓Jk, ↓Jl, ↓Jm, ↓Jn, ↓Jo, ↓Jp, ↓Jq, ↓Jr, ↓Js, ↓Jt, ↓Ju, ↓Jw, ↓Jx, ↓Jy, ↓Jz, ↓J1, ↓J2, ↓J3, ↓J4, ↓J5, ↓J6, ↓J7, ↓J8, ↓J9, ↓Qaa, ↓Qab, ↓Qac, ↓Qad, ↓Qae, ↓par3_three, ↓Qaf, ↓Qag, ↓Qah, ↓Qai, ↓Qaj, ↓Qak, ↓Qal, ↓Qam, ↓Qan, ↓Qao, ↓Qap, ↓Qaq, ↓Qar, ↓Qas, ↓Qat, ↓Qau, ↓Qav, ↓Qaw, ↓Qax, ↓Qay, ↓Qaz, ↓Qa0, ↓Qa1, ↓Qa2, ↓Qa3, ↓Qa4, ↓Qa5, ↓Qa6, ↓Qa7, ↓Qa8, ↓Qa9, ↓Qba, ↓Qbb, ↓Qbc, ↓Qbd, ↓Qbe, ↓Qbf, ↓Qbg, ↓Qbh, ↓Qbi, ↓Qbj, ↓Qbk, ↓Qbl, List.set_cons_zero, List.set_cons_succ, wipeP, f_named hC, dgetR, hf, Option.map_some]
        refine ⟨by rw [k_tyB_ref L.1]; trivial, roadP q, rfl, L.ix ⟨rfl, t_far_end ?_⟩⟩
        rw [ez, k_app L.1]
        exact ⟨by rw [List.length_map, List.length_append, sizeLine_eq]; simp; omega, hN _ _ ⟨acc ++ [y], z, _, L.app, by rw [List.length_append, List.length_singleton]; omega, hz, rfl⟩⟩
      simp -implicitDefEqProofs only [↓Qa, ↓Qb, ↓Qc, ↓Qd, ↓Qe, ↓Qg, ↓Qh, ↓Qi, ↓Qj, ↓Qk, ↓Ql, ↓par2_two, ↓Qm, ↓Qn, ↓Qo, ↓Qp, ↓Qq, ↓Qr, ↓Qs, ↓Qt, ↓Qu, ↓Qv, ↓Qw, ↓Qx, ↓Qy, ↓Qz, ↓Q0, ↓truK_bl, ↓Q3, ↓Q4, ↓Q5, ↓Q6, ↓chK_bl, ↓Q7, ↓Q8, ↓Q9, ↓Ya, ↓Yb, ↓Yc, ↓Yd, ↓Ye, ↓Yf, ↓Yg, ↓Yh, ↓Yi, ↓Yj, ↓Yk, ↓Ym, ↓Yn, ↓Yo, ↓Yp, ↓Yq, ↓Yr, ↓Ys, ↓Yt, ↓Yu, ↓Yv, ↓Yw, ↓Yx, ↓Yy, ↓Yz, ↓Y0, ↓Y1, ↓Y2, ↓Y3, ↓Y4, ↓Y5, ↓Y6, ↓Y7, ↓Y8, ↓Y9, ↓Ja, ↓Jb, ↓Jc, ↓Jd, ↓Je, ↓Jf, ↓Jg, ↓Jh, ↓Ji, ↓Jj, ↓Jk, ↓Jl, ↓Jm, ↓Jn, ↓Jo, ↓Jp, ↓Jq, ↓Jr, ↓Js, ↓Jt, ↓Ju, ↓Jw, ↓Jx, ↓Jy, ↓Jz, ↓J1, ↓J2, ↓J3, ↓J4, ↓J5, ↓J6, ↓J7, ↓J8, ↓J9, ↓Qaa, ↓Qab, ↓Qac, ↓Qad, ↓Qae, ↓par3_three, ↓Qaf, ↓Qag, ↓Qah, ↓Qai, ↓Qaj, ↓Qak, ↓Qal, ↓Qam, ↓Qan, ↓Qao, ↓Qap, ↓Qaq, ↓Qar, ↓Qas, ↓Qat, ↓Qau, ↓Qav, ↓Qaw, ↓Qax, ↓Qay, ↓Qaz, ↓Qa0, ↓Qa1, ↓Qa2, ↓Qa3, ↓Qa4, ↓Qa5, ↓Qa6, ↓Qa7, ↓Qa8, ↓Qa9, ↓Qba, ↓Qbb, ↓Qbc, ↓Qbd, ↓Qbe, ↓Qbf, ↓Qbg, ↓Qbh, ↓Qbi, ↓Qbj, ↓Qbk, ↓Qbl, List.set_cons_zero, List.set_cons_succ, wipeP, f_named hC, dgetR, hf, Option.map_some] at step
      by_cases hq : q.bgn = y
      · rw [if_pos hq, mapmap] at eg
        rw [decide_eq_true (show y ∈ [q.bgn, q.fin] by rw [hq]; exact List.mem_cons_self)]
        simp -implicitDefEqProofs only [↓Qa, ↓Qb, ↓Qc, ↓Qd, ↓Qe, ↓Qg, ↓Qh, ↓Qi, ↓Qj, ↓Qk, ↓Ql, ↓par2_two, ↓Qm, ↓Qn, ↓Qo, ↓Qp, ↓Qq, ↓Qr, ↓Qs, ↓Qt, ↓Qu, ↓Qv, ↓Qw, ↓Qx, ↓Qy, ↓Qz, ↓Q0, ↓truK_bl, ↓Q3, ↓Q4, ↓Q5, ↓Q6, ↓chK_bl, ↓Q7, ↓Q8, ↓Q9, ↓Ya, ↓Yb, ↓Yc, ↓Yd, ↓Ye, ↓Yf, ↓Yg, ↓Yh, ↓Yi, ↓Yj, ↓Yk, ↓Ym, ↓Yn, ↓Yo, ↓Yp, ↓Yq, ↓Yr, ↓Ys, ↓Yt, ↓Yu, ↓Yv, ↓Yw, ↓Yx, ↓Yy, ↓Yz, ↓Y0, ↓Y1, ↓Y2, ↓Y3, ↓Y4, ↓Y5, ↓Y6, ↓Y7, ↓Y8, ↓Y9, ↓Ja, ↓Jb, ↓Jc, ↓Jd, ↓Je, ↓Jf, ↓Jg, ↓Jh, ↓Ji, ↓Jj, ↓Jk, ↓Jl, ↓Jm, ↓Jn, ↓Jo, ↓Jp, ↓Jq, ↓Jr, ↓Js, ↓Jt, ↓Ju, ↓Jw, ↓Jx, ↓Jy, ↓Jz, ↓J1, ↓J2, ↓J3, ↓J4, ↓J5, ↓J6, ↓J7, ↓J8, ↓J9, ↓Qaa, ↓Qab, ↓Qac, ↓Qad, ↓Qae, ↓par3_three, ↓Qaf, ↓Qag, ↓Qah, ↓Qai, ↓Qaj, ↓Qak, ↓Qal, ↓Qam, ↓Qan, ↓Qao, ↓Qap, ↓Qaq, ↓Qar, ↓Qas, ↓Qat, ↓Qau, ↓Qav, ↓Qaw, ↓Qax, ↓Qay, ↓Qaz, ↓Qa0, ↓Qa1, ↓Qa2, ↓Qa3, ↓Qa4, ↓Qa5, ↓Qa6, ↓Qa7, ↓Qa8, ↓Qa9, ↓Qba, ↓Qbb, ↓Qbc, ↓Qbd, ↓Qbe, ↓Qbf, ↓Qbg, ↓Qbh, ↓Qbi, ↓Qbj, ↓Qbk, ↓Qbl, List.set_cons_zero, List.set_cons_succ, wipeP, Bool.bne_true, Bool.not_true, Bool.false_eq_true, if_false, f_named hC, dgetR, hf, Option.map_some]
        exact step q.fin eg (if_pos hq)
      · rw [if_neg hq] at eg
        by_cases hq2 : q.fin = y
        · rw [if_pos ⟨rfl, hq2⟩, mapmap] at eg
          rw [decide_eq_true (show y ∈ [q.bgn, q.fin] by rw [hq2]; exact List.mem_cons_of_mem _ List.mem_cons_self)]
          simp -implicitDefEqProofs only [↓Qa, ↓Qb, ↓Qc, ↓Qd, ↓Qe, ↓Qg, ↓Qh, ↓Qi, ↓Qj, ↓Qk, ↓Ql, ↓par2_two, ↓Qm, ↓Qn, ↓Qo, ↓Qp, ↓Qq, ↓Qr, ↓Qs, ↓Qt, ↓Qu, ↓Qv, ↓Qw, ↓Qx, ↓Qy, ↓Qz, ↓Q0, ↓truK_bl, ↓Q3, ↓Q4, ↓Q5, ↓Q6, ↓chK_bl, ↓Q7, ↓Q8, ↓Q9, ↓Ya, ↓Yb, ↓Yc, ↓Yd, ↓Ye, ↓Yf, ↓Yg, ↓Yh, ↓Yi, ↓Yj, ↓Yk, ↓Ym, ↓Yn, ↓Yo, ↓Yp, ↓Yq, ↓Yr, ↓Ys, ↓Yt, ↓Yu, ↓Yv, ↓Yw, ↓Yx, ↓Yy, ↓Yz, ↓Y0, ↓Y1, ↓Y2, ↓Y3, ↓Y4, ↓Y5, ↓Y6, ↓Y7, ↓Y8, ↓Y9, ↓Ja, ↓Jb, ↓Jc, ↓Jd, ↓Je, ↓Jf, ↓Jg, ↓Jh, ↓Ji, ↓Jj, ↓Jk, ↓Jl, ↓Jm, ↓Jn, ↓Jo, ↓Jp, ↓Jq, ↓Jr, ↓Js, ↓Jt, ↓Ju, ↓Jw, ↓Jx, ↓Jy, ↓Jz, ↓J1, ↓J2, ↓J3, ↓J4, ↓J5, ↓J6, ↓J7, ↓J8, ↓J9, ↓Qaa, ↓Qab, ↓Qac, ↓Qad, ↓Qae, ↓par3_three, ↓Qaf, ↓Qag, ↓Qah, ↓Qai, ↓Qaj, ↓Qak, ↓Qal, ↓Qam, ↓Qan, ↓Qao, ↓Qap, ↓Qaq, ↓Qar, ↓Qas, ↓Qat, ↓Qau, ↓Qav, ↓Qaw, ↓Qax, ↓Qay, ↓Qaz, ↓Qa0, ↓Qa1, ↓Qa2, ↓Qa3, ↓Qa4, ↓Qa5, ↓Qa6, ↓Qa7, ↓Qa8, ↓Qa9, ↓Qba, ↓Qbb, ↓Qbc, ↓Qbd, ↓Qbe, ↓Qbf, ↓Qbg, ↓Qbh, ↓Qbi, ↓Qbj, ↓Qbk, ↓Qbl, List.set_cons_zero, List.set_cons_succ, wipeP, Bool.bne_true, Bool.not_true, Bool.false_eq_true, if_false, f_named hC, dgetR, hf, Option.map_some]
          exact step q.bgn eg (if_neg hq)
        · rw [if_neg (fun z => hq2 z.2)] at eg
          rw [decide_eq_false (show ¬ y ∈ [q.bgn, q.fin] from fun z => by
            simp only [List.mem_cons, List.not_mem_nil, or_false] at z
            exact z.elim (fun z => hq z.symm) fun z => hq2 z.symm)]
          simp -implicitDefEqProofs only [↓Qa, ↓Qb, ↓Qc, ↓Qd, ↓Qe, ↓Qg, ↓Qh, ↓Qi, ↓Qj, ↓Qk, ↓Ql, ↓par2_two, ↓Qm, ↓Qn, ↓Qo, ↓Qp, ↓Qq, ↓Qr, ↓Qs, ↓Qt, ↓Qu, ↓Qv, ↓Qw, ↓Qx, ↓Qy, ↓Qz, ↓Q0, ↓truK_bl, ↓Q3, ↓Q4, ↓Q5, ↓Q6, ↓chK_bl, ↓Q7, ↓Q8, ↓Q9, ↓Ya, ↓Yb, ↓Yc, ↓Yd, ↓Ye, ↓Yf, ↓Yg, ↓Yh, ↓Yi, ↓Yj, ↓Yk, ↓Ym, ↓Yn, ↓Yo, ↓Yp, ↓Yq, ↓Yr, ↓Ys, ↓Yt, ↓Yu, ↓Yv, ↓Yw, ↓Yx, ↓Yy, ↓Yz, ↓Y0, ↓Y1, ↓Y2, ↓Y3, ↓Y4, ↓Y5, ↓Y6, ↓Y7, ↓Y8, ↓Y9, ↓Ja, ↓Jb, ↓Jc, ↓Jd, ↓Je, ↓Jf, ↓Jg, ↓Jh, ↓Ji, ↓Jj, ↓Jk, ↓Jl, ↓Jm, ↓Jn, ↓Jo, ↓Jp, ↓Jq, ↓Jr, ↓Js, ↓Jt, ↓Ju, ↓Jw, ↓Jx, ↓Jy, ↓Jz, ↓J1, ↓J2, ↓J3, ↓J4, ↓J5, ↓J6, ↓J7, ↓J8, ↓J9, ↓Qaa, ↓Qab, ↓Qac, ↓Qad, ↓Qae, ↓par3_three, ↓Qaf, ↓Qag, ↓Qah, ↓Qai, ↓Qaj, ↓Qak, ↓Qal, ↓Qam, ↓Qan, ↓Qao, ↓Qap, ↓Qaq, ↓Qar, ↓Qas, ↓Qat, ↓Qau, ↓Qav, ↓Qaw, ↓Qax, ↓Qay, ↓Qaz, ↓Qa0, ↓Qa1, ↓Qa2, ↓Qa3, ↓Qa4, ↓Qa5, ↓Qa6, ↓Qa7, ↓Qa8, ↓Qa9, ↓Qba, ↓Qbb, ↓Qbc, ↓Qbd, ↓Qbe, ↓Qbf, ↓Qbg, ↓Qbh, ↓Qbi, ↓Qbj, ↓Qbk, ↓Qbl, List.set_cons_zero, List.set_cons_succ, wipeP, Bool.bne_true, Bool.not_false, if_true]
          rw [eg] at hR
          exact L.out hb hR
  · subst er
    simp -implicitDefEqProofs only [w_raw_walked_2, ↓Qa, ↓Qb, ↓Qc, ↓Qd, ↓Qe, ↓Qg, ↓Qh, ↓Qi, ↓Qj, ↓Qk, ↓Ql, ↓par2_two, ↓Qm, ↓Qn, ↓Qo, ↓Qp, ↓Qq, ↓Qr, ↓Qs, ↓Qt, ↓Qu, ↓Qv, ↓Qw, ↓Qx, ↓Qy, ↓Qz, ↓Q0, ↓truK_bl, ↓Q3, ↓Q4, ↓Q5, ↓Q6, ↓chK_bl, ↓Q7, ↓Q8, ↓Q9, ↓Ya, ↓Yb, ↓Yc, ↓Yd, ↓Ye, ↓Yf, ↓Yg, ↓Yh, ↓Yi, ↓Yj, ↓Yk, ↓Ym, ↓Yn, ↓Yo, ↓Yp, ↓Yq, ↓Yr, ↓Ys, ↓Yt, ↓Yu, ↓Yv, ↓Yw, ↓Yx, ↓Yy, ↓Yz, ↓Y0, ↓Y1, ↓Y2, ↓Y3, ↓Y4, ↓Y5, ↓Y6, ↓Y7, ↓Y8, ↓Y9, ↓Ja, ↓Jb, ↓Jc, ↓Jd, ↓Je, ↓Jf, ↓Jg, ↓Jh, ↓Ji, ↓Jj, ↓Jk, ↓Jl, ↓Jm, ↓Jn, ↓Jo, ↓Jp, ↓Jq, ↓Jr, ↓Js, ↓Jt, ↓Ju, ↓Jw, ↓Jx, ↓Jy, ↓Jz, ↓J1, ↓J2, ↓J3, ↓J4, ↓J5, ↓J6, ↓J7, ↓J8, ↓J9, ↓Qaa, ↓Qab, ↓Qac, ↓Qad, ↓Qae, ↓par3_three, ↓Qaf, ↓Qag, ↓Qah, ↓Qai, ↓Qaj, ↓Qak, ↓Qal, ↓Qam, ↓Qan, ↓Qao, ↓Qap, ↓Qaq, ↓Qar, ↓Qas, ↓Qat, ↓Qau, ↓Qav, ↓Qaw, ↓Qax, ↓Qay, ↓Qaz, ↓Qa0, ↓Qa1, ↓Qa2, ↓Qa3, ↓Qa4, ↓Qa5, ↓Qa6, ↓Qa7, ↓Qa8, ↓Qa9, ↓Qba, ↓Qbb, ↓Qbc, ↓Qbd, ↓Qbe, ↓Qbf, ↓Qbg, ↓Qbh, ↓Qbi, ↓Qbj, ↓Qbk, ↓Qbl, List.set_cons_zero, List.set_cons_succ, wipeP, k_tup_ref L.1]
    have eg : wayR rs true x ns = some ((acc ++ [y]) ++ []) := eg
    rw [eg, List.append_nil] at hR
    exact L.out hb hR

section
variable {K : PySem.W.Frag} {S : Sto} {R : RK} {Z : ZK} {C : Addr} {ts : List Str} {rs : List Road} {p q : PV}
theorem ends_step (tie : Bool) (hC : C ∈ netCs K) (hp : Pn p) (hq : PnT q) (hf : Few q) (h : endsK K R Z S ts rs tie p q) {T : Sto → Prop}
    (hT : ∀ x ns, p = .str x → q = townsP ns → ns.length ≤ 1000 → R (wayP (wayR rs tie x ns)) S → T S) :
    sp_check_town K [netP C ts rs, p] S (fun _ S' => ([q] : List PV).length = 1 ∧ sp_is_names K [q] S' (kB fun b S1 => if (!b) = true then zfg Z (exc0 K "NoNames") S1 else T S1) fun e S' => zfg Z e S') fun e S' => zfg Z e S' := by
  refine t_check_town hC hp ?_
  unfold endsK at h
  cases hi : isIn ts p with
  | false =>
    rw [hi] at h
    simp only [Bool.false_eq_true, if_false] at h ⊢
    exact zfg_now h
  | true =>
    rw [hi] at h
    obtain ⟨x, rfl, hx⟩ := isIn_some hi
    simp only [if_true] at h ⊢
    refine ⟨rfl, t_is_names hq hf ?_⟩
    cases hn : isNames q with
    | false =>
      rw [hn] at h
      simp -implicitDefEqProofs only [↓Qa, ↓Qb, ↓Qc, ↓Qd, ↓Qe, ↓Qg, ↓Qh, ↓Qi, ↓Qj, ↓Qk, ↓Ql, ↓par2_two, ↓Qm, ↓Qn, ↓Qo, ↓Qp, ↓Qq, ↓Qr, ↓Qs, ↓Qt, ↓Qu, ↓Qv, ↓Qw, ↓Qx, ↓Qy, ↓Qz, ↓Q0, ↓truK_bl, ↓Q3, ↓Q4, ↓Q5, ↓Q6, ↓chK_bl, ↓Q7, ↓Q8, ↓Q9, ↓Ya, ↓Yb, ↓Yc, ↓Yd, ↓Ye, ↓Yf, ↓Yg, ↓Yh, ↓Yi, ↓Yj, ↓Yk, ↓Ym, ↓Yn, ↓Yo, ↓Yp, ↓Yq, ↓Yr, ↓Ys, ↓Yt, ↓Yu, ↓Yv, ↓Yw, ↓Yx, ↓Yy, ↓Yz, ↓Y0, ↓Y1, ↓Y2, ↓Y3, ↓Y4, ↓Y5, ↓Y6, ↓Y7, ↓Y8, ↓Y9, ↓Ja, ↓Jb, ↓Jc, ↓Jd, ↓Je, ↓Jf, ↓Jg, ↓Jh, ↓Ji, ↓Jj, ↓Jk, ↓Jl, ↓Jm, ↓Jn, ↓Jo, ↓Jp, ↓Jq, ↓Jr, ↓Js, ↓Jt, ↓Ju, ↓Jw, ↓Jx, ↓Jy, ↓Jz, ↓J1, ↓J2, ↓J3, ↓J4, ↓J5, ↓J6, ↓J7, ↓J8, ↓J9, ↓Qaa, ↓Qab, ↓Qac, ↓Qad, ↓Qae, ↓par3_three, ↓Qaf, ↓Qag, ↓Qah, ↓Qai, ↓Qaj, ↓Qak, ↓Qal, ↓Qam, ↓Qan, ↓Qao, ↓Qap, ↓Qaq, ↓Qar, ↓Qas, ↓Qat, ↓Qau, ↓Qav, ↓Qaw, ↓Qax, ↓Qay, ↓Qaz, ↓Qa0, ↓Qa1, ↓Qa2, ↓Qa3, ↓Qa4, ↓Qa5, ↓Qa6, ↓Qa7, ↓Qa8, ↓Qa9, ↓Qba, ↓Qbb, ↓Qbc, ↓Qbd, ↓Qbe, ↓Qbf, ↓Qbg, ↓Qbh, ↓Qbi, ↓Qbj, ↓Qbk, ↓Qbl, List.set_cons_zero, List.set_cons_succ, wipeP, Bool.false_eq_true, if_false, Bool.not_false, if_true] at h ⊢
      exact zfg_now h
    | true =>
      rw [hn] at h
      obtain ⟨ns, rfl⟩ := isNames_eq hn
      simp -implicitDefEqProofs only [↓Qa, ↓Qb, ↓Qc, ↓Qd, ↓Qe, ↓Qg, ↓Qh, ↓Qi, ↓Qj, ↓Qk, ↓Ql, ↓par2_two, ↓Qm, ↓Qn, ↓Qo, ↓Qp, ↓Qq, ↓Qr, ↓Qs, ↓Qt, ↓Qu, ↓Qv, ↓Qw, ↓Qx, ↓Qy, ↓Qz, ↓Q0, ↓truK_bl, ↓Q3, ↓Q4, ↓Q5, ↓Q6, ↓chK_bl, ↓Q7, ↓Q8, ↓Q9, ↓Ya, ↓Yb, ↓Yc, ↓Yd, ↓Ye, ↓Yf, ↓Yg, ↓Yh, ↓Yi, ↓Yj, ↓Yk, ↓Ym, ↓Yn, ↓Yo, ↓Yp, ↓Yq, ↓Yr, ↓Ys, ↓Yt, ↓Yu, ↓Yv, ↓Yw, ↓Yx, ↓Yy, ↓Yz, ↓Y0, ↓Y1, ↓Y2, ↓Y3, ↓Y4, ↓Y5, ↓Y6, ↓Y7, ↓Y8, ↓Y9, ↓Ja, ↓Jb, ↓Jc, ↓Jd, ↓Je, ↓Jf, ↓Jg, ↓Jh, ↓Ji, ↓Jj, ↓Jk, ↓Jl, ↓Jm, ↓Jn, ↓Jo, ↓Jp, ↓Jq, ↓Jr, ↓Js, ↓Jt, ↓Ju, ↓Jw, ↓Jx, ↓Jy, ↓Jz, ↓J1, ↓J2, ↓J3, ↓J4, ↓J5, ↓J6, ↓J7, ↓J8, ↓J9, ↓Qaa, ↓Qab, ↓Qac, ↓Qad, ↓Qae, ↓par3_three, ↓Qaf, ↓Qag, ↓Qah, ↓Qai, ↓Qaj, ↓Qak, ↓Qal, ↓Qam, ↓Qan, ↓Qao, ↓Qap, ↓Qaq, ↓Qar, ↓Qas, ↓Qat, ↓Qau, ↓Qav, ↓Qaw, ↓Qax, ↓Qay, ↓Qaz, ↓Qa0, ↓Qa1, ↓Qa2, ↓Qa3, ↓Qa4, ↓Qa5, ↓Qa6, ↓Qa7, ↓Qa8, ↓Qa9, ↓Qba, ↓Qbb, ↓Qbc, ↓Qbd, ↓Qbe, ↓Qbf, ↓Qbg, ↓Qbh, ↓Qbi, ↓Qbj, ↓Qbk, ↓Qbl, List.set_cons_zero, List.set_cons_succ, wipeP, Bool.not_true, Bool.false_eq_true, if_false, if_true] at h ⊢
      have l := hf _ rfl
      rw [List.length_map] at l
      exact hT x ns rfl rfl l (h x ns rfl rfl)
end
theorem pure_ends_by (K : PySem.W.Frag) : ∀ ps S R Z, ps.length = 3 → sp_ends_by K ps S R Z → w_ends_by K (fin R Z) (startP n_ends_by ps) S := by
  intro ps S R Z hl h
  obtain ⟨C, ts, rs, p, q, rfl, hC, hp, hq, hf, h⟩ := h
  have e : startP n_ends_by [netP C ts rs, p, q] = [some (netP C ts rs), some p, some q] := rfl
  rw [e]
  simp -implicitDefEqProofs only [w_ends_by, ↓Qa, ↓Qb, ↓Qc, ↓Qd, ↓Qe, ↓Qg, ↓Qh, ↓Qi, ↓Qj, ↓Qk, ↓Ql, ↓par2_two, ↓Qm, ↓Qn, ↓Qo, ↓Qp, ↓Qq, ↓Qr, ↓Qs, ↓Qt, ↓Qu, ↓Qv, ↓Qw, ↓Qx, ↓Qy, ↓Qz, ↓Q0, ↓truK_bl, ↓Q3, ↓Q4, ↓Q5, ↓Q6, ↓chK_bl, ↓Q7, ↓Q8, ↓Q9, ↓Ya, ↓Yb, ↓Yc, ↓Yd, ↓Ye, ↓Yf, ↓Yg, ↓Yh, ↓Yi, ↓Yj, ↓Yk, ↓Ym, ↓Yn, ↓Yo, ↓Yp, ↓Yq, ↓Yr, ↓Ys, ↓Yt, ↓Yu, ↓Yv, ↓Yw, ↓Yx, ↓Yy, ↓Yz, ↓Y0, ↓Y1, ↓Y2, ↓Y3, ↓Y4, ↓Y5, ↓Y6, ↓Y7, ↓Y8, ↓Y9, ↓Ja, ↓Jb, ↓Jc, ↓Jd, ↓Je, ↓Jf, ↓Jg, ↓Jh, ↓Ji, ↓Jj, ↓Jk, ↓Jl, ↓Jm, ↓Jn, ↓Jo, ↓Jp, ↓Jq, ↓Jr, ↓Js, ↓Jt, ↓Ju, ↓Jw, ↓Jx, ↓Jy, ↓Jz, ↓J1, ↓J2, ↓J3, ↓J4, ↓J5, ↓J6, ↓J7, ↓J8, ↓J9, ↓Qaa, ↓Qab, ↓Qac, ↓Qad, ↓Qae, ↓par3_three, ↓Qaf, ↓Qag, ↓Qah, ↓Qai, ↓Qaj, ↓Qak, ↓Qal, ↓Qam, ↓Qan, ↓Qao, ↓Qap, ↓Qaq, ↓Qar, ↓Qas, ↓Qat, ↓Qau, ↓Qav, ↓Qaw, ↓Qax, ↓Qay, ↓Qaz, ↓Qa0, ↓Qa1, ↓Qa2, ↓Qa3, ↓Qa4, ↓Qa5, ↓Qa6, ↓Qa7, ↓Qa8, ↓Qa9, ↓Qba, ↓Qbb, ↓Qbc, ↓Qbd, ↓Qbe, ↓Qbf, ↓Qbg, ↓Qbh, ↓Qbi, ↓Qbj, ↓Qbk, ↓Qbl, List.set_cons_zero, List.set_cons_succ, wipeP]
  refine ⟨rfl, ?_⟩
  exact ends_step false hC hp hq hf h fun x ns ep eq l hR => by
    subst ep eq
    exact ⟨rfl, t_raw_ends hC l (gR_now hR)⟩
theorem pure_ends_walked (K : PySem.W.Frag) : ∀ ps S R Z, ps.length = 3 → sp_ends_walked K ps S R Z → w_ends_walked K (fin R Z) (startP n_ends_walked ps) S := by
  intro ps S R Z hl h
  obtain ⟨C, ts, rs, p, q, rfl, hC, hp, hq, hf, h⟩ := h
  have e : startP n_ends_walked [netP C ts rs, p, q] = [some (netP C ts rs), some p, some q] := rfl
  rw [e]
  simp -implicitDefEqProofs only [w_ends_walked, ↓Qa, ↓Qb, ↓Qc, ↓Qd, ↓Qe, ↓Qg, ↓Qh, ↓Qi, ↓Qj, ↓Qk, ↓Ql, ↓par2_two, ↓Qm, ↓Qn, ↓Qo, ↓Qp, ↓Qq, ↓Qr, ↓Qs, ↓Qt, ↓Qu, ↓Qv, ↓Qw, ↓Qx, ↓Qy, ↓Qz, ↓Q0, ↓truK_bl, ↓Q3, ↓Q4, ↓Q5, ↓Q6, ↓chK_bl, ↓Q7, ↓Q8, ↓Q9, ↓Ya, ↓Yb, ↓Yc, ↓Yd, ↓Ye, ↓Yf, ↓Yg, ↓Yh, ↓Yi, ↓Yj, ↓Yk, ↓Ym, ↓Yn, ↓Yo, ↓Yp, ↓Yq, ↓Yr, ↓Ys, ↓Yt, ↓Yu, ↓Yv, ↓Yw, ↓Yx, ↓Yy, ↓Yz, ↓Y0, ↓Y1, ↓Y2, ↓Y3, ↓Y4, ↓Y5, ↓Y6, ↓Y7, ↓Y8, ↓Y9, ↓Ja, ↓Jb, ↓Jc, ↓Jd, ↓Je, ↓Jf, ↓Jg, ↓Jh, ↓Ji, ↓Jj, ↓Jk, ↓Jl, ↓Jm, ↓Jn, ↓Jo, ↓Jp, ↓Jq, ↓Jr, ↓Js, ↓Jt, ↓Ju, ↓Jw, ↓Jx, ↓Jy, ↓Jz, ↓J1, ↓J2, ↓J3, ↓J4, ↓J5, ↓J6, ↓J7, ↓J8, ↓J9, ↓Qaa, ↓Qab, ↓Qac, ↓Qad, ↓Qae, ↓par3_three, ↓Qaf, ↓Qag, ↓Qah, ↓Qai, ↓Qaj, ↓Qak, ↓Qal, ↓Qam, ↓Qan, ↓Qao, ↓Qap, ↓Qaq, ↓Qar, ↓Qas, ↓Qat, ↓Qau, ↓Qav, ↓Qaw, ↓Qax, ↓Qay, ↓Qaz, ↓Qa0, ↓Qa1, ↓Qa2, ↓Qa3, ↓Qa4, ↓Qa5, ↓Qa6, ↓Qa7, ↓Qa8, ↓Qa9, ↓Qba, ↓Qbb, ↓Qbc, ↓Qbd, ↓Qbe, ↓Qbf, ↓Qbg, ↓Qbh, ↓Qbi, ↓Qbj, ↓Qbk, ↓Qbl, List.set_cons_zero, List.set_cons_succ, wipeP]
  refine ⟨rfl, ?_⟩
  exact ends_step true hC hp hq hf h fun x ns ep eq l hR => by
    subst ep eq
    exact ⟨rfl, t_raw_walked hC l (gR_now hR)⟩
theorem k_sumM {S : Sto} {R : RK} {α : Type} {xs : List α} {g : α → Int} (hR : R (.int (xs.map g).sum) S) : kSum (.lst (xs.map fun x => PV.int (g x))) S R := by
  have key : ∀ xs : List α, intsOf' (xs.map fun x => PV.int (g x)) = some (xs.map g) := fun xs => by
    induction xs with
    | nil => rfl
    | cons x r ih =>
      show (intsOf' (r.map fun x => PV.int (g x))).map (g x :: ·) = _
      rw [ih]; rfl
  unfold kSum
  rw [Y3]
  simp only [key]
  exact hR
theorem lenR_some {rs : List Road} {n : Str} {q : Road} (h : findR rs n = some q) : lenR rs n = q.len := by unfold lenR; rw [h]
theorem pure_raw_length (K : PySem.W.Frag) : ∀ ps S R Z, ps.length = 2 → sp_raw_length K ps S R Z → w_raw_length K (fin R Z) (startP n_raw_length ps) S := by
  intro ps S R Z hl h
  obtain ⟨C, ts, rs, ns, rfl, hC, hl', hn, hR⟩ := h
  have e : startP n_raw_length [netP C ts rs, townsP ns] = [some (netP C ts rs), some (townsP ns), none] := rfl
  rw [e]
  simp -implicitDefEqProofs only [w_raw_length, ↓Qa, ↓Qb, ↓Qc, ↓Qd, ↓Qe, ↓Qg, ↓Qh, ↓Qi, ↓Qj, ↓Qk, ↓Ql, ↓par2_two, ↓Qm, ↓Qn, ↓Qo, ↓Qp, ↓Qq, ↓Qr, ↓Qs, ↓Qt, ↓Qu, ↓Qv, ↓Qw, ↓Qx, ↓Qy, ↓Qz, ↓Q0, ↓truK_bl, ↓Q3, ↓Q4, ↓Q5, ↓Q6, ↓chK_bl, ↓Q7, ↓Q8, ↓Q9, ↓Ya, ↓Yb, ↓Yc, ↓Yd, ↓Ye, ↓Yf, ↓Yg, ↓Yh, ↓Yi, ↓Yj, ↓Yk, ↓Ym, ↓Yn, ↓Yo, ↓Yp, ↓Yq, ↓Yr, ↓Ys, ↓Yt, ↓Yu, ↓Yv, ↓Yw, ↓Yx, ↓Yy, ↓Yz, ↓Y0, ↓Y1, ↓Y2, ↓Y3, ↓Y4, ↓Y5, ↓Y6, ↓Y7, ↓Y8, ↓Y9, ↓Ja, ↓Jb, ↓Jc, ↓Jd, ↓Je, ↓Jf, ↓Jg, ↓Jh, ↓Ji, ↓Jj, ↓Jk, ↓Jl, ↓Jm, ↓Jn, ↓Jo, ↓Jp, ↓Jq, ↓Jr, ↓Js, ↓Jt, ↓Ju, ↓Jw, ↓Jx, ↓Jy, ↓Jz, ↓J1, ↓J2, ↓J3, ↓J4, ↓J5, ↓J6, ↓J7, ↓J8, ↓J9, ↓Qaa, ↓Qab, ↓Qac, ↓Qad, ↓Qae, ↓par3_three, ↓Qaf, ↓Qag, ↓Qah, ↓Qai, ↓Qaj, ↓Qak, ↓Qal, ↓Qam, ↓Qan, ↓Qao, ↓Qap, ↓Qaq, ↓Qar, ↓Qas, ↓Qat, ↓Qau, ↓Qav, ↓Qaw, ↓Qax, ↓Qay, ↓Qaz, ↓Qa0, ↓Qa1, ↓Qa2, ↓Qa3, ↓Qa4, ↓Qa5, ↓Qa6, ↓Qa7, ↓Qa8, ↓Qa9, ↓Qba, ↓Qbb, ↓Qbc, ↓Qbd, ↓Qbe, ↓Qbf, ↓Qbg, ↓Qbh, ↓Qbi, ↓Qbj, ↓Qbk, ↓Qbl, List.set_cons_zero, List.set_cons_succ, wipeP, it_towns]
  refine wLcL_allM PV.str (fun n => .int (lenR rs n)) trivial ns (fun n hnm R' hR' => ?_) (sz0 (by omega)) ?_
  · simp -implicitDefEqProofs only [w_raw_length_1, ↓Qa, ↓Qb, ↓Qc, ↓Qd, ↓Qe, ↓Qg, ↓Qh, ↓Qi, ↓Qj, ↓Qk, ↓Ql, ↓par2_two, ↓Qm, ↓Qn, ↓Qo, ↓Qp, ↓Qq, ↓Qr, ↓Qs, ↓Qt, ↓Qu, ↓Qv, ↓Qw, ↓Qx, ↓Qy, ↓Qz, ↓Q0, ↓truK_bl, ↓Q3, ↓Q4, ↓Q5, ↓Q6, ↓chK_bl, ↓Q7, ↓Q8, ↓Q9, ↓Ya, ↓Yb, ↓Yc, ↓Yd, ↓Ye, ↓Yf, ↓Yg, ↓Yh, ↓Yi, ↓Yj, ↓Yk, ↓Ym, ↓Yn, ↓Yo, ↓Yp, ↓Yq, ↓Yr, ↓Ys, ↓Yt, ↓Yu, ↓Yv, ↓Yw, ↓Yx, ↓Yy, ↓Yz, ↓Y0, ↓Y1, ↓Y2, ↓Y3, ↓Y4, ↓Y5, ↓Y6, ↓Y7, ↓Y8, ↓Y9, ↓Ja, ↓Jb, ↓Jc, ↓Jd, ↓Je, ↓Jf, ↓Jg, ↓Jh, ↓Ji, ↓Jj, ↓Jk, ↓Jl, ↓Jm, ↓Jn, ↓Jo, ↓Jp, ↓Jq, ↓Jr, ↓Js, ↓Jt, ↓Ju, ↓Jw, ↓Jx, ↓Jy, ↓Jz, ↓J1, ↓J2, ↓J3, ↓J4, ↓J5, ↓J6, ↓J7, ↓J8, ↓J9, ↓Qaa, ↓Qab, ↓Qac, ↓Qad, ↓Qae, ↓par3_three, ↓Qaf, ↓Qag, ↓Qah, ↓Qai, ↓Qaj, ↓Qak, ↓Qal, ↓Qam, ↓Qan, ↓Qao, ↓Qap, ↓Qaq, ↓Qar, ↓Qas, ↓Qat, ↓Qau, ↓Qav, ↓Qaw, ↓Qax, ↓Qay, ↓Qaz, ↓Qa0, ↓Qa1, ↓Qa2, ↓Qa3, ↓Qa4, ↓Qa5, ↓Qa6, ↓Qa7, ↓Qa8, ↓Qa9, ↓Qba, ↓Qbb, ↓Qbc, ↓Qbd, ↓Qbe, ↓Qbf, ↓Qbg, ↓Qbh, ↓Qbi, ↓Qbj, ↓Qbk, ↓Qbl, List.set_cons_zero, List.set_cons_succ, wipeP, f_named hC]
    cases hf : findR rs n with
    | none => exact absurd (hn n hnm) (findR_none hf)
    | some q =>
      refine ⟨roadP q, by rw [dgetR, hf]; rfl, ?_⟩
      rw [ix_road]
      rw [lenR_some hf] at hR'
      exact ⟨_, rfl, hR'⟩
  refine k_sumM ?_
  exact gR_now hR
theorem pure_length_of (K : PySem.W.Frag) : ∀ ps S R Z, ps.length = 2 → sp_length_of K ps S R Z → w_length_of K (fin R Z) (startP n_length_of ps) S := by
  intro ps S R Z hl h
  obtain ⟨C, ts, rs, q, rfl, hC, hq, hf, h⟩ := h
  have e : startP n_length_of [netP C ts rs, q] = [some (netP C ts rs), some q, none] := rfl
  rw [e]
  simp -implicitDefEqProofs only [w_length_of, ↓Qa, ↓Qb, ↓Qc, ↓Qd, ↓Qe, ↓Qg, ↓Qh, ↓Qi, ↓Qj, ↓Qk, ↓Ql, ↓par2_two, ↓Qm, ↓Qn, ↓Qo, ↓Qp, ↓Qq, ↓Qr, ↓Qs, ↓Qt, ↓Qu, ↓Qv, ↓Qw, ↓Qx, ↓Qy, ↓Qz, ↓Q0, ↓truK_bl, ↓Q3, ↓Q4, ↓Q5, ↓Q6, ↓chK_bl, ↓Q7, ↓Q8, ↓Q9, ↓Ya, ↓Yb, ↓Yc, ↓Yd, ↓Ye, ↓Yf, ↓Yg, ↓Yh, ↓Yi, ↓Yj, ↓Yk, ↓Ym, ↓Yn, ↓Yo, ↓Yp, ↓Yq, ↓Yr, ↓Ys, ↓Yt, ↓Yu, ↓Yv, ↓Yw, ↓Yx, ↓Yy, ↓Yz, ↓Y0, ↓Y1, ↓Y2, ↓Y3, ↓Y4, ↓Y5, ↓Y6, ↓Y7, ↓Y8, ↓Y9, ↓Ja, ↓Jb, ↓Jc, ↓Jd, ↓Je, ↓Jf, ↓Jg, ↓Jh, ↓Ji, ↓Jj, ↓Jk, ↓Jl, ↓Jm, ↓Jn, ↓Jo, ↓Jp, ↓Jq, ↓Jr, ↓Js, ↓Jt, ↓Ju, ↓Jw, ↓Jx, ↓Jy, ↓Jz, ↓J1, ↓J2, ↓J3, ↓J4, ↓J5, ↓J6, ↓J7, ↓J8, ↓J9, ↓Qaa, ↓Qab, ↓Qac, ↓Qad, ↓Qae, ↓par3_three, ↓Qaf, ↓Qag, ↓Qah, ↓Qai, ↓Qaj, ↓Qak, ↓Qal, ↓Qam, ↓Qan, ↓Qao, ↓Qap, ↓Qaq, ↓Qar, ↓Qas, ↓Qat, ↓Qau, ↓Qav, ↓Qaw, ↓Qax, ↓Qay, ↓Qaz, ↓Qa0, ↓Qa1, ↓Qa2, ↓Qa3, ↓Qa4, ↓Qa5, ↓Qa6, ↓Qa7, ↓Qa8, ↓Qa9, ↓Qba, ↓Qbb, ↓Qbc, ↓Qbd, ↓Qbe, ↓Qbf, ↓Qbg, ↓Qbh, ↓Qbi, ↓Qbj, ↓Qbk, ↓Qbl, List.set_cons_zero, List.set_cons_succ, wipeP]
  refine ⟨rfl, t_is_names hq hf ?_⟩
  unfold lensK at h
  cases hn : isNames q with
  | false =>
    rw [hn] at h
    simp -implicitDefEqProofs only [↓Qa, ↓Qb, ↓Qc, ↓Qd, ↓Qe, ↓Qg, ↓Qh, ↓Qi, ↓Qj, ↓Qk, ↓Ql, ↓par2_two, ↓Qm, ↓Qn, ↓Qo, ↓Qp, ↓Qq, ↓Qr, ↓Qs, ↓Qt, ↓Qu, ↓Qv, ↓Qw, ↓Qx, ↓Qy, ↓Qz, ↓Q0, ↓truK_bl, ↓Q3, ↓Q4, ↓Q5, ↓Q6, ↓chK_bl, ↓Q7, ↓Q8, ↓Q9, ↓Ya, ↓Yb, ↓Yc, ↓Yd, ↓Ye, ↓Yf, ↓Yg, ↓Yh, ↓Yi, ↓Yj, ↓Yk, ↓Ym, ↓Yn, ↓Yo, ↓Yp, ↓Yq, ↓Yr, ↓Ys, ↓Yt, ↓Yu, ↓Yv, ↓Yw, ↓Yx, ↓Yy, ↓Yz, ↓Y0, ↓Y1, ↓Y2, ↓Y3, ↓Y4, ↓Y5, ↓Y6, ↓Y7, ↓Y8, ↓Y9, ↓Ja, ↓Jb, ↓Jc, ↓Jd, ↓Je, ↓Jf, ↓Jg, ↓Jh, ↓Ji, ↓Jj, ↓Jk, ↓Jl, ↓Jm, ↓Jn, ↓Jo, ↓Jp, ↓Jq, ↓Jr, ↓Js, ↓Jt, ↓Ju, ↓Jw, ↓Jx, ↓Jy, ↓Jz, ↓J1, ↓J2, ↓J3, ↓J4, ↓J5, ↓J6, ↓J7, ↓J8, ↓J9, ↓Qaa, ↓Qab, ↓Qac, ↓Qad, ↓Qae, ↓par3_three, ↓Qaf, ↓Qag, ↓Qah, ↓Qai, ↓Qaj, ↓Qak, ↓Qal, ↓Qam, ↓Qan, ↓Qao, ↓Qap, ↓Qaq, ↓Qar, ↓Qas, ↓Qat, ↓Qau, ↓Qav, ↓Qaw, ↓Qax, ↓Qay, ↓Qaz, ↓Qa0, ↓Qa1, ↓Qa2, ↓Qa3, ↓Qa4, ↓Qa5, ↓Qa6, ↓Qa7, ↓Qa8, ↓Qa9, ↓Qba, ↓Qbb, ↓Qbc, ↓Qbd, ↓Qbe, ↓Qbf, ↓Qbg, ↓Qbh, ↓Qbi, ↓Qbj, ↓Qbk, ↓Qbl, List.set_cons_zero, List.set_cons_succ, wipeP, Bool.false_eq_true, if_false, Bool.not_false, if_true] at h ⊢
    exact zfg_now h
  | true =>
    rw [hn] at h
    obtain ⟨ns, rfl⟩ := isNames_eq hn
    have l := hf _ rfl
    rw [List.length_map] at l
    simp -implicitDefEqProofs only [↓Qa, ↓Qb, ↓Qc, ↓Qd, ↓Qe, ↓Qg, ↓Qh, ↓Qi, ↓Qj, ↓Qk, ↓Ql, ↓par2_two, ↓Qm, ↓Qn, ↓Qo, ↓Qp, ↓Qq, ↓Qr, ↓Qs, ↓Qt, ↓Qu, ↓Qv, ↓Qw, ↓Qx, ↓Qy, ↓Qz, ↓Q0, ↓truK_bl, ↓Q3, ↓Q4, ↓Q5, ↓Q6, ↓chK_bl, ↓Q7, ↓Q8, ↓Q9, ↓Ya, ↓Yb, ↓Yc, ↓Yd, ↓Ye, ↓Yf, ↓Yg, ↓Yh, ↓Yi, ↓Yj, ↓Yk, ↓Ym, ↓Yn, ↓Yo, ↓Yp, ↓Yq, ↓Yr, ↓Ys, ↓Yt, ↓Yu, ↓Yv, ↓Yw, ↓Yx, ↓Yy, ↓Yz, ↓Y0, ↓Y1, ↓Y2, ↓Y3, ↓Y4, ↓Y5, ↓Y6, ↓Y7, ↓Y8, ↓Y9, ↓Ja, ↓Jb, ↓Jc, ↓Jd, ↓Je, ↓Jf, ↓Jg, ↓Jh, ↓Ji, ↓Jj, ↓Jk, ↓Jl, ↓Jm, ↓Jn, ↓Jo, ↓Jp, ↓Jq, ↓Jr, ↓Js, ↓Jt, ↓Ju, ↓Jw, ↓Jx, ↓Jy, ↓Jz, ↓J1, ↓J2, ↓J3, ↓J4, ↓J5, ↓J6, ↓J7, ↓J8, ↓J9, ↓Qaa, ↓Qab, ↓Qac, ↓Qad, ↓Qae, ↓par3_three, ↓Qaf, ↓Qag, ↓Qah, ↓Qai, ↓Qaj, ↓Qak, ↓Qal, ↓Qam, ↓Qan, ↓Qao, ↓Qap, ↓Qaq, ↓Qar, ↓Qas, ↓Qat, ↓Qau, ↓Qav, ↓Qaw, ↓Qax, ↓Qay, ↓Qaz, ↓Qa0, ↓Qa1, ↓Qa2, ↓Qa3, ↓Qa4, ↓Qa5, ↓Qa6, ↓Qa7, ↓Qa8, ↓Qa9, ↓Qba, ↓Qbb, ↓Qbc, ↓Qbd, ↓Qbe, ↓Qbf, ↓Qbg, ↓Qbh, ↓Qbi, ↓Qbj, ↓Qbk, ↓Qbl, List.set_cons_zero, List.set_cons_succ, wipeP, Bool.not_true, Bool.false_eq_true, if_false, if_true, it_towns] at h ⊢
    have h := h ns rfl
    refine wLcL_allM PV.str (fun n => .bl (decide (n ∈ rs.map Road.name))) trivial ns (fun n hnm R' hR' => ?_) (sz0 (by omega)) ?_
    · simp -implicitDefEqProofs only [w_length_of_1, ↓Qa, ↓Qb, ↓Qc, ↓Qd, ↓Qe, ↓Qg, ↓Qh, ↓Qi, ↓Qj, ↓Qk, ↓Ql, ↓par2_two, ↓Qm, ↓Qn, ↓Qo, ↓Qp, ↓Qq, ↓Qr, ↓Qs, ↓Qt, ↓Qu, ↓Qv, ↓Qw, ↓Qx, ↓Qy, ↓Qz, ↓Q0, ↓truK_bl, ↓Q3, ↓Q4, ↓Q5, ↓Q6, ↓chK_bl, ↓Q7, ↓Q8, ↓Q9, ↓Ya, ↓Yb, ↓Yc, ↓Yd, ↓Ye, ↓Yf, ↓Yg, ↓Yh, ↓Yi, ↓Yj, ↓Yk, ↓Ym, ↓Yn, ↓Yo, ↓Yp, ↓Yq, ↓Yr, ↓Ys, ↓Yt, ↓Yu, ↓Yv, ↓Yw, ↓Yx, ↓Yy, ↓Yz, ↓Y0, ↓Y1, ↓Y2, ↓Y3, ↓Y4, ↓Y5, ↓Y6, ↓Y7, ↓Y8, ↓Y9, ↓Ja, ↓Jb, ↓Jc, ↓Jd, ↓Je, ↓Jf, ↓Jg, ↓Jh, ↓Ji, ↓Jj, ↓Jk, ↓Jl, ↓Jm, ↓Jn, ↓Jo, ↓Jp, ↓Jq, ↓Jr, ↓Js, ↓Jt, ↓Ju, ↓Jw, ↓Jx, ↓Jy, ↓Jz, ↓J1, ↓J2, ↓J3, ↓J4, ↓J5, ↓J6, ↓J7, ↓J8, ↓J9, ↓Qaa, ↓Qab, ↓Qac, ↓Qad, ↓Qae, ↓par3_three, ↓Qaf, ↓Qag, ↓Qah, ↓Qai, ↓Qaj, ↓Qak, ↓Qal, ↓Qam, ↓Qan, ↓Qao, ↓Qap, ↓Qaq, ↓Qar, ↓Qas, ↓Qat, ↓Qau, ↓Qav, ↓Qaw, ↓Qax, ↓Qay, ↓Qaz, ↓Qa0, ↓Qa1, ↓Qa2, ↓Qa3, ↓Qa4, ↓Qa5, ↓Qa6, ↓Qa7, ↓Qa8, ↓Qa9, ↓Qba, ↓Qbb, ↓Qbc, ↓Qbd, ↓Qbe, ↓Qbf, ↓Qbg, ↓Qbh, ↓Qbi, ↓Qbj, ↓Qbk, ↓Qbl, List.set_cons_zero, List.set_cons_succ, wipeP, f_named hC, J9, dget_named, Bool.bne_false]
      exact hR'
    rw [k_allM]
    cases ha : ns.all fun n => decide (n ∈ rs.map Road.name) with
    | false =>
      rw [ha] at h
      simp -implicitDefEqProofs only [↓Qa, ↓Qb, ↓Qc, ↓Qd, ↓Qe, ↓Qg, ↓Qh, ↓Qi, ↓Qj, ↓Qk, ↓Ql, ↓par2_two, ↓Qm, ↓Qn, ↓Qo, ↓Qp, ↓Qq, ↓Qr, ↓Qs, ↓Qt, ↓Qu, ↓Qv, ↓Qw, ↓Qx, ↓Qy, ↓Qz, ↓Q0, ↓truK_bl, ↓Q3, ↓Q4, ↓Q5, ↓Q6, ↓chK_bl, ↓Q7, ↓Q8, ↓Q9, ↓Ya, ↓Yb, ↓Yc, ↓Yd, ↓Ye, ↓Yf, ↓Yg, ↓Yh, ↓Yi, ↓Yj, ↓Yk, ↓Ym, ↓Yn, ↓Yo, ↓Yp, ↓Yq, ↓Yr, ↓Ys, ↓Yt, ↓Yu, ↓Yv, ↓Yw, ↓Yx, ↓Yy, ↓Yz, ↓Y0, ↓Y1, ↓Y2, ↓Y3, ↓Y4, ↓Y5, ↓Y6, ↓Y7, ↓Y8, ↓Y9, ↓Ja, ↓Jb, ↓Jc, ↓Jd, ↓Je, ↓Jf, ↓Jg, ↓Jh, ↓Ji, ↓Jj, ↓Jk, ↓Jl, ↓Jm, ↓Jn, ↓Jo, ↓Jp, ↓Jq, ↓Jr, ↓Js, ↓Jt, ↓Ju, ↓Jw, ↓Jx, ↓Jy, ↓Jz, ↓J1, ↓J2, ↓J3, ↓J4, ↓J5, ↓J6, ↓J7, ↓J8, ↓J9, ↓Qaa, ↓Qab, ↓Qac, ↓Qad, ↓Qae, ↓par3_three, ↓Qaf, ↓Qag, ↓Qah, ↓Qai, ↓Qaj, ↓Qak, ↓Qal, ↓Qam, ↓Qan, ↓Qao, ↓Qap, ↓Qaq, ↓Qar, ↓Qas, ↓Qat, ↓Qau, ↓Qav, ↓Qaw, ↓Qax, ↓Qay, ↓Qaz, ↓Qa0, ↓Qa1, ↓Qa2, ↓Qa3, ↓Qa4, ↓Qa5, ↓Qa6, ↓Qa7, ↓Qa8, ↓Qa9, ↓Qba, ↓Qbb, ↓Qbc, ↓Qbd, ↓Qbe, ↓Qbf, ↓Qbg, ↓Qbh, ↓Qbi, ↓Qbj, ↓Qbk, ↓Qbl, List.set_cons_zero, List.set_cons_succ, wipeP, Bool.false_eq_true, if_false, Bool.not_false, if_true] at h ⊢
      exact zfg_now h
    | true =>
      rw [ha] at h
      simp -implicitDefEqProofs only [↓Qa, ↓Qb, ↓Qc, ↓Qd, ↓Qe, ↓Qg, ↓Qh, ↓Qi, ↓Qj, ↓Qk, ↓Ql, ↓par2_two, ↓Qm, ↓Qn, ↓Qo, ↓Qp, ↓Qq, ↓Qr, ↓Qs, ↓Qt, ↓Qu, ↓Qv, ↓Qw, ↓Qx, ↓Qy, ↓Qz, ↓Q0, ↓truK_bl, ↓Q3, ↓Q4, ↓Q5, ↓Q6, ↓chK_bl, ↓Q7, ↓Q8, ↓Q9, ↓Ya, ↓Yb, ↓Yc, ↓Yd, ↓Ye, ↓Yf, ↓Yg, ↓Yh, ↓Yi, ↓Yj, ↓Yk, ↓Ym, ↓Yn, ↓Yo, ↓Yp, ↓Yq, ↓Yr, ↓Ys, ↓Yt, ↓Yu, ↓Yv, ↓Yw, ↓Yx, ↓Yy, ↓Yz, ↓Y0, ↓Y1, ↓Y2, ↓Y3, ↓Y4, ↓Y5, ↓Y6, ↓Y7, ↓Y8, ↓Y9, ↓Ja, ↓Jb, ↓Jc, ↓Jd, ↓Je, ↓Jf, ↓Jg, ↓Jh, ↓Ji, ↓Jj, ↓Jk, ↓Jl, ↓Jm, ↓Jn, ↓Jo, ↓Jp, ↓Jq, ↓Jr, ↓Js, ↓Jt, ↓Ju, ↓Jw, ↓Jx, ↓Jy, ↓Jz, ↓J1, ↓J2, ↓J3, ↓J4, ↓J5, ↓J6, ↓J7, ↓J8, ↓J9, ↓Qaa, ↓Qab, ↓Qac, ↓Qad, ↓Qae, ↓par3_three, ↓Qaf, ↓Qag, ↓Qah, ↓Qai, ↓Qaj, ↓Qak, ↓Qal, ↓Qam, ↓Qan, ↓Qao, ↓Qap, ↓Qaq, ↓Qar, ↓Qas, ↓Qat, ↓Qau, ↓Qav, ↓Qaw, ↓Qax, ↓Qay, ↓Qaz, ↓Qa0, ↓Qa1, ↓Qa2, ↓Qa3, ↓Qa4, ↓Qa5, ↓Qa6, ↓Qa7, ↓Qa8, ↓Qa9, ↓Qba, ↓Qbb, ↓Qbc, ↓Qbd, ↓Qbe, ↓Qbf, ↓Qbg, ↓Qbh, ↓Qbi, ↓Qbj, ↓Qbk, ↓Qbl, List.set_cons_zero, List.set_cons_succ, wipeP, Bool.not_true, Bool.false_eq_true, if_false, if_true] at h ⊢
      exact ⟨rfl, t_raw_length hC l (fun n hn => of_decide_eq_true (List.all_eq_true.mp ha n hn)) (gR_now h)⟩

section
variable {S : Sto} {R : RK}
theorem k_cnt {xs : List PV} {y : PV} (h1 : flatP y = true) (h2 : xs.all flatP = true) : kCntL (.lst xs) [y] S R = R (.int ((xs.countP fun x => eqF x y : Nat) : Int)) S := by
  show (flatP y = true ∧ xs.all flatP = true ∧ _) = _
  rw [h1, h2]
  exact propext ⟨fun z => z.2.2, fun z => ⟨rfl, rfl, z⟩⟩
theorem k_ty_lst {xs : List PV} : tyB "list" (.lst xs) = True := by exact propext ⟨fun _ => trivial, fun _ => rfl⟩
end
theorem word_suite (K : PySem.W.Frag) {we : WE} {a f : Addr} {e : Exc} {P : PEnds} {S : Sto} {b1 b2 b3 : Bool} (hx : ExcC K e.cls) (h1 : PySem.W.kitOne K (.ref e.cls) (.ref (He.ga K "NoTown")) = some b1) (h2 : PySem.W.kitOne K (.ref e.cls) (.ref (He.ga K "NoNames")) = some b2)
    (h3 : PySem.W.kitOne K (.ref e.cls) (.ref (He.ga K "NoRoad")) = some b3) (ht : PySem.W.kitOne K (.ref e.cls) (.type "ValueError") = some true)
    (one : ([b1, b2, b3].map PV.bl).countP (fun x => eqF x (.bl true)) = 1)
    (hN : ∃ (j : Nat) (w : PV), [b1, b2, b3][j]? = some true ∧ (∀ m < j, [b1, b2, b3][m]? = some false) ∧ [PV.str "town", .str "names", .str "road"][j]? = some w ∧ P.rt w S) :
    w__law_word_2 K we a e P [some (.ref f), some (.ref a), none] S := by
  unfold w__law_word_2
  simp -implicitDefEqProofs only [↓Qa, ↓Qb, ↓Qc, ↓Qd, ↓Qe, ↓Qg, ↓Qh, ↓Qi, ↓Qj, ↓Qk, ↓Ql, ↓par2_two, ↓Qm, ↓Qn, ↓Qo, ↓Qp, ↓Qq, ↓Qr, ↓Qs, ↓Qt, ↓Qu, ↓Qv, ↓Qw, ↓Qx, ↓Qy, ↓Qz, ↓Q0, ↓truK_bl, ↓Q3, ↓Q4, ↓Q5, ↓Q6, ↓chK_bl, ↓Q7, ↓Q8, ↓Q9, ↓Ya, ↓Yb, ↓Yc, ↓Yd, ↓Ye, ↓Yf, ↓Yg, ↓Yh, ↓Yi, ↓Yj, ↓Yk, ↓Ym, ↓Yn, ↓Yo, ↓Yp, ↓Yq, ↓Yr, ↓Ys, ↓Yt, ↓Yu, ↓Yv, ↓Yw, ↓Yx, ↓Yy, ↓Yz, ↓Y0, ↓Y1, ↓Y2, ↓Y3, ↓Y4, ↓Y5, ↓Y6, ↓Y7, ↓Y8, ↓Y9, ↓Ja, ↓Jb, ↓Jc, ↓Jd, ↓Je, ↓Jf, ↓Jg, ↓Jh, ↓Ji, ↓Jj, ↓Jk, ↓Jl, ↓Jm, ↓Jn, ↓Jo, ↓Jp, ↓Jq, ↓Jr, ↓Js, ↓Jt, ↓Ju, ↓Jw, ↓Jx, ↓Jy, ↓Jz, ↓J1, ↓J2, ↓J3, ↓J4, ↓J5, ↓J6, ↓J7, ↓J8, ↓J9, ↓Qaa, ↓Qab, ↓Qac, ↓Qad, ↓Qae, ↓par3_three, ↓Qaf, ↓Qag, ↓Qah, ↓Qai, ↓Qaj, ↓Qak, ↓Qal, ↓Qam, ↓Qan, ↓Qao, ↓Qap, ↓Qaq, ↓Qar, ↓Qas, ↓Qat, ↓Qau, ↓Qav, ↓Qaw, ↓Qax, ↓Qay, ↓Qaz, ↓Qa0, ↓Qa1, ↓Qa2, ↓Qa3, ↓Qa4, ↓Qa5, ↓Qa6, ↓Qa7, ↓Qa8, ↓Qa9, ↓Qba, ↓Qbb, ↓Qbc, ↓Qbd, ↓Qbe, ↓Qbf, ↓Qbg, ↓Qbh, ↓Qbi, ↓Qbj, ↓Qbk, ↓Qbl, List.set_cons_zero, List.set_cons_succ, wipeP]
  refine ⟨trivial, hx, b1, h1, trivial, hx, b2, h2, trivial, hx, b3, h3, sz0 (by simp), ?_⟩
  show tyB "list" (.lst ([b1, b2, b3].map PV.bl)) ∧ kCntL (.lst ([b1, b2, b3].map PV.bl)) [.bl true] S _
  rw [k_ty_lst, k_cnt rfl (by simp [flatP]), one]
  refine ⟨trivial, ?_⟩
  simp -implicitDefEqProofs only [↓Qa, ↓Qb, ↓Qc, ↓Qd, ↓Qe, ↓Qg, ↓Qh, ↓Qi, ↓Qj, ↓Qk, ↓Ql, ↓par2_two, ↓Qm, ↓Qn, ↓Qo, ↓Qp, ↓Qq, ↓Qr, ↓Qs, ↓Qt, ↓Qu, ↓Qv, ↓Qw, ↓Qx, ↓Qy, ↓Qz, ↓Q0, ↓truK_bl, ↓Q3, ↓Q4, ↓Q5, ↓Q6, ↓chK_bl, ↓Q7, ↓Q8, ↓Q9, ↓Ya, ↓Yb, ↓Yc, ↓Yd, ↓Ye, ↓Yf, ↓Yg, ↓Yh, ↓Yi, ↓Yj, ↓Yk, ↓Ym, ↓Yn, ↓Yo, ↓Yp, ↓Yq, ↓Yr, ↓Ys, ↓Yt, ↓Yu, ↓Yv, ↓Yw, ↓Yx, ↓Yy, ↓Yz, ↓Y0, ↓Y1, ↓Y2, ↓Y3, ↓Y4, ↓Y5, ↓Y6, ↓Y7, ↓Y8, ↓Y9, ↓Ja, ↓Jb, ↓Jc, ↓Jd, ↓Je, ↓Jf, ↓Jg, ↓Jh, ↓Ji, ↓Jj, ↓Jk, ↓Jl, ↓Jm, ↓Jn, ↓Jo, ↓Jp, ↓Jq, ↓Jr, ↓Js, ↓Jt, ↓Ju, ↓Jw, ↓Jx, ↓Jy, ↓Jz, ↓J1, ↓J2, ↓J3, ↓J4, ↓J5, ↓J6, ↓J7, ↓J8, ↓J9, ↓Qaa, ↓Qab, ↓Qac, ↓Qad, ↓Qae, ↓par3_three, ↓Qaf, ↓Qag, ↓Qah, ↓Qai, ↓Qaj, ↓Qak, ↓Qal, ↓Qam, ↓Qan, ↓Qao, ↓Qap, ↓Qaq, ↓Qar, ↓Qas, ↓Qat, ↓Qau, ↓Qav, ↓Qaw, ↓Qax, ↓Qay, ↓Qaz, ↓Qa0, ↓Qa1, ↓Qa2, ↓Qa3, ↓Qa4, ↓Qa5, ↓Qa6, ↓Qa7, ↓Qa8, ↓Qa9, ↓Qba, ↓Qbb, ↓Qbc, ↓Qbd, ↓Qbe, ↓Qbf, ↓Qbg, ↓Qbh, ↓Qbi, ↓Qbj, ↓Qbk, ↓Qbl, List.set_cons_zero, List.set_cons_succ, wipeP]
  show if (decide (((1 : Nat) : Int) = 1) != true) = true then _ else _
  rw [decide_eq_true (show ((1 : Nat) : Int) = 1 by omega)]
  simp only [Bool.bne_true, Bool.not_true, Bool.false_eq_true, if_false]
  refine ⟨trivial, hx, true, ht, ?_⟩
  simp only [Bool.not_true, Bool.false_eq_true, if_false]
  obtain ⟨j, w, j1, j2, j3, hR⟩ := hN
  refine ⟨sz0 (by simp), rfl, ?_⟩
  refine ⟨rfl, by simp [flatP], j, .bl true, ?_, rfl, fun m z hm hz => ?_, ?_⟩
  · have : ([b1, b2, b3].map PV.bl)[j]? = some (.bl true) := by rw [List.getElem?_map, j1]; rfl
    exact this
  · have h : ([b1, b2, b3].map PV.bl)[m]? = some z := hz
    rw [List.getElem?_map, j2 m hm] at h
    cases h; rfl
  · exact ⟨w, atI_nn (j := j) rfl j3, hR⟩
theorem pure__law_word (K : PySem.W.Frag) (hex : exB K = true) : ∀ f tp S R, sp__law_word K tp S R → w__law_word K (wThk f tp) { nx := fun _ S' => R .non S', rt := R } (startP n__law_word [.ref f]) S := by
  intro f tp S R h
  have e : startP n__law_word [.ref f] = [some (.ref f), none, none] := rfl
  rw [e]
  unfold w__law_word
  rw [Qd, Qan]
  unfold w__law_word_1
  rw [Qi, Qau]
  refine ⟨rfl, h _ _ (fun p S' hr => ?_) fun e S' w hw hr => ?_⟩
  · exact hr
  · rcases hw with ⟨rfl, rfl⟩ | ⟨rfl, rfl⟩ | ⟨rfl, rfl⟩
    · refine ⟨true, exm_NoTown_RoadError K hex, fun _ a => ?_, fun z => by cases z⟩
      exact word_suite K (excC_NoTown K hex) (kit_NoTown_NoTown K hex) (kit_NoTown_NoNames K hex) (kit_NoTown_NoRoad K hex) (kitT_NoTown_ValueError K hex) (by decide) ⟨0, _, rfl, fun m hm => absurd hm (by omega), rfl, hr⟩
    · refine ⟨true, exm_NoNames_RoadError K hex, fun _ a => ?_, fun z => by cases z⟩
      exact word_suite K (excC_NoNames K hex) (kit_NoNames_NoTown K hex) (kit_NoNames_NoNames K hex) (kit_NoNames_NoRoad K hex) (kitT_NoNames_ValueError K hex) (by decide) ⟨1, _, rfl, fun m hm => by (have : m = 0 := by omega); subst this; rfl, rfl, hr⟩
    · refine ⟨true, exm_NoRoad_RoadError K hex, fun _ a => ?_, fun z => by cases z⟩
      exact word_suite K (excC_NoRoad K hex) (kit_NoRoad_NoTown K hex) (kit_NoRoad_NoNames K hex) (kit_NoRoad_NoRoad K hex) (kitT_NoRoad_ValueError K hex) (by decide) ⟨2, _, rfl, fun m hm => by (have : m = 0 ∨ m = 1 := by omega); rcases this with rfl | rfl <;> rfl, rfl, hr⟩
section
variable {K : PySem.W.Frag} {S : Sto} {R : RK} {Z : ZK}
theorem t_word {tp : Th} (h : ∀ (R' : RK) (Z' : ZK), (∀ p S', R (.str "let") S' → R' p S') → (∀ e S' w, wordOf K e w → R w S' → Z' e S') → tp S R' Z') : sp__law_word K tp S R := h
theorem w_town : wordOf K (exc0 K "NoTown") (.str "town") := .inl ⟨rfl, rfl⟩
theorem w_names : wordOf K (exc0 K "NoNames") (.str "names") := .inr (.inl ⟨rfl, rfl⟩)
theorem w_road : wordOf K (exc0 K "NoRoad") (.str "road") := .inr (.inr ⟨rfl, rfl⟩)
theorem t_gone {rs : List Road} {x : Str} {ns : List Str} {b : Bool} (nd : (rs.map Road.name).Nodup) (rl : rs.length ≤ 1000) (nl : ns.length ≤ 1000) (h : R (wayP (wayR rs b x ns)) S) : sp__law_gone K [roadsP rs, .str x, townsP ns, .bl b] S R Z := ⟨rs, x, ns, b, rfl, nd, rl, nl, h⟩
theorem t_lnames {a : Addr} {ts : List Str} {rs : List Road} {x : Str} (h : HandAt a S) (ok : NetOk ts rs) (hR : ∀ ns S', ns.length ≤ 20 → (∀ n ∈ ns, n.length ≤ 8) → HandAt a S' → Off a S S' → R (townsP ns) S') : sp__law_names K [.ref a, townsP ts, roadsP rs, .str x] S R Z := ⟨a, ts, rs, x, rfl, h, ok, hR⟩
end
theorem pure__law_gone (K : PySem.W.Frag) : ∀ ps S R Z, ps.length = 4 → sp__law_gone K ps S R Z → w__law_gone K (fin R Z) (startP n__law_gone ps) S := by
  intro ps S R Z hl h
  obtain ⟨rs, x, ns, tie, rfl, nd, rl, nl, hR⟩ := h
  have e : startP n__law_gone [roadsP rs, .str x, townsP ns, .bl tie] = [some (roadsP rs), some (.str x), some (townsP ns), some (.bl tie), none, none, none, none] := rfl
  rw [e]
  unfold w__law_gone
  refine seq_any fun N0 eN0 => ?_
  simp -implicitDefEqProofs only [↓Qa, ↓Qb, ↓Qc, ↓Qd, ↓Qe, ↓Qg, ↓Qh, ↓Qi, ↓Qj, ↓Qk, ↓Ql, ↓par2_two, ↓Qm, ↓Qn, ↓Qo, ↓Qp, ↓Qq, ↓Qr, ↓Qs, ↓Qt, ↓Qu, ↓Qv, ↓Qw, ↓Qx, ↓Qy, ↓Qz, ↓Q0, ↓truK_bl, ↓Q3, ↓Q4, ↓Q5, ↓Q6, ↓chK_bl, ↓Q7, ↓Q8, ↓Q9, ↓Ya, ↓Yb, ↓Yc, ↓Yd, ↓Ye, ↓Yf, ↓Yg, ↓Yh, ↓Yi, ↓Yj, ↓Yk, ↓Ym, ↓Yn, ↓Yo, ↓Yp, ↓Yq, ↓Yr, ↓Ys, ↓Yt, ↓Yu, ↓Yv, ↓Yw, ↓Yx, ↓Yy, ↓Yz, ↓Y0, ↓Y1, ↓Y2, ↓Y3, ↓Y4, ↓Y5, ↓Y6, ↓Y7, ↓Y8, ↓Y9, ↓Ja, ↓Jb, ↓Jc, ↓Jd, ↓Je, ↓Jf, ↓Jg, ↓Jh, ↓Ji, ↓Jj, ↓Jk, ↓Jl, ↓Jm, ↓Jn, ↓Jo, ↓Jp, ↓Jq, ↓Jr, ↓Js, ↓Jt, ↓Ju, ↓Jw, ↓Jx, ↓Jy, ↓Jz, ↓J1, ↓J2, ↓J3, ↓J4, ↓J5, ↓J6, ↓J7, ↓J8, ↓J9, ↓Qaa, ↓Qab, ↓Qac, ↓Qad, ↓Qae, ↓par3_three, ↓Qaf, ↓Qag, ↓Qah, ↓Qai, ↓Qaj, ↓Qak, ↓Qal, ↓Qam, ↓Qan, ↓Qao, ↓Qap, ↓Qaq, ↓Qar, ↓Qas, ↓Qat, ↓Qau, ↓Qav, ↓Qaw, ↓Qax, ↓Qay, ↓Qaz, ↓Qa0, ↓Qa1, ↓Qa2, ↓Qa3, ↓Qa4, ↓Qa5, ↓Qa6, ↓Qa7, ↓Qa8, ↓Qa9, ↓Qba, ↓Qbb, ↓Qbc, ↓Qbd, ↓Qbe, ↓Qbf, ↓Qbg, ↓Qbh, ↓Qbi, ↓Qbj, ↓Qbk, ↓Qbl, List.set_cons_zero, List.set_cons_succ, wipeP, it_roads]
  refine wLcL_allM roadP (fun r => .tup [.str r.name, roadP r]) trivial rs (fun r hr R' hR' => ?_) (sz0 (by omega)) ?_
  · simp -implicitDefEqProofs only [w__law_gone_1, ↓Qa, ↓Qb, ↓Qc, ↓Qd, ↓Qe, ↓Qg, ↓Qh, ↓Qi, ↓Qj, ↓Qk, ↓Ql, ↓par2_two, ↓Qm, ↓Qn, ↓Qo, ↓Qp, ↓Qq, ↓Qr, ↓Qs, ↓Qt, ↓Qu, ↓Qv, ↓Qw, ↓Qx, ↓Qy, ↓Qz, ↓Q0, ↓truK_bl, ↓Q3, ↓Q4, ↓Q5, ↓Q6, ↓chK_bl, ↓Q7, ↓Q8, ↓Q9, ↓Ya, ↓Yb, ↓Yc, ↓Yd, ↓Ye, ↓Yf, ↓Yg, ↓Yh, ↓Yi, ↓Yj, ↓Yk, ↓Ym, ↓Yn, ↓Yo, ↓Yp, ↓Yq, ↓Yr, ↓Ys, ↓Yt, ↓Yu, ↓Yv, ↓Yw, ↓Yx, ↓Yy, ↓Yz, ↓Y0, ↓Y1, ↓Y2, ↓Y3, ↓Y4, ↓Y5, ↓Y6, ↓Y7, ↓Y8, ↓Y9, ↓Ja, ↓Jb, ↓Jc, ↓Jd, ↓Je, ↓Jf, ↓Jg, ↓Jh, ↓Ji, ↓Jj, ↓Jk, ↓Jl, ↓Jm, ↓Jn, ↓Jo, ↓Jp, ↓Jq, ↓Jr, ↓Js, ↓Jt, ↓Ju, ↓Jw, ↓Jx, ↓Jy, ↓Jz, ↓J1, ↓J2, ↓J3, ↓J4, ↓J5, ↓J6, ↓J7, ↓J8, ↓J9, ↓Qaa, ↓Qab, ↓Qac, ↓Qad, ↓Qae, ↓par3_three, ↓Qaf, ↓Qag, ↓Qah, ↓Qai, ↓Qaj, ↓Qak, ↓Qal, ↓Qam, ↓Qan, ↓Qao, ↓Qap, ↓Qaq, ↓Qar, ↓Qas, ↓Qat, ↓Qau, ↓Qav, ↓Qaw, ↓Qax, ↓Qay, ↓Qaz, ↓Qa0, ↓Qa1, ↓Qa2, ↓Qa3, ↓Qa4, ↓Qa5, ↓Qa6, ↓Qa7, ↓Qa8, ↓Qa9, ↓Qba, ↓Qbb, ↓Qbc, ↓Qbd, ↓Qbe, ↓Qbf, ↓Qbg, ↓Qbh, ↓Qbi, ↓Qbj, ↓Qbk, ↓Qbl, List.set_cons_zero, List.set_cons_succ, wipeP, ix_road]
    exact ⟨.str r.name, rfl, sz0 (by simp), hR'⟩
  refine k_dictP_roads nd ?_
  refine ⟨sz0 (by simp), fun b hb => ?_⟩
  rw [eN0]
  unfold w__law_gone_6
  refine seq_any fun N1 eN1 => ?_
  simp -implicitDefEqProofs only [↓Qa, ↓Qb, ↓Qc, ↓Qd, ↓Qe, ↓Qg, ↓Qh, ↓Qi, ↓Qj, ↓Qk, ↓Ql, ↓par2_two, ↓Qm, ↓Qn, ↓Qo, ↓Qp, ↓Qq, ↓Qr, ↓Qs, ↓Qt, ↓Qu, ↓Qv, ↓Qw, ↓Qx, ↓Qy, ↓Qz, ↓Q0, ↓truK_bl, ↓Q3, ↓Q4, ↓Q5, ↓Q6, ↓chK_bl, ↓Q7, ↓Q8, ↓Q9, ↓Ya, ↓Yb, ↓Yc, ↓Yd, ↓Ye, ↓Yf, ↓Yg, ↓Yh, ↓Yi, ↓Yj, ↓Yk, ↓Ym, ↓Yn, ↓Yo, ↓Yp, ↓Yq, ↓Yr, ↓Ys, ↓Yt, ↓Yu, ↓Yv, ↓Yw, ↓Yx, ↓Yy, ↓Yz, ↓Y0, ↓Y1, ↓Y2, ↓Y3, ↓Y4, ↓Y5, ↓Y6, ↓Y7, ↓Y8, ↓Y9, ↓Ja, ↓Jb, ↓Jc, ↓Jd, ↓Je, ↓Jf, ↓Jg, ↓Jh, ↓Ji, ↓Jj, ↓Jk, ↓Jl, ↓Jm, ↓Jn, ↓Jo, ↓Jp, ↓Jq, ↓Jr, ↓Js, ↓Jt, ↓Ju, ↓Jw, ↓Jx, ↓Jy, ↓Jz, ↓J1, ↓J2, ↓J3, ↓J4, ↓J5, ↓J6, ↓J7, ↓J8, ↓J9, ↓Qaa, ↓Qab, ↓Qac, ↓Qad, ↓Qae, ↓par3_three, ↓Qaf, ↓Qag, ↓Qah, ↓Qai, ↓Qaj, ↓Qak, ↓Qal, ↓Qam, ↓Qan, ↓Qao, ↓Qap, ↓Qaq, ↓Qar, ↓Qas, ↓Qat, ↓Qau, ↓Qav, ↓Qaw, ↓Qax, ↓Qay, ↓Qaz, ↓Qa0, ↓Qa1, ↓Qa2, ↓Qa3, ↓Qa4, ↓Qa5, ↓Qa6, ↓Qa7, ↓Qa8, ↓Qa9, ↓Qba, ↓Qbb, ↓Qbc, ↓Qbd, ↓Qbe, ↓Qbf, ↓Qbg, ↓Qbh, ↓Qbi, ↓Qbj, ↓Qbk, ↓Qbl, List.set_cons_zero, List.set_cons_succ, wipeP, it_towns]
  have e0 : wayR rs tie x ns = (goR rs tie x ns).map (([] ++ [x]) ++ ·) := rfl
  refine wForL_inv PV.str (fun rest ρ S' => ∃ acc y x6 x7, Led b S S' acc y ∧ acc.length + rest.length ≤ 1000 ∧ wayR rs tie x ns = (goR rs tie y rest).map ((acc ++ [y]) ++ ·) ∧ ρ = [some (roadsP rs), some (.str x), some (townsP ns), some (.bl tie), some (.dct (namedP rs)), some (.ref b), x6, x7])
    (fun n rest ρ S' ⟨acc, y, x6, x7, L, l, eg, er⟩ => ⟨trivial, fun N hN => ?_⟩) (fun ρ S' ⟨acc, y, x6, x7, L, l, eg, er⟩ => ⟨trivial, ?_⟩) ns _ _ ⟨[], x, none, none, ⟨updS_same, fun y hy => updS_ne hy⟩, by simpa using nl, e0, rfl⟩
  · subst er
    rw [goR_cons] at eg
    rw [List.length_cons] at l
    unfold w__law_gone_4
    rw [Yv]
    simp only [List.set_cons_succ, List.set_cons_zero]
    refine seq_any fun N2 eN2 => ?_
    simp -implicitDefEqProofs only [↓Qa, ↓Qb, ↓Qc, ↓Qd, ↓Qe, ↓Qg, ↓Qh, ↓Qi, ↓Qj, ↓Qk, ↓Ql, ↓par2_two, ↓Qm, ↓Qn, ↓Qo, ↓Qp, ↓Qq, ↓Qr, ↓Qs, ↓Qt, ↓Qu, ↓Qv, ↓Qw, ↓Qx, ↓Qy, ↓Qz, ↓Q0, ↓truK_bl, ↓Q3, ↓Q4, ↓Q5, ↓Q6, ↓chK_bl, ↓Q7, ↓Q8, ↓Q9, ↓Ya, ↓Yb, ↓Yc, ↓Yd, ↓Ye, ↓Yf, ↓Yg, ↓Yh, ↓Yi, ↓Yj, ↓Yk, ↓Ym, ↓Yn, ↓Yo, ↓Yp, ↓Yq, ↓Yr, ↓Ys, ↓Yt, ↓Yu, ↓Yv, ↓Yw, ↓Yx, ↓Yy, ↓Yz, ↓Y0, ↓Y1, ↓Y2, ↓Y3, ↓Y4, ↓Y5, ↓Y6, ↓Y7, ↓Y8, ↓Y9, ↓Ja, ↓Jb, ↓Jc, ↓Jd, ↓Je, ↓Jf, ↓Jg, ↓Jh, ↓Ji, ↓Jj, ↓Jk, ↓Jl, ↓Jm, ↓Jn, ↓Jo, ↓Jp, ↓Jq, ↓Jr, ↓Js, ↓Jt, ↓Ju, ↓Jw, ↓Jx, ↓Jy, ↓Jz, ↓J1, ↓J2, ↓J3, ↓J4, ↓J5, ↓J6, ↓J7, ↓J8, ↓J9, ↓Qaa, ↓Qab, ↓Qac, ↓Qad, ↓Qae, ↓par3_three, ↓Qaf, ↓Qag, ↓Qah, ↓Qai, ↓Qaj, ↓Qak, ↓Qal, ↓Qam, ↓Qan, ↓Qao, ↓Qap, ↓Qaq, ↓Qar, ↓Qas, ↓Qat, ↓Qau, ↓Qav, ↓Qaw, ↓Qax, ↓Qay, ↓Qaz, ↓Qa0, ↓Qa1, ↓Qa2, ↓Qa3, ↓Qa4, ↓Qa5, ↓Qa6, ↓Qa7, ↓Qa8, ↓Qa9, ↓Qba, ↓Qbb, ↓Qbc, ↓Qbd, ↓Qbe, ↓Qbf, ↓Qbg, ↓Qbh, ↓Qbi, ↓Qbj, ↓Qbk, ↓Qbl, List.set_cons_zero, List.set_cons_succ, wipeP, J9, dget_named]
    cases hf : findR rs n with
    | none =>
      rw [hf] at eg
      rw [decide_eq_false (findR_none hf)]
      simp -implicitDefEqProofs only [↓Qa, ↓Qb, ↓Qc, ↓Qd, ↓Qe, ↓Qg, ↓Qh, ↓Qi, ↓Qj, ↓Qk, ↓Ql, ↓par2_two, ↓Qm, ↓Qn, ↓Qo, ↓Qp, ↓Qq, ↓Qr, ↓Qs, ↓Qt, ↓Qu, ↓Qv, ↓Qw, ↓Qx, ↓Qy, ↓Qz, ↓Q0, ↓truK_bl, ↓Q3, ↓Q4, ↓Q5, ↓Q6, ↓chK_bl, ↓Q7, ↓Q8, ↓Q9, ↓Ya, ↓Yb, ↓Yc, ↓Yd, ↓Ye, ↓Yf, ↓Yg, ↓Yh, ↓Yi, ↓Yj, ↓Yk, ↓Ym, ↓Yn, ↓Yo, ↓Yp, ↓Yq, ↓Yr, ↓Ys, ↓Yt, ↓Yu, ↓Yv, ↓Yw, ↓Yx, ↓Yy, ↓Yz, ↓Y0, ↓Y1, ↓Y2, ↓Y3, ↓Y4, ↓Y5, ↓Y6, ↓Y7, ↓Y8, ↓Y9, ↓Ja, ↓Jb, ↓Jc, ↓Jd, ↓Je, ↓Jf, ↓Jg, ↓Jh, ↓Ji, ↓Jj, ↓Jk, ↓Jl, ↓Jm, ↓Jn, ↓Jo, ↓Jp, ↓Jq, ↓Jr, ↓Js, ↓Jt, ↓Ju, ↓Jw, ↓Jx, ↓Jy, ↓Jz, ↓J1, ↓J2, ↓J3, ↓J4, ↓J5, ↓J6, ↓J7, ↓J8, ↓J9, ↓Qaa, ↓Qab, ↓Qac, ↓Qad, ↓Qae, ↓par3_three, ↓Qaf, ↓Qag, ↓Qah, ↓Qai, ↓Qaj, ↓Qak, ↓Qal, ↓Qam, ↓Qan, ↓Qao, ↓Qap, ↓Qaq, ↓Qar, ↓Qas, ↓Qat, ↓Qau, ↓Qav, ↓Qaw, ↓Qax, ↓Qay, ↓Qaz, ↓Qa0, ↓Qa1, ↓Qa2, ↓Qa3, ↓Qa4, ↓Qa5, ↓Qa6, ↓Qa7, ↓Qa8, ↓Qa9, ↓Qba, ↓Qbb, ↓Qbc, ↓Qbd, ↓Qbe, ↓Qbf, ↓Qbg, ↓Qbh, ↓Qbi, ↓Qbj, ↓Qbk, ↓Qbl, List.set_cons_zero, List.set_cons_succ, wipeP, Bool.bne_true, Bool.not_false, if_true]
      rw [eg] at hR
      exact L.out hb hR
    | some q =>
      rw [hf] at eg
      dsimp only at eg
      rw [decide_eq_true (findR_some hf)]
      simp -implicitDefEqProofs only [↓Qa, ↓Qb, ↓Qc, ↓Qd, ↓Qe, ↓Qg, ↓Qh, ↓Qi, ↓Qj, ↓Qk, ↓Ql, ↓par2_two, ↓Qm, ↓Qn, ↓Qo, ↓Qp, ↓Qq, ↓Qr, ↓Qs, ↓Qt, ↓Qu, ↓Qv, ↓Qw, ↓Qx, ↓Qy, ↓Qz, ↓Q0, ↓truK_bl, ↓Q3, ↓Q4, ↓Q5, ↓Q6, ↓chK_bl, ↓Q7, ↓Q8, ↓Q9, ↓Ya, ↓Yb, ↓Yc, ↓Yd, ↓Ye, ↓Yf, ↓Yg, ↓Yh, ↓Yi, ↓Yj, ↓Yk, ↓Ym, ↓Yn, ↓Yo, ↓Yp, ↓Yq, ↓Yr, ↓Ys, ↓Yt, ↓Yu, ↓Yv, ↓Yw, ↓Yx, ↓Yy, ↓Yz, ↓Y0, ↓Y1, ↓Y2, ↓Y3, ↓Y4, ↓Y5, ↓Y6, ↓Y7, ↓Y8, ↓Y9, ↓Ja, ↓Jb, ↓Jc, ↓Jd, ↓Je, ↓Jf, ↓Jg, ↓Jh, ↓Ji, ↓Jj, ↓Jk, ↓Jl, ↓Jm, ↓Jn, ↓Jo, ↓Jp, ↓Jq, ↓Jr, ↓Js, ↓Jt, ↓Ju, ↓Jw, ↓Jx, ↓Jy, ↓Jz, ↓J1, ↓J2, ↓J3, ↓J4, ↓J5, ↓J6, ↓J7, ↓J8, ↓J9, ↓Qaa, ↓Qab, ↓Qac, ↓Qad, ↓Qae, ↓par3_three, ↓Qaf, ↓Qag, ↓Qah, ↓Qai, ↓Qaj, ↓Qak, ↓Qal, ↓Qam, ↓Qan, ↓Qao, ↓Qap, ↓Qaq, ↓Qar, ↓Qas, ↓Qat, ↓Qau, ↓Qav, ↓Qaw, ↓Qax, ↓Qay, ↓Qaz, ↓Qa0, ↓Qa1, ↓Qa2, ↓Qa3, ↓Qa4, ↓Qa5, ↓Qa6, ↓Qa7, ↓Qa8, ↓Qa9, ↓Qba, ↓Qbb, ↓Qbc, ↓Qbd, ↓Qbe, ↓Qbf, ↓Qbg, ↓Qbh, ↓Qbi, ↓Qbj, ↓Qbk, ↓Qbl, List.set_cons_zero, List.set_cons_succ, wipeP, Bool.bne_true, Bool.not_true, Bool.false_eq_true, if_false]
      rw [eN2]
      simp -implicitDefEqProofs only [w__law_gone_3, ↓Qa, ↓Qb, ↓Qc, ↓Qd, ↓Qe, ↓Qg, ↓Qh, ↓Qi, ↓Qj, ↓Qk, ↓Ql, ↓par2_two, ↓Qm, ↓Qn, ↓Qo, ↓Qp, ↓Qq, ↓Qr, ↓Qs, ↓Qt, ↓Qu, ↓Qv, ↓Qw, ↓Qx, ↓Qy, ↓Qz, ↓Q0, ↓truK_bl, ↓Q3, ↓Q4, ↓Q5, ↓Q6, ↓chK_bl, ↓Q7, ↓Q8, ↓Q9, ↓Ya, ↓Yb, ↓Yc, ↓Yd, ↓Ye, ↓Yf, ↓Yg, ↓Yh, ↓Yi, ↓Yj, ↓Yk, ↓Ym, ↓Yn, ↓Yo, ↓Yp, ↓Yq, ↓Yr, ↓Ys, ↓Yt, ↓Yu, ↓Yv, ↓Yw, ↓Yx, ↓Yy, ↓Yz, ↓Y0, ↓Y1, ↓Y2, ↓Y3, ↓Y4, ↓Y5, ↓Y6, ↓Y7, ↓Y8, ↓Y9, ↓Ja, ↓Jb, ↓Jc, ↓Jd, ↓Je, ↓Jf, ↓Jg, ↓Jh, ↓Ji, ↓Jj, ↓Jk, ↓Jl, ↓Jm, ↓Jn, ↓Jo, ↓Jp, ↓Jq, ↓Jr, ↓Js, ↓Jt, ↓Ju, ↓Jw, ↓Jx, ↓Jy, ↓Jz, ↓J1, ↓J2, ↓J3, ↓J4, ↓J5, ↓J6, ↓J7, ↓J8, ↓J9, ↓Qaa, ↓Qab, ↓Qac, ↓Qad, ↓Qae, ↓par3_three, ↓Qaf, ↓Qag, ↓Qah, ↓Qai, ↓Qaj, ↓Qak, ↓Qal, ↓Qam, ↓Qan, ↓Qao, ↓Qap, ↓Qaq, ↓Qar, ↓Qas, ↓Qat, ↓Qau, ↓Qav, ↓Qaw, ↓Qax, ↓Qay, ↓Qaz, ↓Qa0, ↓Qa1, ↓Qa2, ↓Qa3, ↓Qa4, ↓Qa5, ↓Qa6, ↓Qa7, ↓Qa8, ↓Qa9, ↓Qba, ↓Qbb, ↓Qbc, ↓Qbd, ↓Qbe, ↓Qbf, ↓Qbg, ↓Qbh, ↓Qbi, ↓Qbj, ↓Qbk, ↓Qbl, List.set_cons_zero, List.set_cons_succ, wipeP]
      refine ⟨roadP q, by rw [dgetR, hf]; rfl, ?_⟩
      simp -implicitDefEqProofs only [w__law_gone_2, ↓Qa, ↓Qb, ↓Qc, ↓Qd, ↓Qe, ↓Qg, ↓Qh, ↓Qi, ↓Qj, ↓Qk, ↓Ql, ↓par2_two, ↓Qm, ↓Qn, ↓Qo, ↓Qp, ↓Qq, ↓Qr, ↓Qs, ↓Qt, ↓Qu, ↓Qv, ↓Qw, ↓Qx, ↓Qy, ↓Qz, ↓Q0, ↓truK_bl, ↓Q3, ↓Q4, ↓Q5, ↓Q6, ↓chK_bl, ↓Q7, ↓Q8, ↓Q9, ↓Ya, ↓Yb, ↓Yc, ↓Yd, ↓Ye, ↓Yf, ↓Yg, ↓Yh, ↓Yi, ↓Yj, ↓Yk, ↓Ym, ↓Yn, ↓Yo, ↓Yp, ↓Yq, ↓Yr, ↓Ys, ↓Yt, ↓Yu, ↓Yv, ↓Yw, ↓Yx, ↓Yy, ↓Yz, ↓Y0, ↓Y1, ↓Y2, ↓Y3, ↓Y4, ↓Y5, ↓Y6, ↓Y7, ↓Y8, ↓Y9, ↓Ja, ↓Jb, ↓Jc, ↓Jd, ↓Je, ↓Jf, ↓Jg, ↓Jh, ↓Ji, ↓Jj, ↓Jk, ↓Jl, ↓Jm, ↓Jn, ↓Jo, ↓Jp, ↓Jq, ↓Jr, ↓Js, ↓Jt, ↓Ju, ↓Jw, ↓Jx, ↓Jy, ↓Jz, ↓J1, ↓J2, ↓J3, ↓J4, ↓J5, ↓J6, ↓J7, ↓J8, ↓J9, ↓Qaa, ↓Qab, ↓Qac, ↓Qad, ↓Qae, ↓par3_three, ↓Qaf, ↓Qag, ↓Qah, ↓Qai, ↓Qaj, ↓Qak, ↓Qal, ↓Qam, ↓Qan, ↓Qao, ↓Qap, ↓Qaq, ↓Qar, ↓Qas, ↓Qat, ↓Qau, ↓Qav, ↓Qaw, ↓Qax, ↓Qay, ↓Qaz, ↓Qa0, ↓Qa1, ↓Qa2, ↓Qa3, ↓Qa4, ↓Qa5, ↓Qa6, ↓Qa7, ↓Qa8, ↓Qa9, ↓Qba, ↓Qbb, ↓Qbc, ↓Qbd, ↓Qbe, ↓Qbf, ↓Qbg, ↓Qbh, ↓Qbi, ↓Qbj, ↓Qbk, ↓Qbl, List.set_cons_zero, List.set_cons_succ, wipeP]
      rw [ix_road]
      refine ⟨.str q.bgn, rfl, L.ix ?_⟩
      simp -implicitDefEqProofs only [↓Qa, ↓Qb, ↓Qc, ↓Qd, ↓Qe, ↓Qg, ↓Qh, ↓Qi, ↓Qj, ↓Qk, ↓Ql, ↓par2_two, ↓Qm, ↓Qn, ↓Qo, ↓Qp, ↓Qq, ↓Qr, ↓Qs, ↓Qt, ↓Qu, ↓Qv, ↓Qw, ↓Qx, ↓Qy, ↓Qz, ↓Q0, ↓truK_bl, ↓Q3, ↓Q4, ↓Q5, ↓Q6, ↓chK_bl, ↓Q7, ↓Q8, ↓Q9, ↓Ya, ↓Yb, ↓Yc, ↓Yd, ↓Ye, ↓Yf, ↓Yg, ↓Yh, ↓Yi, ↓Yj, ↓Yk, ↓Ym, ↓Yn, ↓Yo, ↓Yp, ↓Yq, ↓Yr, ↓Ys, ↓Yt, ↓Yu, ↓Yv, ↓Yw, ↓Yx, ↓Yy, ↓Yz, ↓Y0, ↓Y1, ↓Y2, ↓Y3, ↓Y4, ↓Y5, ↓Y6, ↓Y7, ↓Y8, ↓Y9, ↓Ja, ↓Jb, ↓Jc, ↓Jd, ↓Je, ↓Jf, ↓Jg, ↓Jh, ↓Ji, ↓Jj, ↓Jk, ↓Jl, ↓Jm, ↓Jn, ↓Jo, ↓Jp, ↓Jq, ↓Jr, ↓Js, ↓Jt, ↓Ju, ↓Jw, ↓Jx, ↓Jy, ↓Jz, ↓J1, ↓J2, ↓J3, ↓J4, ↓J5, ↓J6, ↓J7, ↓J8, ↓J9, ↓Qaa, ↓Qab, ↓Qac, ↓Qad, ↓Qae, ↓par3_three, ↓Qaf, ↓Qag, ↓Qah, ↓Qai, ↓Qaj, ↓Qak, ↓Qal, ↓Qam, ↓Qan, ↓Qao, ↓Qap, ↓Qaq, ↓Qar, ↓Qas, ↓Qat, ↓Qau, ↓Qav, ↓Qaw, ↓Qax, ↓Qay, ↓Qaz, ↓Qa0, ↓Qa1, ↓Qa2, ↓Qa3, ↓Qa4, ↓Qa5, ↓Qa6, ↓Qa7, ↓Qa8, ↓Qa9, ↓Qba, ↓Qbb, ↓Qbc, ↓Qbd, ↓Qbe, ↓Qbf, ↓Qbg, ↓Qbh, ↓Qbi, ↓Qbj, ↓Qbk, ↓Qbl, List.set_cons_zero, List.set_cons_succ, wipeP, Bool.bne_false]
      by_cases hq : q.bgn = y
      · rw [if_pos hq, mapmap] at eg
        rw [decide_eq_true hq]
        simp -implicitDefEqProofs only [↓Qa, ↓Qb, ↓Qc, ↓Qd, ↓Qe, ↓Qg, ↓Qh, ↓Qi, ↓Qj, ↓Qk, ↓Ql, ↓par2_two, ↓Qm, ↓Qn, ↓Qo, ↓Qp, ↓Qq, ↓Qr, ↓Qs, ↓Qt, ↓Qu, ↓Qv, ↓Qw, ↓Qx, ↓Qy, ↓Qz, ↓Q0, ↓truK_bl, ↓Q3, ↓Q4, ↓Q5, ↓Q6, ↓chK_bl, ↓Q7, ↓Q8, ↓Q9, ↓Ya, ↓Yb, ↓Yc, ↓Yd, ↓Ye, ↓Yf, ↓Yg, ↓Yh, ↓Yi, ↓Yj, ↓Yk, ↓Ym, ↓Yn, ↓Yo, ↓Yp, ↓Yq, ↓Yr, ↓Ys, ↓Yt, ↓Yu, ↓Yv, ↓Yw, ↓Yx, ↓Yy, ↓Yz, ↓Y0, ↓Y1, ↓Y2, ↓Y3, ↓Y4, ↓Y5, ↓Y6, ↓Y7, ↓Y8, ↓Y9, ↓Ja, ↓Jb, ↓Jc, ↓Jd, ↓Je, ↓Jf, ↓Jg, ↓Jh, ↓Ji, ↓Jj, ↓Jk, ↓Jl, ↓Jm, ↓Jn, ↓Jo, ↓Jp, ↓Jq, ↓Jr, ↓Js, ↓Jt, ↓Ju, ↓Jw, ↓Jx, ↓Jy, ↓Jz, ↓J1, ↓J2, ↓J3, ↓J4, ↓J5, ↓J6, ↓J7, ↓J8, ↓J9, ↓Qaa, ↓Qab, ↓Qac, ↓Qad, ↓Qae, ↓par3_three, ↓Qaf, ↓Qag, ↓Qah, ↓Qai, ↓Qaj, ↓Qak, ↓Qal, ↓Qam, ↓Qan, ↓Qao, ↓Qap, ↓Qaq, ↓Qar, ↓Qas, ↓Qat, ↓Qau, ↓Qav, ↓Qaw, ↓Qax, ↓Qay, ↓Qaz, ↓Qa0, ↓Qa1, ↓Qa2, ↓Qa3, ↓Qa4, ↓Qa5, ↓Qa6, ↓Qa7, ↓Qa8, ↓Qa9, ↓Qba, ↓Qbb, ↓Qbc, ↓Qbd, ↓Qbe, ↓Qbf, ↓Qbg, ↓Qbh, ↓Qbi, ↓Qbj, ↓Qbk, ↓Qbl, List.set_cons_zero, List.set_cons_succ, wipeP, if_true]
        refine ⟨by rw [k_tyB_ref L.1]; trivial, ?_⟩
        rw [ix_road]
        refine ⟨.str q.fin, rfl, ?_⟩
        rw [k_app L.1]
        exact ⟨by rw [List.length_map, List.length_append, sizeLine_eq]; simp; omega, hN _ _ ⟨acc ++ [y], q.fin, _, _, L.app, by rw [List.length_append, List.length_singleton]; omega, eg, rfl⟩⟩
      · rw [if_neg hq] at eg
        rw [decide_eq_false hq]
        simp -implicitDefEqProofs only [↓Qa, ↓Qb, ↓Qc, ↓Qd, ↓Qe, ↓Qg, ↓Qh, ↓Qi, ↓Qj, ↓Qk, ↓Ql, ↓par2_two, ↓Qm, ↓Qn, ↓Qo, ↓Qp, ↓Qq, ↓Qr, ↓Qs, ↓Qt, ↓Qu, ↓Qv, ↓Qw, ↓Qx, ↓Qy, ↓Qz, ↓Q0, ↓truK_bl, ↓Q3, ↓Q4, ↓Q5, ↓Q6, ↓chK_bl, ↓Q7, ↓Q8, ↓Q9, ↓Ya, ↓Yb, ↓Yc, ↓Yd, ↓Ye, ↓Yf, ↓Yg, ↓Yh, ↓Yi, ↓Yj, ↓Yk, ↓Ym, ↓Yn, ↓Yo, ↓Yp, ↓Yq, ↓Yr, ↓Ys, ↓Yt, ↓Yu, ↓Yv, ↓Yw, ↓Yx, ↓Yy, ↓Yz, ↓Y0, ↓Y1, ↓Y2, ↓Y3, ↓Y4, ↓Y5, ↓Y6, ↓Y7, ↓Y8, ↓Y9, ↓Ja, ↓Jb, ↓Jc, ↓Jd, ↓Je, ↓Jf, ↓Jg, ↓Jh, ↓Ji, ↓Jj, ↓Jk, ↓Jl, ↓Jm, ↓Jn, ↓Jo, ↓Jp, ↓Jq, ↓Jr, ↓Js, ↓Jt, ↓Ju, ↓Jw, ↓Jx, ↓Jy, ↓Jz, ↓J1, ↓J2, ↓J3, ↓J4, ↓J5, ↓J6, ↓J7, ↓J8, ↓J9, ↓Qaa, ↓Qab, ↓Qac, ↓Qad, ↓Qae, ↓par3_three, ↓Qaf, ↓Qag, ↓Qah, ↓Qai, ↓Qaj, ↓Qak, ↓Qal, ↓Qam, ↓Qan, ↓Qao, ↓Qap, ↓Qaq, ↓Qar, ↓Qas, ↓Qat, ↓Qau, ↓Qav, ↓Qaw, ↓Qax, ↓Qay, ↓Qaz, ↓Qa0, ↓Qa1, ↓Qa2, ↓Qa3, ↓Qa4, ↓Qa5, ↓Qa6, ↓Qa7, ↓Qa8, ↓Qa9, ↓Qba, ↓Qbb, ↓Qbc, ↓Qbd, ↓Qbe, ↓Qbf, ↓Qbg, ↓Qbh, ↓Qbi, ↓Qbj, ↓Qbk, ↓Qbl, List.set_cons_zero, List.set_cons_succ, wipeP, Bool.false_eq_true, if_false]
        cases tie with
        | false =>
          rw [if_neg (fun z => by cases z.1)] at eg
          refine ⟨false, rfl, ?_⟩
          simp only [Bool.false_eq_true, if_false]
          rw [eg] at hR
          exact L.out hb hR
        | true =>
          refine ⟨true, rfl, ?_⟩
          simp only [if_true]
          rw [ix_road]
          refine ⟨.str q.fin, rfl, L.ix ?_⟩
          simp -implicitDefEqProofs only [↓Qa, ↓Qb, ↓Qc, ↓Qd, ↓Qe, ↓Qg, ↓Qh, ↓Qi, ↓Qj, ↓Qk, ↓Ql, ↓par2_two, ↓Qm, ↓Qn, ↓Qo, ↓Qp, ↓Qq, ↓Qr, ↓Qs, ↓Qt, ↓Qu, ↓Qv, ↓Qw, ↓Qx, ↓Qy, ↓Qz, ↓Q0, ↓truK_bl, ↓Q3, ↓Q4, ↓Q5, ↓Q6, ↓chK_bl, ↓Q7, ↓Q8, ↓Q9, ↓Ya, ↓Yb, ↓Yc, ↓Yd, ↓Ye, ↓Yf, ↓Yg, ↓Yh, ↓Yi, ↓Yj, ↓Yk, ↓Ym, ↓Yn, ↓Yo, ↓Yp, ↓Yq, ↓Yr, ↓Ys, ↓Yt, ↓Yu, ↓Yv, ↓Yw, ↓Yx, ↓Yy, ↓Yz, ↓Y0, ↓Y1, ↓Y2, ↓Y3, ↓Y4, ↓Y5, ↓Y6, ↓Y7, ↓Y8, ↓Y9, ↓Ja, ↓Jb, ↓Jc, ↓Jd, ↓Je, ↓Jf, ↓Jg, ↓Jh, ↓Ji, ↓Jj, ↓Jk, ↓Jl, ↓Jm, ↓Jn, ↓Jo, ↓Jp, ↓Jq, ↓Jr, ↓Js, ↓Jt, ↓Ju, ↓Jw, ↓Jx, ↓Jy, ↓Jz, ↓J1, ↓J2, ↓J3, ↓J4, ↓J5, ↓J6, ↓J7, ↓J8, ↓J9, ↓Qaa, ↓Qab, ↓Qac, ↓Qad, ↓Qae, ↓par3_three, ↓Qaf, ↓Qag, ↓Qah, ↓Qai, ↓Qaj, ↓Qak, ↓Qal, ↓Qam, ↓Qan, ↓Qao, ↓Qap, ↓Qaq, ↓Qar, ↓Qas, ↓Qat, ↓Qau, ↓Qav, ↓Qaw, ↓Qax, ↓Qay, ↓Qaz, ↓Qa0, ↓Qa1, ↓Qa2, ↓Qa3, ↓Qa4, ↓Qa5, ↓Qa6, ↓Qa7, ↓Qa8, ↓Qa9, ↓Qba, ↓Qbb, ↓Qbc, ↓Qbd, ↓Qbe, ↓Qbf, ↓Qbg, ↓Qbh, ↓Qbi, ↓Qbj, ↓Qbk, ↓Qbl, List.set_cons_zero, List.set_cons_succ, wipeP, Bool.bne_false]
          by_cases hq2 : q.fin = y
          · rw [if_pos ⟨rfl, hq2⟩, mapmap] at eg
            rw [decide_eq_true hq2]
            simp -implicitDefEqProofs only [↓Qa, ↓Qb, ↓Qc, ↓Qd, ↓Qe, ↓Qg, ↓Qh, ↓Qi, ↓Qj, ↓Qk, ↓Ql, ↓par2_two, ↓Qm, ↓Qn, ↓Qo, ↓Qp, ↓Qq, ↓Qr, ↓Qs, ↓Qt, ↓Qu, ↓Qv, ↓Qw, ↓Qx, ↓Qy, ↓Qz, ↓Q0, ↓truK_bl, ↓Q3, ↓Q4, ↓Q5, ↓Q6, ↓chK_bl, ↓Q7, ↓Q8, ↓Q9, ↓Ya, ↓Yb, ↓Yc, ↓Yd, ↓Ye, ↓Yf, ↓Yg, ↓Yh, ↓Yi, ↓Yj, ↓Yk, ↓Ym, ↓Yn, ↓Yo, ↓Yp, ↓Yq, ↓Yr, ↓Ys, ↓Yt, ↓Yu, ↓Yv, ↓Yw, ↓Yx, ↓Yy, ↓Yz, ↓Y0, ↓Y1, ↓Y2, ↓Y3, ↓Y4, ↓Y5, ↓Y6, ↓Y7, ↓Y8, ↓Y9, ↓Ja, ↓Jb, ↓Jc, ↓Jd, ↓Je, ↓Jf, ↓Jg, ↓Jh, ↓Ji, ↓Jj, ↓Jk, ↓Jl, ↓Jm, ↓Jn, ↓Jo, ↓Jp, ↓Jq, ↓Jr, ↓Js, ↓Jt, ↓Ju, ↓Jw, ↓Jx, ↓Jy, ↓Jz, ↓J1, ↓J2, ↓J3, ↓J4, ↓J5, ↓J6, ↓J7, ↓J8, ↓J9, ↓Qaa, ↓Qab, ↓Qac, ↓Qad, ↓Qae, ↓par3_three, ↓Qaf, ↓Qag, ↓Qah, ↓Qai, ↓Qaj, ↓Qak, ↓Qal, ↓Qam, ↓Qan, ↓Qao, ↓Qap, ↓Qaq, ↓Qar, ↓Qas, ↓Qat, ↓Qau, ↓Qav, ↓Qaw, ↓Qax, ↓Qay, ↓Qaz, ↓Qa0, ↓Qa1, ↓Qa2, ↓Qa3, ↓Qa4, ↓Qa5, ↓Qa6, ↓Qa7, ↓Qa8, ↓Qa9, ↓Qba, ↓Qbb, ↓Qbc, ↓Qbd, ↓Qbe, ↓Qbf, ↓Qbg, ↓Qbh, ↓Qbi, ↓Qbj, ↓Qbk, ↓Qbl, List.set_cons_zero, List.set_cons_succ, wipeP, if_true]
            refine ⟨by rw [k_tyB_ref L.1]; trivial, ?_⟩
            rw [ix_road]
            refine ⟨.str q.bgn, rfl, ?_⟩
            rw [k_app L.1]
            exact ⟨by rw [List.length_map, List.length_append, sizeLine_eq]; simp; omega, hN _ _ ⟨acc ++ [y], q.bgn, _, _, L.app, by rw [List.length_append, List.length_singleton]; omega, eg, rfl⟩⟩
          · rw [if_neg (fun z => hq2 z.2)] at eg
            rw [decide_eq_false hq2]
            simp -implicitDefEqProofs only [↓Qa, ↓Qb, ↓Qc, ↓Qd, ↓Qe, ↓Qg, ↓Qh, ↓Qi, ↓Qj, ↓Qk, ↓Ql, ↓par2_two, ↓Qm, ↓Qn, ↓Qo, ↓Qp, ↓Qq, ↓Qr, ↓Qs, ↓Qt, ↓Qu, ↓Qv, ↓Qw, ↓Qx, ↓Qy, ↓Qz, ↓Q0, ↓truK_bl, ↓Q3, ↓Q4, ↓Q5, ↓Q6, ↓chK_bl, ↓Q7, ↓Q8, ↓Q9, ↓Ya, ↓Yb, ↓Yc, ↓Yd, ↓Ye, ↓Yf, ↓Yg, ↓Yh, ↓Yi, ↓Yj, ↓Yk, ↓Ym, ↓Yn, ↓Yo, ↓Yp, ↓Yq, ↓Yr, ↓Ys, ↓Yt, ↓Yu, ↓Yv, ↓Yw, ↓Yx, ↓Yy, ↓Yz, ↓Y0, ↓Y1, ↓Y2, ↓Y3, ↓Y4, ↓Y5, ↓Y6, ↓Y7, ↓Y8, ↓Y9, ↓Ja, ↓Jb, ↓Jc, ↓Jd, ↓Je, ↓Jf, ↓Jg, ↓Jh, ↓Ji, ↓Jj, ↓Jk, ↓Jl, ↓Jm, ↓Jn, ↓Jo, ↓Jp, ↓Jq, ↓Jr, ↓Js, ↓Jt, ↓Ju, ↓Jw, ↓Jx, ↓Jy, ↓Jz, ↓J1, ↓J2, ↓J3, ↓J4, ↓J5, ↓J6, ↓J7, ↓J8, ↓J9, ↓Qaa, ↓Qab, ↓Qac, ↓Qad, ↓Qae, ↓par3_three, ↓Qaf, ↓Qag, ↓Qah, ↓Qai, ↓Qaj, ↓Qak, ↓Qal, ↓Qam, ↓Qan, ↓Qao, ↓Qap, ↓Qaq, ↓Qar, ↓Qas, ↓Qat, ↓Qau, ↓Qav, ↓Qaw, ↓Qax, ↓Qay, ↓Qaz, ↓Qa0, ↓Qa1, ↓Qa2, ↓Qa3, ↓Qa4, ↓Qa5, ↓Qa6, ↓Qa7, ↓Qa8, ↓Qa9, ↓Qba, ↓Qbb, ↓Qbc, ↓Qbd, ↓Qbe, ↓Qbf, ↓Qbg, ↓Qbh, ↓Qbi, ↓Qbj, ↓Qbk, ↓Qbl, List.set_cons_zero, List.set_cons_succ, wipeP, Bool.false_eq_true, if_false]
            rw [eg] at hR
            exact L.out hb hR
  · subst er
    rw [eN1]
    simp -implicitDefEqProofs only [w__law_gone_5, ↓Qa, ↓Qb, ↓Qc, ↓Qd, ↓Qe, ↓Qg, ↓Qh, ↓Qi, ↓Qj, ↓Qk, ↓Ql, ↓par2_two, ↓Qm, ↓Qn, ↓Qo, ↓Qp, ↓Qq, ↓Qr, ↓Qs, ↓Qt, ↓Qu, ↓Qv, ↓Qw, ↓Qx, ↓Qy, ↓Qz, ↓Q0, ↓truK_bl, ↓Q3, ↓Q4, ↓Q5, ↓Q6, ↓chK_bl, ↓Q7, ↓Q8, ↓Q9, ↓Ya, ↓Yb, ↓Yc, ↓Yd, ↓Ye, ↓Yf, ↓Yg, ↓Yh, ↓Yi, ↓Yj, ↓Yk, ↓Ym, ↓Yn, ↓Yo, ↓Yp, ↓Yq, ↓Yr, ↓Ys, ↓Yt, ↓Yu, ↓Yv, ↓Yw, ↓Yx, ↓Yy, ↓Yz, ↓Y0, ↓Y1, ↓Y2, ↓Y3, ↓Y4, ↓Y5, ↓Y6, ↓Y7, ↓Y8, ↓Y9, ↓Ja, ↓Jb, ↓Jc, ↓Jd, ↓Je, ↓Jf, ↓Jg, ↓Jh, ↓Ji, ↓Jj, ↓Jk, ↓Jl, ↓Jm, ↓Jn, ↓Jo, ↓Jp, ↓Jq, ↓Jr, ↓Js, ↓Jt, ↓Ju, ↓Jw, ↓Jx, ↓Jy, ↓Jz, ↓J1, ↓J2, ↓J3, ↓J4, ↓J5, ↓J6, ↓J7, ↓J8, ↓J9, ↓Qaa, ↓Qab, ↓Qac, ↓Qad, ↓Qae, ↓par3_three, ↓Qaf, ↓Qag, ↓Qah, ↓Qai, ↓Qaj, ↓Qak, ↓Qal, ↓Qam, ↓Qan, ↓Qao, ↓Qap, ↓Qaq, ↓Qar, ↓Qas, ↓Qat, ↓Qau, ↓Qav, ↓Qaw, ↓Qax, ↓Qay, ↓Qaz, ↓Qa0, ↓Qa1, ↓Qa2, ↓Qa3, ↓Qa4, ↓Qa5, ↓Qa6, ↓Qa7, ↓Qa8, ↓Qa9, ↓Qba, ↓Qbb, ↓Qbc, ↓Qbd, ↓Qbe, ↓Qbf, ↓Qbg, ↓Qbh, ↓Qbi, ↓Qbj, ↓Qbk, ↓Qbl, List.set_cons_zero, List.set_cons_succ, wipeP, k_tup_ref L.1]
    have eg : wayR rs tie x ns = some ((acc ++ [y]) ++ []) := eg
    rw [eg, List.append_nil] at hR
    exact L.out hb hR

theorem k_eq_words {S : Sto} {R : RK} {w : Addr} {ss us : List Str} {neg : Bool} (h : S w = some (.lst (ss.map PV.str))) (o1 : ss.all PyData.strOk = true) (o2 : us.all PyData.strOk = true) : kEqA neg (.ref w) (.lst (us.map PV.str)) S R = R (.bl (decide (ss = us) != neg)) S := by
  have lay : ∀ ts : List Str, ts.all PyData.strOk = true → SeqAt.shaped (.list (ts.map PyData.str)) = true := fun ts ho => by
    have key : ∀ ts : List Str, ts.all PyData.strOk = true → PyData.canLayAll0 (ts.map PyData.str) = true ∧ PyData.depthAll (ts.map PyData.str) = 0 := fun ts => by
      induction ts with
      | nil => exact fun _ => ⟨rfl, rfl⟩
      | cons x xs ih =>
        intro h
        rw [List.all_cons, Bool.and_eq_true] at h
        obtain ⟨a, b⟩ := ih h.2
        refine ⟨?_, ?_⟩
        · show (PyData.strOk x && PyData.canLayAll0 (xs.map PyData.str)) = true
          rw [a, h.1]; rfl
        · show max 0 (PyData.depthAll (xs.map PyData.str)) = 0
          rw [b]; rfl
    obtain ⟨a, b⟩ := key ts ho
    show (PyData.canLayAll0 (ts.map PyData.str) && decide (PyData.depthAll (ts.map PyData.str) + 1 ≤ 64)) = true
    rw [a, b]; rfl
  have e1 : dr S (.ref w) = .lst (ss.map PV.str) := dr_refL h
  have toL : ∀ ts : List Str, toD (.lst (ts.map PV.str)) = some (.list (ts.map PyData.str)) := fun ts => by
    show (toDs (ts.map PV.str)).map PyData.list = _
    rw [toDs_strs]; rfl
  unfold kEqA
  rw [e1, Y3]
  show kEqD neg (.ref w) (.lst (us.map PV.str)) S R = _
  unfold kEqD
  rw [e1, Y3, toL, toL]
  dsimp only
  rw [lay ss o1, lay us o2]
  have : PyData.eqv (.list (ss.map PyData.str)) (.list (us.map PyData.str)) = decide (ss = us) := eqv_strs ss us
  rw [this]
  exact propext ⟨fun z => z.2.2, fun z => ⟨rfl, rfl, z⟩⟩
theorem cut_strs (fs : List Str) (lo hi : Option Int) : ∃ gs : List Str, cutP (fs.map PV.str) lo hi = gs.map PV.str ∧ gs.length ≤ fs.length ∧ ∀ g ∈ gs, g ∈ fs := by
  unfold cutP
  refine ⟨(fs.drop _).take _, by rw [List.map_take, List.map_drop], ?_, fun g hg => List.mem_of_mem_drop (List.mem_of_mem_take hg)⟩
  rw [List.length_take, List.length_drop]; omega
theorem k_sl_ref {S : Sto} {R : RK} {b : Addr} {xs : List PV} {lo hi : Option Int} (h : S b = some (.lst xs)) (hR : R (.lst (cutP xs lo hi)) S) : kSl (.ref b) lo hi S R := by
  unfold kSl
  rw [dr_refL h]
  exact hR
theorem k_ne_nil {S : Sto} {R : RK} {rs : List Road} (h : ∀ r ∈ rs, RdN r) : kEqA true (.lst (rs.map roadP)) (.lst []) S R = R (.bl (!decide (rs = []))) S := by
  obtain ⟨a, b⟩ := lay_roads rs h
  have toL : toD (.lst (rs.map roadP)) = some (.list (rs.map roadD)) := by
    show (toDs (rs.map roadP)).map PyData.list = _
    rw [toDs_roads]; rfl
  show (match toD (.lst (rs.map roadP)), toD (.lst []) with
    | some d, some e => SeqAt.shaped d = true ∧ SeqAt.shaped e = true ∧ R (.bl (PyData.eqv d e != true)) S
    | _, _ => False) = _
  rw [toL]
  have sh : SeqAt.shaped (.list (rs.map roadD)) = true := by
    show (PyData.canLayAll0 (rs.map roadD) && decide (PyData.depthAll (rs.map roadD) + 1 ≤ 64)) = true
    rw [a, decide_eq_true (by omega)]; rfl
  show (SeqAt.shaped (.list (rs.map roadD)) = true ∧ SeqAt.shaped (.list []) = true ∧ R (.bl (PyData.eqv (.list (rs.map roadD)) (.list []) != true)) S) = _
  rw [sh]
  have : PyData.eqv (.list (rs.map roadD)) (.list []) = decide (rs = []) := by
    cases rs with
    | nil => rfl
    | cons r rs => rfl
  rw [this, Bool.bne_true]
  exact propext ⟨fun z => z.2.2, fun z => ⟨rfl, rfl, z⟩⟩
/-- found holds fs -/
structure Nms (a b : Addr) (S S' : Sto) (fs : List Str) : Prop where
  h : HandAt a S'
  g : S' b = some (.lst (fs.map PV.str))
  o : ∀ y, y ≠ a → y ≠ b → S' y = S y
  s : ∀ f ∈ fs, f.length ≤ 8
theorem Nms.off {a b : Addr} {S S1 S2 : Sto} {fs : List Str} (n : Nms a b S S1 fs) (hb : b ≠ a) (h2 : HandAt a S2) (o2 : Off a S1 S2) : Nms a b S S2 fs := ⟨h2, (o2 b hb).trans n.g, fun y h1 h2 => (o2 y h1).trans (n.o y h1 h2), n.s⟩
theorem Nms.app {a b : Addr} {S S1 : Sto} {fs : List Str} {x : Str} (n : Nms a b S S1 fs) (hb : b ≠ a) (hx : x.length ≤ 8) : Nms a b S (updS S1 b (.lst (fs.map PV.str ++ [.str x]))) (fs ++ [x]) := ⟨n.h.upd hb, by rw [updS_same, List.map_append]; rfl, fun y h1 h2 => by rw [updS_ne h2]; exact n.o y h1 h2, fun f hf => by
  rcases List.mem_append.mp hf with hf | hf
  · exact n.s f hf
  · rw [List.mem_singleton.mp hf]; exact hx⟩
theorem Nms.out {a b : Addr} {S S1 : Sto} {fs : List Str} (n : Nms a b S S1 fs) (hb : S b = none) {R : RK} {p : PV} (r : ∀ S'', HandAt a S'' → Off a S S'' → R p S'') : gR R p S1 := gR_hand (fun y o hy e => by
  have : y ≠ b := fun z => by rw [z, hb] at e; cases e
  rw [n.o y hy this]; exact e) n.h r
theorem pure__law_names (K : PySem.W.Frag) : ∀ ps S R Z, ps.length = 4 → sp__law_names K ps S R Z → w__law_names K (fin R Z) (startP n__law_names ps) S := by
  intro ps S R Z hl h
  obtain ⟨a, ts, rs, x, rfl, hS, ok, hR⟩ := h
  have e : startP n__law_names [.ref a, townsP ts, roadsP rs, .str x] = [some (.ref a), some (townsP ts), some (roadsP rs), some (.str x), none, none, none, none, none, none, none] := rfl
  rw [e]
  have rl := ok.rl
  unfold w__law_names
  refine seq_any fun N0 eN0 => ?_
  simp -implicitDefEqProofs only [↓Qa, ↓Qb, ↓Qc, ↓Qd, ↓Qe, ↓Qg, ↓Qh, ↓Qi, ↓Qj, ↓Qk, ↓Ql, ↓par2_two, ↓Qm, ↓Qn, ↓Qo, ↓Qp, ↓Qq, ↓Qr, ↓Qs, ↓Qt, ↓Qu, ↓Qv, ↓Qw, ↓Qx, ↓Qy, ↓Qz, ↓Q0, ↓truK_bl, ↓Q3, ↓Q4, ↓Q5, ↓Q6, ↓chK_bl, ↓Q7, ↓Q8, ↓Q9, ↓Ya, ↓Yb, ↓Yc, ↓Yd, ↓Ye, ↓Yf, ↓Yg, ↓Yh, ↓Yi, ↓Yj, ↓Yk, ↓Ym, ↓Yn, ↓Yo, ↓Yp, ↓Yq, ↓Yr, ↓Ys, ↓Yt, ↓Yu, ↓Yv, ↓Yw, ↓Yx, ↓Yy, ↓Yz, ↓Y0, ↓Y1, ↓Y2, ↓Y3, ↓Y4, ↓Y5, ↓Y6, ↓Y7, ↓Y8, ↓Y9, ↓Ja, ↓Jb, ↓Jc, ↓Jd, ↓Je, ↓Jf, ↓Jg, ↓Jh, ↓Ji, ↓Jj, ↓Jk, ↓Jl, ↓Jm, ↓Jn, ↓Jo, ↓Jp, ↓Jq, ↓Jr, ↓Js, ↓Jt, ↓Ju, ↓Jw, ↓Jx, ↓Jy, ↓Jz, ↓J1, ↓J2, ↓J3, ↓J4, ↓J5, ↓J6, ↓J7, ↓J8, ↓J9, ↓Qaa, ↓Qab, ↓Qac, ↓Qad, ↓Qae, ↓par3_three, ↓Qaf, ↓Qag, ↓Qah, ↓Qai, ↓Qaj, ↓Qak, ↓Qal, ↓Qam, ↓Qan, ↓Qao, ↓Qap, ↓Qaq, ↓Qar, ↓Qas, ↓Qat, ↓Qau, ↓Qav, ↓Qaw, ↓Qax, ↓Qay, ↓Qaz, ↓Qa0, ↓Qa1, ↓Qa2, ↓Qa3, ↓Qa4, ↓Qa5, ↓Qa6, ↓Qa7, ↓Qa8, ↓Qa9, ↓Qba, ↓Qbb, ↓Qbc, ↓Qbd, ↓Qbe, ↓Qbf, ↓Qbg, ↓Qbh, ↓Qbi, ↓Qbj, ↓Qbk, ↓Qbl, List.set_cons_zero, List.set_cons_succ, wipeP, setM_cons, setM_nil]
  refine ⟨sz0 (by simp), fun b hb => ⟨rfl, t_draw (hS.upd (hS.ne hb)) (by omega) (by omega) fun d S1 d0 d1 h1 o1 => ?_⟩⟩
  have hba := hS.ne hb
  simp -implicitDefEqProofs only [↓Qa, ↓Qb, ↓Qc, ↓Qd, ↓Qe, ↓Qg, ↓Qh, ↓Qi, ↓Qj, ↓Qk, ↓Ql, ↓par2_two, ↓Qm, ↓Qn, ↓Qo, ↓Qp, ↓Qq, ↓Qr, ↓Qs, ↓Qt, ↓Qu, ↓Qv, ↓Qw, ↓Qx, ↓Qy, ↓Qz, ↓Q0, ↓truK_bl, ↓Q3, ↓Q4, ↓Q5, ↓Q6, ↓chK_bl, ↓Q7, ↓Q8, ↓Q9, ↓Ya, ↓Yb, ↓Yc, ↓Yd, ↓Ye, ↓Yf, ↓Yg, ↓Yh, ↓Yi, ↓Yj, ↓Yk, ↓Ym, ↓Yn, ↓Yo, ↓Yp, ↓Yq, ↓Yr, ↓Ys, ↓Yt, ↓Yu, ↓Yv, ↓Yw, ↓Yx, ↓Yy, ↓Yz, ↓Y0, ↓Y1, ↓Y2, ↓Y3, ↓Y4, ↓Y5, ↓Y6, ↓Y7, ↓Y8, ↓Y9, ↓Ja, ↓Jb, ↓Jc, ↓Jd, ↓Je, ↓Jf, ↓Jg, ↓Jh, ↓Ji, ↓Jj, ↓Jk, ↓Jl, ↓Jm, ↓Jn, ↓Jo, ↓Jp, ↓Jq, ↓Jr, ↓Js, ↓Jt, ↓Ju, ↓Jw, ↓Jx, ↓Jy, ↓Jz, ↓J1, ↓J2, ↓J3, ↓J4, ↓J5, ↓J6, ↓J7, ↓J8, ↓J9, ↓Qaa, ↓Qab, ↓Qac, ↓Qad, ↓Qae, ↓par3_three, ↓Qaf, ↓Qag, ↓Qah, ↓Qai, ↓Qaj, ↓Qak, ↓Qal, ↓Qam, ↓Qan, ↓Qao, ↓Qap, ↓Qaq, ↓Qar, ↓Qas, ↓Qat, ↓Qau, ↓Qav, ↓Qaw, ↓Qax, ↓Qay, ↓Qaz, ↓Qa0, ↓Qa1, ↓Qa2, ↓Qa3, ↓Qa4, ↓Qa5, ↓Qa6, ↓Qa7, ↓Qa8, ↓Qa9, ↓Qba, ↓Qbb, ↓Qbc, ↓Qbd, ↓Qbe, ↓Qbf, ↓Qbg, ↓Qbh, ↓Qbi, ↓Qbj, ↓Qbk, ↓Qbl, List.set_cons_zero, List.set_cons_succ, wipeP, setM_cons, setM_nil]
  refine ⟨sz0 (by simp), rfl, ?_⟩
  rw [eN0]
  have n1 : Nms a b S S1 [] := ⟨h1, by rw [o1 b hba, updS_same]; rfl, fun y h1 h2 => by rw [o1 y h1, updS_ne h2], fun f hf => by cases hf⟩
  generalize (decide (d = 0) != false) = tie
  unfold w__law_names_6
  refine seq_any fun N1 eN1 => ?_
  simp -implicitDefEqProofs only [↓Qa, ↓Qb, ↓Qc, ↓Qd, ↓Qe, ↓Qg, ↓Qh, ↓Qi, ↓Qj, ↓Qk, ↓Ql, ↓par2_two, ↓Qm, ↓Qn, ↓Qo, ↓Qp, ↓Qq, ↓Qr, ↓Qs, ↓Qt, ↓Qu, ↓Qv, ↓Qw, ↓Qx, ↓Qy, ↓Qz, ↓Q0, ↓truK_bl, ↓Q3, ↓Q4, ↓Q5, ↓Q6, ↓chK_bl, ↓Q7, ↓Q8, ↓Q9, ↓Ya, ↓Yb, ↓Yc, ↓Yd, ↓Ye, ↓Yf, ↓Yg, ↓Yh, ↓Yi, ↓Yj, ↓Yk, ↓Ym, ↓Yn, ↓Yo, ↓Yp, ↓Yq, ↓Yr, ↓Ys, ↓Yt, ↓Yu, ↓Yv, ↓Yw, ↓Yx, ↓Yy, ↓Yz, ↓Y0, ↓Y1, ↓Y2, ↓Y3, ↓Y4, ↓Y5, ↓Y6, ↓Y7, ↓Y8, ↓Y9, ↓Ja, ↓Jb, ↓Jc, ↓Jd, ↓Je, ↓Jf, ↓Jg, ↓Jh, ↓Ji, ↓Jj, ↓Jk, ↓Jl, ↓Jm, ↓Jn, ↓Jo, ↓Jp, ↓Jq, ↓Jr, ↓Js, ↓Jt, ↓Ju, ↓Jw, ↓Jx, ↓Jy, ↓Jz, ↓J1, ↓J2, ↓J3, ↓J4, ↓J5, ↓J6, ↓J7, ↓J8, ↓J9, ↓Qaa, ↓Qab, ↓Qac, ↓Qad, ↓Qae, ↓par3_three, ↓Qaf, ↓Qag, ↓Qah, ↓Qai, ↓Qaj, ↓Qak, ↓Qal, ↓Qam, ↓Qan, ↓Qao, ↓Qap, ↓Qaq, ↓Qar, ↓Qas, ↓Qat, ↓Qau, ↓Qav, ↓Qaw, ↓Qax, ↓Qay, ↓Qaz, ↓Qa0, ↓Qa1, ↓Qa2, ↓Qa3, ↓Qa4, ↓Qa5, ↓Qa6, ↓Qa7, ↓Qa8, ↓Qa9, ↓Qba, ↓Qbb, ↓Qbc, ↓Qbd, ↓Qbe, ↓Qbf, ↓Qbg, ↓Qbh, ↓Qbi, ↓Qbj, ↓Qbk, ↓Qbl, List.set_cons_zero, List.set_cons_succ, wipeP]
  refine ⟨rfl, t_draw h1 (by omega) (by omega) fun k S2 k0 k1 h2 o2 => ⟨by omega, ?_⟩⟩
  have n2 := n1.off hba h2 o2
  refine wForL_inv (fun (k : Nat) => PV.int (0 + k)) (fun rest ρ S' => ∃ fs y x7 x8 x9, Nms a b S S' fs ∧ fs.length + rest.length ≤ 6 ∧ ρ = [some (.ref a), some (townsP ts), some (roadsP rs), some (.str x), some (.ref b), some (.str y), some (.bl tie), x7, x8, x9, none])
    (fun k rest ρ S' ⟨fs, y, x7, x8, x9, nm, l, er⟩ => ⟨trivial, fun N hN => ?_⟩) (fun ρ S' ⟨fs, y, x7, x8, x9, nm, l, er⟩ => ⟨trivial, ?_⟩) _ _ S2 ⟨[], x, none, none, none, n2, by rw [List.length_range]; simp; omega, rfl⟩
  · subst er
    rw [List.length_cons] at l
    rw [Yv]
    simp only [List.set_cons_succ, List.set_cons_zero]
    unfold w__law_names_3
    refine seq_any fun N2 eN2 => ?_
    simp -implicitDefEqProofs only [↓Qa, ↓Qb, ↓Qc, ↓Qd, ↓Qe, ↓Qg, ↓Qh, ↓Qi, ↓Qj, ↓Qk, ↓Ql, ↓par2_two, ↓Qm, ↓Qn, ↓Qo, ↓Qp, ↓Qq, ↓Qr, ↓Qs, ↓Qt, ↓Qu, ↓Qv, ↓Qw, ↓Qx, ↓Qy, ↓Qz, ↓Q0, ↓truK_bl, ↓Q3, ↓Q4, ↓Q5, ↓Q6, ↓chK_bl, ↓Q7, ↓Q8, ↓Q9, ↓Ya, ↓Yb, ↓Yc, ↓Yd, ↓Ye, ↓Yf, ↓Yg, ↓Yh, ↓Yi, ↓Yj, ↓Yk, ↓Ym, ↓Yn, ↓Yo, ↓Yp, ↓Yq, ↓Yr, ↓Ys, ↓Yt, ↓Yu, ↓Yv, ↓Yw, ↓Yx, ↓Yy, ↓Yz, ↓Y0, ↓Y1, ↓Y2, ↓Y3, ↓Y4, ↓Y5, ↓Y6, ↓Y7, ↓Y8, ↓Y9, ↓Ja, ↓Jb, ↓Jc, ↓Jd, ↓Je, ↓Jf, ↓Jg, ↓Jh, ↓Ji, ↓Jj, ↓Jk, ↓Jl, ↓Jm, ↓Jn, ↓Jo, ↓Jp, ↓Jq, ↓Jr, ↓Js, ↓Jt, ↓Ju, ↓Jw, ↓Jx, ↓Jy, ↓Jz, ↓J1, ↓J2, ↓J3, ↓J4, ↓J5, ↓J6, ↓J7, ↓J8, ↓J9, ↓Qaa, ↓Qab, ↓Qac, ↓Qad, ↓Qae, ↓par3_three, ↓Qaf, ↓Qag, ↓Qah, ↓Qai, ↓Qaj, ↓Qak, ↓Qal, ↓Qam, ↓Qan, ↓Qao, ↓Qap, ↓Qaq, ↓Qar, ↓Qas, ↓Qat, ↓Qau, ↓Qav, ↓Qaw, ↓Qax, ↓Qay, ↓Qaz, ↓Qa0, ↓Qa1, ↓Qa2, ↓Qa3, ↓Qa4, ↓Qa5, ↓Qa6, ↓Qa7, ↓Qa8, ↓Qa9, ↓Qba, ↓Qbb, ↓Qbc, ↓Qbd, ↓Qbe, ↓Qbf, ↓Qbg, ↓Qbh, ↓Qbi, ↓Qbj, ↓Qbk, ↓Qbl, List.set_cons_zero, List.set_cons_succ, wipeP, it_roads]
    refine wLcL_filt roadP roadP (fun r => decide (r.bgn = y) || (tie && decide (r.fin = y))) trivial rs (fun r hr R' M g1 g2 => ?_) (sz0 (by omega)) ?_
    · simp -implicitDefEqProofs only [↓Qa, ↓Qb, ↓Qc, ↓Qd, ↓Qe, ↓Qg, ↓Qh, ↓Qi, ↓Qj, ↓Qk, ↓Ql, ↓par2_two, ↓Qm, ↓Qn, ↓Qo, ↓Qp, ↓Qq, ↓Qr, ↓Qs, ↓Qt, ↓Qu, ↓Qv, ↓Qw, ↓Qx, ↓Qy, ↓Qz, ↓Q0, ↓truK_bl, ↓Q3, ↓Q4, ↓Q5, ↓Q6, ↓chK_bl, ↓Q7, ↓Q8, ↓Q9, ↓Ya, ↓Yb, ↓Yc, ↓Yd, ↓Ye, ↓Yf, ↓Yg, ↓Yh, ↓Yi, ↓Yj, ↓Yk, ↓Ym, ↓Yn, ↓Yo, ↓Yp, ↓Yq, ↓Yr, ↓Ys, ↓Yt, ↓Yu, ↓Yv, ↓Yw, ↓Yx, ↓Yy, ↓Yz, ↓Y0, ↓Y1, ↓Y2, ↓Y3, ↓Y4, ↓Y5, ↓Y6, ↓Y7, ↓Y8, ↓Y9, ↓Ja, ↓Jb, ↓Jc, ↓Jd, ↓Je, ↓Jf, ↓Jg, ↓Jh, ↓Ji, ↓Jj, ↓Jk, ↓Jl, ↓Jm, ↓Jn, ↓Jo, ↓Jp, ↓Jq, ↓Jr, ↓Js, ↓Jt, ↓Ju, ↓Jw, ↓Jx, ↓Jy, ↓Jz, ↓J1, ↓J2, ↓J3, ↓J4, ↓J5, ↓J6, ↓J7, ↓J8, ↓J9, ↓Qaa, ↓Qab, ↓Qac, ↓Qad, ↓Qae, ↓par3_three, ↓Qaf, ↓Qag, ↓Qah, ↓Qai, ↓Qaj, ↓Qak, ↓Qal, ↓Qam, ↓Qan, ↓Qao, ↓Qap, ↓Qaq, ↓Qar, ↓Qas, ↓Qat, ↓Qau, ↓Qav, ↓Qaw, ↓Qax, ↓Qay, ↓Qaz, ↓Qa0, ↓Qa1, ↓Qa2, ↓Qa3, ↓Qa4, ↓Qa5, ↓Qa6, ↓Qa7, ↓Qa8, ↓Qa9, ↓Qba, ↓Qbb, ↓Qbc, ↓Qbd, ↓Qbe, ↓Qbf, ↓Qbg, ↓Qbh, ↓Qbi, ↓Qbj, ↓Qbk, ↓Qbl, List.set_cons_zero, List.set_cons_succ, wipeP, ix_road]
      refine ⟨.str r.bgn, rfl, ?_⟩
      simp -implicitDefEqProofs only [↓Qa, ↓Qb, ↓Qc, ↓Qd, ↓Qe, ↓Qg, ↓Qh, ↓Qi, ↓Qj, ↓Qk, ↓Ql, ↓par2_two, ↓Qm, ↓Qn, ↓Qo, ↓Qp, ↓Qq, ↓Qr, ↓Qs, ↓Qt, ↓Qu, ↓Qv, ↓Qw, ↓Qx, ↓Qy, ↓Qz, ↓Q0, ↓truK_bl, ↓Q3, ↓Q4, ↓Q5, ↓Q6, ↓chK_bl, ↓Q7, ↓Q8, ↓Q9, ↓Ya, ↓Yb, ↓Yc, ↓Yd, ↓Ye, ↓Yf, ↓Yg, ↓Yh, ↓Yi, ↓Yj, ↓Yk, ↓Ym, ↓Yn, ↓Yo, ↓Yp, ↓Yq, ↓Yr, ↓Ys, ↓Yt, ↓Yu, ↓Yv, ↓Yw, ↓Yx, ↓Yy, ↓Yz, ↓Y0, ↓Y1, ↓Y2, ↓Y3, ↓Y4, ↓Y5, ↓Y6, ↓Y7, ↓Y8, ↓Y9, ↓Ja, ↓Jb, ↓Jc, ↓Jd, ↓Je, ↓Jf, ↓Jg, ↓Jh, ↓Ji, ↓Jj, ↓Jk, ↓Jl, ↓Jm, ↓Jn, ↓Jo, ↓Jp, ↓Jq, ↓Jr, ↓Js, ↓Jt, ↓Ju, ↓Jw, ↓Jx, ↓Jy, ↓Jz, ↓J1, ↓J2, ↓J3, ↓J4, ↓J5, ↓J6, ↓J7, ↓J8, ↓J9, ↓Qaa, ↓Qab, ↓Qac, ↓Qad, ↓Qae, ↓par3_three, ↓Qaf, ↓Qag, ↓Qah, ↓Qai, ↓Qaj, ↓Qak, ↓Qal, ↓Qam, ↓Qan, ↓Qao, ↓Qap, ↓Qaq, ↓Qar, ↓Qas, ↓Qat, ↓Qau, ↓Qav, ↓Qaw, ↓Qax, ↓Qay, ↓Qaz, ↓Qa0, ↓Qa1, ↓Qa2, ↓Qa3, ↓Qa4, ↓Qa5, ↓Qa6, ↓Qa7, ↓Qa8, ↓Qa9, ↓Qba, ↓Qbb, ↓Qbc, ↓Qbd, ↓Qbe, ↓Qbf, ↓Qbg, ↓Qbh, ↓Qbi, ↓Qbj, ↓Qbk, ↓Qbl, List.set_cons_zero, List.set_cons_succ, wipeP, Bool.bne_false]
      cases c1 : decide (r.bgn = y) with
      | true =>
        simp only [if_true]
        exact g1 (by rw [c1]; rfl)
      | false =>
        simp only [Bool.false_eq_true, if_false]
        refine ⟨tie, rfl, ?_⟩
        cases tie with
        | false =>
          simp only [Bool.false_eq_true, if_false]
          exact g2 (by rw [c1]; rfl)
        | true =>
          simp only [if_true]
          refine ⟨.str r.fin, rfl, ?_⟩
          simp -implicitDefEqProofs only [↓Qa, ↓Qb, ↓Qc, ↓Qd, ↓Qe, ↓Qg, ↓Qh, ↓Qi, ↓Qj, ↓Qk, ↓Ql, ↓par2_two, ↓Qm, ↓Qn, ↓Qo, ↓Qp, ↓Qq, ↓Qr, ↓Qs, ↓Qt, ↓Qu, ↓Qv, ↓Qw, ↓Qx, ↓Qy, ↓Qz, ↓Q0, ↓truK_bl, ↓Q3, ↓Q4, ↓Q5, ↓Q6, ↓chK_bl, ↓Q7, ↓Q8, ↓Q9, ↓Ya, ↓Yb, ↓Yc, ↓Yd, ↓Ye, ↓Yf, ↓Yg, ↓Yh, ↓Yi, ↓Yj, ↓Yk, ↓Ym, ↓Yn, ↓Yo, ↓Yp, ↓Yq, ↓Yr, ↓Ys, ↓Yt, ↓Yu, ↓Yv, ↓Yw, ↓Yx, ↓Yy, ↓Yz, ↓Y0, ↓Y1, ↓Y2, ↓Y3, ↓Y4, ↓Y5, ↓Y6, ↓Y7, ↓Y8, ↓Y9, ↓Ja, ↓Jb, ↓Jc, ↓Jd, ↓Je, ↓Jf, ↓Jg, ↓Jh, ↓Ji, ↓Jj, ↓Jk, ↓Jl, ↓Jm, ↓Jn, ↓Jo, ↓Jp, ↓Jq, ↓Jr, ↓Js, ↓Jt, ↓Ju, ↓Jw, ↓Jx, ↓Jy, ↓Jz, ↓J1, ↓J2, ↓J3, ↓J4, ↓J5, ↓J6, ↓J7, ↓J8, ↓J9, ↓Qaa, ↓Qab, ↓Qac, ↓Qad, ↓Qae, ↓par3_three, ↓Qaf, ↓Qag, ↓Qah, ↓Qai, ↓Qaj, ↓Qak, ↓Qal, ↓Qam, ↓Qan, ↓Qao, ↓Qap, ↓Qaq, ↓Qar, ↓Qas, ↓Qat, ↓Qau, ↓Qav, ↓Qaw, ↓Qax, ↓Qay, ↓Qaz, ↓Qa0, ↓Qa1, ↓Qa2, ↓Qa3, ↓Qa4, ↓Qa5, ↓Qa6, ↓Qa7, ↓Qa8, ↓Qa9, ↓Qba, ↓Qbb, ↓Qbc, ↓Qbd, ↓Qbe, ↓Qbf, ↓Qbg, ↓Qbh, ↓Qbi, ↓Qbj, ↓Qbk, ↓Qbl, List.set_cons_zero, List.set_cons_succ, wipeP, Bool.bne_false]
          cases c2 : decide (r.fin = y) with
          | true => simp only [if_true]; exact g1 (by rw [c1, c2]; rfl)
          | false => simp only [Bool.false_eq_true, if_false]; exact g2 (by rw [c1, c2]; rfl)
    rw [eN2]
    obtain ⟨qs, eq⟩ : ∃ qs, qs = rs.filter (fun r => decide (r.bgn = y) || (tie && decide (r.fin = y))) := ⟨_, rfl⟩
    rw [← eq]
    have hq : ∀ r ∈ qs, r ∈ rs := fun r hr => (List.mem_filter.mp (by rw [← eq]; exact hr)).1
    have ql : qs.length ≤ 120 := Nat.le_trans (by rw [eq]; exact List.length_filter_le _ _) rl
    simp -implicitDefEqProofs only [↓Qa, ↓Qb, ↓Qc, ↓Qd, ↓Qe, ↓Qg, ↓Qh, ↓Qi, ↓Qj, ↓Qk, ↓Ql, ↓par2_two, ↓Qm, ↓Qn, ↓Qo, ↓Qp, ↓Qq, ↓Qr, ↓Qs, ↓Qt, ↓Qu, ↓Qv, ↓Qw, ↓Qx, ↓Qy, ↓Qz, ↓Q0, ↓truK_bl, ↓Q3, ↓Q4, ↓Q5, ↓Q6, ↓chK_bl, ↓Q7, ↓Q8, ↓Q9, ↓Ya, ↓Yb, ↓Yc, ↓Yd, ↓Ye, ↓Yf, ↓Yg, ↓Yh, ↓Yi, ↓Yj, ↓Yk, ↓Ym, ↓Yn, ↓Yo, ↓Yp, ↓Yq, ↓Yr, ↓Ys, ↓Yt, ↓Yu, ↓Yv, ↓Yw, ↓Yx, ↓Yy, ↓Yz, ↓Y0, ↓Y1, ↓Y2, ↓Y3, ↓Y4, ↓Y5, ↓Y6, ↓Y7, ↓Y8, ↓Y9, ↓Ja, ↓Jb, ↓Jc, ↓Jd, ↓Je, ↓Jf, ↓Jg, ↓Jh, ↓Ji, ↓Jj, ↓Jk, ↓Jl, ↓Jm, ↓Jn, ↓Jo, ↓Jp, ↓Jq, ↓Jr, ↓Js, ↓Jt, ↓Ju, ↓Jw, ↓Jx, ↓Jy, ↓Jz, ↓J1, ↓J2, ↓J3, ↓J4, ↓J5, ↓J6, ↓J7, ↓J8, ↓J9, ↓Qaa, ↓Qab, ↓Qac, ↓Qad, ↓Qae, ↓par3_three, ↓Qaf, ↓Qag, ↓Qah, ↓Qai, ↓Qaj, ↓Qak, ↓Qal, ↓Qam, ↓Qan, ↓Qao, ↓Qap, ↓Qaq, ↓Qar, ↓Qas, ↓Qat, ↓Qau, ↓Qav, ↓Qaw, ↓Qax, ↓Qay, ↓Qaz, ↓Qa0, ↓Qa1, ↓Qa2, ↓Qa3, ↓Qa4, ↓Qa5, ↓Qa6, ↓Qa7, ↓Qa8, ↓Qa9, ↓Qba, ↓Qbb, ↓Qbc, ↓Qbd, ↓Qbe, ↓Qbf, ↓Qbg, ↓Qbh, ↓Qbi, ↓Qbj, ↓Qbk, ↓Qbl, List.set_cons_zero, List.set_cons_succ, wipeP]
    refine ⟨sz0 (by simp), ?_⟩
    rw [k_ne_nil fun r hr => rdN (ok.rn r (hq r hr))]
    simp -implicitDefEqProofs only [↓Qa, ↓Qb, ↓Qc, ↓Qd, ↓Qe, ↓Qg, ↓Qh, ↓Qi, ↓Qj, ↓Qk, ↓Ql, ↓par2_two, ↓Qm, ↓Qn, ↓Qo, ↓Qp, ↓Qq, ↓Qr, ↓Qs, ↓Qt, ↓Qu, ↓Qv, ↓Qw, ↓Qx, ↓Qy, ↓Qz, ↓Q0, ↓truK_bl, ↓Q3, ↓Q4, ↓Q5, ↓Q6, ↓chK_bl, ↓Q7, ↓Q8, ↓Q9, ↓Ya, ↓Yb, ↓Yc, ↓Yd, ↓Ye, ↓Yf, ↓Yg, ↓Yh, ↓Yi, ↓Yj, ↓Yk, ↓Ym, ↓Yn, ↓Yo, ↓Yp, ↓Yq, ↓Yr, ↓Ys, ↓Yt, ↓Yu, ↓Yv, ↓Yw, ↓Yx, ↓Yy, ↓Yz, ↓Y0, ↓Y1, ↓Y2, ↓Y3, ↓Y4, ↓Y5, ↓Y6, ↓Y7, ↓Y8, ↓Y9, ↓Ja, ↓Jb, ↓Jc, ↓Jd, ↓Je, ↓Jf, ↓Jg, ↓Jh, ↓Ji, ↓Jj, ↓Jk, ↓Jl, ↓Jm, ↓Jn, ↓Jo, ↓Jp, ↓Jq, ↓Jr, ↓Js, ↓Jt, ↓Ju, ↓Jw, ↓Jx, ↓Jy, ↓Jz, ↓J1, ↓J2, ↓J3, ↓J4, ↓J5, ↓J6, ↓J7, ↓J8, ↓J9, ↓Qaa, ↓Qab, ↓Qac, ↓Qad, ↓Qae, ↓par3_three, ↓Qaf, ↓Qag, ↓Qah, ↓Qai, ↓Qaj, ↓Qak, ↓Qal, ↓Qam, ↓Qan, ↓Qao, ↓Qap, ↓Qaq, ↓Qar, ↓Qas, ↓Qat, ↓Qau, ↓Qav, ↓Qaw, ↓Qax, ↓Qay, ↓Qaz, ↓Qa0, ↓Qa1, ↓Qa2, ↓Qa3, ↓Qa4, ↓Qa5, ↓Qa6, ↓Qa7, ↓Qa8, ↓Qa9, ↓Qba, ↓Qbb, ↓Qbc, ↓Qbd, ↓Qbe, ↓Qbf, ↓Qbg, ↓Qbh, ↓Qbi, ↓Qbj, ↓Qbk, ↓Qbl, List.set_cons_zero, List.set_cons_succ, wipeP]
    by_cases h0 : qs = []
    · rw [decide_eq_true h0]
      simp only [Bool.not_true, Bool.false_eq_true, if_false]
      exact hN _ _ ⟨fs, y, _, _, _, nm, by omega, rfl⟩
    · rw [decide_eq_false h0]
      simp only [Bool.not_false, if_true]
      have qp : 0 < qs.length := List.length_pos_iff.mpr h0
      refine ⟨rfl, t_any nm.h (by rw [List.length_map]; exact qp) (by rw [List.length_map]; omega) fun z hz S3 h3 o3 => ?_⟩
      obtain ⟨r, hr, rfl⟩ := List.mem_map.mp hz
      have n3 := nm.off hba h3 o3
      have rl8 := name_sz (roadB_n (ok.rn r (hq r hr))).1
      simp -implicitDefEqProofs only [w__law_names_2, ↓Qa, ↓Qb, ↓Qc, ↓Qd, ↓Qe, ↓Qg, ↓Qh, ↓Qi, ↓Qj, ↓Qk, ↓Ql, ↓par2_two, ↓Qm, ↓Qn, ↓Qo, ↓Qp, ↓Qq, ↓Qr, ↓Qs, ↓Qt, ↓Qu, ↓Qv, ↓Qw, ↓Qx, ↓Qy, ↓Qz, ↓Q0, ↓truK_bl, ↓Q3, ↓Q4, ↓Q5, ↓Q6, ↓chK_bl, ↓Q7, ↓Q8, ↓Q9, ↓Ya, ↓Yb, ↓Yc, ↓Yd, ↓Ye, ↓Yf, ↓Yg, ↓Yh, ↓Yi, ↓Yj, ↓Yk, ↓Ym, ↓Yn, ↓Yo, ↓Yp, ↓Yq, ↓Yr, ↓Ys, ↓Yt, ↓Yu, ↓Yv, ↓Yw, ↓Yx, ↓Yy, ↓Yz, ↓Y0, ↓Y1, ↓Y2, ↓Y3, ↓Y4, ↓Y5, ↓Y6, ↓Y7, ↓Y8, ↓Y9, ↓Ja, ↓Jb, ↓Jc, ↓Jd, ↓Je, ↓Jf, ↓Jg, ↓Jh, ↓Ji, ↓Jj, ↓Jk, ↓Jl, ↓Jm, ↓Jn, ↓Jo, ↓Jp, ↓Jq, ↓Jr, ↓Js, ↓Jt, ↓Ju, ↓Jw, ↓Jx, ↓Jy, ↓Jz, ↓J1, ↓J2, ↓J3, ↓J4, ↓J5, ↓J6, ↓J7, ↓J8, ↓J9, ↓Qaa, ↓Qab, ↓Qac, ↓Qad, ↓Qae, ↓par3_three, ↓Qaf, ↓Qag, ↓Qah, ↓Qai, ↓Qaj, ↓Qak, ↓Qal, ↓Qam, ↓Qan, ↓Qao, ↓Qap, ↓Qaq, ↓Qar, ↓Qas, ↓Qat, ↓Qau, ↓Qav, ↓Qaw, ↓Qax, ↓Qay, ↓Qaz, ↓Qa0, ↓Qa1, ↓Qa2, ↓Qa3, ↓Qa4, ↓Qa5, ↓Qa6, ↓Qa7, ↓Qa8, ↓Qa9, ↓Qba, ↓Qbb, ↓Qbc, ↓Qbd, ↓Qbe, ↓Qbf, ↓Qbg, ↓Qbh, ↓Qbi, ↓Qbj, ↓Qbk, ↓Qbl, List.set_cons_zero, List.set_cons_succ, wipeP, ix_road]
      refine ⟨by rw [k_tyB_ref n3.g]; trivial, .str r.name, rfl, ?_⟩
      rw [k_app n3.g]
      refine ⟨by rw [List.length_map, sizeLine_eq]; omega, ?_⟩
      have n4 := n3.app (x := r.name) hba rl8
      simp -implicitDefEqProofs only [w__law_names_1, ↓Qa, ↓Qb, ↓Qc, ↓Qd, ↓Qe, ↓Qg, ↓Qh, ↓Qi, ↓Qj, ↓Qk, ↓Ql, ↓par2_two, ↓Qm, ↓Qn, ↓Qo, ↓Qp, ↓Qq, ↓Qr, ↓Qs, ↓Qt, ↓Qu, ↓Qv, ↓Qw, ↓Qx, ↓Qy, ↓Qz, ↓Q0, ↓truK_bl, ↓Q3, ↓Q4, ↓Q5, ↓Q6, ↓chK_bl, ↓Q7, ↓Q8, ↓Q9, ↓Ya, ↓Yb, ↓Yc, ↓Yd, ↓Ye, ↓Yf, ↓Yg, ↓Yh, ↓Yi, ↓Yj, ↓Yk, ↓Ym, ↓Yn, ↓Yo, ↓Yp, ↓Yq, ↓Yr, ↓Ys, ↓Yt, ↓Yu, ↓Yv, ↓Yw, ↓Yx, ↓Yy, ↓Yz, ↓Y0, ↓Y1, ↓Y2, ↓Y3, ↓Y4, ↓Y5, ↓Y6, ↓Y7, ↓Y8, ↓Y9, ↓Ja, ↓Jb, ↓Jc, ↓Jd, ↓Je, ↓Jf, ↓Jg, ↓Jh, ↓Ji, ↓Jj, ↓Jk, ↓Jl, ↓Jm, ↓Jn, ↓Jo, ↓Jp, ↓Jq, ↓Jr, ↓Js, ↓Jt, ↓Ju, ↓Jw, ↓Jx, ↓Jy, ↓Jz, ↓J1, ↓J2, ↓J3, ↓J4, ↓J5, ↓J6, ↓J7, ↓J8, ↓J9, ↓Qaa, ↓Qab, ↓Qac, ↓Qad, ↓Qae, ↓par3_three, ↓Qaf, ↓Qag, ↓Qah, ↓Qai, ↓Qaj, ↓Qak, ↓Qal, ↓Qam, ↓Qan, ↓Qao, ↓Qap, ↓Qaq, ↓Qar, ↓Qas, ↓Qat, ↓Qau, ↓Qav, ↓Qaw, ↓Qax, ↓Qay, ↓Qaz, ↓Qa0, ↓Qa1, ↓Qa2, ↓Qa3, ↓Qa4, ↓Qa5, ↓Qa6, ↓Qa7, ↓Qa8, ↓Qa9, ↓Qba, ↓Qbb, ↓Qbc, ↓Qbd, ↓Qbe, ↓Qbf, ↓Qbg, ↓Qbh, ↓Qbi, ↓Qbj, ↓Qbk, ↓Qbl, List.set_cons_zero, List.set_cons_succ, wipeP, ix_road]
      refine ⟨.str r.bgn, rfl, ?_⟩
      simp -implicitDefEqProofs only [↓Qa, ↓Qb, ↓Qc, ↓Qd, ↓Qe, ↓Qg, ↓Qh, ↓Qi, ↓Qj, ↓Qk, ↓Ql, ↓par2_two, ↓Qm, ↓Qn, ↓Qo, ↓Qp, ↓Qq, ↓Qr, ↓Qs, ↓Qt, ↓Qu, ↓Qv, ↓Qw, ↓Qx, ↓Qy, ↓Qz, ↓Q0, ↓truK_bl, ↓Q3, ↓Q4, ↓Q5, ↓Q6, ↓chK_bl, ↓Q7, ↓Q8, ↓Q9, ↓Ya, ↓Yb, ↓Yc, ↓Yd, ↓Ye, ↓Yf, ↓Yg, ↓Yh, ↓Yi, ↓Yj, ↓Yk, ↓Ym, ↓Yn, ↓Yo, ↓Yp, ↓Yq, ↓Yr, ↓Ys, ↓Yt, ↓Yu, ↓Yv, ↓Yw, ↓Yx, ↓Yy, ↓Yz, ↓Y0, ↓Y1, ↓Y2, ↓Y3, ↓Y4, ↓Y5, ↓Y6, ↓Y7, ↓Y8, ↓Y9, ↓Ja, ↓Jb, ↓Jc, ↓Jd, ↓Je, ↓Jf, ↓Jg, ↓Jh, ↓Ji, ↓Jj, ↓Jk, ↓Jl, ↓Jm, ↓Jn, ↓Jo, ↓Jp, ↓Jq, ↓Jr, ↓Js, ↓Jt, ↓Ju, ↓Jw, ↓Jx, ↓Jy, ↓Jz, ↓J1, ↓J2, ↓J3, ↓J4, ↓J5, ↓J6, ↓J7, ↓J8, ↓J9, ↓Qaa, ↓Qab, ↓Qac, ↓Qad, ↓Qae, ↓par3_three, ↓Qaf, ↓Qag, ↓Qah, ↓Qai, ↓Qaj, ↓Qak, ↓Qal, ↓Qam, ↓Qan, ↓Qao, ↓Qap, ↓Qaq, ↓Qar, ↓Qas, ↓Qat, ↓Qau, ↓Qav, ↓Qaw, ↓Qax, ↓Qay, ↓Qaz, ↓Qa0, ↓Qa1, ↓Qa2, ↓Qa3, ↓Qa4, ↓Qa5, ↓Qa6, ↓Qa7, ↓Qa8, ↓Qa9, ↓Qba, ↓Qbb, ↓Qbc, ↓Qbd, ↓Qbe, ↓Qbf, ↓Qbg, ↓Qbh, ↓Qbi, ↓Qbj, ↓Qbk, ↓Qbl, List.set_cons_zero, List.set_cons_succ, wipeP, Bool.bne_false]
      by_cases c1 : r.bgn = y
      · rw [decide_eq_true c1]
        simp only [if_true]
        exact ⟨.str r.fin, rfl, hN _ _ ⟨_, r.fin, _, _, _, n4, by rw [List.length_append, List.length_singleton]; omega, rfl⟩⟩
      · rw [decide_eq_false c1]
        simp only [Bool.false_eq_true, if_false]
        exact ⟨.str r.bgn, rfl, hN _ _ ⟨_, r.bgn, _, _, _, n4, by rw [List.length_append, List.length_singleton]; omega, rfl⟩⟩
  · subst er
    have l : fs.length ≤ 6 := by simpa using l
    dsimp only
    rw [eN1]
    unfold w__law_names_5
    refine seq_any fun N2 eN2 => ?_
    simp -implicitDefEqProofs only [↓Qa, ↓Qb, ↓Qc, ↓Qd, ↓Qe, ↓Qg, ↓Qh, ↓Qi, ↓Qj, ↓Qk, ↓Ql, ↓par2_two, ↓Qm, ↓Qn, ↓Qo, ↓Qp, ↓Qq, ↓Qr, ↓Qs, ↓Qt, ↓Qu, ↓Qv, ↓Qw, ↓Qx, ↓Qy, ↓Qz, ↓Q0, ↓truK_bl, ↓Q3, ↓Q4, ↓Q5, ↓Q6, ↓chK_bl, ↓Q7, ↓Q8, ↓Q9, ↓Ya, ↓Yb, ↓Yc, ↓Yd, ↓Ye, ↓Yf, ↓Yg, ↓Yh, ↓Yi, ↓Yj, ↓Yk, ↓Ym, ↓Yn, ↓Yo, ↓Yp, ↓Yq, ↓Yr, ↓Ys, ↓Yt, ↓Yu, ↓Yv, ↓Yw, ↓Yx, ↓Yy, ↓Yz, ↓Y0, ↓Y1, ↓Y2, ↓Y3, ↓Y4, ↓Y5, ↓Y6, ↓Y7, ↓Y8, ↓Y9, ↓Ja, ↓Jb, ↓Jc, ↓Jd, ↓Je, ↓Jf, ↓Jg, ↓Jh, ↓Ji, ↓Jj, ↓Jk, ↓Jl, ↓Jm, ↓Jn, ↓Jo, ↓Jp, ↓Jq, ↓Jr, ↓Js, ↓Jt, ↓Ju, ↓Jw, ↓Jx, ↓Jy, ↓Jz, ↓J1, ↓J2, ↓J3, ↓J4, ↓J5, ↓J6, ↓J7, ↓J8, ↓J9, ↓Qaa, ↓Qab, ↓Qac, ↓Qad, ↓Qae, ↓par3_three, ↓Qaf, ↓Qag, ↓Qah, ↓Qai, ↓Qaj, ↓Qak, ↓Qal, ↓Qam, ↓Qan, ↓Qao, ↓Qap, ↓Qaq, ↓Qar, ↓Qas, ↓Qat, ↓Qau, ↓Qav, ↓Qaw, ↓Qax, ↓Qay, ↓Qaz, ↓Qa0, ↓Qa1, ↓Qa2, ↓Qa3, ↓Qa4, ↓Qa5, ↓Qa6, ↓Qa7, ↓Qa8, ↓Qa9, ↓Qba, ↓Qbb, ↓Qbc, ↓Qbd, ↓Qbe, ↓Qbf, ↓Qbg, ↓Qbh, ↓Qbi, ↓Qbj, ↓Qbk, ↓Qbl, List.set_cons_zero, List.set_cons_succ, wipeP]
    refine ⟨rfl, t_draw nm.h (by omega) (by omega) fun c S3 c0 c1 h3 o3 => ?_⟩
    have n3 := nm.off hba h3 o3
    simp -implicitDefEqProofs only [↓Qa, ↓Qb, ↓Qc, ↓Qd, ↓Qe, ↓Qg, ↓Qh, ↓Qi, ↓Qj, ↓Qk, ↓Ql, ↓par2_two, ↓Qm, ↓Qn, ↓Qo, ↓Qp, ↓Qq, ↓Qr, ↓Qs, ↓Qt, ↓Qu, ↓Qv, ↓Qw, ↓Qx, ↓Qy, ↓Qz, ↓Q0, ↓truK_bl, ↓Q3, ↓Q4, ↓Q5, ↓Q6, ↓chK_bl, ↓Q7, ↓Q8, ↓Q9, ↓Ya, ↓Yb, ↓Yc, ↓Yd, ↓Ye, ↓Yf, ↓Yg, ↓Yh, ↓Yi, ↓Yj, ↓Yk, ↓Ym, ↓Yn, ↓Yo, ↓Yp, ↓Yq, ↓Yr, ↓Ys, ↓Yt, ↓Yu, ↓Yv, ↓Yw, ↓Yx, ↓Yy, ↓Yz, ↓Y0, ↓Y1, ↓Y2, ↓Y3, ↓Y4, ↓Y5, ↓Y6, ↓Y7, ↓Y8, ↓Y9, ↓Ja, ↓Jb, ↓Jc, ↓Jd, ↓Je, ↓Jf, ↓Jg, ↓Jh, ↓Ji, ↓Jj, ↓Jk, ↓Jl, ↓Jm, ↓Jn, ↓Jo, ↓Jp, ↓Jq, ↓Jr, ↓Js, ↓Jt, ↓Ju, ↓Jw, ↓Jx, ↓Jy, ↓Jz, ↓J1, ↓J2, ↓J3, ↓J4, ↓J5, ↓J6, ↓J7, ↓J8, ↓J9, ↓Qaa, ↓Qab, ↓Qac, ↓Qad, ↓Qae, ↓par3_three, ↓Qaf, ↓Qag, ↓Qah, ↓Qai, ↓Qaj, ↓Qak, ↓Qal, ↓Qam, ↓Qan, ↓Qao, ↓Qap, ↓Qaq, ↓Qar, ↓Qas, ↓Qat, ↓Qau, ↓Qav, ↓Qaw, ↓Qax, ↓Qay, ↓Qaz, ↓Qa0, ↓Qa1, ↓Qa2, ↓Qa3, ↓Qa4, ↓Qa5, ↓Qa6, ↓Qa7, ↓Qa8, ↓Qa9, ↓Qba, ↓Qbb, ↓Qbc, ↓Qbd, ↓Qbe, ↓Qbf, ↓Qbg, ↓Qbh, ↓Qbi, ↓Qbj, ↓Qbk, ↓Qbl, List.set_cons_zero, List.set_cons_succ, wipeP, Bool.bne_false]
    by_cases hc : c = 0
    · rw [decide_eq_true hc]
      simp -implicitDefEqProofs only [if_true, k_len_ref n3.g, List.length_map, ↓Qa, ↓Qb, ↓Qc, ↓Qd, ↓Qe, ↓Qg, ↓Qh, ↓Qi, ↓Qj, ↓Qk, ↓Ql, ↓par2_two, ↓Qm, ↓Qn, ↓Qo, ↓Qp, ↓Qq, ↓Qr, ↓Qs, ↓Qt, ↓Qu, ↓Qv, ↓Qw, ↓Qx, ↓Qy, ↓Qz, ↓Q0, ↓truK_bl, ↓Q3, ↓Q4, ↓Q5, ↓Q6, ↓chK_bl, ↓Q7, ↓Q8, ↓Q9, ↓Ya, ↓Yb, ↓Yc, ↓Yd, ↓Ye, ↓Yf, ↓Yg, ↓Yh, ↓Yi, ↓Yj, ↓Yk, ↓Ym, ↓Yn, ↓Yo, ↓Yp, ↓Yq, ↓Yr, ↓Ys, ↓Yt, ↓Yu, ↓Yv, ↓Yw, ↓Yx, ↓Yy, ↓Yz, ↓Y0, ↓Y1, ↓Y2, ↓Y3, ↓Y4, ↓Y5, ↓Y6, ↓Y7, ↓Y8, ↓Y9, ↓Ja, ↓Jb, ↓Jc, ↓Jd, ↓Je, ↓Jf, ↓Jg, ↓Jh, ↓Ji, ↓Jj, ↓Jk, ↓Jl, ↓Jm, ↓Jn, ↓Jo, ↓Jp, ↓Jq, ↓Jr, ↓Js, ↓Jt, ↓Ju, ↓Jw, ↓Jx, ↓Jy, ↓Jz, ↓J1, ↓J2, ↓J3, ↓J4, ↓J5, ↓J6, ↓J7, ↓J8, ↓J9, ↓Qaa, ↓Qab, ↓Qac, ↓Qad, ↓Qae, ↓par3_three, ↓Qaf, ↓Qag, ↓Qah, ↓Qai, ↓Qaj, ↓Qak, ↓Qal, ↓Qam, ↓Qan, ↓Qao, ↓Qap, ↓Qaq, ↓Qar, ↓Qas, ↓Qat, ↓Qau, ↓Qav, ↓Qaw, ↓Qax, ↓Qay, ↓Qaz, ↓Qa0, ↓Qa1, ↓Qa2, ↓Qa3, ↓Qa4, ↓Qa5, ↓Qa6, ↓Qa7, ↓Qa8, ↓Qa9, ↓Qba, ↓Qbb, ↓Qbc, ↓Qbd, ↓Qbe, ↓Qbf, ↓Qbg, ↓Qbh, ↓Qbi, ↓Qbj, ↓Qbk, ↓Qbl, List.set_cons_zero, List.set_cons_succ, wipeP]
      refine ⟨rfl, t_draw n3.h (by omega) (by omega) fun i S4 i0 i1 h4 o4 => ?_⟩
      have n4 := n3.off hba h4 o4
      simp -implicitDefEqProofs only [↓Qa, ↓Qb, ↓Qc, ↓Qd, ↓Qe, ↓Qg, ↓Qh, ↓Qi, ↓Qj, ↓Qk, ↓Ql, ↓par2_two, ↓Qm, ↓Qn, ↓Qo, ↓Qp, ↓Qq, ↓Qr, ↓Qs, ↓Qt, ↓Qu, ↓Qv, ↓Qw, ↓Qx, ↓Qy, ↓Qz, ↓Q0, ↓truK_bl, ↓Q3, ↓Q4, ↓Q5, ↓Q6, ↓chK_bl, ↓Q7, ↓Q8, ↓Q9, ↓Ya, ↓Yb, ↓Yc, ↓Yd, ↓Ye, ↓Yf, ↓Yg, ↓Yh, ↓Yi, ↓Yj, ↓Yk, ↓Ym, ↓Yn, ↓Yo, ↓Yp, ↓Yq, ↓Yr, ↓Ys, ↓Yt, ↓Yu, ↓Yv, ↓Yw, ↓Yx, ↓Yy, ↓Yz, ↓Y0, ↓Y1, ↓Y2, ↓Y3, ↓Y4, ↓Y5, ↓Y6, ↓Y7, ↓Y8, ↓Y9, ↓Ja, ↓Jb, ↓Jc, ↓Jd, ↓Je, ↓Jf, ↓Jg, ↓Jh, ↓Ji, ↓Jj, ↓Jk, ↓Jl, ↓Jm, ↓Jn, ↓Jo, ↓Jp, ↓Jq, ↓Jr, ↓Js, ↓Jt, ↓Ju, ↓Jw, ↓Jx, ↓Jy, ↓Jz, ↓J1, ↓J2, ↓J3, ↓J4, ↓J5, ↓J6, ↓J7, ↓J8, ↓J9, ↓Qaa, ↓Qab, ↓Qac, ↓Qad, ↓Qae, ↓par3_three, ↓Qaf, ↓Qag, ↓Qah, ↓Qai, ↓Qaj, ↓Qak, ↓Qal, ↓Qam, ↓Qan, ↓Qao, ↓Qap, ↓Qaq, ↓Qar, ↓Qas, ↓Qat, ↓Qau, ↓Qav, ↓Qaw, ↓Qax, ↓Qay, ↓Qaz, ↓Qa0, ↓Qa1, ↓Qa2, ↓Qa3, ↓Qa4, ↓Qa5, ↓Qa6, ↓Qa7, ↓Qa8, ↓Qa9, ↓Qba, ↓Qbb, ↓Qbc, ↓Qbd, ↓Qbe, ↓Qbf, ↓Qbg, ↓Qbh, ↓Qbi, ↓Qbj, ↓Qbk, ↓Qbl, List.set_cons_zero, List.set_cons_succ, wipeP]
      refine k_sl_ref n4.g ?_
      obtain ⟨g1, e1, l1, m1⟩ := cut_strs fs none (some i)
      rw [e1]
      refine ⟨sz0 (by simp), rfl, t_any h4 (by decide) (by decide) fun z hz S5 h5 o5 => ?_⟩
      obtain ⟨w, rfl, hw⟩ : ∃ w : Str, z = .str w ∧ w.length ≤ 8 := by
        simp only [List.mem_cons, List.not_mem_nil, or_false] at hz
        rcases hz with rfl | rfl | rfl | rfl | rfl <;> exact ⟨_, rfl, by decide⟩
      have n5 := n4.off hba h5 o5
      refine ⟨sz0 (by simp), ?_⟩
      rw [Je]
      refine ⟨sz0 (by rw [List.length_map]; simp only [List.length_cons, List.length_nil]; omega), rfl, t_draw n5.h (by omega) (by omega) fun j S6 j0 j1 h6 o6 => ?_⟩
      have n6 := n5.off hba h6 o6
      simp -implicitDefEqProofs only [↓Qa, ↓Qb, ↓Qc, ↓Qd, ↓Qe, ↓Qg, ↓Qh, ↓Qi, ↓Qj, ↓Qk, ↓Ql, ↓par2_two, ↓Qm, ↓Qn, ↓Qo, ↓Qp, ↓Qq, ↓Qr, ↓Qs, ↓Qt, ↓Qu, ↓Qv, ↓Qw, ↓Qx, ↓Qy, ↓Qz, ↓Q0, ↓truK_bl, ↓Q3, ↓Q4, ↓Q5, ↓Q6, ↓chK_bl, ↓Q7, ↓Q8, ↓Q9, ↓Ya, ↓Yb, ↓Yc, ↓Yd, ↓Ye, ↓Yf, ↓Yg, ↓Yh, ↓Yi, ↓Yj, ↓Yk, ↓Ym, ↓Yn, ↓Yo, ↓Yp, ↓Yq, ↓Yr, ↓Ys, ↓Yt, ↓Yu, ↓Yv, ↓Yw, ↓Yx, ↓Yy, ↓Yz, ↓Y0, ↓Y1, ↓Y2, ↓Y3, ↓Y4, ↓Y5, ↓Y6, ↓Y7, ↓Y8, ↓Y9, ↓Ja, ↓Jb, ↓Jc, ↓Jd, ↓Je, ↓Jf, ↓Jg, ↓Jh, ↓Ji, ↓Jj, ↓Jk, ↓Jl, ↓Jm, ↓Jn, ↓Jo, ↓Jp, ↓Jq, ↓Jr, ↓Js, ↓Jt, ↓Ju, ↓Jw, ↓Jx, ↓Jy, ↓Jz, ↓J1, ↓J2, ↓J3, ↓J4, ↓J5, ↓J6, ↓J7, ↓J8, ↓J9, ↓Qaa, ↓Qab, ↓Qac, ↓Qad, ↓Qae, ↓par3_three, ↓Qaf, ↓Qag, ↓Qah, ↓Qai, ↓Qaj, ↓Qak, ↓Qal, ↓Qam, ↓Qan, ↓Qao, ↓Qap, ↓Qaq, ↓Qar, ↓Qas, ↓Qat, ↓Qau, ↓Qav, ↓Qaw, ↓Qax, ↓Qay, ↓Qaz, ↓Qa0, ↓Qa1, ↓Qa2, ↓Qa3, ↓Qa4, ↓Qa5, ↓Qa6, ↓Qa7, ↓Qa8, ↓Qa9, ↓Qba, ↓Qbb, ↓Qbc, ↓Qbd, ↓Qbe, ↓Qbf, ↓Qbg, ↓Qbh, ↓Qbi, ↓Qbj, ↓Qbk, ↓Qbl, List.set_cons_zero, List.set_cons_succ, wipeP]
      refine k_sl_ref n6.g ?_
      obtain ⟨g2, e2, l2, m2⟩ := cut_strs fs (some (i + j)) none
      rw [e2]
      have em : g1.map PV.str ++ [.str w] ++ g2.map PV.str = (g1 ++ [w] ++ g2).map PV.str := by rw [List.map_append, List.map_append]; rfl
      rw [Je]
      refine ⟨sz0 (by simp only [List.length_append, List.length_map, List.length_cons, List.length_nil]; omega), ?_⟩
      rw [em, eN2]
      simp -implicitDefEqProofs only [w__law_names_4, ↓Qa, ↓Qb, ↓Qc, ↓Qd, ↓Qe, ↓Qg, ↓Qh, ↓Qi, ↓Qj, ↓Qk, ↓Ql, ↓par2_two, ↓Qm, ↓Qn, ↓Qo, ↓Qp, ↓Qq, ↓Qr, ↓Qs, ↓Qt, ↓Qu, ↓Qv, ↓Qw, ↓Qx, ↓Qy, ↓Qz, ↓Q0, ↓truK_bl, ↓Q3, ↓Q4, ↓Q5, ↓Q6, ↓chK_bl, ↓Q7, ↓Q8, ↓Q9, ↓Ya, ↓Yb, ↓Yc, ↓Yd, ↓Ye, ↓Yf, ↓Yg, ↓Yh, ↓Yi, ↓Yj, ↓Yk, ↓Ym, ↓Yn, ↓Yo, ↓Yp, ↓Yq, ↓Yr, ↓Ys, ↓Yt, ↓Yu, ↓Yv, ↓Yw, ↓Yx, ↓Yy, ↓Yz, ↓Y0, ↓Y1, ↓Y2, ↓Y3, ↓Y4, ↓Y5, ↓Y6, ↓Y7, ↓Y8, ↓Y9, ↓Ja, ↓Jb, ↓Jc, ↓Jd, ↓Je, ↓Jf, ↓Jg, ↓Jh, ↓Ji, ↓Jj, ↓Jk, ↓Jl, ↓Jm, ↓Jn, ↓Jo, ↓Jp, ↓Jq, ↓Jr, ↓Js, ↓Jt, ↓Ju, ↓Jw, ↓Jx, ↓Jy, ↓Jz, ↓J1, ↓J2, ↓J3, ↓J4, ↓J5, ↓J6, ↓J7, ↓J8, ↓J9, ↓Qaa, ↓Qab, ↓Qac, ↓Qad, ↓Qae, ↓par3_three, ↓Qaf, ↓Qag, ↓Qah, ↓Qai, ↓Qaj, ↓Qak, ↓Qal, ↓Qam, ↓Qan, ↓Qao, ↓Qap, ↓Qaq, ↓Qar, ↓Qas, ↓Qat, ↓Qau, ↓Qav, ↓Qaw, ↓Qax, ↓Qay, ↓Qaz, ↓Qa0, ↓Qa1, ↓Qa2, ↓Qa3, ↓Qa4, ↓Qa5, ↓Qa6, ↓Qa7, ↓Qa8, ↓Qa9, ↓Qba, ↓Qbb, ↓Qbc, ↓Qbd, ↓Qbe, ↓Qbf, ↓Qbg, ↓Qbh, ↓Qbi, ↓Qbj, ↓Qbk, ↓Qbl, List.set_cons_zero, List.set_cons_succ, wipeP]
      refine n6.out hb fun S'' h o => hR _ S'' (by simp only [List.length_append, List.length_cons, List.length_nil]; omega) (fun n hn => ?_) h o
      rcases List.mem_append.mp hn with hn | hn
      · rcases List.mem_append.mp hn with hn | hn
        · exact n6.s n (m1 n hn)
        · rw [List.mem_singleton.mp hn]; exact hw
      · exact n6.s n (m2 n hn)
    · rw [decide_eq_false hc]
      simp only [Bool.false_eq_true, if_false]
      rw [eN2]
      simp -implicitDefEqProofs only [w__law_names_4, ↓Qa, ↓Qb, ↓Qc, ↓Qd, ↓Qe, ↓Qg, ↓Qh, ↓Qi, ↓Qj, ↓Qk, ↓Ql, ↓par2_two, ↓Qm, ↓Qn, ↓Qo, ↓Qp, ↓Qq, ↓Qr, ↓Qs, ↓Qt, ↓Qu, ↓Qv, ↓Qw, ↓Qx, ↓Qy, ↓Qz, ↓Q0, ↓truK_bl, ↓Q3, ↓Q4, ↓Q5, ↓Q6, ↓chK_bl, ↓Q7, ↓Q8, ↓Q9, ↓Ya, ↓Yb, ↓Yc, ↓Yd, ↓Ye, ↓Yf, ↓Yg, ↓Yh, ↓Yi, ↓Yj, ↓Yk, ↓Ym, ↓Yn, ↓Yo, ↓Yp, ↓Yq, ↓Yr, ↓Ys, ↓Yt, ↓Yu, ↓Yv, ↓Yw, ↓Yx, ↓Yy, ↓Yz, ↓Y0, ↓Y1, ↓Y2, ↓Y3, ↓Y4, ↓Y5, ↓Y6, ↓Y7, ↓Y8, ↓Y9, ↓Ja, ↓Jb, ↓Jc, ↓Jd, ↓Je, ↓Jf, ↓Jg, ↓Jh, ↓Ji, ↓Jj, ↓Jk, ↓Jl, ↓Jm, ↓Jn, ↓Jo, ↓Jp, ↓Jq, ↓Jr, ↓Js, ↓Jt, ↓Ju, ↓Jw, ↓Jx, ↓Jy, ↓Jz, ↓J1, ↓J2, ↓J3, ↓J4, ↓J5, ↓J6, ↓J7, ↓J8, ↓J9, ↓Qaa, ↓Qab, ↓Qac, ↓Qad, ↓Qae, ↓par3_three, ↓Qaf, ↓Qag, ↓Qah, ↓Qai, ↓Qaj, ↓Qak, ↓Qal, ↓Qam, ↓Qan, ↓Qao, ↓Qap, ↓Qaq, ↓Qar, ↓Qas, ↓Qat, ↓Qau, ↓Qav, ↓Qaw, ↓Qax, ↓Qay, ↓Qaz, ↓Qa0, ↓Qa1, ↓Qa2, ↓Qa3, ↓Qa4, ↓Qa5, ↓Qa6, ↓Qa7, ↓Qa8, ↓Qa9, ↓Qba, ↓Qbb, ↓Qbc, ↓Qbd, ↓Qbe, ↓Qbf, ↓Qbg, ↓Qbh, ↓Qbi, ↓Qbj, ↓Qbk, ↓Qbl, List.set_cons_zero, List.set_cons_succ, wipeP, k_tup_ref n3.g]
      exact n3.out hb fun S'' h o => hR fs S'' (by omega) n3.s h o

/-- the words so far -/
structure Wds (a b : Addr) (S S' : Sto) (ws : List Str) : Prop where
  h : HandAt a S'
  g : S' b = some (.lst (ws.map PV.str))
  o : ∀ y, y ≠ a → y ≠ b → S' y = S y
theorem Wds.app {a b : Addr} {S S1 : Sto} {ws : List Str} {x : Str} (n : Wds a b S S1 ws) (hb : b ≠ a) : Wds a b S (updS S1 b (.lst (ws.map PV.str ++ [.str x]))) (ws ++ [x]) := ⟨n.h.upd hb, by rw [updS_same, List.map_append]; rfl, fun y h1 h2 => by rw [updS_ne h2]; exact n.o y h1 h2⟩
theorem Wds.out {a b : Addr} {S S1 : Sto} {ws : List Str} (n : Wds a b S S1 ws) (hb : S b = none ∨ b = a) {R : RK} {p : PV} (r : ∀ S'', HandAt a S'' → Off a S S'' → R p S'') : gR R p S1 := gR_hand (fun y o hy e => by
  have : y ≠ b := fun z => by
    rcases hb with hb | hb
    · rw [z, hb] at e; cases e
    · exact hy (z.trans hb)
  rw [n.o y hy this]; exact e) n.h r
/-- one more word -/
theorem word_more {K : PySem.W.Frag} {a b : Addr} {S S1 : Sto} {ws : List Str} {we : WE} {P : PEnds} {ρ : Slots} {v : Str} (n : Wds a b S S1 ws) (hb : b ≠ a) (hl : ws.length ≤ 100) (hx : gs ρ 5 = some (.ref b)) (hq : gs ρ 5 = gs ρ 5)
    (hw : ∀ (R : RK), R (.str v) S1 → sp__law_word K (fun S' R' Z' => we ρ S' R' Z') S1 R)
    (hN : ∀ S2, Wds a b S S2 (ws ++ [v]) → P.nx ρ S2) : wExpr (wBM "list" kApp (wVar 5) (wCons (wLam (sp__law_word K) we) (wNil))) P ρ S1 := by
  rw [Qi, Yi, Qr, hx]
  rw [Qq]
  refine ⟨by rw [k_tyB_ref n.g]; trivial, ?_⟩
  rw [Q9, Qat]
  refine hw _ ?_
  rw [Q8]
  show kApp (.ref b) [.str v] S1 _
  rw [k_app n.g]
  exact ⟨by rw [List.length_map, sizeLine_eq]; omega, hN _ (n.app hb)⟩
theorem zz_no7 : ("zz" : Str) ∉ pool7 ∧ ("" : Str) ∉ pool7 := ⟨by decide +kernel, by decide +kernel⟩
theorem zz_no8 : ("zz" : Str) ∉ names8 := by decide +kernel
theorem pnT_nt {p : PV} (h : Pn p) (n : ∀ xs, p ≠ .tup xs) : PnT p := ⟨h, fun xs e => absurd e (n xs)⟩
theorem few_nt {p : PV} (n : ∀ xs, p ≠ .tup xs) : Few p := fun xs e => absurd e (n xs)
section
variable {K : PySem.W.Frag} {S : Sto} {R : RK} {C : Addr} {ts : List Str} {rs : List Road} {p q : PV}
/-- the words of the four that raise -/
theorem er_town (tie : Bool) {R' : RK} {Z' : ZK} (hi : isIn ts p = false) (hz : Z' (exc0 K "NoTown") S) : endsK K R' Z' S ts rs tie p q := by
  unfold endsK
  rw [if_neg (by rw [hi]; decide)]; exact hz
theorem er_names (tie : Bool) {R' : RK} {Z' : ZK} (hi : isIn ts p = true) (hn : isNames q = false) (hz : Z' (exc0 K "NoNames") S) : endsK K R' Z' S ts rs tie p q := by
  unfold endsK
  rw [if_pos hi, if_neg (by rw [hn]; decide)]; exact hz
end
theorem pure__law_refused_right (K : PySem.W.Frag) : ∀ ps S R Z, ps.length = 3 → sp__law_refused_right K ps S R Z → w__law_refused_right K (fin R Z) (startP n__law_refused_right ps) S := by
  intro ps S R Z hl h
  obtain ⟨a, C, ts, rs, rfl, hC, hS, ok, tp, rp, hR⟩ := h
  have e : startP n__law_refused_right [.ref a, netP C ts rs, townsP ts] = [some (.ref a), some (netP C ts rs), some (townsP ts), none, none, none] := rfl
  rw [e]
  unfold w__law_refused_right
  refine seq_any fun N0 eN0 => ?_
  simp -implicitDefEqProofs only [↓Qa, ↓Qb, ↓Qc, ↓Qd, ↓Qe, ↓Qg, ↓Qh, ↓Qi, ↓Qj, ↓Qk, ↓Ql, ↓par2_two, ↓Qm, ↓Qn, ↓Qo, ↓Qp, ↓Qq, ↓Qr, ↓Qs, ↓Qt, ↓Qu, ↓Qv, ↓Qw, ↓Qx, ↓Qy, ↓Qz, ↓Q0, ↓truK_bl, ↓Q3, ↓Q4, ↓Q5, ↓Q6, ↓chK_bl, ↓Q7, ↓Q8, ↓Q9, ↓Ya, ↓Yb, ↓Yc, ↓Yd, ↓Ye, ↓Yf, ↓Yg, ↓Yh, ↓Yi, ↓Yj, ↓Yk, ↓Ym, ↓Yn, ↓Yo, ↓Yp, ↓Yq, ↓Yr, ↓Ys, ↓Yt, ↓Yu, ↓Yv, ↓Yw, ↓Yx, ↓Yy, ↓Yz, ↓Y0, ↓Y1, ↓Y2, ↓Y3, ↓Y4, ↓Y5, ↓Y6, ↓Y7, ↓Y8, ↓Y9, ↓Ja, ↓Jb, ↓Jc, ↓Jd, ↓Je, ↓Jf, ↓Jg, ↓Jh, ↓Ji, ↓Jj, ↓Jk, ↓Jl, ↓Jm, ↓Jn, ↓Jo, ↓Jp, ↓Jq, ↓Jr, ↓Js, ↓Jt, ↓Ju, ↓Jw, ↓Jx, ↓Jy, ↓Jz, ↓J1, ↓J2, ↓J3, ↓J4, ↓J5, ↓J6, ↓J7, ↓J8, ↓J9, ↓Qaa, ↓Qab, ↓Qac, ↓Qad, ↓Qae, ↓par3_three, ↓Qaf, ↓Qag, ↓Qah, ↓Qai, ↓Qaj, ↓Qak, ↓Qal, ↓Qam, ↓Qan, ↓Qao, ↓Qap, ↓Qaq, ↓Qar, ↓Qas, ↓Qat, ↓Qau, ↓Qav, ↓Qaw, ↓Qax, ↓Qay, ↓Qaz, ↓Qa0, ↓Qa1, ↓Qa2, ↓Qa3, ↓Qa4, ↓Qa5, ↓Qa6, ↓Qa7, ↓Qa8, ↓Qa9, ↓Qba, ↓Qbb, ↓Qbc, ↓Qbd, ↓Qbe, ↓Qbf, ↓Qbg, ↓Qbh, ↓Qbi, ↓Qbj, ↓Qbk, ↓Qbl, List.set_cons_zero, List.set_cons_succ, wipeP]
  refine ⟨sz0 (by simp), sz0 (by simp), rfl, t_any hS (by simp) (by simp) fun odd hodd S1 h1 o1 => ?_⟩
  have od : Pn odd ∧ isIn ts odd = false := by
    simp only [List.mem_cons, List.not_mem_nil, or_false] at hodd
    rcases hodd with rfl | rfl | rfl | rfl | rfl | rfl
    · exact ⟨pn_str (sz0 (by decide)), decide_eq_false fun z => zz_no7.1 (tp _ z)⟩
    · exact ⟨pn_non, rfl⟩
    · exact ⟨pn_int, rfl⟩
    · exact ⟨pn_str (sz0 (by decide)), decide_eq_false fun z => zz_no7.2 (tp _ z)⟩
    · exact ⟨pn_lst, rfl⟩
    · exact ⟨pn_bl, rfl⟩
  rw [eN0]
  unfold w__law_refused_right_16
  refine seq_any fun N1 eN1 => ?_
  simp -implicitDefEqProofs only [↓Qa, ↓Qb, ↓Qc, ↓Qd, ↓Qe, ↓Qg, ↓Qh, ↓Qi, ↓Qj, ↓Qk, ↓Ql, ↓par2_two, ↓Qm, ↓Qn, ↓Qo, ↓Qp, ↓Qq, ↓Qr, ↓Qs, ↓Qt, ↓Qu, ↓Qv, ↓Qw, ↓Qx, ↓Qy, ↓Qz, ↓Q0, ↓truK_bl, ↓Q3, ↓Q4, ↓Q5, ↓Q6, ↓chK_bl, ↓Q7, ↓Q8, ↓Q9, ↓Ya, ↓Yb, ↓Yc, ↓Yd, ↓Ye, ↓Yf, ↓Yg, ↓Yh, ↓Yi, ↓Yj, ↓Yk, ↓Ym, ↓Yn, ↓Yo, ↓Yp, ↓Yq, ↓Yr, ↓Ys, ↓Yt, ↓Yu, ↓Yv, ↓Yw, ↓Yx, ↓Yy, ↓Yz, ↓Y0, ↓Y1, ↓Y2, ↓Y3, ↓Y4, ↓Y5, ↓Y6, ↓Y7, ↓Y8, ↓Y9, ↓Ja, ↓Jb, ↓Jc, ↓Jd, ↓Je, ↓Jf, ↓Jg, ↓Jh, ↓Ji, ↓Jj, ↓Jk, ↓Jl, ↓Jm, ↓Jn, ↓Jo, ↓Jp, ↓Jq, ↓Jr, ↓Js, ↓Jt, ↓Ju, ↓Jw, ↓Jx, ↓Jy, ↓Jz, ↓J1, ↓J2, ↓J3, ↓J4, ↓J5, ↓J6, ↓J7, ↓J8, ↓J9, ↓Qaa, ↓Qab, ↓Qac, ↓Qad, ↓Qae, ↓par3_three, ↓Qaf, ↓Qag, ↓Qah, ↓Qai, ↓Qaj, ↓Qak, ↓Qal, ↓Qam, ↓Qan, ↓Qao, ↓Qap, ↓Qaq, ↓Qar, ↓Qas, ↓Qat, ↓Qau, ↓Qav, ↓Qaw, ↓Qax, ↓Qay, ↓Qaz, ↓Qa0, ↓Qa1, ↓Qa2, ↓Qa3, ↓Qa4, ↓Qa5, ↓Qa6, ↓Qa7, ↓Qa8, ↓Qa9, ↓Qba, ↓Qbb, ↓Qbc, ↓Qbd, ↓Qbe, ↓Qbf, ↓Qbg, ↓Qbh, ↓Qbi, ↓Qbj, ↓Qbk, ↓Qbl, List.set_cons_zero, List.set_cons_succ, wipeP]
  refine ⟨sz0 (by simp), sz0 (by simp), sz0 (by simp), sz0 (by simp), rfl, t_any h1 (by simp) (by simp) fun bad hbad S2 h2 o2 => ?_⟩
  have bd : PnT bad ∧ Few bad ∧ isNames bad = false := by
    simp only [List.mem_cons, List.not_mem_nil, or_false] at hbad
    rcases hbad with rfl | rfl | rfl | rfl | rfl | rfl | rfl
    · exact ⟨pnT_nt pn_non (fun _ e => by cases e), few_nt (fun _ e => by cases e), rfl⟩
    · exact ⟨pnT_nt pn_lst (fun _ e => by cases e), few_nt (fun _ e => by cases e), rfl⟩
    · refine ⟨⟨pn_tup, fun xs e x hx => ?_⟩, fun xs e => by cases e; simp, rfl⟩
      cases e
      simp only [List.mem_cons, List.not_mem_nil, or_false] at hx
      rcases hx with rfl | rfl
      · exact pn_str (sz0 (by decide))
      · exact pn_int
    · refine ⟨⟨pn_tup, fun xs e x hx => ?_⟩, fun xs e => by cases e; simp, rfl⟩
      cases e
      rw [List.mem_singleton.mp hx]; exact pn_non
    · exact ⟨pnT_nt (pn_str (sz0 (by decide))) (fun _ e => by cases e), few_nt (fun _ e => by cases e), rfl⟩
    · exact ⟨pnT_nt pn_int (fun _ e => by cases e), few_nt (fun _ e => by cases e), rfl⟩
    · exact ⟨pnT_nt pn_dct (fun _ e => by cases e), few_nt (fun _ e => by cases e), rfl⟩
  have off2 := o1.tr o2
  rw [eN1]
  unfold w__law_refused_right_15
  refine seq_any fun N2 eN2 => ?_
  simp -implicitDefEqProofs only [↓Qa, ↓Qb, ↓Qc, ↓Qd, ↓Qe, ↓Qg, ↓Qh, ↓Qi, ↓Qj, ↓Qk, ↓Ql, ↓par2_two, ↓Qm, ↓Qn, ↓Qo, ↓Qp, ↓Qq, ↓Qr, ↓Qs, ↓Qt, ↓Qu, ↓Qv, ↓Qw, ↓Qx, ↓Qy, ↓Qz, ↓Q0, ↓truK_bl, ↓Q3, ↓Q4, ↓Q5, ↓Q6, ↓chK_bl, ↓Q7, ↓Q8, ↓Q9, ↓Ya, ↓Yb, ↓Yc, ↓Yd, ↓Ye, ↓Yf, ↓Yg, ↓Yh, ↓Yi, ↓Yj, ↓Yk, ↓Ym, ↓Yn, ↓Yo, ↓Yp, ↓Yq, ↓Yr, ↓Ys, ↓Yt, ↓Yu, ↓Yv, ↓Yw, ↓Yx, ↓Yy, ↓Yz, ↓Y0, ↓Y1, ↓Y2, ↓Y3, ↓Y4, ↓Y5, ↓Y6, ↓Y7, ↓Y8, ↓Y9, ↓Ja, ↓Jb, ↓Jc, ↓Jd, ↓Je, ↓Jf, ↓Jg, ↓Jh, ↓Ji, ↓Jj, ↓Jk, ↓Jl, ↓Jm, ↓Jn, ↓Jo, ↓Jp, ↓Jq, ↓Jr, ↓Js, ↓Jt, ↓Ju, ↓Jw, ↓Jx, ↓Jy, ↓Jz, ↓J1, ↓J2, ↓J3, ↓J4, ↓J5, ↓J6, ↓J7, ↓J8, ↓J9, ↓Qaa, ↓Qab, ↓Qac, ↓Qad, ↓Qae, ↓par3_three, ↓Qaf, ↓Qag, ↓Qah, ↓Qai, ↓Qaj, ↓Qak, ↓Qal, ↓Qam, ↓Qan, ↓Qao, ↓Qap, ↓Qaq, ↓Qar, ↓Qas, ↓Qat, ↓Qau, ↓Qav, ↓Qaw, ↓Qax, ↓Qay, ↓Qaz, ↓Qa0, ↓Qa1, ↓Qa2, ↓Qa3, ↓Qa4, ↓Qa5, ↓Qa6, ↓Qa7, ↓Qa8, ↓Qa9, ↓Qba, ↓Qbb, ↓Qbc, ↓Qbd, ↓Qbe, ↓Qbf, ↓Qbg, ↓Qbh, ↓Qbi, ↓Qbj, ↓Qbk, ↓Qbl, List.set_cons_zero, List.set_cons_succ, wipeP]
  refine t_word fun R' Z' _ hE => ?_
  simp -implicitDefEqProofs only [w__law_refused_right_1, ↓Qa, ↓Qb, ↓Qc, ↓Qd, ↓Qe, ↓Qg, ↓Qh, ↓Qi, ↓Qj, ↓Qk, ↓Ql, ↓par2_two, ↓Qm, ↓Qn, ↓Qo, ↓Qp, ↓Qq, ↓Qr, ↓Qs, ↓Qt, ↓Qu, ↓Qv, ↓Qw, ↓Qx, ↓Qy, ↓Qz, ↓Q0, ↓truK_bl, ↓Q3, ↓Q4, ↓Q5, ↓Q6, ↓chK_bl, ↓Q7, ↓Q8, ↓Q9, ↓Ya, ↓Yb, ↓Yc, ↓Yd, ↓Ye, ↓Yf, ↓Yg, ↓Yh, ↓Yi, ↓Yj, ↓Yk, ↓Ym, ↓Yn, ↓Yo, ↓Yp, ↓Yq, ↓Yr, ↓Ys, ↓Yt, ↓Yu, ↓Yv, ↓Yw, ↓Yx, ↓Yy, ↓Yz, ↓Y0, ↓Y1, ↓Y2, ↓Y3, ↓Y4, ↓Y5, ↓Y6, ↓Y7, ↓Y8, ↓Y9, ↓Ja, ↓Jb, ↓Jc, ↓Jd, ↓Je, ↓Jf, ↓Jg, ↓Jh, ↓Ji, ↓Jj, ↓Jk, ↓Jl, ↓Jm, ↓Jn, ↓Jo, ↓Jp, ↓Jq, ↓Jr, ↓Js, ↓Jt, ↓Ju, ↓Jw, ↓Jx, ↓Jy, ↓Jz, ↓J1, ↓J2, ↓J3, ↓J4, ↓J5, ↓J6, ↓J7, ↓J8, ↓J9, ↓Qaa, ↓Qab, ↓Qac, ↓Qad, ↓Qae, ↓par3_three, ↓Qaf, ↓Qag, ↓Qah, ↓Qai, ↓Qaj, ↓Qak, ↓Qal, ↓Qam, ↓Qan, ↓Qao, ↓Qap, ↓Qaq, ↓Qar, ↓Qas, ↓Qat, ↓Qau, ↓Qav, ↓Qaw, ↓Qax, ↓Qay, ↓Qaz, ↓Qa0, ↓Qa1, ↓Qa2, ↓Qa3, ↓Qa4, ↓Qa5, ↓Qa6, ↓Qa7, ↓Qa8, ↓Qa9, ↓Qba, ↓Qbb, ↓Qbc, ↓Qbd, ↓Qbe, ↓Qbf, ↓Qbg, ↓Qbh, ↓Qbi, ↓Qbj, ↓Qbk, ↓Qbl, List.set_cons_zero, List.set_cons_succ, wipeP]
  refine ⟨rfl, t_ends_by hC od.1 bd.1 bd.2.1 (er_town false od.2 (hE _ _ _ w_town ?_))⟩
  refine ⟨sz0 (by simp), fun b hb => ?_⟩
  have hba := h2.ne hb
  have hb0 : S b = none := by rw [← off2 b hba]; exact hb
  have w1 : Wds a b S (updS S2 b (.lst [.str "town"])) [("town" : Str)] := ⟨h2.upd hba, updS_same, fun y g1 g2 => by rw [updS_ne g2]; exact off2 y g1⟩
  generalize updS S2 b (.lst [.str "town"]) = S3 at w1 ⊢
  rw [eN2]
  unfold w__law_refused_right_14
  refine seq_any fun N3 eN3 => ?_
  refine word_more (v := "town") w1 hba (by decide) rfl rfl (fun R hr => t_word fun R' Z' _ hE => ?_) fun S4 w2 => ?_
  · simp -implicitDefEqProofs only [w__law_refused_right_2, ↓Qa, ↓Qb, ↓Qc, ↓Qd, ↓Qe, ↓Qg, ↓Qh, ↓Qi, ↓Qj, ↓Qk, ↓Ql, ↓par2_two, ↓Qm, ↓Qn, ↓Qo, ↓Qp, ↓Qq, ↓Qr, ↓Qs, ↓Qt, ↓Qu, ↓Qv, ↓Qw, ↓Qx, ↓Qy, ↓Qz, ↓Q0, ↓truK_bl, ↓Q3, ↓Q4, ↓Q5, ↓Q6, ↓chK_bl, ↓Q7, ↓Q8, ↓Q9, ↓Ya, ↓Yb, ↓Yc, ↓Yd, ↓Ye, ↓Yf, ↓Yg, ↓Yh, ↓Yi, ↓Yj, ↓Yk, ↓Ym, ↓Yn, ↓Yo, ↓Yp, ↓Yq, ↓Yr, ↓Ys, ↓Yt, ↓Yu, ↓Yv, ↓Yw, ↓Yx, ↓Yy, ↓Yz, ↓Y0, ↓Y1, ↓Y2, ↓Y3, ↓Y4, ↓Y5, ↓Y6, ↓Y7, ↓Y8, ↓Y9, ↓Ja, ↓Jb, ↓Jc, ↓Jd, ↓Je, ↓Jf, ↓Jg, ↓Jh, ↓Ji, ↓Jj, ↓Jk, ↓Jl, ↓Jm, ↓Jn, ↓Jo, ↓Jp, ↓Jq, ↓Jr, ↓Js, ↓Jt, ↓Ju, ↓Jw, ↓Jx, ↓Jy, ↓Jz, ↓J1, ↓J2, ↓J3, ↓J4, ↓J5, ↓J6, ↓J7, ↓J8, ↓J9, ↓Qaa, ↓Qab, ↓Qac, ↓Qad, ↓Qae, ↓par3_three, ↓Qaf, ↓Qag, ↓Qah, ↓Qai, ↓Qaj, ↓Qak, ↓Qal, ↓Qam, ↓Qan, ↓Qao, ↓Qap, ↓Qaq, ↓Qar, ↓Qas, ↓Qat, ↓Qau, ↓Qav, ↓Qaw, ↓Qax, ↓Qay, ↓Qaz, ↓Qa0, ↓Qa1, ↓Qa2, ↓Qa3, ↓Qa4, ↓Qa5, ↓Qa6, ↓Qa7, ↓Qa8, ↓Qa9, ↓Qba, ↓Qbb, ↓Qbc, ↓Qbd, ↓Qbe, ↓Qbf, ↓Qbg, ↓Qbh, ↓Qbi, ↓Qbj, ↓Qbk, ↓Qbl, List.set_cons_zero, List.set_cons_succ, wipeP]
    exact ⟨sz0 (by simp), rfl, t_ends_walked hC od.1 ⟨pn_tup, fun xs e x hx => by cases e; cases hx⟩ (fun xs e => by cases e; simp) (er_town true od.2 (hE _ _ _ w_town hr))⟩
  dsimp only
  rw [eN3]
  unfold w__law_refused_right_13
  refine seq_any fun N4 eN4 => ?_
  refine word_more (v := "names") w2 hba (by decide) rfl rfl (fun R hr => t_word fun R' Z' _ hE => ?_) fun S5 w3 => ?_
  · simp -implicitDefEqProofs only [w__law_refused_right_3, ↓Qa, ↓Qb, ↓Qc, ↓Qd, ↓Qe, ↓Qg, ↓Qh, ↓Qi, ↓Qj, ↓Qk, ↓Ql, ↓par2_two, ↓Qm, ↓Qn, ↓Qo, ↓Qp, ↓Qq, ↓Qr, ↓Qs, ↓Qt, ↓Qu, ↓Qv, ↓Qw, ↓Qx, ↓Qy, ↓Qz, ↓Q0, ↓truK_bl, ↓Q3, ↓Q4, ↓Q5, ↓Q6, ↓chK_bl, ↓Q7, ↓Q8, ↓Q9, ↓Ya, ↓Yb, ↓Yc, ↓Yd, ↓Ye, ↓Yf, ↓Yg, ↓Yh, ↓Yi, ↓Yj, ↓Yk, ↓Ym, ↓Yn, ↓Yo, ↓Yp, ↓Yq, ↓Yr, ↓Ys, ↓Yt, ↓Yu, ↓Yv, ↓Yw, ↓Yx, ↓Yy, ↓Yz, ↓Y0, ↓Y1, ↓Y2, ↓Y3, ↓Y4, ↓Y5, ↓Y6, ↓Y7, ↓Y8, ↓Y9, ↓Ja, ↓Jb, ↓Jc, ↓Jd, ↓Je, ↓Jf, ↓Jg, ↓Jh, ↓Ji, ↓Jj, ↓Jk, ↓Jl, ↓Jm, ↓Jn, ↓Jo, ↓Jp, ↓Jq, ↓Jr, ↓Js, ↓Jt, ↓Ju, ↓Jw, ↓Jx, ↓Jy, ↓Jz, ↓J1, ↓J2, ↓J3, ↓J4, ↓J5, ↓J6, ↓J7, ↓J8, ↓J9, ↓Qaa, ↓Qab, ↓Qac, ↓Qad, ↓Qae, ↓par3_three, ↓Qaf, ↓Qag, ↓Qah, ↓Qai, ↓Qaj, ↓Qak, ↓Qal, ↓Qam, ↓Qan, ↓Qao, ↓Qap, ↓Qaq, ↓Qar, ↓Qas, ↓Qat, ↓Qau, ↓Qav, ↓Qaw, ↓Qax, ↓Qay, ↓Qaz, ↓Qa0, ↓Qa1, ↓Qa2, ↓Qa3, ↓Qa4, ↓Qa5, ↓Qa6, ↓Qa7, ↓Qa8, ↓Qa9, ↓Qba, ↓Qbb, ↓Qbc, ↓Qbd, ↓Qbe, ↓Qbf, ↓Qbg, ↓Qbh, ↓Qbi, ↓Qbj, ↓Qbk, ↓Qbl, List.set_cons_zero, List.set_cons_succ, wipeP]
    refine ⟨rfl, t_length_of hC bd.1 bd.2.1 ?_⟩
    unfold lensK
    rw [if_neg (by rw [bd.2.2]; decide)]
    exact hE _ _ _ w_names hr
  dsimp only
  rw [eN4]
  unfold w__law_refused_right_12
  refine seq_any fun N5 eN5 => ?_
  refine word_more (v := "road") w3 hba (by decide) rfl rfl (fun R hr => t_word fun R' Z' _ hE => ?_) fun S6 w4 => ?_
  · simp -implicitDefEqProofs only [w__law_refused_right_4, ↓Qa, ↓Qb, ↓Qc, ↓Qd, ↓Qe, ↓Qg, ↓Qh, ↓Qi, ↓Qj, ↓Qk, ↓Ql, ↓par2_two, ↓Qm, ↓Qn, ↓Qo, ↓Qp, ↓Qq, ↓Qr, ↓Qs, ↓Qt, ↓Qu, ↓Qv, ↓Qw, ↓Qx, ↓Qy, ↓Qz, ↓Q0, ↓truK_bl, ↓Q3, ↓Q4, ↓Q5, ↓Q6, ↓chK_bl, ↓Q7, ↓Q8, ↓Q9, ↓Ya, ↓Yb, ↓Yc, ↓Yd, ↓Ye, ↓Yf, ↓Yg, ↓Yh, ↓Yi, ↓Yj, ↓Yk, ↓Ym, ↓Yn, ↓Yo, ↓Yp, ↓Yq, ↓Yr, ↓Ys, ↓Yt, ↓Yu, ↓Yv, ↓Yw, ↓Yx, ↓Yy, ↓Yz, ↓Y0, ↓Y1, ↓Y2, ↓Y3, ↓Y4, ↓Y5, ↓Y6, ↓Y7, ↓Y8, ↓Y9, ↓Ja, ↓Jb, ↓Jc, ↓Jd, ↓Je, ↓Jf, ↓Jg, ↓Jh, ↓Ji, ↓Jj, ↓Jk, ↓Jl, ↓Jm, ↓Jn, ↓Jo, ↓Jp, ↓Jq, ↓Jr, ↓Js, ↓Jt, ↓Ju, ↓Jw, ↓Jx, ↓Jy, ↓Jz, ↓J1, ↓J2, ↓J3, ↓J4, ↓J5, ↓J6, ↓J7, ↓J8, ↓J9, ↓Qaa, ↓Qab, ↓Qac, ↓Qad, ↓Qae, ↓par3_three, ↓Qaf, ↓Qag, ↓Qah, ↓Qai, ↓Qaj, ↓Qak, ↓Qal, ↓Qam, ↓Qan, ↓Qao, ↓Qap, ↓Qaq, ↓Qar, ↓Qas, ↓Qat, ↓Qau, ↓Qav, ↓Qaw, ↓Qax, ↓Qay, ↓Qaz, ↓Qa0, ↓Qa1, ↓Qa2, ↓Qa3, ↓Qa4, ↓Qa5, ↓Qa6, ↓Qa7, ↓Qa8, ↓Qa9, ↓Qba, ↓Qbb, ↓Qbc, ↓Qbd, ↓Qbe, ↓Qbf, ↓Qbg, ↓Qbh, ↓Qbi, ↓Qbj, ↓Qbk, ↓Qbl, List.set_cons_zero, List.set_cons_succ, wipeP]
    refine ⟨sz0 (by simp), rfl, t_length_of hC ⟨pn_tup, fun xs e x hx => by cases e; rw [List.mem_singleton.mp hx]; exact pn_str (sz0 (by decide))⟩ (fun xs e => by cases e; simp) ?_⟩
    unfold lensK
    rw [if_pos (show isNames (.tup [.str "zz"]) = true from rfl)]
    intro ns en
    have : ns = [("zz" : Str)] := by
      have : ([("zz" : Str)].map PV.str) = ns.map PV.str := PV.tup.inj en
      exact (List.map_inj_right (fun a b e => PV.str.inj e) |>.mp this).symm
    subst this
    rw [if_neg (by
      have : ("zz" : Str) ∉ rs.map Road.name := fun z => by
        obtain ⟨r, hr, e⟩ := List.mem_map.mp z
        exact zz_no8 (by rw [← e]; exact rp r hr)
      show ¬ ((decide (("zz" : Str) ∈ rs.map Road.name) && true) = true)
      rw [decide_eq_false this]; decide)]
    exact hE _ _ _ w_road hr
  dsimp only
  rw [eN5]
  unfold w__law_refused_right_11
  refine seq_any fun N6 eN6 => ?_
  simp -implicitDefEqProofs only [↓Qa, ↓Qb, ↓Qc, ↓Qd, ↓Qe, ↓Qg, ↓Qh, ↓Qi, ↓Qj, ↓Qk, ↓Ql, ↓par2_two, ↓Qm, ↓Qn, ↓Qo, ↓Qp, ↓Qq, ↓Qr, ↓Qs, ↓Qt, ↓Qu, ↓Qv, ↓Qw, ↓Qx, ↓Qy, ↓Qz, ↓Q0, ↓truK_bl, ↓Q3, ↓Q4, ↓Q5, ↓Q6, ↓chK_bl, ↓Q7, ↓Q8, ↓Q9, ↓Ya, ↓Yb, ↓Yc, ↓Yd, ↓Ye, ↓Yf, ↓Yg, ↓Yh, ↓Yi, ↓Yj, ↓Yk, ↓Ym, ↓Yn, ↓Yo, ↓Yp, ↓Yq, ↓Yr, ↓Ys, ↓Yt, ↓Yu, ↓Yv, ↓Yw, ↓Yx, ↓Yy, ↓Yz, ↓Y0, ↓Y1, ↓Y2, ↓Y3, ↓Y4, ↓Y5, ↓Y6, ↓Y7, ↓Y8, ↓Y9, ↓Ja, ↓Jb, ↓Jc, ↓Jd, ↓Je, ↓Jf, ↓Jg, ↓Jh, ↓Ji, ↓Jj, ↓Jk, ↓Jl, ↓Jm, ↓Jn, ↓Jo, ↓Jp, ↓Jq, ↓Jr, ↓Js, ↓Jt, ↓Ju, ↓Jw, ↓Jx, ↓Jy, ↓Jz, ↓J1, ↓J2, ↓J3, ↓J4, ↓J5, ↓J6, ↓J7, ↓J8, ↓J9, ↓Qaa, ↓Qab, ↓Qac, ↓Qad, ↓Qae, ↓par3_three, ↓Qaf, ↓Qag, ↓Qah, ↓Qai, ↓Qaj, ↓Qak, ↓Qal, ↓Qam, ↓Qan, ↓Qao, ↓Qap, ↓Qaq, ↓Qar, ↓Qas, ↓Qat, ↓Qau, ↓Qav, ↓Qaw, ↓Qax, ↓Qay, ↓Qaz, ↓Qa0, ↓Qa1, ↓Qa2, ↓Qa3, ↓Qa4, ↓Qa5, ↓Qa6, ↓Qa7, ↓Qa8, ↓Qa9, ↓Qba, ↓Qbb, ↓Qbc, ↓Qbd, ↓Qbe, ↓Qbf, ↓Qbg, ↓Qbh, ↓Qbi, ↓Qbj, ↓Qbk, ↓Qbl, List.set_cons_zero, List.set_cons_succ, wipeP]
  have ew : [PV.str "town", .str "town", .str "names", .str "road"] = [("town" : Str), "town", "names", "road"].map PV.str := rfl
  rw [ew, k_eq_words w4.g (by decide +kernel) (by decide +kernel)]
  refine ⟨sz0 (by simp), ?_⟩
  rw [decide_eq_true (show [("town" : Str)] ++ [("town" : Str)] ++ [("names" : Str)] ++ [("road" : Str)] = [("town" : Str), ("town" : Str), ("names" : Str), ("road" : Str)] from rfl)]
  simp -implicitDefEqProofs only [↓Qa, ↓Qb, ↓Qc, ↓Qd, ↓Qe, ↓Qg, ↓Qh, ↓Qi, ↓Qj, ↓Qk, ↓Ql, ↓par2_two, ↓Qm, ↓Qn, ↓Qo, ↓Qp, ↓Qq, ↓Qr, ↓Qs, ↓Qt, ↓Qu, ↓Qv, ↓Qw, ↓Qx, ↓Qy, ↓Qz, ↓Q0, ↓truK_bl, ↓Q3, ↓Q4, ↓Q5, ↓Q6, ↓chK_bl, ↓Q7, ↓Q8, ↓Q9, ↓Ya, ↓Yb, ↓Yc, ↓Yd, ↓Ye, ↓Yf, ↓Yg, ↓Yh, ↓Yi, ↓Yj, ↓Yk, ↓Ym, ↓Yn, ↓Yo, ↓Yp, ↓Yq, ↓Yr, ↓Ys, ↓Yt, ↓Yu, ↓Yv, ↓Yw, ↓Yx, ↓Yy, ↓Yz, ↓Y0, ↓Y1, ↓Y2, ↓Y3, ↓Y4, ↓Y5, ↓Y6, ↓Y7, ↓Y8, ↓Y9, ↓Ja, ↓Jb, ↓Jc, ↓Jd, ↓Je, ↓Jf, ↓Jg, ↓Jh, ↓Ji, ↓Jj, ↓Jk, ↓Jl, ↓Jm, ↓Jn, ↓Jo, ↓Jp, ↓Jq, ↓Jr, ↓Js, ↓Jt, ↓Ju, ↓Jw, ↓Jx, ↓Jy, ↓Jz, ↓J1, ↓J2, ↓J3, ↓J4, ↓J5, ↓J6, ↓J7, ↓J8, ↓J9, ↓Qaa, ↓Qab, ↓Qac, ↓Qad, ↓Qae, ↓par3_three, ↓Qaf, ↓Qag, ↓Qah, ↓Qai, ↓Qaj, ↓Qak, ↓Qal, ↓Qam, ↓Qan, ↓Qao, ↓Qap, ↓Qaq, ↓Qar, ↓Qas, ↓Qat, ↓Qau, ↓Qav, ↓Qaw, ↓Qax, ↓Qay, ↓Qaz, ↓Qa0, ↓Qa1, ↓Qa2, ↓Qa3, ↓Qa4, ↓Qa5, ↓Qa6, ↓Qa7, ↓Qa8, ↓Qa9, ↓Qba, ↓Qbb, ↓Qbc, ↓Qbd, ↓Qbe, ↓Qbf, ↓Qbg, ↓Qbh, ↓Qbi, ↓Qbj, ↓Qbk, ↓Qbl, List.set_cons_zero, List.set_cons_succ, wipeP, Bool.bne_true, Bool.not_true, Bool.false_eq_true, if_false]
  rw [eN6]
  unfold w__law_refused_right_10
  refine seq_any fun N7 eN7 => ?_
  simp -implicitDefEqProofs only [↓Qa, ↓Qb, ↓Qc, ↓Qd, ↓Qe, ↓Qg, ↓Qh, ↓Qi, ↓Qj, ↓Qk, ↓Ql, ↓par2_two, ↓Qm, ↓Qn, ↓Qo, ↓Qp, ↓Qq, ↓Qr, ↓Qs, ↓Qt, ↓Qu, ↓Qv, ↓Qw, ↓Qx, ↓Qy, ↓Qz, ↓Q0, ↓truK_bl, ↓Q3, ↓Q4, ↓Q5, ↓Q6, ↓chK_bl, ↓Q7, ↓Q8, ↓Q9, ↓Ya, ↓Yb, ↓Yc, ↓Yd, ↓Ye, ↓Yf, ↓Yg, ↓Yh, ↓Yi, ↓Yj, ↓Yk, ↓Ym, ↓Yn, ↓Yo, ↓Yp, ↓Yq, ↓Yr, ↓Ys, ↓Yt, ↓Yu, ↓Yv, ↓Yw, ↓Yx, ↓Yy, ↓Yz, ↓Y0, ↓Y1, ↓Y2, ↓Y3, ↓Y4, ↓Y5, ↓Y6, ↓Y7, ↓Y8, ↓Y9, ↓Ja, ↓Jb, ↓Jc, ↓Jd, ↓Je, ↓Jf, ↓Jg, ↓Jh, ↓Ji, ↓Jj, ↓Jk, ↓Jl, ↓Jm, ↓Jn, ↓Jo, ↓Jp, ↓Jq, ↓Jr, ↓Js, ↓Jt, ↓Ju, ↓Jw, ↓Jx, ↓Jy, ↓Jz, ↓J1, ↓J2, ↓J3, ↓J4, ↓J5, ↓J6, ↓J7, ↓J8, ↓J9, ↓Qaa, ↓Qab, ↓Qac, ↓Qad, ↓Qae, ↓par3_three, ↓Qaf, ↓Qag, ↓Qah, ↓Qai, ↓Qaj, ↓Qak, ↓Qal, ↓Qam, ↓Qan, ↓Qao, ↓Qap, ↓Qaq, ↓Qar, ↓Qas, ↓Qat, ↓Qau, ↓Qav, ↓Qaw, ↓Qax, ↓Qay, ↓Qaz, ↓Qa0, ↓Qa1, ↓Qa2, ↓Qa3, ↓Qa4, ↓Qa5, ↓Qa6, ↓Qa7, ↓Qa8, ↓Qa9, ↓Qba, ↓Qbb, ↓Qbc, ↓Qbd, ↓Qbe, ↓Qbf, ↓Qbg, ↓Qbh, ↓Qbi, ↓Qbj, ↓Qbk, ↓Qbl, List.set_cons_zero, List.set_cons_succ, wipeP]
  have et : PV.tup [] = townsP [] := rfl
  rw [et, k_eq_towns ok.tn (by simp)]
  refine ⟨sz0 (by simp), ?_⟩
  simp -implicitDefEqProofs only [↓Qa, ↓Qb, ↓Qc, ↓Qd, ↓Qe, ↓Qg, ↓Qh, ↓Qi, ↓Qj, ↓Qk, ↓Ql, ↓par2_two, ↓Qm, ↓Qn, ↓Qo, ↓Qp, ↓Qq, ↓Qr, ↓Qs, ↓Qt, ↓Qu, ↓Qv, ↓Qw, ↓Qx, ↓Qy, ↓Qz, ↓Q0, ↓truK_bl, ↓Q3, ↓Q4, ↓Q5, ↓Q6, ↓chK_bl, ↓Q7, ↓Q8, ↓Q9, ↓Ya, ↓Yb, ↓Yc, ↓Yd, ↓Ye, ↓Yf, ↓Yg, ↓Yh, ↓Yi, ↓Yj, ↓Yk, ↓Ym, ↓Yn, ↓Yo, ↓Yp, ↓Yq, ↓Yr, ↓Ys, ↓Yt, ↓Yu, ↓Yv, ↓Yw, ↓Yx, ↓Yy, ↓Yz, ↓Y0, ↓Y1, ↓Y2, ↓Y3, ↓Y4, ↓Y5, ↓Y6, ↓Y7, ↓Y8, ↓Y9, ↓Ja, ↓Jb, ↓Jc, ↓Jd, ↓Je, ↓Jf, ↓Jg, ↓Jh, ↓Ji, ↓Jj, ↓Jk, ↓Jl, ↓Jm, ↓Jn, ↓Jo, ↓Jp, ↓Jq, ↓Jr, ↓Js, ↓Jt, ↓Ju, ↓Jw, ↓Jx, ↓Jy, ↓Jz, ↓J1, ↓J2, ↓J3, ↓J4, ↓J5, ↓J6, ↓J7, ↓J8, ↓J9, ↓Qaa, ↓Qab, ↓Qac, ↓Qad, ↓Qae, ↓par3_three, ↓Qaf, ↓Qag, ↓Qah, ↓Qai, ↓Qaj, ↓Qak, ↓Qal, ↓Qam, ↓Qan, ↓Qao, ↓Qap, ↓Qaq, ↓Qar, ↓Qas, ↓Qat, ↓Qau, ↓Qav, ↓Qaw, ↓Qax, ↓Qay, ↓Qaz, ↓Qa0, ↓Qa1, ↓Qa2, ↓Qa3, ↓Qa4, ↓Qa5, ↓Qa6, ↓Qa7, ↓Qa8, ↓Qa9, ↓Qba, ↓Qbb, ↓Qbc, ↓Qbd, ↓Qbe, ↓Qbf, ↓Qbg, ↓Qbh, ↓Qbi, ↓Qbj, ↓Qbk, ↓Qbl, List.set_cons_zero, List.set_cons_succ, wipeP, Bool.bne_false]
  by_cases h0 : ts = []
  · rw [decide_eq_true h0]
    simp only [if_true]
    exact w4.out (.inl hb0) hR
  rw [decide_eq_false h0]
  simp only [Bool.false_eq_true, if_false]
  rw [eN7]
  unfold w__law_refused_right_9
  refine seq_any fun N8 eN8 => ?_
  simp -implicitDefEqProofs only [↓Qa, ↓Qb, ↓Qc, ↓Qd, ↓Qe, ↓Qg, ↓Qh, ↓Qi, ↓Qj, ↓Qk, ↓Ql, ↓par2_two, ↓Qm, ↓Qn, ↓Qo, ↓Qp, ↓Qq, ↓Qr, ↓Qs, ↓Qt, ↓Qu, ↓Qv, ↓Qw, ↓Qx, ↓Qy, ↓Qz, ↓Q0, ↓truK_bl, ↓Q3, ↓Q4, ↓Q5, ↓Q6, ↓chK_bl, ↓Q7, ↓Q8, ↓Q9, ↓Ya, ↓Yb, ↓Yc, ↓Yd, ↓Ye, ↓Yf, ↓Yg, ↓Yh, ↓Yi, ↓Yj, ↓Yk, ↓Ym, ↓Yn, ↓Yo, ↓Yp, ↓Yq, ↓Yr, ↓Ys, ↓Yt, ↓Yu, ↓Yv, ↓Yw, ↓Yx, ↓Yy, ↓Yz, ↓Y0, ↓Y1, ↓Y2, ↓Y3, ↓Y4, ↓Y5, ↓Y6, ↓Y7, ↓Y8, ↓Y9, ↓Ja, ↓Jb, ↓Jc, ↓Jd, ↓Je, ↓Jf, ↓Jg, ↓Jh, ↓Ji, ↓Jj, ↓Jk, ↓Jl, ↓Jm, ↓Jn, ↓Jo, ↓Jp, ↓Jq, ↓Jr, ↓Js, ↓Jt, ↓Ju, ↓Jw, ↓Jx, ↓Jy, ↓Jz, ↓J1, ↓J2, ↓J3, ↓J4, ↓J5, ↓J6, ↓J7, ↓J8, ↓J9, ↓Qaa, ↓Qab, ↓Qac, ↓Qad, ↓Qae, ↓par3_three, ↓Qaf, ↓Qag, ↓Qah, ↓Qai, ↓Qaj, ↓Qak, ↓Qal, ↓Qam, ↓Qan, ↓Qao, ↓Qap, ↓Qaq, ↓Qar, ↓Qas, ↓Qat, ↓Qau, ↓Qav, ↓Qaw, ↓Qax, ↓Qay, ↓Qaz, ↓Qa0, ↓Qa1, ↓Qa2, ↓Qa3, ↓Qa4, ↓Qa5, ↓Qa6, ↓Qa7, ↓Qa8, ↓Qa9, ↓Qba, ↓Qbb, ↓Qbc, ↓Qbd, ↓Qbe, ↓Qbf, ↓Qbg, ↓Qbh, ↓Qbi, ↓Qbj, ↓Qbk, ↓Qbl, List.set_cons_zero, List.set_cons_succ, wipeP]
  refine t_word fun R' Z' _ hE => ?_
  simp -implicitDefEqProofs only [w__law_refused_right_5, ↓Qa, ↓Qb, ↓Qc, ↓Qd, ↓Qe, ↓Qg, ↓Qh, ↓Qi, ↓Qj, ↓Qk, ↓Ql, ↓par2_two, ↓Qm, ↓Qn, ↓Qo, ↓Qp, ↓Qq, ↓Qr, ↓Qs, ↓Qt, ↓Qu, ↓Qv, ↓Qw, ↓Qx, ↓Qy, ↓Qz, ↓Q0, ↓truK_bl, ↓Q3, ↓Q4, ↓Q5, ↓Q6, ↓chK_bl, ↓Q7, ↓Q8, ↓Q9, ↓Ya, ↓Yb, ↓Yc, ↓Yd, ↓Ye, ↓Yf, ↓Yg, ↓Yh, ↓Yi, ↓Yj, ↓Yk, ↓Ym, ↓Yn, ↓Yo, ↓Yp, ↓Yq, ↓Yr, ↓Ys, ↓Yt, ↓Yu, ↓Yv, ↓Yw, ↓Yx, ↓Yy, ↓Yz, ↓Y0, ↓Y1, ↓Y2, ↓Y3, ↓Y4, ↓Y5, ↓Y6, ↓Y7, ↓Y8, ↓Y9, ↓Ja, ↓Jb, ↓Jc, ↓Jd, ↓Je, ↓Jf, ↓Jg, ↓Jh, ↓Ji, ↓Jj, ↓Jk, ↓Jl, ↓Jm, ↓Jn, ↓Jo, ↓Jp, ↓Jq, ↓Jr, ↓Js, ↓Jt, ↓Ju, ↓Jw, ↓Jx, ↓Jy, ↓Jz, ↓J1, ↓J2, ↓J3, ↓J4, ↓J5, ↓J6, ↓J7, ↓J8, ↓J9, ↓Qaa, ↓Qab, ↓Qac, ↓Qad, ↓Qae, ↓par3_three, ↓Qaf, ↓Qag, ↓Qah, ↓Qai, ↓Qaj, ↓Qak, ↓Qal, ↓Qam, ↓Qan, ↓Qao, ↓Qap, ↓Qaq, ↓Qar, ↓Qas, ↓Qat, ↓Qau, ↓Qav, ↓Qaw, ↓Qax, ↓Qay, ↓Qaz, ↓Qa0, ↓Qa1, ↓Qa2, ↓Qa3, ↓Qa4, ↓Qa5, ↓Qa6, ↓Qa7, ↓Qa8, ↓Qa9, ↓Qba, ↓Qbb, ↓Qbc, ↓Qbd, ↓Qbe, ↓Qbf, ↓Qbg, ↓Qbh, ↓Qbi, ↓Qbj, ↓Qbk, ↓Qbl, List.set_cons_zero, List.set_cons_succ, wipeP]
  obtain ⟨t0, tr, et0⟩ : ∃ t0 tr, ts = t0 :: tr := by
    match ts, h0 with
    | t0 :: tr, _ => exact ⟨t0, tr, rfl⟩
  obtain ⟨tl, tz, etl⟩ : ∃ tl tz, ts = tl ++ [tz] := ⟨ts.dropLast, ts.getLast h0, (List.dropLast_concat_getLast h0).symm⟩
  have m0 : t0 ∈ ts := by rw [et0]; exact List.mem_cons_self
  have mz : tz ∈ ts := by rw [etl]; simp
  have i0 : atI (ts.map PV.str) 0 = some (.str t0) := atI_nn (j := 0) rfl (by rw [et0]; rfl)
  have iz : atI (ts.map PV.str) (-1) = some (.str tz) := by rw [etl, List.map_append, List.map_singleton, atI_last]
  refine ⟨.str t0, i0, rfl, t_ends_by hC (pn_name (ok.tn t0 m0)) bd.1 bd.2.1 (er_names false (decide_eq_true m0) bd.2.2 (hE _ _ _ w_names ?_))⟩
  refine ⟨sz0 (by simp), fun c hc => ?_⟩
  have hca := w4.h.ne hc
  have hcb : c ≠ b := fun z => by rw [z, w4.g] at hc; cases hc
  have hc0 : S c = none := by rw [← w4.o c hca hcb]; exact hc
  have v1 : Wds a c S6 (updS S6 c (.lst [.str "names"])) [("names" : Str)] := ⟨w4.h.upd hca, updS_same, fun y _ g2 => updS_ne g2⟩
  generalize updS S6 c (.lst [.str "names"]) = S7 at v1 ⊢
  rw [eN8]
  unfold w__law_refused_right_8
  refine seq_any fun N9 eN9 => ?_
  refine word_more (v := "names") v1 hca (by decide) rfl rfl (fun R hr => t_word fun R' Z' _ hE => ?_) fun S8 v2 => ?_
  · simp -implicitDefEqProofs only [w__law_refused_right_6, ↓Qa, ↓Qb, ↓Qc, ↓Qd, ↓Qe, ↓Qg, ↓Qh, ↓Qi, ↓Qj, ↓Qk, ↓Ql, ↓par2_two, ↓Qm, ↓Qn, ↓Qo, ↓Qp, ↓Qq, ↓Qr, ↓Qs, ↓Qt, ↓Qu, ↓Qv, ↓Qw, ↓Qx, ↓Qy, ↓Qz, ↓Q0, ↓truK_bl, ↓Q3, ↓Q4, ↓Q5, ↓Q6, ↓chK_bl, ↓Q7, ↓Q8, ↓Q9, ↓Ya, ↓Yb, ↓Yc, ↓Yd, ↓Ye, ↓Yf, ↓Yg, ↓Yh, ↓Yi, ↓Yj, ↓Yk, ↓Ym, ↓Yn, ↓Yo, ↓Yp, ↓Yq, ↓Yr, ↓Ys, ↓Yt, ↓Yu, ↓Yv, ↓Yw, ↓Yx, ↓Yy, ↓Yz, ↓Y0, ↓Y1, ↓Y2, ↓Y3, ↓Y4, ↓Y5, ↓Y6, ↓Y7, ↓Y8, ↓Y9, ↓Ja, ↓Jb, ↓Jc, ↓Jd, ↓Je, ↓Jf, ↓Jg, ↓Jh, ↓Ji, ↓Jj, ↓Jk, ↓Jl, ↓Jm, ↓Jn, ↓Jo, ↓Jp, ↓Jq, ↓Jr, ↓Js, ↓Jt, ↓Ju, ↓Jw, ↓Jx, ↓Jy, ↓Jz, ↓J1, ↓J2, ↓J3, ↓J4, ↓J5, ↓J6, ↓J7, ↓J8, ↓J9, ↓Qaa, ↓Qab, ↓Qac, ↓Qad, ↓Qae, ↓par3_three, ↓Qaf, ↓Qag, ↓Qah, ↓Qai, ↓Qaj, ↓Qak, ↓Qal, ↓Qam, ↓Qan, ↓Qao, ↓Qap, ↓Qaq, ↓Qar, ↓Qas, ↓Qat, ↓Qau, ↓Qav, ↓Qaw, ↓Qax, ↓Qay, ↓Qaz, ↓Qa0, ↓Qa1, ↓Qa2, ↓Qa3, ↓Qa4, ↓Qa5, ↓Qa6, ↓Qa7, ↓Qa8, ↓Qa9, ↓Qba, ↓Qbb, ↓Qbc, ↓Qbd, ↓Qbe, ↓Qbf, ↓Qbg, ↓Qbh, ↓Qbi, ↓Qbj, ↓Qbk, ↓Qbl, List.set_cons_zero, List.set_cons_succ, wipeP]
    exact ⟨.str tz, iz, rfl, t_ends_walked hC (pn_name (ok.tn tz mz)) bd.1 bd.2.1 (er_names true (decide_eq_true mz) bd.2.2 (hE _ _ _ w_names hr))⟩
  dsimp only
  rw [eN9]
  simp -implicitDefEqProofs only [w__law_refused_right_7, ↓Qa, ↓Qb, ↓Qc, ↓Qd, ↓Qe, ↓Qg, ↓Qh, ↓Qi, ↓Qj, ↓Qk, ↓Ql, ↓par2_two, ↓Qm, ↓Qn, ↓Qo, ↓Qp, ↓Qq, ↓Qr, ↓Qs, ↓Qt, ↓Qu, ↓Qv, ↓Qw, ↓Qx, ↓Qy, ↓Qz, ↓Q0, ↓truK_bl, ↓Q3, ↓Q4, ↓Q5, ↓Q6, ↓chK_bl, ↓Q7, ↓Q8, ↓Q9, ↓Ya, ↓Yb, ↓Yc, ↓Yd, ↓Ye, ↓Yf, ↓Yg, ↓Yh, ↓Yi, ↓Yj, ↓Yk, ↓Ym, ↓Yn, ↓Yo, ↓Yp, ↓Yq, ↓Yr, ↓Ys, ↓Yt, ↓Yu, ↓Yv, ↓Yw, ↓Yx, ↓Yy, ↓Yz, ↓Y0, ↓Y1, ↓Y2, ↓Y3, ↓Y4, ↓Y5, ↓Y6, ↓Y7, ↓Y8, ↓Y9, ↓Ja, ↓Jb, ↓Jc, ↓Jd, ↓Je, ↓Jf, ↓Jg, ↓Jh, ↓Ji, ↓Jj, ↓Jk, ↓Jl, ↓Jm, ↓Jn, ↓Jo, ↓Jp, ↓Jq, ↓Jr, ↓Js, ↓Jt, ↓Ju, ↓Jw, ↓Jx, ↓Jy, ↓Jz, ↓J1, ↓J2, ↓J3, ↓J4, ↓J5, ↓J6, ↓J7, ↓J8, ↓J9, ↓Qaa, ↓Qab, ↓Qac, ↓Qad, ↓Qae, ↓par3_three, ↓Qaf, ↓Qag, ↓Qah, ↓Qai, ↓Qaj, ↓Qak, ↓Qal, ↓Qam, ↓Qan, ↓Qao, ↓Qap, ↓Qaq, ↓Qar, ↓Qas, ↓Qat, ↓Qau, ↓Qav, ↓Qaw, ↓Qax, ↓Qay, ↓Qaz, ↓Qa0, ↓Qa1, ↓Qa2, ↓Qa3, ↓Qa4, ↓Qa5, ↓Qa6, ↓Qa7, ↓Qa8, ↓Qa9, ↓Qba, ↓Qbb, ↓Qbc, ↓Qbd, ↓Qbe, ↓Qbf, ↓Qbg, ↓Qbh, ↓Qbi, ↓Qbj, ↓Qbk, ↓Qbl, List.set_cons_zero, List.set_cons_succ, wipeP]
  have ew : [PV.str "names", .str "names"] = [("names" : Str), "names"].map PV.str := rfl
  rw [ew, k_eq_words v2.g (by decide +kernel) (by decide +kernel), decide_eq_true (show [("names" : Str)] ++ [("names" : Str)] = [("names" : Str), ("names" : Str)] from rfl), Bool.bne_false]
  refine ⟨sz0 (by simp), gR_hand (a := a) (S := S) (fun y o hy ey => ?_) v2.h hR⟩
  have yb : y ≠ b := fun z => by rw [z, hb0] at ey; cases ey
  have yc : y ≠ c := fun z => by rw [z, hc0] at ey; cases ey
  rw [v2.o y hy yc, w4.o y hy yb]; exact ey

theorem goR_tie {rs : List Road} : ∀ {ns : List Str} {x : Str} {w : List Str}, goR rs false x ns = some w → goR rs true x ns = some w
  | [], x, w, h => h
  | n :: ns, x, w, h => by
    rw [goR_cons] at h ⊢
    cases hf : findR rs n with
    | none => rw [hf] at h; cases h
    | some q =>
      rw [hf] at h
      dsimp only at h ⊢
      by_cases hq : q.bgn = x
      · rw [if_pos hq] at h ⊢
        cases hg : goR rs false q.fin ns with
        | none => rw [hg] at h; cases h
        | some v => rw [hg] at h; rw [goR_tie hg]; exact h
      · rw [if_neg hq, if_neg (fun z => by cases z.1)] at h; cases h
theorem goR_in {rs : List Road} {b : Bool} {ts : List Str} (hr : ∀ r ∈ rs, r.bgn ∈ ts ∧ r.fin ∈ ts) : ∀ {ns : List Str} {x : Str} {w : List Str}, goR rs b x ns = some w → (∀ t ∈ w, t ∈ ts) ∧ w.length = ns.length
  | [], x, w, h => by cases h; exact ⟨(fun t ht => by cases ht), rfl⟩
  | n :: ns, x, w, h => by
    rw [goR_cons] at h
    cases hf : findR rs n with
    | none => rw [hf] at h; cases h
    | some q =>
      rw [hf] at h
      dsimp only at h
      have hq := hr q (find_name hf).1
      have step : ∀ y, y ∈ ts → (goR rs b y ns).map (y :: ·) = some w → (∀ t ∈ w, t ∈ ts) ∧ w.length = (n :: ns).length := fun y hy h => by
        cases hg : goR rs b y ns with
        | none => rw [hg] at h; cases h
        | some v =>
          rw [hg] at h; cases h
          obtain ⟨h1, h2⟩ := goR_in hr hg
          exact ⟨fun t ht => (List.mem_cons.mp ht).elim (fun e => by rw [e]; exact hy) (h1 t), by rw [List.length_cons, List.length_cons, h2]⟩
      split at h
      · exact step _ hq.2 h
      · split at h
        · exact step _ hq.1 h
        · cases h
def lastS (x : Str) (w : List Str) : Str := (x :: w).getLast (List.cons_ne_nil _ _)
theorem goR_app {rs : List Road} {b : Bool} : ∀ {xs : List Str} {x : Str} {w : List Str} {ys : List Str}, goR rs b x xs = some w → goR rs b x (xs ++ ys) = (goR rs b (lastS x w) ys).map (w ++ ·)
  | [], x, w, ys, h => by
    cases h
    show goR rs b x ys = (goR rs b x ys).map ([] ++ ·)
    cases goR rs b x ys <;> rfl
  | n :: xs, x, w, ys, h => by
    rw [goR_cons] at h
    rw [List.cons_append, goR_cons]
    cases hf : findR rs n with
    | none => rw [hf] at h; cases h
    | some q =>
      rw [hf] at h
      dsimp only at h ⊢
      have step : ∀ y, (goR rs b y xs).map (y :: ·) = some w → (goR rs b y (xs ++ ys)).map (y :: ·) = (goR rs b (lastS x w) ys).map (w ++ ·) := fun y h => by
        cases hg : goR rs b y xs with
        | none => rw [hg] at h; cases h
        | some v =>
          rw [hg] at h; cases h
          rw [goR_app hg]
          have : lastS x (y :: v) = lastS y v := by unfold lastS; exact List.getLast_cons (List.cons_ne_nil _ _)
          rw [this]
          cases goR rs b (lastS y v) ys <;> rfl
      split
      · rename_i c; rw [if_pos c] at h; exact step _ h
      · rename_i c
        rw [if_neg c] at h
        split
        · rename_i c2; rw [if_pos c2] at h; exact step _ h
        · rename_i c2; rw [if_neg c2] at h; cases h
theorem atI_lastS {x : Str} {w : List Str} : atI ((x :: w).map PV.str) (-1) = some (.str (lastS x w)) := by
  have : x :: w = (x :: w).dropLast ++ [lastS x w] := (List.dropLast_concat_getLast _).symm
  rw [this, List.map_append, List.map_singleton, atI_last]
theorem sum_add {α : Type} (f g : α → Int) : ∀ rs : List α, (rs.map fun r => f r + g r).sum = (rs.map f).sum + (rs.map g).sum
  | [] => rfl
  | r :: rs => by
    simp only [List.map_cons, List.sum_cons, sum_add f g rs]; omega
theorem sum_zero {α : Type} (f : α → Int) : ∀ rs : List α, (∀ r ∈ rs, f r = 0) → (rs.map f).sum = 0
  | [], _ => rfl
  | r :: rs, h => by
    simp only [List.map_cons, List.sum_cons, sum_zero f rs fun q hq => h q (List.mem_cons_of_mem _ hq), h r List.mem_cons_self]; omega
theorem sum_one {n : Str} : ∀ {rs : List Road}, (rs.map Road.name).Nodup → (rs.map fun r => if n = r.name then r.len else 0).sum = lenR rs n
  | [], _ => rfl
  | r :: rs, h => by
    rw [List.map_cons] at h
    obtain ⟨h1, h2⟩ := List.nodup_cons.mp h
    simp only [List.map_cons, List.sum_cons]
    by_cases e : n = r.name
    · rw [if_pos e]
      have z : (rs.map fun r => if n = r.name then r.len else 0).sum = 0 := sum_zero _ rs fun q hq => if_neg fun z => h1 (by rw [← e, z]; exact List.mem_map.mpr ⟨q, hq, rfl⟩)
      rw [z]
      have : findR (r :: rs) n = some r := List.find?_cons_of_pos (by rw [e]; simp)
      rw [lenR_some this]; omega
    · rw [if_neg e, sum_one h2]
      have : findR (r :: rs) n = findR rs n := List.find?_cons_of_neg (by simpa using fun z => e z.symm)
      unfold lenR
      rw [this]; omega
theorem sum_cnt {rs : List Road} (h : (rs.map Road.name).Nodup) : ∀ ns : List Str, (rs.map fun r => r.len * ((ns.countP (fun n => decide (n = r.name)) : Nat) : Int)).sum = lenOf rs ns
  | [] => sum_zero _ rs fun r _ => Int.mul_zero _
  | n :: ns => by
    have e : (rs.map fun r => r.len * (((n :: ns).countP (fun n => decide (n = r.name)) : Nat) : Int)) = rs.map fun r => r.len * ((ns.countP (fun n => decide (n = r.name)) : Nat) : Int) + if n = r.name then r.len else 0 := by
      refine List.map_congr_left fun r _ => ?_
      rw [List.countP_cons]
      by_cases c : n = r.name
      · rw [if_pos c, if_pos (decide_eq_true c), Int.natCast_add, Int.mul_add]; simp
      · rw [if_neg c, if_neg (by simpa using c)]; simp
    rw [e, sum_add, sum_cnt h ns, sum_one h]
    show _ = lenR rs n + (ns.map (lenR rs)).sum
    unfold lenOf; omega
theorem sum_bound {ts : List Str} {rs : List Road} (hr : ∀ r ∈ rs, roadB ts r = true) : ∀ ns : List Str, -(1000 * ns.length : Int) ≤ lenOf rs ns ∧ lenOf rs ns ≤ 1000 * ns.length
  | [] => ⟨by simp [lenOf], by simp [lenOf]⟩
  | n :: ns => by
    obtain ⟨h1, h2⟩ := sum_bound hr ns
    have e : lenOf rs (n :: ns) = lenR rs n + lenOf rs ns := rfl
    have b : -1000 ≤ lenR rs n ∧ lenR rs n ≤ 1000 := by
      unfold lenR
      split
      · rename_i q hq
        exact (roadB_n (hr q (find_name hq).1)).2.2.2.1
      · exact ⟨by omega, by omega⟩
    rw [e, List.length_cons]; omega
theorem name_short {x : Str} (h : nameB x = true) : (x.cps.toList.all fun c => decide (c < 16 ^ 8)) = true ∧ x.cps.size ≤ 8 := by
  refine ⟨?_, name_sz h⟩
  rw [List.all_eq_true]
  intro c hc
  have := name_signs h c hc
  exact decide_eq_true (by omega)
theorem towns_short : ∀ ts : List Str, (∀ t ∈ ts, nameB t = true) → PyData.leavesShortAll 13 (ts.map PyData.str) = true ∧ PyData.weightAll (ts.map PyData.str) ≤ 9 * ts.length ∧ PyData.showableAll (ts.map PyData.str) = true
  | [], _ => ⟨rfl, Nat.le_refl _, rfl⟩
  | x :: xs, h => by
    obtain ⟨a, b, c⟩ := towns_short xs fun t ht => h t (List.mem_cons_of_mem _ ht)
    obtain ⟨d, e⟩ := name_short (h x List.mem_cons_self)
    refine ⟨?_, ?_, ?_⟩
    · show ((x.cps.toList.all fun c => decide (c < 16 ^ 8)) && PyData.leavesShortAll 13 (xs.map PyData.str)) = true
      rw [a, d]; rfl
    · show x.cps.size + 1 + PyData.weightAll (xs.map PyData.str) ≤ 9 * (xs.length + 1)
      omega
    · show (true && PyData.showableAll (xs.map PyData.str)) = true
      rw [c]; rfl
def wayD : Option (List Str) → PyData
  | some ts => .tuple (ts.map PyData.str)
  | none => .none
/-- a way of names, not long -/
def WayOk (w : Option (List Str)) : Prop := ∀ ts, w = some ts → (∀ t ∈ ts, nameB t = true) ∧ ts.length ≤ 100
theorem toD_way (w : Option (List Str)) : toD (wayP w) = some (wayD w) := by
  cases w with
  | none => rfl
  | some ts => exact toD_towns ts
theorem way_short {w : Option (List Str)} (h : WayOk w) : (wayD w).leavesShort 13 = true ∧ (wayD w).weight ≤ 1000 ∧ (wayD w).showable = true ∧ (wayD w).depth ≤ 1 := by
  cases w with
  | none => exact ⟨rfl, Nat.zero_le _, rfl, Nat.zero_le _⟩
  | some ts =>
    obtain ⟨h1, h2⟩ := h ts rfl
    obtain ⟨a, b, c⟩ := towns_short ts h1
    have d := (lay_strs ts h1).2
    refine ⟨a, ?_, c, ?_⟩
    · show PyData.weightAll (ts.map PyData.str) ≤ 1000
      omega
    · show PyData.depthAll (ts.map PyData.str) + 1 ≤ 1
      omega
section
variable {S : Sto} {R : RK}
theorem k_repr_ways {u v : Option (List Str)} (hu : WayOk u) (hv : WayOk v) : kRepr (.lst [wayP u, wayP v]) S R = R (.str (PyData.list [wayD u, wayD v]).shown) S := by
  have et : toD (.lst [wayP u, wayP v]) = some (.list [wayD u, wayD v]) := by
    show (toDs [wayP u, wayP v]).map PyData.list = _
    unfold toDs toDs toDs
    rw [toD_way, toD_way]; rfl
  show (match toD (.lst [wayP u, wayP v]) with
    | some d => d.showable = true ∧ d.shown.length ≤ sizeLine ∧ d.depth ≤ 64 ∧ R (.str d.shown) S
    | none => False) = _
  rw [et]
  obtain ⟨a1, a2, a3, a4⟩ := way_short hu
  obtain ⟨b1, b2, b3, b4⟩ := way_short hv
  refine propext ⟨fun h => h.2.2.2, fun h => ⟨?_, PyData.shown_fits (B := 13) (by omega) (by omega) ?_ ?_, ?_, h⟩⟩
  · show ((wayD u).showable && ((wayD v).showable && true)) = true
    rw [a3, b3]; rfl
  · show ((wayD u).leavesShort 13 && ((wayD v).leavesShort 13 && true)) = true
    rw [a1, b1]; rfl
  · show (wayD u).weight + 1 + ((wayD v).weight + 1 + 0) ≤ 2 ^ 20
    omega
  · show (max (wayD u).depth (max (wayD v).depth 0)) + 1 ≤ 64
    omega
theorem k_repr_int {n : Int} (h : -100000 ≤ n ∧ n ≤ 100000) : kRepr (.int n) S R = R (.str (PyData.int n).shown) S := by
  show ((PyData.int n).showable = true ∧ (PyData.int n).shown.length ≤ sizeLine ∧ (PyData.int n).depth ≤ 64 ∧ R (.str (PyData.int n).shown) S) = _
  have l := PyData.shown_int_le2 (i := n) (by omega) (by omega)
  refine propext ⟨fun h => h.2.2.2, fun r => ⟨decide_eq_true ?_, sz0 (by omega), Nat.zero_le _, r⟩⟩
  by_cases h0 : n.natAbs = 0
  · rw [h0]; decide
  · have := (Nat.log2_lt h0 (k := 20)).mpr (by omega)
    omega
theorem k_eq_way {neg : Bool} {u v : Option (List Str)} (hu : WayOk u) (hv : WayOk v) : kEqA neg (wayP u) (wayP v) S R = R (.bl (decide (u = v) != neg)) S := by
  cases u with
  | none =>
    cases v with
    | none => 
      show R (.bl _) S = _
      rw [decide_eq_true rfl]
    | some vs =>
      rw [decide_eq_false (fun z => by cases z)]
      show (match toD PV.non, toD (townsP vs) with
        | some d, some e => SeqAt.shaped d = true ∧ SeqAt.shaped e = true ∧ R (.bl (PyData.eqv d e != neg)) S
        | _, _ => False) = _
      rw [toD_towns]
      show (SeqAt.shaped PyData.none = true ∧ SeqAt.shaped (.tuple (vs.map PyData.str)) = true ∧ R (.bl (false != neg)) S) = _
      rw [shaped_strs (hv vs rfl).1]
      exact propext ⟨fun z => z.2.2, fun z => ⟨rfl, rfl, z⟩⟩
  | some us =>
    cases v with
    | none =>
      rw [decide_eq_false (fun z => by cases z)]
      show (match toD (townsP us), toD PV.non with
        | some d, some e => SeqAt.shaped d = true ∧ SeqAt.shaped e = true ∧ R (.bl (PyData.eqv d e != neg)) S
        | _, _ => False) = _
      rw [toD_towns]
      show (SeqAt.shaped (.tuple (us.map PyData.str)) = true ∧ SeqAt.shaped PyData.none = true ∧ R (.bl (false != neg)) S) = _
      rw [shaped_strs (hu us rfl).1]
      exact propext ⟨fun z => z.2.2, fun z => ⟨rfl, rfl, z⟩⟩
    | some vs =>
      show kEqA neg (townsP us) (townsP vs) S R = _
      rw [k_eq_towns (hu us rfl).1 (hv vs rfl).1]
      congr 3
      rw [Bool.eq_iff_iff, decide_eq_true_iff, decide_eq_true_iff]
      exact ⟨fun e => by rw [e], fun e => Option.some.inj e⟩
end

theorem cutP_drop {xs : List PV} {n : Int} (n0 : 0 ≤ n) : cutP xs (some n) none = xs.drop n.toNat := by
  unfold cutP
  have e1 : HT.sIx xs.length 0 (some n) = min n.toNat xs.length := by
    show (if n < 0 then (n + (xs.length : Int)).toNat else min n.toNat xs.length) = _
    rw [if_neg (by omega)]
  have e0 : HT.sIx xs.length xs.length none = xs.length := rfl
  rw [e1, e0]
  by_cases q : n.toNat ≤ xs.length
  · rw [Nat.min_eq_left q, List.take_of_length_le (by rw [List.length_drop]; omega)]
  · rw [Nat.min_eq_right (by omega), List.drop_eq_nil_of_le (Nat.le_refl _), List.drop_eq_nil_of_le (by omega), List.take_nil]
theorem wayOk {ts : List Str} {rs : List Road} (ok : NetOk ts rs) {b : Bool} {x : Str} (hx : x ∈ ts) {ns : List Str} (hn : ns.length ≤ 60) : WayOk (wayR rs b x ns) := fun us e => by
  unfold wayR at e
  cases hg : goR rs b x ns with
  | none => rw [hg] at e; cases e
  | some w =>
    rw [hg] at e; cases e
    obtain ⟨h1, h2⟩ := goR_in (ts := ts) (fun r hr => by
      obtain ⟨_, _, _, _, b1, b2, _⟩ := roadB_all.mp (ok.rn r hr)
      exact ⟨b1, b2⟩) hg
    refine ⟨fun t ht => ?_, by rw [List.length_cons]; omega⟩
    rcases List.mem_cons.mp ht with rfl | ht
    · exact ok.tn _ hx
    · exact ok.tn t (h1 t ht)
theorem few_towns {ns : List Str} (h : ns.length ≤ 1000) : Few (townsP ns) := fun xs e => by
  have e := PV.tup.inj e
  rw [← e, List.length_map]; exact h
theorem pnT_strs {ns : List Str} (h : ∀ n ∈ ns, n.length ≤ 8) : PnT (townsP ns) := ⟨pn_tup, fun xs e x hx => by
  have e := PV.tup.inj e
  rw [← e] at hx
  obtain ⟨n, hn, rfl⟩ := List.mem_map.mp hx
  exact pn_str (sz0 (by have := h n hn; omega))⟩
theorem ends_ok {K : PySem.W.Frag} {R : RK} {Z : ZK} {S : Sto} {ts : List Str} {rs : List Road} {tie : Bool} {x : Str} {ns : List Str} (hx : x ∈ ts) (h : R (wayP (wayR rs tie x ns)) S) : endsK K R Z S ts rs tie (.str x) (townsP ns) := by
  unfold endsK
  rw [if_pos (show isIn ts (.str x) = true from decide_eq_true hx), if_pos (isNames_towns ns)]
  intro x' ns' e1 e2
  rw [← PV.str.inj e1, ← town_inj e2]; exact h
section
variable {K : PySem.W.Frag} {S S0 : Sto} {R : RK} {Z : ZK} {P : PEnds} {N : Slots → Sto → Prop} {x0 y2 y7 : Option PV} {a : Addr} {ts : List Str} {rs : List Road}
abbrev sl (x0 y2 y7 : Option PV) (a : Addr) (K : PySem.W.Frag) (ts : List Str) (rs : List Road) (y8 y9 y10 y11 y12 y13 y14 y15 : Option PV) : Slots :=
  [x0, some (.ref a), y2, some (townsP ts), some (roadsP rs), some (netK K ts rs), some (.lst ((rs.map Road.name).map PV.str)), y7, y8, y9, y10, y11, y12, y13, y14, y15, none, none]
/-- the way on -/
theorem law_on (hP : P.nx = N) (ok : NetOk ts rs) {x : Str} (hx : x ∈ ts) {ns : List Str} (hn : ns.length ≤ 20) (hn8 : ∀ n ∈ ns, n.length ≤ 8) (hh : HandAt a S) (off : Off a S0 S) {y12 z13 z14 z15 : Option PV}
    (hN : ∀ y12 y13 y14 y15 S', HandAt a S' → Off a S0 S' → N (sl x0 y2 y7 a K ts rs (some (.str x)) (some (townsP ns)) (some (wayP (wayR rs false x ns))) (some (wayP (wayR rs true x ns))) y12 y13 y14 y15) S') :
    w_law_7 K P (sl x0 y2 y7 a K ts rs (some (.str x)) (some (townsP ns)) (some (wayP (wayR rs false x ns))) (some (wayP (wayR rs true x ns))) y12 z13 z14 z15) S := by
  unfold w_law_7
  cases hw : goR rs false x ns with
  | none =>
    have e : wayR rs false x ns = none := by unfold wayR; rw [hw]; rfl
    rw [e] at hN ⊢
    simp -implicitDefEqProofs only [wayP, ↓Qa, ↓Qb, ↓Qc, ↓Qd, ↓Qe, ↓Qg, ↓Qh, ↓Qi, ↓Qj, ↓Qk, ↓Ql, ↓par2_two, ↓Qm, ↓Qn, ↓Qo, ↓Qp, ↓Qq, ↓Qr, ↓Qs, ↓Qt, ↓Qu, ↓Qv, ↓Qw, ↓Qx, ↓Qy, ↓Qz, ↓Q0, ↓truK_bl, ↓Q3, ↓Q4, ↓Q5, ↓Q6, ↓chK_bl, ↓Q7, ↓Q8, ↓Q9, ↓Ya, ↓Yb, ↓Yc, ↓Yd, ↓Ye, ↓Yf, ↓Yg, ↓Yh, ↓Yi, ↓Yj, ↓Yk, ↓Ym, ↓Yn, ↓Yo, ↓Yp, ↓Yq, ↓Yr, ↓Ys, ↓Yt, ↓Yu, ↓Yv, ↓Yw, ↓Yx, ↓Yy, ↓Yz, ↓Y0, ↓Y1, ↓Y2, ↓Y3, ↓Y4, ↓Y5, ↓Y6, ↓Y7, ↓Y8, ↓Y9, ↓Ja, ↓Jb, ↓Jc, ↓Jd, ↓Je, ↓Jf, ↓Jg, ↓Jh, ↓Ji, ↓Jj, ↓Jk, ↓Jl, ↓Jm, ↓Jn, ↓Jo, ↓Jp, ↓Jq, ↓Jr, ↓Js, ↓Jt, ↓Ju, ↓Jw, ↓Jx, ↓Jy, ↓Jz, ↓J1, ↓J2, ↓J3, ↓J4, ↓J5, ↓J6, ↓J7, ↓J8, ↓J9, ↓Qaa, ↓Qab, ↓Qac, ↓Qad, ↓Qae, ↓par3_three, ↓Qaf, ↓Qag, ↓Qah, ↓Qai, ↓Qaj, ↓Qak, ↓Qal, ↓Qam, ↓Qan, ↓Qao, ↓Qap, ↓Qaq, ↓Qar, ↓Qas, ↓Qat, ↓Qau, ↓Qav, ↓Qaw, ↓Qax, ↓Qay, ↓Qaz, ↓Qa0, ↓Qa1, ↓Qa2, ↓Qa3, ↓Qa4, ↓Qa5, ↓Qa6, ↓Qa7, ↓Qa8, ↓Qa9, ↓Qba, ↓Qbb, ↓Qbc, ↓Qbd, ↓Qbe, ↓Qbf, ↓Qbg, ↓Qbh, ↓Qbi, ↓Qbj, ↓Qbk, ↓Qbl, List.set_cons_zero, List.set_cons_succ, wipeP, Bool.not_true, Bool.false_eq_true, if_false]
    rw [hP]
    exact hN _ _ _ _ S hh off
  | some w =>
    have e : wayR rs false x ns = some (x :: w) := by unfold wayR; rw [hw]; rfl
    have inW := goR_in (ts := ts) (fun r hr => by
      obtain ⟨_, _, _, _, b1, b2, _⟩ := roadB_all.mp (ok.rn r hr)
      exact ⟨b1, b2⟩) hw
    have ew : wayP (some (x :: w)) = .tup ((x :: w).map PV.str) := rfl
    have hl : lastS x w ∈ ts := by
      have : lastS x w ∈ x :: w := List.getLast_mem _
      rcases List.mem_cons.mp this with h | h
      · rw [h]; exact hx
      · exact inW.1 _ h
    rw [e] at hN ⊢
    have is0 : ∀ (S : Sto) (R' : RK), kIs true (wayP (some (x :: w))) .non S R' = R' (.bl true) S := fun _ _ => rfl
    have il : ∀ (S : Sto) (R' : RK), kIx (wayP (some (x :: w))) (.int (-1)) S R' = ∃ z, atI ((x :: w).map PV.str) (-1) = some z ∧ R' z S := fun _ _ => rfl
    simp -implicitDefEqProofs only [↓Qa, ↓Qb, ↓Qc, ↓Qd, ↓Qe, ↓Qg, ↓Qh, ↓Qi, ↓Qj, ↓Qk, ↓Ql, ↓par2_two, ↓Qm, ↓Qn, ↓Qo, ↓Qp, ↓Qq, ↓Qr, ↓Qs, ↓Qt, ↓Qu, ↓Qv, ↓Qw, ↓Qx, ↓Qy, ↓Qz, ↓Q0, ↓truK_bl, ↓Q3, ↓Q4, ↓Q5, ↓Q6, ↓chK_bl, ↓Q7, ↓Q8, ↓Q9, ↓Ya, ↓Yb, ↓Yc, ↓Yd, ↓Ye, ↓Yf, ↓Yg, ↓Yh, ↓Yi, ↓Yj, ↓Yk, ↓Ym, ↓Yn, ↓Yo, ↓Yp, ↓Yq, ↓Yr, ↓Ys, ↓Yt, ↓Yu, ↓Yv, ↓Yw, ↓Yx, ↓Yy, ↓Yz, ↓Y0, ↓Y1, ↓Y2, ↓Y3, ↓Y4, ↓Y5, ↓Y6, ↓Y7, ↓Y8, ↓Y9, ↓Ja, ↓Jb, ↓Jc, ↓Jd, ↓Je, ↓Jf, ↓Jg, ↓Jh, ↓Ji, ↓Jj, ↓Jk, ↓Jl, ↓Jm, ↓Jn, ↓Jo, ↓Jp, ↓Jq, ↓Jr, ↓Js, ↓Jt, ↓Ju, ↓Jw, ↓Jx, ↓Jy, ↓Jz, ↓J1, ↓J2, ↓J3, ↓J4, ↓J5, ↓J6, ↓J7, ↓J8, ↓J9, ↓Qaa, ↓Qab, ↓Qac, ↓Qad, ↓Qae, ↓par3_three, ↓Qaf, ↓Qag, ↓Qah, ↓Qai, ↓Qaj, ↓Qak, ↓Qal, ↓Qam, ↓Qan, ↓Qao, ↓Qap, ↓Qaq, ↓Qar, ↓Qas, ↓Qat, ↓Qau, ↓Qav, ↓Qaw, ↓Qax, ↓Qay, ↓Qaz, ↓Qa0, ↓Qa1, ↓Qa2, ↓Qa3, ↓Qa4, ↓Qa5, ↓Qa6, ↓Qa7, ↓Qa8, ↓Qa9, ↓Qba, ↓Qbb, ↓Qbc, ↓Qbd, ↓Qbe, ↓Qbf, ↓Qbg, ↓Qbh, ↓Qbi, ↓Qbj, ↓Qbk, ↓Qbl, List.set_cons_zero, List.set_cons_succ, wipeP, is0, if_true, il]
    refine ⟨_, atI_lastS, rfl, t_lnames hh ok fun ms S1 ml m8 h1 o1 => ?_⟩
    have off1 := off.tr o1
    simp -implicitDefEqProofs only [w_law_6, ↓Qa, ↓Qb, ↓Qc, ↓Qd, ↓Qe, ↓Qg, ↓Qh, ↓Qi, ↓Qj, ↓Qk, ↓Ql, ↓par2_two, ↓Qm, ↓Qn, ↓Qo, ↓Qp, ↓Qq, ↓Qr, ↓Qs, ↓Qt, ↓Qu, ↓Qv, ↓Qw, ↓Qx, ↓Qy, ↓Qz, ↓Q0, ↓truK_bl, ↓Q3, ↓Q4, ↓Q5, ↓Q6, ↓chK_bl, ↓Q7, ↓Q8, ↓Q9, ↓Ya, ↓Yb, ↓Yc, ↓Yd, ↓Ye, ↓Yf, ↓Yg, ↓Yh, ↓Yi, ↓Yj, ↓Yk, ↓Ym, ↓Yn, ↓Yo, ↓Yp, ↓Yq, ↓Yr, ↓Ys, ↓Yt, ↓Yu, ↓Yv, ↓Yw, ↓Yx, ↓Yy, ↓Yz, ↓Y0, ↓Y1, ↓Y2, ↓Y3, ↓Y4, ↓Y5, ↓Y6, ↓Y7, ↓Y8, ↓Y9, ↓Ja, ↓Jb, ↓Jc, ↓Jd, ↓Je, ↓Jf, ↓Jg, ↓Jh, ↓Ji, ↓Jj, ↓Jk, ↓Jl, ↓Jm, ↓Jn, ↓Jo, ↓Jp, ↓Jq, ↓Jr, ↓Js, ↓Jt, ↓Ju, ↓Jw, ↓Jx, ↓Jy, ↓Jz, ↓J1, ↓J2, ↓J3, ↓J4, ↓J5, ↓J6, ↓J7, ↓J8, ↓J9, ↓Qaa, ↓Qab, ↓Qac, ↓Qad, ↓Qae, ↓par3_three, ↓Qaf, ↓Qag, ↓Qah, ↓Qai, ↓Qaj, ↓Qak, ↓Qal, ↓Qam, ↓Qan, ↓Qao, ↓Qap, ↓Qaq, ↓Qar, ↓Qas, ↓Qat, ↓Qau, ↓Qav, ↓Qaw, ↓Qax, ↓Qay, ↓Qaz, ↓Qa0, ↓Qa1, ↓Qa2, ↓Qa3, ↓Qa4, ↓Qa5, ↓Qa6, ↓Qa7, ↓Qa8, ↓Qa9, ↓Qba, ↓Qbb, ↓Qbc, ↓Qbd, ↓Qbe, ↓Qbf, ↓Qbg, ↓Qbh, ↓Qbi, ↓Qbj, ↓Qbk, ↓Qbl, List.set_cons_zero, List.set_cons_succ, wipeP, il]
    refine ⟨_, atI_lastS, rfl, t_ends_by mem_net (pn_name (ok.tn _ hl)) (pnT_strs m8) (few_towns (by omega)) (ends_ok hl ?_)⟩
    have both : wayR rs false x (ns ++ ms) = (goR rs false (lastS x w) ms).map fun v => (x :: w) ++ v := by
      unfold wayR
      rw [goR_app hw]
      cases goR rs false (lastS x w) ms <;> rfl
    have kadd : ∀ (S : Sto) (R' : RK), kAdd (townsP ns) (townsP ms) S R' = ((ns.map PV.str).length + (ms.map PV.str).length ≤ sizeLine ∧ R' (.tup (ns.map PV.str ++ ms.map PV.str)) S) := fun _ _ => rfl
    have ecat : PV.tup (ns.map PV.str ++ ms.map PV.str) = townsP (ns ++ ms) := by unfold townsP; rw [List.map_append]
    have okB : WayOk (wayR rs false x (ns ++ ms)) := wayOk ok hx (by rw [List.length_append]; omega)
    have last : ∀ (p : PV), p = wayP (wayR rs false x (ns ++ ms)) → ∀ y14, w_law_4 K P (sl x0 y2 y7 a K ts rs (some (.str x)) (some (townsP ns)) (some (wayP (some (x :: w)))) (some (wayP (wayR rs true x ns))) y12 (some (townsP ms)) y14 (some p)) S1 := fun p ep y14 => by
      simp -implicitDefEqProofs only [w_law_4, ↓Qa, ↓Qb, ↓Qc, ↓Qd, ↓Qe, ↓Qg, ↓Qh, ↓Qi, ↓Qj, ↓Qk, ↓Ql, ↓par2_two, ↓Qm, ↓Qn, ↓Qo, ↓Qp, ↓Qq, ↓Qr, ↓Qs, ↓Qt, ↓Qu, ↓Qv, ↓Qw, ↓Qx, ↓Qy, ↓Qz, ↓Q0, ↓truK_bl, ↓Q3, ↓Q4, ↓Q5, ↓Q6, ↓chK_bl, ↓Q7, ↓Q8, ↓Q9, ↓Ya, ↓Yb, ↓Yc, ↓Yd, ↓Ye, ↓Yf, ↓Yg, ↓Yh, ↓Yi, ↓Yj, ↓Yk, ↓Ym, ↓Yn, ↓Yo, ↓Yp, ↓Yq, ↓Yr, ↓Ys, ↓Yt, ↓Yu, ↓Yv, ↓Yw, ↓Yx, ↓Yy, ↓Yz, ↓Y0, ↓Y1, ↓Y2, ↓Y3, ↓Y4, ↓Y5, ↓Y6, ↓Y7, ↓Y8, ↓Y9, ↓Ja, ↓Jb, ↓Jc, ↓Jd, ↓Je, ↓Jf, ↓Jg, ↓Jh, ↓Ji, ↓Jj, ↓Jk, ↓Jl, ↓Jm, ↓Jn, ↓Jo, ↓Jp, ↓Jq, ↓Jr, ↓Js, ↓Jt, ↓Ju, ↓Jw, ↓Jx, ↓Jy, ↓Jz, ↓J1, ↓J2, ↓J3, ↓J4, ↓J5, ↓J6, ↓J7, ↓J8, ↓J9, ↓Qaa, ↓Qab, ↓Qac, ↓Qad, ↓Qae, ↓par3_three, ↓Qaf, ↓Qag, ↓Qah, ↓Qai, ↓Qaj, ↓Qak, ↓Qal, ↓Qam, ↓Qan, ↓Qao, ↓Qap, ↓Qaq, ↓Qar, ↓Qas, ↓Qat, ↓Qau, ↓Qav, ↓Qaw, ↓Qax, ↓Qay, ↓Qaz, ↓Qa0, ↓Qa1, ↓Qa2, ↓Qa3, ↓Qa4, ↓Qa5, ↓Qa6, ↓Qa7, ↓Qa8, ↓Qa9, ↓Qba, ↓Qbb, ↓Qbc, ↓Qbd, ↓Qbe, ↓Qbf, ↓Qbg, ↓Qbh, ↓Qbi, ↓Qbj, ↓Qbk, ↓Qbl, List.set_cons_zero, List.set_cons_succ, wipeP, kadd]
      refine ⟨sz0 (by rw [List.length_map, List.length_map]; omega), rfl, ?_⟩
      rw [ecat]
      refine t_ends_by mem_net (pn_name (ok.tn _ hx)) (pnT_strs fun n hn => (List.mem_append.mp hn).elim (hn8 n) (m8 n)) (few_towns (by rw [List.length_append]; omega)) (ends_ok hx ?_)
      rw [ep, k_eq_way okB okB, decide_eq_true rfl]
      simp -implicitDefEqProofs only [↓Qa, ↓Qb, ↓Qc, ↓Qd, ↓Qe, ↓Qg, ↓Qh, ↓Qi, ↓Qj, ↓Qk, ↓Ql, ↓par2_two, ↓Qm, ↓Qn, ↓Qo, ↓Qp, ↓Qq, ↓Qr, ↓Qs, ↓Qt, ↓Qu, ↓Qv, ↓Qw, ↓Qx, ↓Qy, ↓Qz, ↓Q0, ↓truK_bl, ↓Q3, ↓Q4, ↓Q5, ↓Q6, ↓chK_bl, ↓Q7, ↓Q8, ↓Q9, ↓Ya, ↓Yb, ↓Yc, ↓Yd, ↓Ye, ↓Yf, ↓Yg, ↓Yh, ↓Yi, ↓Yj, ↓Yk, ↓Ym, ↓Yn, ↓Yo, ↓Yp, ↓Yq, ↓Yr, ↓Ys, ↓Yt, ↓Yu, ↓Yv, ↓Yw, ↓Yx, ↓Yy, ↓Yz, ↓Y0, ↓Y1, ↓Y2, ↓Y3, ↓Y4, ↓Y5, ↓Y6, ↓Y7, ↓Y8, ↓Y9, ↓Ja, ↓Jb, ↓Jc, ↓Jd, ↓Je, ↓Jf, ↓Jg, ↓Jh, ↓Ji, ↓Jj, ↓Jk, ↓Jl, ↓Jm, ↓Jn, ↓Jo, ↓Jp, ↓Jq, ↓Jr, ↓Js, ↓Jt, ↓Ju, ↓Jw, ↓Jx, ↓Jy, ↓Jz, ↓J1, ↓J2, ↓J3, ↓J4, ↓J5, ↓J6, ↓J7, ↓J8, ↓J9, ↓Qaa, ↓Qab, ↓Qac, ↓Qad, ↓Qae, ↓par3_three, ↓Qaf, ↓Qag, ↓Qah, ↓Qai, ↓Qaj, ↓Qak, ↓Qal, ↓Qam, ↓Qan, ↓Qao, ↓Qap, ↓Qaq, ↓Qar, ↓Qas, ↓Qat, ↓Qau, ↓Qav, ↓Qaw, ↓Qax, ↓Qay, ↓Qaz, ↓Qa0, ↓Qa1, ↓Qa2, ↓Qa3, ↓Qa4, ↓Qa5, ↓Qa6, ↓Qa7, ↓Qa8, ↓Qa9, ↓Qba, ↓Qbb, ↓Qbc, ↓Qbd, ↓Qbe, ↓Qbf, ↓Qbg, ↓Qbh, ↓Qbi, ↓Qbj, ↓Qbk, ↓Qbl, List.set_cons_zero, List.set_cons_succ, wipeP, Bool.bne_true, Bool.not_true, Bool.false_eq_true, if_false]
      rw [hP]
      exact hN _ _ _ _ S1 h1 off1
    cases hg : goR rs false (lastS x w) ms with
    | none =>
      have e2 : wayR rs false (lastS x w) ms = none := by unfold wayR; rw [hg]; rfl
      rw [e2]
      rw [hg] at both
      have is1 : ∀ (S : Sto) (R' : RK), kIs false (wayP none) .non S R' = R' (.bl true) S := fun _ _ => rfl
      simp -implicitDefEqProofs only [w_law_5, ↓Qa, ↓Qb, ↓Qc, ↓Qd, ↓Qe, ↓Qg, ↓Qh, ↓Qi, ↓Qj, ↓Qk, ↓Ql, ↓par2_two, ↓Qm, ↓Qn, ↓Qo, ↓Qp, ↓Qq, ↓Qr, ↓Qs, ↓Qt, ↓Qu, ↓Qv, ↓Qw, ↓Qx, ↓Qy, ↓Qz, ↓Q0, ↓truK_bl, ↓Q3, ↓Q4, ↓Q5, ↓Q6, ↓chK_bl, ↓Q7, ↓Q8, ↓Q9, ↓Ya, ↓Yb, ↓Yc, ↓Yd, ↓Ye, ↓Yf, ↓Yg, ↓Yh, ↓Yi, ↓Yj, ↓Yk, ↓Ym, ↓Yn, ↓Yo, ↓Yp, ↓Yq, ↓Yr, ↓Ys, ↓Yt, ↓Yu, ↓Yv, ↓Yw, ↓Yx, ↓Yy, ↓Yz, ↓Y0, ↓Y1, ↓Y2, ↓Y3, ↓Y4, ↓Y5, ↓Y6, ↓Y7, ↓Y8, ↓Y9, ↓Ja, ↓Jb, ↓Jc, ↓Jd, ↓Je, ↓Jf, ↓Jg, ↓Jh, ↓Ji, ↓Jj, ↓Jk, ↓Jl, ↓Jm, ↓Jn, ↓Jo, ↓Jp, ↓Jq, ↓Jr, ↓Js, ↓Jt, ↓Ju, ↓Jw, ↓Jx, ↓Jy, ↓Jz, ↓J1, ↓J2, ↓J3, ↓J4, ↓J5, ↓J6, ↓J7, ↓J8, ↓J9, ↓Qaa, ↓Qab, ↓Qac, ↓Qad, ↓Qae, ↓par3_three, ↓Qaf, ↓Qag, ↓Qah, ↓Qai, ↓Qaj, ↓Qak, ↓Qal, ↓Qam, ↓Qan, ↓Qao, ↓Qap, ↓Qaq, ↓Qar, ↓Qas, ↓Qat, ↓Qau, ↓Qav, ↓Qaw, ↓Qax, ↓Qay, ↓Qaz, ↓Qa0, ↓Qa1, ↓Qa2, ↓Qa3, ↓Qa4, ↓Qa5, ↓Qa6, ↓Qa7, ↓Qa8, ↓Qa9, ↓Qba, ↓Qbb, ↓Qbc, ↓Qbd, ↓Qbe, ↓Qbf, ↓Qbg, ↓Qbh, ↓Qbi, ↓Qbj, ↓Qbk, ↓Qbl, List.set_cons_zero, List.set_cons_succ, wipeP, is1, if_true]
      exact last .non (by rw [both]; rfl) _
    | some v =>
      have e2 : wayR rs false (lastS x w) ms = some (lastS x w :: v) := by unfold wayR; rw [hg]; rfl
      rw [e2]
      rw [hg] at both
      have is1 : ∀ (S : Sto) (R' : RK), kIs false (wayP (some (lastS x w :: v))) .non S R' = R' (.bl false) S := fun _ _ => rfl
      have sl1 : ∀ (S : Sto) (R' : RK), kSl (wayP (some (lastS x w :: v))) (some 1) none S R' = R' (.tup (cutP ((lastS x w :: v).map PV.str) (some 1) none)) S := fun _ _ => rfl
      have ec : cutP ((lastS x w :: v).map PV.str) (some 1) none = v.map PV.str := by
        rw [cutP_drop (by decide)]; rfl
      have ka : ∀ (S : Sto) (R' : RK), kAdd (wayP (some (x :: w))) (.tup (v.map PV.str)) S R' = (((x :: w).map PV.str).length + (v.map PV.str).length ≤ sizeLine ∧ R' (.tup ((x :: w).map PV.str ++ v.map PV.str)) S) := fun _ _ => rfl
      have lv := (goR_in (ts := ts) (fun r hr => by
        obtain ⟨_, _, _, _, b1, b2, _⟩ := roadB_all.mp (ok.rn r hr)
        exact ⟨b1, b2⟩) hg).2
      simp -implicitDefEqProofs only [w_law_5, ↓Qa, ↓Qb, ↓Qc, ↓Qd, ↓Qe, ↓Qg, ↓Qh, ↓Qi, ↓Qj, ↓Qk, ↓Ql, ↓par2_two, ↓Qm, ↓Qn, ↓Qo, ↓Qp, ↓Qq, ↓Qr, ↓Qs, ↓Qt, ↓Qu, ↓Qv, ↓Qw, ↓Qx, ↓Qy, ↓Qz, ↓Q0, ↓truK_bl, ↓Q3, ↓Q4, ↓Q5, ↓Q6, ↓chK_bl, ↓Q7, ↓Q8, ↓Q9, ↓Ya, ↓Yb, ↓Yc, ↓Yd, ↓Ye, ↓Yf, ↓Yg, ↓Yh, ↓Yi, ↓Yj, ↓Yk, ↓Ym, ↓Yn, ↓Yo, ↓Yp, ↓Yq, ↓Yr, ↓Ys, ↓Yt, ↓Yu, ↓Yv, ↓Yw, ↓Yx, ↓Yy, ↓Yz, ↓Y0, ↓Y1, ↓Y2, ↓Y3, ↓Y4, ↓Y5, ↓Y6, ↓Y7, ↓Y8, ↓Y9, ↓Ja, ↓Jb, ↓Jc, ↓Jd, ↓Je, ↓Jf, ↓Jg, ↓Jh, ↓Ji, ↓Jj, ↓Jk, ↓Jl, ↓Jm, ↓Jn, ↓Jo, ↓Jp, ↓Jq, ↓Jr, ↓Js, ↓Jt, ↓Ju, ↓Jw, ↓Jx, ↓Jy, ↓Jz, ↓J1, ↓J2, ↓J3, ↓J4, ↓J5, ↓J6, ↓J7, ↓J8, ↓J9, ↓Qaa, ↓Qab, ↓Qac, ↓Qad, ↓Qae, ↓par3_three, ↓Qaf, ↓Qag, ↓Qah, ↓Qai, ↓Qaj, ↓Qak, ↓Qal, ↓Qam, ↓Qan, ↓Qao, ↓Qap, ↓Qaq, ↓Qar, ↓Qas, ↓Qat, ↓Qau, ↓Qav, ↓Qaw, ↓Qax, ↓Qay, ↓Qaz, ↓Qa0, ↓Qa1, ↓Qa2, ↓Qa3, ↓Qa4, ↓Qa5, ↓Qa6, ↓Qa7, ↓Qa8, ↓Qa9, ↓Qba, ↓Qbb, ↓Qbc, ↓Qbd, ↓Qbe, ↓Qbf, ↓Qbg, ↓Qbh, ↓Qbi, ↓Qbj, ↓Qbk, ↓Qbl, List.set_cons_zero, List.set_cons_succ, wipeP, is1, Bool.false_eq_true, if_false, sl1, ec, ka]
      refine ⟨sz0 (by rw [List.length_map, List.length_map, List.length_cons]; omega), ?_⟩
      exact last _ (by rw [both]; show _ = townsP ((x :: w) ++ v); unfold townsP; rw [List.map_append]) _
/-- the length -/
theorem k_cntT {ns : List Str} {x : Str} : kCntT (townsP ns) [.str x] S R = R (.int (ns.countP (fun n => decide (n = x)) : Nat)) S := by
  show (flatP (.str x) = true ∧ (ns.map PV.str).all flatP = true ∧ R (.int ((ns.map PV.str).countP (fun y => eqF y (.str x)) : Nat)) S) = _
  rw [all_flatS, List.countP_map]
  have : ((fun y => eqF y (PV.str x)) ∘ PV.str) = fun n : Str => decide (n = x) := by
    funext n
    show (n == x) = _
    rw [Bool.eq_iff_iff, beq_iff_eq, decide_eq_true_iff]
  rw [this]
  exact propext ⟨fun z => z.2.2, fun z => ⟨rfl, rfl, z⟩⟩
theorem ty_towns {ns : List Str} : tyB "tuple" (dr S (townsP ns)) = True := propext ⟨fun _ => trivial, fun _ => rfl⟩
theorem law_len (ok : NetOk ts rs) {x : Str} {ns : List Str} (hn : ns.length ≤ 20) (hn8 : ∀ n ∈ ns, n.length ≤ 8) {y8 y10 y11 y12 y13 y14 y15 : Option PV}
    (hT : ∀ y12, w_law_7 K P (sl x0 y2 y7 a K ts rs y8 (some (townsP ns)) y10 y11 y12 y13 y14 y15) S) :
    w_law_8 K P (sl x0 y2 y7 a K ts rs y8 (some (townsP ns)) y10 y11 y12 y13 y14 y15) S := by
  have rl := ok.rl
  have nd := roads_nodup ok.ra
  unfold w_law_8
  refine seq_any fun N1 e1 => ?_
  have hT : ∀ y12, N1 (sl x0 y2 y7 a K ts rs y8 (some (townsP ns)) y10 y11 y12 y13 y14 y15) S := fun y12 => by rw [e1]; exact hT y12
  simp -implicitDefEqProofs only [↓Qa, ↓Qb, ↓Qc, ↓Qd, ↓Qe, ↓Qg, ↓Qh, ↓Qi, ↓Qj, ↓Qk, ↓Ql, ↓par2_two, ↓Qm, ↓Qn, ↓Qo, ↓Qp, ↓Qq, ↓Qr, ↓Qs, ↓Qt, ↓Qu, ↓Qv, ↓Qw, ↓Qx, ↓Qy, ↓Qz, ↓Q0, ↓truK_bl, ↓Q3, ↓Q4, ↓Q5, ↓Q6, ↓chK_bl, ↓Q7, ↓Q8, ↓Q9, ↓Ya, ↓Yb, ↓Yc, ↓Yd, ↓Ye, ↓Yf, ↓Yg, ↓Yh, ↓Yi, ↓Yj, ↓Yk, ↓Ym, ↓Yn, ↓Yo, ↓Yp, ↓Yq, ↓Yr, ↓Ys, ↓Yt, ↓Yu, ↓Yv, ↓Yw, ↓Yx, ↓Yy, ↓Yz, ↓Y0, ↓Y1, ↓Y2, ↓Y3, ↓Y4, ↓Y5, ↓Y6, ↓Y7, ↓Y8, ↓Y9, ↓Ja, ↓Jb, ↓Jc, ↓Jd, ↓Je, ↓Jf, ↓Jg, ↓Jh, ↓Ji, ↓Jj, ↓Jk, ↓Jl, ↓Jm, ↓Jn, ↓Jo, ↓Jp, ↓Jq, ↓Jr, ↓Js, ↓Jt, ↓Ju, ↓Jw, ↓Jx, ↓Jy, ↓Jz, ↓J1, ↓J2, ↓J3, ↓J4, ↓J5, ↓J6, ↓J7, ↓J8, ↓J9, ↓Qaa, ↓Qab, ↓Qac, ↓Qad, ↓Qae, ↓par3_three, ↓Qaf, ↓Qag, ↓Qah, ↓Qai, ↓Qaj, ↓Qak, ↓Qal, ↓Qam, ↓Qan, ↓Qao, ↓Qap, ↓Qaq, ↓Qar, ↓Qas, ↓Qat, ↓Qau, ↓Qav, ↓Qaw, ↓Qax, ↓Qay, ↓Qaz, ↓Qa0, ↓Qa1, ↓Qa2, ↓Qa3, ↓Qa4, ↓Qa5, ↓Qa6, ↓Qa7, ↓Qa8, ↓Qa9, ↓Qba, ↓Qbb, ↓Qbc, ↓Qbd, ↓Qbe, ↓Qbf, ↓Qbg, ↓Qbh, ↓Qbi, ↓Qbj, ↓Qbk, ↓Qbl, List.set_cons_zero, List.set_cons_succ, wipeP, it_towns]
  refine wLcL_allM PV.str (fun n => .bl (decide (n ∈ rs.map Road.name))) trivial ns (fun n hnm R' hR' => ?_) (sz0 (by omega)) ?_
  · simp -implicitDefEqProofs only [w_law_1, ↓Qa, ↓Qb, ↓Qc, ↓Qd, ↓Qe, ↓Qg, ↓Qh, ↓Qi, ↓Qj, ↓Qk, ↓Ql, ↓par2_two, ↓Qm, ↓Qn, ↓Qo, ↓Qp, ↓Qq, ↓Qr, ↓Qs, ↓Qt, ↓Qu, ↓Qv, ↓Qw, ↓Qx, ↓Qy, ↓Qz, ↓Q0, ↓truK_bl, ↓Q3, ↓Q4, ↓Q5, ↓Q6, ↓chK_bl, ↓Q7, ↓Q8, ↓Q9, ↓Ya, ↓Yb, ↓Yc, ↓Yd, ↓Ye, ↓Yf, ↓Yg, ↓Yh, ↓Yi, ↓Yj, ↓Yk, ↓Ym, ↓Yn, ↓Yo, ↓Yp, ↓Yq, ↓Yr, ↓Ys, ↓Yt, ↓Yu, ↓Yv, ↓Yw, ↓Yx, ↓Yy, ↓Yz, ↓Y0, ↓Y1, ↓Y2, ↓Y3, ↓Y4, ↓Y5, ↓Y6, ↓Y7, ↓Y8, ↓Y9, ↓Ja, ↓Jb, ↓Jc, ↓Jd, ↓Je, ↓Jf, ↓Jg, ↓Jh, ↓Ji, ↓Jj, ↓Jk, ↓Jl, ↓Jm, ↓Jn, ↓Jo, ↓Jp, ↓Jq, ↓Jr, ↓Js, ↓Jt, ↓Ju, ↓Jw, ↓Jx, ↓Jy, ↓Jz, ↓J1, ↓J2, ↓J3, ↓J4, ↓J5, ↓J6, ↓J7, ↓J8, ↓J9, ↓Qaa, ↓Qab, ↓Qac, ↓Qad, ↓Qae, ↓par3_three, ↓Qaf, ↓Qag, ↓Qah, ↓Qai, ↓Qaj, ↓Qak, ↓Qal, ↓Qam, ↓Qan, ↓Qao, ↓Qap, ↓Qaq, ↓Qar, ↓Qas, ↓Qat, ↓Qau, ↓Qav, ↓Qaw, ↓Qax, ↓Qay, ↓Qaz, ↓Qa0, ↓Qa1, ↓Qa2, ↓Qa3, ↓Qa4, ↓Qa5, ↓Qa6, ↓Qa7, ↓Qa8, ↓Qa9, ↓Qba, ↓Qbb, ↓Qbc, ↓Qbd, ↓Qbe, ↓Qbf, ↓Qbg, ↓Qbh, ↓Qbi, ↓Qbj, ↓Qbk, ↓Qbl, List.set_cons_zero, List.set_cons_succ, wipeP]
    rw [k_in_strs (ts := rs.map Road.name) rfl, Bool.bne_false]
    exact hR'
  rw [k_allM]
  have pn := pnT_strs hn8
  have fw : Few (townsP ns) := few_towns (by omega)
  cases ha : ns.all fun n => decide (n ∈ rs.map Road.name) with
  | true =>
    simp -implicitDefEqProofs only [↓Qa, ↓Qb, ↓Qc, ↓Qd, ↓Qe, ↓Qg, ↓Qh, ↓Qi, ↓Qj, ↓Qk, ↓Ql, ↓par2_two, ↓Qm, ↓Qn, ↓Qo, ↓Qp, ↓Qq, ↓Qr, ↓Qs, ↓Qt, ↓Qu, ↓Qv, ↓Qw, ↓Qx, ↓Qy, ↓Qz, ↓Q0, ↓truK_bl, ↓Q3, ↓Q4, ↓Q5, ↓Q6, ↓chK_bl, ↓Q7, ↓Q8, ↓Q9, ↓Ya, ↓Yb, ↓Yc, ↓Yd, ↓Ye, ↓Yf, ↓Yg, ↓Yh, ↓Yi, ↓Yj, ↓Yk, ↓Ym, ↓Yn, ↓Yo, ↓Yp, ↓Yq, ↓Yr, ↓Ys, ↓Yt, ↓Yu, ↓Yv, ↓Yw, ↓Yx, ↓Yy, ↓Yz, ↓Y0, ↓Y1, ↓Y2, ↓Y3, ↓Y4, ↓Y5, ↓Y6, ↓Y7, ↓Y8, ↓Y9, ↓Ja, ↓Jb, ↓Jc, ↓Jd, ↓Je, ↓Jf, ↓Jg, ↓Jh, ↓Ji, ↓Jj, ↓Jk, ↓Jl, ↓Jm, ↓Jn, ↓Jo, ↓Jp, ↓Jq, ↓Jr, ↓Js, ↓Jt, ↓Ju, ↓Jw, ↓Jx, ↓Jy, ↓Jz, ↓J1, ↓J2, ↓J3, ↓J4, ↓J5, ↓J6, ↓J7, ↓J8, ↓J9, ↓Qaa, ↓Qab, ↓Qac, ↓Qad, ↓Qae, ↓par3_three, ↓Qaf, ↓Qag, ↓Qah, ↓Qai, ↓Qaj, ↓Qak, ↓Qal, ↓Qam, ↓Qan, ↓Qao, ↓Qap, ↓Qaq, ↓Qar, ↓Qas, ↓Qat, ↓Qau, ↓Qav, ↓Qaw, ↓Qax, ↓Qay, ↓Qaz, ↓Qa0, ↓Qa1, ↓Qa2, ↓Qa3, ↓Qa4, ↓Qa5, ↓Qa6, ↓Qa7, ↓Qa8, ↓Qa9, ↓Qba, ↓Qbb, ↓Qbc, ↓Qbd, ↓Qbe, ↓Qbf, ↓Qbg, ↓Qbh, ↓Qbi, ↓Qbj, ↓Qbk, ↓Qbl, List.set_cons_zero, List.set_cons_succ, wipeP, if_true, it_roads]
    refine wLcL_allM roadP (fun r => .int (r.len * ((ns.countP (fun n => decide (n = r.name)) : Nat) : Int))) trivial rs (fun r hr R' hR' => ?_) (sz0 (by omega)) ?_
    · simp -implicitDefEqProofs only [w_law_2, ↓Qa, ↓Qb, ↓Qc, ↓Qd, ↓Qe, ↓Qg, ↓Qh, ↓Qi, ↓Qj, ↓Qk, ↓Ql, ↓par2_two, ↓Qm, ↓Qn, ↓Qo, ↓Qp, ↓Qq, ↓Qr, ↓Qs, ↓Qt, ↓Qu, ↓Qv, ↓Qw, ↓Qx, ↓Qy, ↓Qz, ↓Q0, ↓truK_bl, ↓Q3, ↓Q4, ↓Q5, ↓Q6, ↓chK_bl, ↓Q7, ↓Q8, ↓Q9, ↓Ya, ↓Yb, ↓Yc, ↓Yd, ↓Ye, ↓Yf, ↓Yg, ↓Yh, ↓Yi, ↓Yj, ↓Yk, ↓Ym, ↓Yn, ↓Yo, ↓Yp, ↓Yq, ↓Yr, ↓Ys, ↓Yt, ↓Yu, ↓Yv, ↓Yw, ↓Yx, ↓Yy, ↓Yz, ↓Y0, ↓Y1, ↓Y2, ↓Y3, ↓Y4, ↓Y5, ↓Y6, ↓Y7, ↓Y8, ↓Y9, ↓Ja, ↓Jb, ↓Jc, ↓Jd, ↓Je, ↓Jf, ↓Jg, ↓Jh, ↓Ji, ↓Jj, ↓Jk, ↓Jl, ↓Jm, ↓Jn, ↓Jo, ↓Jp, ↓Jq, ↓Jr, ↓Js, ↓Jt, ↓Ju, ↓Jw, ↓Jx, ↓Jy, ↓Jz, ↓J1, ↓J2, ↓J3, ↓J4, ↓J5, ↓J6, ↓J7, ↓J8, ↓J9, ↓Qaa, ↓Qab, ↓Qac, ↓Qad, ↓Qae, ↓par3_three, ↓Qaf, ↓Qag, ↓Qah, ↓Qai, ↓Qaj, ↓Qak, ↓Qal, ↓Qam, ↓Qan, ↓Qao, ↓Qap, ↓Qaq, ↓Qar, ↓Qas, ↓Qat, ↓Qau, ↓Qav, ↓Qaw, ↓Qax, ↓Qay, ↓Qaz, ↓Qa0, ↓Qa1, ↓Qa2, ↓Qa3, ↓Qa4, ↓Qa5, ↓Qa6, ↓Qa7, ↓Qa8, ↓Qa9, ↓Qba, ↓Qbb, ↓Qbc, ↓Qbd, ↓Qbe, ↓Qbf, ↓Qbg, ↓Qbh, ↓Qbi, ↓Qbj, ↓Qbk, ↓Qbl, List.set_cons_zero, List.set_cons_succ, wipeP, ix_road]
      refine ⟨.int r.len, rfl, ?_⟩
      rw [ty_towns]
      refine ⟨trivial, ?_⟩
      refine ⟨.str r.name, rfl, ?_⟩
      rw [k_cntT, Jg]
      have := (roadB_n (ok.rn r hr)).2.2.2.1
      exact ⟨.inl ⟨by omega, by omega⟩, hR'⟩
    refine k_sumM ?_
    rw [sum_cnt nd]
    refine ⟨rfl, t_length_of mem_net pn fw ?_⟩
    unfold lensK
    rw [if_pos (isNames_towns ns)]
    intro ms em
    rw [← town_inj em, if_pos ha]
    have sb := sum_bound ok.rn ns
    show kRepr (.int (lenOf rs ns)) S _
    rw [k_repr_int (by omega)]
    rw [k_repr_int (by omega), Jm, decide_eq_true rfl]
    simp -implicitDefEqProofs only [↓Qa, ↓Qb, ↓Qc, ↓Qd, ↓Qe, ↓Qg, ↓Qh, ↓Qi, ↓Qj, ↓Qk, ↓Ql, ↓par2_two, ↓Qm, ↓Qn, ↓Qo, ↓Qp, ↓Qq, ↓Qr, ↓Qs, ↓Qt, ↓Qu, ↓Qv, ↓Qw, ↓Qx, ↓Qy, ↓Qz, ↓Q0, ↓truK_bl, ↓Q3, ↓Q4, ↓Q5, ↓Q6, ↓chK_bl, ↓Q7, ↓Q8, ↓Q9, ↓Ya, ↓Yb, ↓Yc, ↓Yd, ↓Ye, ↓Yf, ↓Yg, ↓Yh, ↓Yi, ↓Yj, ↓Yk, ↓Ym, ↓Yn, ↓Yo, ↓Yp, ↓Yq, ↓Yr, ↓Ys, ↓Yt, ↓Yu, ↓Yv, ↓Yw, ↓Yx, ↓Yy, ↓Yz, ↓Y0, ↓Y1, ↓Y2, ↓Y3, ↓Y4, ↓Y5, ↓Y6, ↓Y7, ↓Y8, ↓Y9, ↓Ja, ↓Jb, ↓Jc, ↓Jd, ↓Je, ↓Jf, ↓Jg, ↓Jh, ↓Ji, ↓Jj, ↓Jk, ↓Jl, ↓Jm, ↓Jn, ↓Jo, ↓Jp, ↓Jq, ↓Jr, ↓Js, ↓Jt, ↓Ju, ↓Jw, ↓Jx, ↓Jy, ↓Jz, ↓J1, ↓J2, ↓J3, ↓J4, ↓J5, ↓J6, ↓J7, ↓J8, ↓J9, ↓Qaa, ↓Qab, ↓Qac, ↓Qad, ↓Qae, ↓par3_three, ↓Qaf, ↓Qag, ↓Qah, ↓Qai, ↓Qaj, ↓Qak, ↓Qal, ↓Qam, ↓Qan, ↓Qao, ↓Qap, ↓Qaq, ↓Qar, ↓Qas, ↓Qat, ↓Qau, ↓Qav, ↓Qaw, ↓Qax, ↓Qay, ↓Qaz, ↓Qa0, ↓Qa1, ↓Qa2, ↓Qa3, ↓Qa4, ↓Qa5, ↓Qa6, ↓Qa7, ↓Qa8, ↓Qa9, ↓Qba, ↓Qbb, ↓Qbc, ↓Qbd, ↓Qbe, ↓Qbf, ↓Qbg, ↓Qbh, ↓Qbi, ↓Qbj, ↓Qbk, ↓Qbl, List.set_cons_zero, List.set_cons_succ, wipeP, Bool.bne_true, Bool.not_true, Bool.false_eq_true, if_false]
    exact hT _
  | false =>
    simp -implicitDefEqProofs only [↓Qa, ↓Qb, ↓Qc, ↓Qd, ↓Qe, ↓Qg, ↓Qh, ↓Qi, ↓Qj, ↓Qk, ↓Ql, ↓par2_two, ↓Qm, ↓Qn, ↓Qo, ↓Qp, ↓Qq, ↓Qr, ↓Qs, ↓Qt, ↓Qu, ↓Qv, ↓Qw, ↓Qx, ↓Qy, ↓Qz, ↓Q0, ↓truK_bl, ↓Q3, ↓Q4, ↓Q5, ↓Q6, ↓chK_bl, ↓Q7, ↓Q8, ↓Q9, ↓Ya, ↓Yb, ↓Yc, ↓Yd, ↓Ye, ↓Yf, ↓Yg, ↓Yh, ↓Yi, ↓Yj, ↓Yk, ↓Ym, ↓Yn, ↓Yo, ↓Yp, ↓Yq, ↓Yr, ↓Ys, ↓Yt, ↓Yu, ↓Yv, ↓Yw, ↓Yx, ↓Yy, ↓Yz, ↓Y0, ↓Y1, ↓Y2, ↓Y3, ↓Y4, ↓Y5, ↓Y6, ↓Y7, ↓Y8, ↓Y9, ↓Ja, ↓Jb, ↓Jc, ↓Jd, ↓Je, ↓Jf, ↓Jg, ↓Jh, ↓Ji, ↓Jj, ↓Jk, ↓Jl, ↓Jm, ↓Jn, ↓Jo, ↓Jp, ↓Jq, ↓Jr, ↓Js, ↓Jt, ↓Ju, ↓Jw, ↓Jx, ↓Jy, ↓Jz, ↓J1, ↓J2, ↓J3, ↓J4, ↓J5, ↓J6, ↓J7, ↓J8, ↓J9, ↓Qaa, ↓Qab, ↓Qac, ↓Qad, ↓Qae, ↓par3_three, ↓Qaf, ↓Qag, ↓Qah, ↓Qai, ↓Qaj, ↓Qak, ↓Qal, ↓Qam, ↓Qan, ↓Qao, ↓Qap, ↓Qaq, ↓Qar, ↓Qas, ↓Qat, ↓Qau, ↓Qav, ↓Qaw, ↓Qax, ↓Qay, ↓Qaz, ↓Qa0, ↓Qa1, ↓Qa2, ↓Qa3, ↓Qa4, ↓Qa5, ↓Qa6, ↓Qa7, ↓Qa8, ↓Qa9, ↓Qba, ↓Qbb, ↓Qbc, ↓Qbd, ↓Qbe, ↓Qbf, ↓Qbg, ↓Qbh, ↓Qbi, ↓Qbj, ↓Qbk, ↓Qbl, List.set_cons_zero, List.set_cons_succ, wipeP, Bool.false_eq_true, if_false]
    refine t_word fun R' Z' _ hE => ?_
    simp -implicitDefEqProofs only [w_law_3, ↓Qa, ↓Qb, ↓Qc, ↓Qd, ↓Qe, ↓Qg, ↓Qh, ↓Qi, ↓Qj, ↓Qk, ↓Ql, ↓par2_two, ↓Qm, ↓Qn, ↓Qo, ↓Qp, ↓Qq, ↓Qr, ↓Qs, ↓Qt, ↓Qu, ↓Qv, ↓Qw, ↓Qx, ↓Qy, ↓Qz, ↓Q0, ↓truK_bl, ↓Q3, ↓Q4, ↓Q5, ↓Q6, ↓chK_bl, ↓Q7, ↓Q8, ↓Q9, ↓Ya, ↓Yb, ↓Yc, ↓Yd, ↓Ye, ↓Yf, ↓Yg, ↓Yh, ↓Yi, ↓Yj, ↓Yk, ↓Ym, ↓Yn, ↓Yo, ↓Yp, ↓Yq, ↓Yr, ↓Ys, ↓Yt, ↓Yu, ↓Yv, ↓Yw, ↓Yx, ↓Yy, ↓Yz, ↓Y0, ↓Y1, ↓Y2, ↓Y3, ↓Y4, ↓Y5, ↓Y6, ↓Y7, ↓Y8, ↓Y9, ↓Ja, ↓Jb, ↓Jc, ↓Jd, ↓Je, ↓Jf, ↓Jg, ↓Jh, ↓Ji, ↓Jj, ↓Jk, ↓Jl, ↓Jm, ↓Jn, ↓Jo, ↓Jp, ↓Jq, ↓Jr, ↓Js, ↓Jt, ↓Ju, ↓Jw, ↓Jx, ↓Jy, ↓Jz, ↓J1, ↓J2, ↓J3, ↓J4, ↓J5, ↓J6, ↓J7, ↓J8, ↓J9, ↓Qaa, ↓Qab, ↓Qac, ↓Qad, ↓Qae, ↓par3_three, ↓Qaf, ↓Qag, ↓Qah, ↓Qai, ↓Qaj, ↓Qak, ↓Qal, ↓Qam, ↓Qan, ↓Qao, ↓Qap, ↓Qaq, ↓Qar, ↓Qas, ↓Qat, ↓Qau, ↓Qav, ↓Qaw, ↓Qax, ↓Qay, ↓Qaz, ↓Qa0, ↓Qa1, ↓Qa2, ↓Qa3, ↓Qa4, ↓Qa5, ↓Qa6, ↓Qa7, ↓Qa8, ↓Qa9, ↓Qba, ↓Qbb, ↓Qbc, ↓Qbd, ↓Qbe, ↓Qbf, ↓Qbg, ↓Qbh, ↓Qbi, ↓Qbj, ↓Qbk, ↓Qbl, List.set_cons_zero, List.set_cons_succ, wipeP]
    refine ⟨rfl, t_length_of mem_net pn fw ?_⟩
    unfold lensK
    rw [if_pos (isNames_towns ns)]
    intro ms em
    rw [← town_inj em, if_neg (by rw [ha]; decide)]
    refine hE _ _ _ w_road ?_
    rw [Jm, decide_eq_true rfl]
    simp -implicitDefEqProofs only [↓Qa, ↓Qb, ↓Qc, ↓Qd, ↓Qe, ↓Qg, ↓Qh, ↓Qi, ↓Qj, ↓Qk, ↓Ql, ↓par2_two, ↓Qm, ↓Qn, ↓Qo, ↓Qp, ↓Qq, ↓Qr, ↓Qs, ↓Qt, ↓Qu, ↓Qv, ↓Qw, ↓Qx, ↓Qy, ↓Qz, ↓Q0, ↓truK_bl, ↓Q3, ↓Q4, ↓Q5, ↓Q6, ↓chK_bl, ↓Q7, ↓Q8, ↓Q9, ↓Ya, ↓Yb, ↓Yc, ↓Yd, ↓Ye, ↓Yf, ↓Yg, ↓Yh, ↓Yi, ↓Yj, ↓Yk, ↓Ym, ↓Yn, ↓Yo, ↓Yp, ↓Yq, ↓Yr, ↓Ys, ↓Yt, ↓Yu, ↓Yv, ↓Yw, ↓Yx, ↓Yy, ↓Yz, ↓Y0, ↓Y1, ↓Y2, ↓Y3, ↓Y4, ↓Y5, ↓Y6, ↓Y7, ↓Y8, ↓Y9, ↓Ja, ↓Jb, ↓Jc, ↓Jd, ↓Je, ↓Jf, ↓Jg, ↓Jh, ↓Ji, ↓Jj, ↓Jk, ↓Jl, ↓Jm, ↓Jn, ↓Jo, ↓Jp, ↓Jq, ↓Jr, ↓Js, ↓Jt, ↓Ju, ↓Jw, ↓Jx, ↓Jy, ↓Jz, ↓J1, ↓J2, ↓J3, ↓J4, ↓J5, ↓J6, ↓J7, ↓J8, ↓J9, ↓Qaa, ↓Qab, ↓Qac, ↓Qad, ↓Qae, ↓par3_three, ↓Qaf, ↓Qag, ↓Qah, ↓Qai, ↓Qaj, ↓Qak, ↓Qal, ↓Qam, ↓Qan, ↓Qao, ↓Qap, ↓Qaq, ↓Qar, ↓Qas, ↓Qat, ↓Qau, ↓Qav, ↓Qaw, ↓Qax, ↓Qay, ↓Qaz, ↓Qa0, ↓Qa1, ↓Qa2, ↓Qa3, ↓Qa4, ↓Qa5, ↓Qa6, ↓Qa7, ↓Qa8, ↓Qa9, ↓Qba, ↓Qbb, ↓Qbc, ↓Qbd, ↓Qbe, ↓Qbf, ↓Qbg, ↓Qbh, ↓Qbi, ↓Qbj, ↓Qbk, ↓Qbl, List.set_cons_zero, List.set_cons_succ, wipeP, Bool.bne_true, Bool.not_true, Bool.false_eq_true, if_false]
    exact hT _
theorem law_in (hP : P.nx = N) (ok : NetOk ts rs) (h0 : ts ≠ []) (hh : HandAt a S) {y8 y9 y10 y11 y12 y13 y14 y15 : Option PV}
    (hN : ∀ y8 y9 y10 y11 y12 y13 y14 y15 S', HandAt a S' → Off a S S' → N (sl x0 y2 y7 a K ts rs y8 y9 y10 y11 y12 y13 y14 y15) S') :
    w_law_13 K P (sl x0 y2 y7 a K ts rs y8 y9 y10 y11 y12 y13 y14 y15) S := by
  have tl := ok.tl
  have rl := ok.rl
  have nd := roads_nodup ok.ra
  unfold w_law_13
  refine seq_any fun N1 e1 => ?_
  simp -implicitDefEqProofs only [↓Qa, ↓Qb, ↓Qc, ↓Qd, ↓Qe, ↓Qg, ↓Qh, ↓Qi, ↓Qj, ↓Qk, ↓Ql, ↓par2_two, ↓Qm, ↓Qn, ↓Qo, ↓Qp, ↓Qq, ↓Qr, ↓Qs, ↓Qt, ↓Qu, ↓Qv, ↓Qw, ↓Qx, ↓Qy, ↓Qz, ↓Q0, ↓truK_bl, ↓Q3, ↓Q4, ↓Q5, ↓Q6, ↓chK_bl, ↓Q7, ↓Q8, ↓Q9, ↓Ya, ↓Yb, ↓Yc, ↓Yd, ↓Ye, ↓Yf, ↓Yg, ↓Yh, ↓Yi, ↓Yj, ↓Yk, ↓Ym, ↓Yn, ↓Yo, ↓Yp, ↓Yq, ↓Yr, ↓Ys, ↓Yt, ↓Yu, ↓Yv, ↓Yw, ↓Yx, ↓Yy, ↓Yz, ↓Y0, ↓Y1, ↓Y2, ↓Y3, ↓Y4, ↓Y5, ↓Y6, ↓Y7, ↓Y8, ↓Y9, ↓Ja, ↓Jb, ↓Jc, ↓Jd, ↓Je, ↓Jf, ↓Jg, ↓Jh, ↓Ji, ↓Jj, ↓Jk, ↓Jl, ↓Jm, ↓Jn, ↓Jo, ↓Jp, ↓Jq, ↓Jr, ↓Js, ↓Jt, ↓Ju, ↓Jw, ↓Jx, ↓Jy, ↓Jz, ↓J1, ↓J2, ↓J3, ↓J4, ↓J5, ↓J6, ↓J7, ↓J8, ↓J9, ↓Qaa, ↓Qab, ↓Qac, ↓Qad, ↓Qae, ↓par3_three, ↓Qaf, ↓Qag, ↓Qah, ↓Qai, ↓Qaj, ↓Qak, ↓Qal, ↓Qam, ↓Qan, ↓Qao, ↓Qap, ↓Qaq, ↓Qar, ↓Qas, ↓Qat, ↓Qau, ↓Qav, ↓Qaw, ↓Qax, ↓Qay, ↓Qaz, ↓Qa0, ↓Qa1, ↓Qa2, ↓Qa3, ↓Qa4, ↓Qa5, ↓Qa6, ↓Qa7, ↓Qa8, ↓Qa9, ↓Qba, ↓Qbb, ↓Qbc, ↓Qbd, ↓Qbe, ↓Qbf, ↓Qbg, ↓Qbh, ↓Qbi, ↓Qbj, ↓Qbk, ↓Qbl, List.set_cons_zero, List.set_cons_succ, wipeP]
  refine ⟨rfl, t_anyT (xs := ts.map PV.str) rfl hh (by rw [List.length_map]; exact List.length_pos_iff.mpr h0) (by rw [List.length_map]; omega) fun z hz S1 h1 o1 => ?_⟩
  obtain ⟨x, hx, rfl⟩ := List.mem_map.mp hz
  rw [e1]
  unfold w_law_12
  refine seq_any fun N2 e2 => ?_
  simp -implicitDefEqProofs only [↓Qa, ↓Qb, ↓Qc, ↓Qd, ↓Qe, ↓Qg, ↓Qh, ↓Qi, ↓Qj, ↓Qk, ↓Ql, ↓par2_two, ↓Qm, ↓Qn, ↓Qo, ↓Qp, ↓Qq, ↓Qr, ↓Qs, ↓Qt, ↓Qu, ↓Qv, ↓Qw, ↓Qx, ↓Qy, ↓Qz, ↓Q0, ↓truK_bl, ↓Q3, ↓Q4, ↓Q5, ↓Q6, ↓chK_bl, ↓Q7, ↓Q8, ↓Q9, ↓Ya, ↓Yb, ↓Yc, ↓Yd, ↓Ye, ↓Yf, ↓Yg, ↓Yh, ↓Yi, ↓Yj, ↓Yk, ↓Ym, ↓Yn, ↓Yo, ↓Yp, ↓Yq, ↓Yr, ↓Ys, ↓Yt, ↓Yu, ↓Yv, ↓Yw, ↓Yx, ↓Yy, ↓Yz, ↓Y0, ↓Y1, ↓Y2, ↓Y3, ↓Y4, ↓Y5, ↓Y6, ↓Y7, ↓Y8, ↓Y9, ↓Ja, ↓Jb, ↓Jc, ↓Jd, ↓Je, ↓Jf, ↓Jg, ↓Jh, ↓Ji, ↓Jj, ↓Jk, ↓Jl, ↓Jm, ↓Jn, ↓Jo, ↓Jp, ↓Jq, ↓Jr, ↓Js, ↓Jt, ↓Ju, ↓Jw, ↓Jx, ↓Jy, ↓Jz, ↓J1, ↓J2, ↓J3, ↓J4, ↓J5, ↓J6, ↓J7, ↓J8, ↓J9, ↓Qaa, ↓Qab, ↓Qac, ↓Qad, ↓Qae, ↓par3_three, ↓Qaf, ↓Qag, ↓Qah, ↓Qai, ↓Qaj, ↓Qak, ↓Qal, ↓Qam, ↓Qan, ↓Qao, ↓Qap, ↓Qaq, ↓Qar, ↓Qas, ↓Qat, ↓Qau, ↓Qav, ↓Qaw, ↓Qax, ↓Qay, ↓Qaz, ↓Qa0, ↓Qa1, ↓Qa2, ↓Qa3, ↓Qa4, ↓Qa5, ↓Qa6, ↓Qa7, ↓Qa8, ↓Qa9, ↓Qba, ↓Qbb, ↓Qbc, ↓Qbd, ↓Qbe, ↓Qbf, ↓Qbg, ↓Qbh, ↓Qbi, ↓Qbj, ↓Qbk, ↓Qbl, List.set_cons_zero, List.set_cons_succ, wipeP]
  refine ⟨rfl, t_lnames h1 ok fun ns S2 nl n8 h2 o2 => ?_⟩
  have off2 := o1.tr o2
  rw [e2]
  unfold w_law_11
  refine seq_any fun N3 e3 => ?_
  simp -implicitDefEqProofs only [↓Qa, ↓Qb, ↓Qc, ↓Qd, ↓Qe, ↓Qg, ↓Qh, ↓Qi, ↓Qj, ↓Qk, ↓Ql, ↓par2_two, ↓Qm, ↓Qn, ↓Qo, ↓Qp, ↓Qq, ↓Qr, ↓Qs, ↓Qt, ↓Qu, ↓Qv, ↓Qw, ↓Qx, ↓Qy, ↓Qz, ↓Q0, ↓truK_bl, ↓Q3, ↓Q4, ↓Q5, ↓Q6, ↓chK_bl, ↓Q7, ↓Q8, ↓Q9, ↓Ya, ↓Yb, ↓Yc, ↓Yd, ↓Ye, ↓Yf, ↓Yg, ↓Yh, ↓Yi, ↓Yj, ↓Yk, ↓Ym, ↓Yn, ↓Yo, ↓Yp, ↓Yq, ↓Yr, ↓Ys, ↓Yt, ↓Yu, ↓Yv, ↓Yw, ↓Yx, ↓Yy, ↓Yz, ↓Y0, ↓Y1, ↓Y2, ↓Y3, ↓Y4, ↓Y5, ↓Y6, ↓Y7, ↓Y8, ↓Y9, ↓Ja, ↓Jb, ↓Jc, ↓Jd, ↓Je, ↓Jf, ↓Jg, ↓Jh, ↓Ji, ↓Jj, ↓Jk, ↓Jl, ↓Jm, ↓Jn, ↓Jo, ↓Jp, ↓Jq, ↓Jr, ↓Js, ↓Jt, ↓Ju, ↓Jw, ↓Jx, ↓Jy, ↓Jz, ↓J1, ↓J2, ↓J3, ↓J4, ↓J5, ↓J6, ↓J7, ↓J8, ↓J9, ↓Qaa, ↓Qab, ↓Qac, ↓Qad, ↓Qae, ↓par3_three, ↓Qaf, ↓Qag, ↓Qah, ↓Qai, ↓Qaj, ↓Qak, ↓Qal, ↓Qam, ↓Qan, ↓Qao, ↓Qap, ↓Qaq, ↓Qar, ↓Qas, ↓Qat, ↓Qau, ↓Qav, ↓Qaw, ↓Qax, ↓Qay, ↓Qaz, ↓Qa0, ↓Qa1, ↓Qa2, ↓Qa3, ↓Qa4, ↓Qa5, ↓Qa6, ↓Qa7, ↓Qa8, ↓Qa9, ↓Qba, ↓Qbb, ↓Qbc, ↓Qbd, ↓Qbe, ↓Qbf, ↓Qbg, ↓Qbh, ↓Qbi, ↓Qbj, ↓Qbk, ↓Qbl, List.set_cons_zero, List.set_cons_succ, wipeP]
  refine ⟨rfl, t_gone nd (by omega) (by omega) ⟨rfl, t_gone nd (by omega) (by omega) ?_⟩⟩
  rw [e3]
  have okF : WayOk (wayR rs false x ns) := wayOk ok hx (by omega)
  have okT : WayOk (wayR rs true x ns) := wayOk ok hx (by omega)
  unfold w_law_10
  refine seq_any fun N4 e4 => ?_
  simp -implicitDefEqProofs only [↓Qa, ↓Qb, ↓Qc, ↓Qd, ↓Qe, ↓Qg, ↓Qh, ↓Qi, ↓Qj, ↓Qk, ↓Ql, ↓par2_two, ↓Qm, ↓Qn, ↓Qo, ↓Qp, ↓Qq, ↓Qr, ↓Qs, ↓Qt, ↓Qu, ↓Qv, ↓Qw, ↓Qx, ↓Qy, ↓Qz, ↓Q0, ↓truK_bl, ↓Q3, ↓Q4, ↓Q5, ↓Q6, ↓chK_bl, ↓Q7, ↓Q8, ↓Q9, ↓Ya, ↓Yb, ↓Yc, ↓Yd, ↓Ye, ↓Yf, ↓Yg, ↓Yh, ↓Yi, ↓Yj, ↓Yk, ↓Ym, ↓Yn, ↓Yo, ↓Yp, ↓Yq, ↓Yr, ↓Ys, ↓Yt, ↓Yu, ↓Yv, ↓Yw, ↓Yx, ↓Yy, ↓Yz, ↓Y0, ↓Y1, ↓Y2, ↓Y3, ↓Y4, ↓Y5, ↓Y6, ↓Y7, ↓Y8, ↓Y9, ↓Ja, ↓Jb, ↓Jc, ↓Jd, ↓Je, ↓Jf, ↓Jg, ↓Jh, ↓Ji, ↓Jj, ↓Jk, ↓Jl, ↓Jm, ↓Jn, ↓Jo, ↓Jp, ↓Jq, ↓Jr, ↓Js, ↓Jt, ↓Ju, ↓Jw, ↓Jx, ↓Jy, ↓Jz, ↓J1, ↓J2, ↓J3, ↓J4, ↓J5, ↓J6, ↓J7, ↓J8, ↓J9, ↓Qaa, ↓Qab, ↓Qac, ↓Qad, ↓Qae, ↓par3_three, ↓Qaf, ↓Qag, ↓Qah, ↓Qai, ↓Qaj, ↓Qak, ↓Qal, ↓Qam, ↓Qan, ↓Qao, ↓Qap, ↓Qaq, ↓Qar, ↓Qas, ↓Qat, ↓Qau, ↓Qav, ↓Qaw, ↓Qax, ↓Qay, ↓Qaz, ↓Qa0, ↓Qa1, ↓Qa2, ↓Qa3, ↓Qa4, ↓Qa5, ↓Qa6, ↓Qa7, ↓Qa8, ↓Qa9, ↓Qba, ↓Qbb, ↓Qbc, ↓Qbd, ↓Qbe, ↓Qbf, ↓Qbg, ↓Qbh, ↓Qbi, ↓Qbj, ↓Qbk, ↓Qbl, List.set_cons_zero, List.set_cons_succ, wipeP]
  refine ⟨rfl, t_ends_by mem_net (pn_name (ok.tn _ hx)) (pnT_strs n8) (few_towns (by omega)) (ends_ok hx ⟨rfl, t_ends_walked mem_net (pn_name (ok.tn _ hx)) (pnT_strs n8) (few_towns (by omega)) (ends_ok hx ?_)⟩)⟩
  refine ⟨sz0 (by simp), ?_⟩
  rw [k_repr_ways okF okT]
  refine ⟨sz0 (by simp), ?_⟩
  rw [k_repr_ways okF okT, Jm, decide_eq_true rfl]
  simp -implicitDefEqProofs only [↓Qa, ↓Qb, ↓Qc, ↓Qd, ↓Qe, ↓Qg, ↓Qh, ↓Qi, ↓Qj, ↓Qk, ↓Ql, ↓par2_two, ↓Qm, ↓Qn, ↓Qo, ↓Qp, ↓Qq, ↓Qr, ↓Qs, ↓Qt, ↓Qu, ↓Qv, ↓Qw, ↓Qx, ↓Qy, ↓Qz, ↓Q0, ↓truK_bl, ↓Q3, ↓Q4, ↓Q5, ↓Q6, ↓chK_bl, ↓Q7, ↓Q8, ↓Q9, ↓Ya, ↓Yb, ↓Yc, ↓Yd, ↓Ye, ↓Yf, ↓Yg, ↓Yh, ↓Yi, ↓Yj, ↓Yk, ↓Ym, ↓Yn, ↓Yo, ↓Yp, ↓Yq, ↓Yr, ↓Ys, ↓Yt, ↓Yu, ↓Yv, ↓Yw, ↓Yx, ↓Yy, ↓Yz, ↓Y0, ↓Y1, ↓Y2, ↓Y3, ↓Y4, ↓Y5, ↓Y6, ↓Y7, ↓Y8, ↓Y9, ↓Ja, ↓Jb, ↓Jc, ↓Jd, ↓Je, ↓Jf, ↓Jg, ↓Jh, ↓Ji, ↓Jj, ↓Jk, ↓Jl, ↓Jm, ↓Jn, ↓Jo, ↓Jp, ↓Jq, ↓Jr, ↓Js, ↓Jt, ↓Ju, ↓Jw, ↓Jx, ↓Jy, ↓Jz, ↓J1, ↓J2, ↓J3, ↓J4, ↓J5, ↓J6, ↓J7, ↓J8, ↓J9, ↓Qaa, ↓Qab, ↓Qac, ↓Qad, ↓Qae, ↓par3_three, ↓Qaf, ↓Qag, ↓Qah, ↓Qai, ↓Qaj, ↓Qak, ↓Qal, ↓Qam, ↓Qan, ↓Qao, ↓Qap, ↓Qaq, ↓Qar, ↓Qas, ↓Qat, ↓Qau, ↓Qav, ↓Qaw, ↓Qax, ↓Qay, ↓Qaz, ↓Qa0, ↓Qa1, ↓Qa2, ↓Qa3, ↓Qa4, ↓Qa5, ↓Qa6, ↓Qa7, ↓Qa8, ↓Qa9, ↓Qba, ↓Qbb, ↓Qbc, ↓Qbd, ↓Qbe, ↓Qbf, ↓Qbg, ↓Qbh, ↓Qbi, ↓Qbj, ↓Qbk, ↓Qbl, List.set_cons_zero, List.set_cons_succ, wipeP, Bool.bne_true, Bool.not_true, Bool.false_eq_true, if_false]
  rw [e4]
  unfold w_law_9
  refine seq_any fun N5 e5 => ?_
  have go : N5 (sl x0 y2 y7 a K ts rs (some (.str x)) (some (townsP ns)) (some (wayP (wayR rs false x ns))) (some (wayP (wayR rs true x ns))) y12 y13 y14 y15) S2 := by
    rw [e5]
    exact law_len (x := x) ok nl n8 fun y12 => law_on hP ok hx nl n8 h2 off2 fun y12 y13 y14 y15 S' h' o' => hN _ _ _ _ _ _ _ _ S' h' o'
  cases hg : goR rs false x ns with
  | none =>
    have e : wayR rs false x ns = none := by unfold wayR; rw [hg]; rfl
    rw [e] at go ⊢
    simp -implicitDefEqProofs only [wayP, ↓Qa, ↓Qb, ↓Qc, ↓Qd, ↓Qe, ↓Qg, ↓Qh, ↓Qi, ↓Qj, ↓Qk, ↓Ql, ↓par2_two, ↓Qm, ↓Qn, ↓Qo, ↓Qp, ↓Qq, ↓Qr, ↓Qs, ↓Qt, ↓Qu, ↓Qv, ↓Qw, ↓Qx, ↓Qy, ↓Qz, ↓Q0, ↓truK_bl, ↓Q3, ↓Q4, ↓Q5, ↓Q6, ↓chK_bl, ↓Q7, ↓Q8, ↓Q9, ↓Ya, ↓Yb, ↓Yc, ↓Yd, ↓Ye, ↓Yf, ↓Yg, ↓Yh, ↓Yi, ↓Yj, ↓Yk, ↓Ym, ↓Yn, ↓Yo, ↓Yp, ↓Yq, ↓Yr, ↓Ys, ↓Yt, ↓Yu, ↓Yv, ↓Yw, ↓Yx, ↓Yy, ↓Yz, ↓Y0, ↓Y1, ↓Y2, ↓Y3, ↓Y4, ↓Y5, ↓Y6, ↓Y7, ↓Y8, ↓Y9, ↓Ja, ↓Jb, ↓Jc, ↓Jd, ↓Je, ↓Jf, ↓Jg, ↓Jh, ↓Ji, ↓Jj, ↓Jk, ↓Jl, ↓Jm, ↓Jn, ↓Jo, ↓Jp, ↓Jq, ↓Jr, ↓Js, ↓Jt, ↓Ju, ↓Jw, ↓Jx, ↓Jy, ↓Jz, ↓J1, ↓J2, ↓J3, ↓J4, ↓J5, ↓J6, ↓J7, ↓J8, ↓J9, ↓Qaa, ↓Qab, ↓Qac, ↓Qad, ↓Qae, ↓par3_three, ↓Qaf, ↓Qag, ↓Qah, ↓Qai, ↓Qaj, ↓Qak, ↓Qal, ↓Qam, ↓Qan, ↓Qao, ↓Qap, ↓Qaq, ↓Qar, ↓Qas, ↓Qat, ↓Qau, ↓Qav, ↓Qaw, ↓Qax, ↓Qay, ↓Qaz, ↓Qa0, ↓Qa1, ↓Qa2, ↓Qa3, ↓Qa4, ↓Qa5, ↓Qa6, ↓Qa7, ↓Qa8, ↓Qa9, ↓Qba, ↓Qbb, ↓Qbc, ↓Qbd, ↓Qbe, ↓Qbf, ↓Qbg, ↓Qbh, ↓Qbi, ↓Qbj, ↓Qbk, ↓Qbl, List.set_cons_zero, List.set_cons_succ, wipeP, Bool.not_true, Bool.false_eq_true, if_false]
    exact go
  | some w =>
    have e : wayR rs false x ns = some (x :: w) := by unfold wayR; rw [hg]; rfl
    have e' : wayR rs true x ns = some (x :: w) := by unfold wayR; rw [goR_tie hg]; rfl
    rw [e, e'] at go ⊢
    rw [e] at okF
    have is0 : ∀ (S : Sto) (R' : RK), kIs true (wayP (some (x :: w))) .non S R' = R' (.bl true) S := fun _ _ => rfl
    simp -implicitDefEqProofs only [↓Qa, ↓Qb, ↓Qc, ↓Qd, ↓Qe, ↓Qg, ↓Qh, ↓Qi, ↓Qj, ↓Qk, ↓Ql, ↓par2_two, ↓Qm, ↓Qn, ↓Qo, ↓Qp, ↓Qq, ↓Qr, ↓Qs, ↓Qt, ↓Qu, ↓Qv, ↓Qw, ↓Qx, ↓Qy, ↓Qz, ↓Q0, ↓truK_bl, ↓Q3, ↓Q4, ↓Q5, ↓Q6, ↓chK_bl, ↓Q7, ↓Q8, ↓Q9, ↓Ya, ↓Yb, ↓Yc, ↓Yd, ↓Ye, ↓Yf, ↓Yg, ↓Yh, ↓Yi, ↓Yj, ↓Yk, ↓Ym, ↓Yn, ↓Yo, ↓Yp, ↓Yq, ↓Yr, ↓Ys, ↓Yt, ↓Yu, ↓Yv, ↓Yw, ↓Yx, ↓Yy, ↓Yz, ↓Y0, ↓Y1, ↓Y2, ↓Y3, ↓Y4, ↓Y5, ↓Y6, ↓Y7, ↓Y8, ↓Y9, ↓Ja, ↓Jb, ↓Jc, ↓Jd, ↓Je, ↓Jf, ↓Jg, ↓Jh, ↓Ji, ↓Jj, ↓Jk, ↓Jl, ↓Jm, ↓Jn, ↓Jo, ↓Jp, ↓Jq, ↓Jr, ↓Js, ↓Jt, ↓Ju, ↓Jw, ↓Jx, ↓Jy, ↓Jz, ↓J1, ↓J2, ↓J3, ↓J4, ↓J5, ↓J6, ↓J7, ↓J8, ↓J9, ↓Qaa, ↓Qab, ↓Qac, ↓Qad, ↓Qae, ↓par3_three, ↓Qaf, ↓Qag, ↓Qah, ↓Qai, ↓Qaj, ↓Qak, ↓Qal, ↓Qam, ↓Qan, ↓Qao, ↓Qap, ↓Qaq, ↓Qar, ↓Qas, ↓Qat, ↓Qau, ↓Qav, ↓Qaw, ↓Qax, ↓Qay, ↓Qaz, ↓Qa0, ↓Qa1, ↓Qa2, ↓Qa3, ↓Qa4, ↓Qa5, ↓Qa6, ↓Qa7, ↓Qa8, ↓Qa9, ↓Qba, ↓Qbb, ↓Qbc, ↓Qbd, ↓Qbe, ↓Qbf, ↓Qbg, ↓Qbh, ↓Qbi, ↓Qbj, ↓Qbk, ↓Qbl, List.set_cons_zero, List.set_cons_succ, wipeP, is0, if_true]
    rw [k_eq_way okF okF, decide_eq_true rfl]
    simp -implicitDefEqProofs only [↓Qa, ↓Qb, ↓Qc, ↓Qd, ↓Qe, ↓Qg, ↓Qh, ↓Qi, ↓Qj, ↓Qk, ↓Ql, ↓par2_two, ↓Qm, ↓Qn, ↓Qo, ↓Qp, ↓Qq, ↓Qr, ↓Qs, ↓Qt, ↓Qu, ↓Qv, ↓Qw, ↓Qx, ↓Qy, ↓Qz, ↓Q0, ↓truK_bl, ↓Q3, ↓Q4, ↓Q5, ↓Q6, ↓chK_bl, ↓Q7, ↓Q8, ↓Q9, ↓Ya, ↓Yb, ↓Yc, ↓Yd, ↓Ye, ↓Yf, ↓Yg, ↓Yh, ↓Yi, ↓Yj, ↓Yk, ↓Ym, ↓Yn, ↓Yo, ↓Yp, ↓Yq, ↓Yr, ↓Ys, ↓Yt, ↓Yu, ↓Yv, ↓Yw, ↓Yx, ↓Yy, ↓Yz, ↓Y0, ↓Y1, ↓Y2, ↓Y3, ↓Y4, ↓Y5, ↓Y6, ↓Y7, ↓Y8, ↓Y9, ↓Ja, ↓Jb, ↓Jc, ↓Jd, ↓Je, ↓Jf, ↓Jg, ↓Jh, ↓Ji, ↓Jj, ↓Jk, ↓Jl, ↓Jm, ↓Jn, ↓Jo, ↓Jp, ↓Jq, ↓Jr, ↓Js, ↓Jt, ↓Ju, ↓Jw, ↓Jx, ↓Jy, ↓Jz, ↓J1, ↓J2, ↓J3, ↓J4, ↓J5, ↓J6, ↓J7, ↓J8, ↓J9, ↓Qaa, ↓Qab, ↓Qac, ↓Qad, ↓Qae, ↓par3_three, ↓Qaf, ↓Qag, ↓Qah, ↓Qai, ↓Qaj, ↓Qak, ↓Qal, ↓Qam, ↓Qan, ↓Qao, ↓Qap, ↓Qaq, ↓Qar, ↓Qas, ↓Qat, ↓Qau, ↓Qav, ↓Qaw, ↓Qax, ↓Qay, ↓Qaz, ↓Qa0, ↓Qa1, ↓Qa2, ↓Qa3, ↓Qa4, ↓Qa5, ↓Qa6, ↓Qa7, ↓Qa8, ↓Qa9, ↓Qba, ↓Qbb, ↓Qbc, ↓Qbd, ↓Qbe, ↓Qbf, ↓Qbg, ↓Qbh, ↓Qbi, ↓Qbj, ↓Qbk, ↓Qbl, List.set_cons_zero, List.set_cons_succ, wipeP, Bool.bne_true, Bool.not_true, Bool.false_eq_true, if_false]
    exact go
end

section
variable {K : PySem.W.Frag} {S S0 : Sto} {P : PEnds} {x0 y2 : Option PV} {a : Addr} {ts : List Str} {rs : List Road}
theorem law_turns (Q : PEnds) {N : Slots → Sto → Prop} (hQ : Q.nx = N) (ok : NetOk ts rs) (hh : HandAt a S) (kp : KpS a S0 S) {y7 y8 y9 y10 y11 y12 y13 y14 y15 : Option PV}
    (hN : ∀ y7 y8 y9 y10 y11 y12 y13 y14 y15 S', HandAt a S' → KpS a S0 S' → N (sl x0 y2 y7 a K ts rs y8 y9 y10 y11 y12 y13 y14 y15) S') (n : Nat) (h0 : n ≠ 0 → ts ≠ []) :
    wForL (fun _ => True) (.nm 7) (w_law_13 K) Q ((List.range n).map fun (k : Nat) => PV.int (0 + k)) (sl x0 y2 y7 a K ts rs y8 y9 y10 y11 y12 y13 y14 y15) S := by
  refine wForL_inv (fun (k : Nat) => PV.int (0 + k)) (fun rest ρ S' => (rest ≠ [] → ts ≠ []) ∧ HandAt a S' ∧ KpS a S0 S' ∧ ∃ y7 y8 y9 y10 y11 y12 y13 y14 y15, ρ = sl x0 y2 y7 a K ts rs y8 y9 y10 y11 y12 y13 y14 y15)
    (fun k rest ρ S' ⟨hne, h1, h2, y7, y8, y9, y10, y11, y12, y13, y14, y15, er⟩ => ⟨trivial, fun N' hN' => ?_⟩) (fun ρ S' ⟨hne, h1, h2, y7, y8, y9, y10, y11, y12, y13, y14, y15, er⟩ => ⟨trivial, ?_⟩) (List.range n) _ S ⟨fun z => h0 fun e => z (by rw [e]; rfl), hh, kp, _, _, _, _, _, _, _, _, _, rfl⟩
  · subst er
    rw [Yv]
    exact law_in (y7 := some (.int (0 + k))) rfl ok (hne (by simp)) h1 fun _ _ _ _ _ _ _ _ S'' g1 g2 => hN' _ _ ⟨fun _ => hne (by simp), g1, h2.off g2, _, _, _, _, _, _, _, _, _, rfl⟩
  · subst er
    subst hQ
    exact hN _ _ _ _ _ _ _ _ _ S' h1 h2
end
theorem pure_law (K : PySem.W.Frag) : ∀ ps S R Z, ps.length = 1 → sp_law K ps S R Z → w_law K (fin R Z) (startP n_law ps) S := by
  intro ps S R Z hl h
  obtain ⟨ns, rfl, hR⟩ := h
  have e : startP n_law [.lst (ns.map PV.int)] = [some (.lst (ns.map PV.int)), none, none, none, none, none, none, none, none, none, none, none, none, none, none, none, none, none] := rfl
  rw [e]
  obtain ⟨x0, hx0⟩ : ∃ p, p = PV.lst (ns.map PV.int) := ⟨_, rfl⟩
  have hhand : ∀ S (R' : RK) Z', (∀ a S', S a = none → HandAt a S' → Off a S S' → R' (.ref a) S') → sp__law_hand K [x0] S R' Z' := fun S R' Z' h => ⟨ns, by rw [hx0], h⟩
  rw [← hx0]
  unfold w_law
  refine seq_any fun N1 eN1 => ?_
  simp -implicitDefEqProofs only [↓Qa, ↓Qb, ↓Qc, ↓Qd, ↓Qe, ↓Qg, ↓Qh, ↓Qi, ↓Qj, ↓Qk, ↓Ql, ↓par2_two, ↓Qm, ↓Qn, ↓Qo, ↓Qp, ↓Qq, ↓Qr, ↓Qs, ↓Qt, ↓Qu, ↓Qv, ↓Qw, ↓Qx, ↓Qy, ↓Qz, ↓Q0, ↓truK_bl, ↓Q3, ↓Q4, ↓Q5, ↓Q6, ↓chK_bl, ↓Q7, ↓Q8, ↓Q9, ↓Ya, ↓Yb, ↓Yc, ↓Yd, ↓Ye, ↓Yf, ↓Yg, ↓Yh, ↓Yi, ↓Yj, ↓Yk, ↓Ym, ↓Yn, ↓Yo, ↓Yp, ↓Yq, ↓Yr, ↓Ys, ↓Yt, ↓Yu, ↓Yv, ↓Yw, ↓Yx, ↓Yy, ↓Yz, ↓Y0, ↓Y1, ↓Y2, ↓Y3, ↓Y4, ↓Y5, ↓Y6, ↓Y7, ↓Y8, ↓Y9, ↓Ja, ↓Jb, ↓Jc, ↓Jd, ↓Je, ↓Jf, ↓Jg, ↓Jh, ↓Ji, ↓Jj, ↓Jk, ↓Jl, ↓Jm, ↓Jn, ↓Jo, ↓Jp, ↓Jq, ↓Jr, ↓Js, ↓Jt, ↓Ju, ↓Jw, ↓Jx, ↓Jy, ↓Jz, ↓J1, ↓J2, ↓J3, ↓J4, ↓J5, ↓J6, ↓J7, ↓J8, ↓J9, ↓Qaa, ↓Qab, ↓Qac, ↓Qad, ↓Qae, ↓par3_three, ↓Qaf, ↓Qag, ↓Qah, ↓Qai, ↓Qaj, ↓Qak, ↓Qal, ↓Qam, ↓Qan, ↓Qao, ↓Qap, ↓Qaq, ↓Qar, ↓Qas, ↓Qat, ↓Qau, ↓Qav, ↓Qaw, ↓Qax, ↓Qay, ↓Qaz, ↓Qa0, ↓Qa1, ↓Qa2, ↓Qa3, ↓Qa4, ↓Qa5, ↓Qa6, ↓Qa7, ↓Qa8, ↓Qa9, ↓Qba, ↓Qbb, ↓Qbc, ↓Qbd, ↓Qbe, ↓Qbf, ↓Qbg, ↓Qbh, ↓Qbi, ↓Qbj, ↓Qbk, ↓Qbl, List.set_cons_zero, List.set_cons_succ, wipeP]
  refine ⟨rfl, hhand _ _ _ fun h S1 ha h1 o1 => ?_⟩
  subst eN1
  unfold w_law_20
  refine seq_any fun N1 eN1 => ?_
  simp -implicitDefEqProofs only [↓Qa, ↓Qb, ↓Qc, ↓Qd, ↓Qe, ↓Qg, ↓Qh, ↓Qi, ↓Qj, ↓Qk, ↓Ql, ↓par2_two, ↓Qm, ↓Qn, ↓Qo, ↓Qp, ↓Qq, ↓Qr, ↓Qs, ↓Qt, ↓Qu, ↓Qv, ↓Qw, ↓Qx, ↓Qy, ↓Qz, ↓Q0, ↓truK_bl, ↓Q3, ↓Q4, ↓Q5, ↓Q6, ↓chK_bl, ↓Q7, ↓Q8, ↓Q9, ↓Ya, ↓Yb, ↓Yc, ↓Yd, ↓Ye, ↓Yf, ↓Yg, ↓Yh, ↓Yi, ↓Yj, ↓Yk, ↓Ym, ↓Yn, ↓Yo, ↓Yp, ↓Yq, ↓Yr, ↓Ys, ↓Yt, ↓Yu, ↓Yv, ↓Yw, ↓Yx, ↓Yy, ↓Yz, ↓Y0, ↓Y1, ↓Y2, ↓Y3, ↓Y4, ↓Y5, ↓Y6, ↓Y7, ↓Y8, ↓Y9, ↓Ja, ↓Jb, ↓Jc, ↓Jd, ↓Je, ↓Jf, ↓Jg, ↓Jh, ↓Ji, ↓Jj, ↓Jk, ↓Jl, ↓Jm, ↓Jn, ↓Jo, ↓Jp, ↓Jq, ↓Jr, ↓Js, ↓Jt, ↓Ju, ↓Jw, ↓Jx, ↓Jy, ↓Jz, ↓J1, ↓J2, ↓J3, ↓J4, ↓J5, ↓J6, ↓J7, ↓J8, ↓J9, ↓Qaa, ↓Qab, ↓Qac, ↓Qad, ↓Qae, ↓par3_three, ↓Qaf, ↓Qag, ↓Qah, ↓Qai, ↓Qaj, ↓Qak, ↓Qal, ↓Qam, ↓Qan, ↓Qao, ↓Qap, ↓Qaq, ↓Qar, ↓Qas, ↓Qat, ↓Qau, ↓Qav, ↓Qaw, ↓Qax, ↓Qay, ↓Qaz, ↓Qa0, ↓Qa1, ↓Qa2, ↓Qa3, ↓Qa4, ↓Qa5, ↓Qa6, ↓Qa7, ↓Qa8, ↓Qa9, ↓Qba, ↓Qbb, ↓Qbc, ↓Qbd, ↓Qbe, ↓Qbf, ↓Qbg, ↓Qbh, ↓Qbi, ↓Qbj, ↓Qbk, ↓Qbl, List.set_cons_zero, List.set_cons_succ, wipeP]
  refine ⟨by omega, ?_⟩
  refine wForL_inv (fun (k : Nat) => PV.int (0 + k)) (fun rest ρ S' => HandAt h S' ∧ KpS h S S' ∧ ∃ y2 y3 y4 y5 y6 y7 y8 y9 y10 y11 y12 y13 y14 y15, ρ = [some x0, some (.ref h), y2, y3, y4, y5, y6, y7, y8, y9, y10, y11, y12, y13, y14, y15, none, none])
    (fun k rest ρ S' ⟨hh, off, y2, y3, y4, y5, y6, y7, y8, y9, y10, y11, y12, y13, y14, y15, er⟩ => ⟨trivial, fun N hN => ?_⟩) (fun ρ S' ⟨hh, off, y2, y3, y4, y5, y6, y7, y8, y9, y10, y11, y12, y13, y14, y15, er⟩ => ⟨trivial, ?_⟩) _ _ S1 ⟨h1, fun x o hx ex => by rw [o1 x hx]; exact ex, none, none, none, none, none, none, none, none, none, none, none, none, none, none, rfl⟩
  · subst er
    clear eN1
    rw [Yv]
    show w_law_18 K _ [some x0, some (.ref h), some (.int (0 + k)), y3, y4, y5, y6, y7, y8, y9, y10, y11, y12, y13, y14, y15, none, none] S'
    unfold w_law_18
    refine seq_any fun N1 eN1 => ?_
    simp -implicitDefEqProofs only [↓Qa, ↓Qb, ↓Qc, ↓Qd, ↓Qe, ↓Qg, ↓Qh, ↓Qi, ↓Qj, ↓Qk, ↓Ql, ↓par2_two, ↓Qm, ↓Qn, ↓Qo, ↓Qp, ↓Qq, ↓Qr, ↓Qs, ↓Qt, ↓Qu, ↓Qv, ↓Qw, ↓Qx, ↓Qy, ↓Qz, ↓Q0, ↓truK_bl, ↓Q3, ↓Q4, ↓Q5, ↓Q6, ↓chK_bl, ↓Q7, ↓Q8, ↓Q9, ↓Ya, ↓Yb, ↓Yc, ↓Yd, ↓Ye, ↓Yf, ↓Yg, ↓Yh, ↓Yi, ↓Yj, ↓Yk, ↓Ym, ↓Yn, ↓Yo, ↓Yp, ↓Yq, ↓Yr, ↓Ys, ↓Yt, ↓Yu, ↓Yv, ↓Yw, ↓Yx, ↓Yy, ↓Yz, ↓Y0, ↓Y1, ↓Y2, ↓Y3, ↓Y4, ↓Y5, ↓Y6, ↓Y7, ↓Y8, ↓Y9, ↓Ja, ↓Jb, ↓Jc, ↓Jd, ↓Je, ↓Jf, ↓Jg, ↓Jh, ↓Ji, ↓Jj, ↓Jk, ↓Jl, ↓Jm, ↓Jn, ↓Jo, ↓Jp, ↓Jq, ↓Jr, ↓Js, ↓Jt, ↓Ju, ↓Jw, ↓Jx, ↓Jy, ↓Jz, ↓J1, ↓J2, ↓J3, ↓J4, ↓J5, ↓J6, ↓J7, ↓J8, ↓J9, ↓Qaa, ↓Qab, ↓Qac, ↓Qad, ↓Qae, ↓par3_three, ↓Qaf, ↓Qag, ↓Qah, ↓Qai, ↓Qaj, ↓Qak, ↓Qal, ↓Qam, ↓Qan, ↓Qao, ↓Qap, ↓Qaq, ↓Qar, ↓Qas, ↓Qat, ↓Qau, ↓Qav, ↓Qaw, ↓Qax, ↓Qay, ↓Qaz, ↓Qa0, ↓Qa1, ↓Qa2, ↓Qa3, ↓Qa4, ↓Qa5, ↓Qa6, ↓Qa7, ↓Qa8, ↓Qa9, ↓Qba, ↓Qbb, ↓Qbc, ↓Qbd, ↓Qbe, ↓Qbf, ↓Qbg, ↓Qbh, ↓Qbi, ↓Qbj, ↓Qbk, ↓Qbl, List.set_cons_zero, List.set_cons_succ, wipeP]
    refine ⟨rfl, h, 6, 8, rfl, hh, ⟨by omega, by omega⟩, ⟨by omega, by omega⟩, fun ts rs S2 ok _ rl pt pr h2 o2 => ?_⟩
    refine ⟨rfl, ?_⟩
    simp -implicitDefEqProofs only [setM_cons, setM_nil, ↓Qa, ↓Qb, ↓Qc, ↓Qd, ↓Qe, ↓Qg, ↓Qh, ↓Qi, ↓Qj, ↓Qk, ↓Ql, ↓par2_two, ↓Qm, ↓Qn, ↓Qo, ↓Qp, ↓Qq, ↓Qr, ↓Qs, ↓Qt, ↓Qu, ↓Qv, ↓Qw, ↓Qx, ↓Qy, ↓Qz, ↓Q0, ↓truK_bl, ↓Q3, ↓Q4, ↓Q5, ↓Q6, ↓chK_bl, ↓Q7, ↓Q8, ↓Q9, ↓Ya, ↓Yb, ↓Yc, ↓Yd, ↓Ye, ↓Yf, ↓Yg, ↓Yh, ↓Yi, ↓Yj, ↓Yk, ↓Ym, ↓Yn, ↓Yo, ↓Yp, ↓Yq, ↓Yr, ↓Ys, ↓Yt, ↓Yu, ↓Yv, ↓Yw, ↓Yx, ↓Yy, ↓Yz, ↓Y0, ↓Y1, ↓Y2, ↓Y3, ↓Y4, ↓Y5, ↓Y6, ↓Y7, ↓Y8, ↓Y9, ↓Ja, ↓Jb, ↓Jc, ↓Jd, ↓Je, ↓Jf, ↓Jg, ↓Jh, ↓Ji, ↓Jj, ↓Jk, ↓Jl, ↓Jm, ↓Jn, ↓Jo, ↓Jp, ↓Jq, ↓Jr, ↓Js, ↓Jt, ↓Ju, ↓Jw, ↓Jx, ↓Jy, ↓Jz, ↓J1, ↓J2, ↓J3, ↓J4, ↓J5, ↓J6, ↓J7, ↓J8, ↓J9, ↓Qaa, ↓Qab, ↓Qac, ↓Qad, ↓Qae, ↓par3_three, ↓Qaf, ↓Qag, ↓Qah, ↓Qai, ↓Qaj, ↓Qak, ↓Qal, ↓Qam, ↓Qan, ↓Qao, ↓Qap, ↓Qaq, ↓Qar, ↓Qas, ↓Qat, ↓Qau, ↓Qav, ↓Qaw, ↓Qax, ↓Qay, ↓Qaz, ↓Qa0, ↓Qa1, ↓Qa2, ↓Qa3, ↓Qa4, ↓Qa5, ↓Qa6, ↓Qa7, ↓Qa8, ↓Qa9, ↓Qba, ↓Qbb, ↓Qbc, ↓Qbd, ↓Qbe, ↓Qbf, ↓Qbg, ↓Qbh, ↓Qbi, ↓Qbj, ↓Qbk, ↓Qbl, List.set_cons_zero, List.set_cons_succ, wipeP]
    subst eN1
    show w_law_17 K _ [some x0, some (.ref h), some (.int (0 + k)), some (townsP ts), some (roadsP rs), y5, y6, y7, y8, y9, y10, y11, y12, y13, y14, y15, none, none] S2
    unfold w_law_17
    refine seq_any fun N1 eN1 => ?_
    simp -implicitDefEqProofs only [↓Qa, ↓Qb, ↓Qc, ↓Qd, ↓Qe, ↓Qg, ↓Qh, ↓Qi, ↓Qj, ↓Qk, ↓Ql, ↓par2_two, ↓Qm, ↓Qn, ↓Qo, ↓Qp, ↓Qq, ↓Qr, ↓Qs, ↓Qt, ↓Qu, ↓Qv, ↓Qw, ↓Qx, ↓Qy, ↓Qz, ↓Q0, ↓truK_bl, ↓Q3, ↓Q4, ↓Q5, ↓Q6, ↓chK_bl, ↓Q7, ↓Q8, ↓Q9, ↓Ya, ↓Yb, ↓Yc, ↓Yd, ↓Ye, ↓Yf, ↓Yg, ↓Yh, ↓Yi, ↓Yj, ↓Yk, ↓Ym, ↓Yn, ↓Yo, ↓Yp, ↓Yq, ↓Yr, ↓Ys, ↓Yt, ↓Yu, ↓Yv, ↓Yw, ↓Yx, ↓Yy, ↓Yz, ↓Y0, ↓Y1, ↓Y2, ↓Y3, ↓Y4, ↓Y5, ↓Y6, ↓Y7, ↓Y8, ↓Y9, ↓Ja, ↓Jb, ↓Jc, ↓Jd, ↓Je, ↓Jf, ↓Jg, ↓Jh, ↓Ji, ↓Jj, ↓Jk, ↓Jl, ↓Jm, ↓Jn, ↓Jo, ↓Jp, ↓Jq, ↓Jr, ↓Js, ↓Jt, ↓Ju, ↓Jw, ↓Jx, ↓Jy, ↓Jz, ↓J1, ↓J2, ↓J3, ↓J4, ↓J5, ↓J6, ↓J7, ↓J8, ↓J9, ↓Qaa, ↓Qab, ↓Qac, ↓Qad, ↓Qae, ↓par3_three, ↓Qaf, ↓Qag, ↓Qah, ↓Qai, ↓Qaj, ↓Qak, ↓Qal, ↓Qam, ↓Qan, ↓Qao, ↓Qap, ↓Qaq, ↓Qar, ↓Qas, ↓Qat, ↓Qau, ↓Qav, ↓Qaw, ↓Qax, ↓Qay, ↓Qaz, ↓Qa0, ↓Qa1, ↓Qa2, ↓Qa3, ↓Qa4, ↓Qa5, ↓Qa6, ↓Qa7, ↓Qa8, ↓Qa9, ↓Qba, ↓Qbb, ↓Qbc, ↓Qbd, ↓Qbe, ↓Qbf, ↓Qbg, ↓Qbh, ↓Qbi, ↓Qbj, ↓Qbk, ↓Qbl, List.set_cons_zero, List.set_cons_succ, wipeP]
    refine ⟨rfl, net_ok ok ?_⟩
    subst eN1
    show w_law_16 K _ [some x0, some (.ref h), some (.int (0 + k)), some (townsP ts), some (roadsP rs), some (netK K ts rs), y6, y7, y8, y9, y10, y11, y12, y13, y14, y15, none, none] S2
    unfold w_law_16
    refine seq_any fun N1 eN1 => ?_
    simp -implicitDefEqProofs only [↓Qa, ↓Qb, ↓Qc, ↓Qd, ↓Qe, ↓Qg, ↓Qh, ↓Qi, ↓Qj, ↓Qk, ↓Ql, ↓par2_two, ↓Qm, ↓Qn, ↓Qo, ↓Qp, ↓Qq, ↓Qr, ↓Qs, ↓Qt, ↓Qu, ↓Qv, ↓Qw, ↓Qx, ↓Qy, ↓Qz, ↓Q0, ↓truK_bl, ↓Q3, ↓Q4, ↓Q5, ↓Q6, ↓chK_bl, ↓Q7, ↓Q8, ↓Q9, ↓Ya, ↓Yb, ↓Yc, ↓Yd, ↓Ye, ↓Yf, ↓Yg, ↓Yh, ↓Yi, ↓Yj, ↓Yk, ↓Ym, ↓Yn, ↓Yo, ↓Yp, ↓Yq, ↓Yr, ↓Ys, ↓Yt, ↓Yu, ↓Yv, ↓Yw, ↓Yx, ↓Yy, ↓Yz, ↓Y0, ↓Y1, ↓Y2, ↓Y3, ↓Y4, ↓Y5, ↓Y6, ↓Y7, ↓Y8, ↓Y9, ↓Ja, ↓Jb, ↓Jc, ↓Jd, ↓Je, ↓Jf, ↓Jg, ↓Jh, ↓Ji, ↓Jj, ↓Jk, ↓Jl, ↓Jm, ↓Jn, ↓Jo, ↓Jp, ↓Jq, ↓Jr, ↓Js, ↓Jt, ↓Ju, ↓Jw, ↓Jx, ↓Jy, ↓Jz, ↓J1, ↓J2, ↓J3, ↓J4, ↓J5, ↓J6, ↓J7, ↓J8, ↓J9, ↓Qaa, ↓Qab, ↓Qac, ↓Qad, ↓Qae, ↓par3_three, ↓Qaf, ↓Qag, ↓Qah, ↓Qai, ↓Qaj, ↓Qak, ↓Qal, ↓Qam, ↓Qan, ↓Qao, ↓Qap, ↓Qaq, ↓Qar, ↓Qas, ↓Qat, ↓Qau, ↓Qav, ↓Qaw, ↓Qax, ↓Qay, ↓Qaz, ↓Qa0, ↓Qa1, ↓Qa2, ↓Qa3, ↓Qa4, ↓Qa5, ↓Qa6, ↓Qa7, ↓Qa8, ↓Qa9, ↓Qba, ↓Qbb, ↓Qbc, ↓Qbd, ↓Qbe, ↓Qbf, ↓Qbg, ↓Qbh, ↓Qbi, ↓Qbj, ↓Qbk, ↓Qbl, List.set_cons_zero, List.set_cons_succ, wipeP, it_roads]
    refine wLcL_allM roadP (fun r => .str r.name) trivial rs (fun r hr R' hR' => ?_) (sz0 (by omega)) ?_
    · simp -implicitDefEqProofs only [↓Qa, ↓Qb, ↓Qc, ↓Qd, ↓Qe, ↓Qg, ↓Qh, ↓Qi, ↓Qj, ↓Qk, ↓Ql, ↓par2_two, ↓Qm, ↓Qn, ↓Qo, ↓Qp, ↓Qq, ↓Qr, ↓Qs, ↓Qt, ↓Qu, ↓Qv, ↓Qw, ↓Qx, ↓Qy, ↓Qz, ↓Q0, ↓truK_bl, ↓Q3, ↓Q4, ↓Q5, ↓Q6, ↓chK_bl, ↓Q7, ↓Q8, ↓Q9, ↓Ya, ↓Yb, ↓Yc, ↓Yd, ↓Ye, ↓Yf, ↓Yg, ↓Yh, ↓Yi, ↓Yj, ↓Yk, ↓Ym, ↓Yn, ↓Yo, ↓Yp, ↓Yq, ↓Yr, ↓Ys, ↓Yt, ↓Yu, ↓Yv, ↓Yw, ↓Yx, ↓Yy, ↓Yz, ↓Y0, ↓Y1, ↓Y2, ↓Y3, ↓Y4, ↓Y5, ↓Y6, ↓Y7, ↓Y8, ↓Y9, ↓Ja, ↓Jb, ↓Jc, ↓Jd, ↓Je, ↓Jf, ↓Jg, ↓Jh, ↓Ji, ↓Jj, ↓Jk, ↓Jl, ↓Jm, ↓Jn, ↓Jo, ↓Jp, ↓Jq, ↓Jr, ↓Js, ↓Jt, ↓Ju, ↓Jw, ↓Jx, ↓Jy, ↓Jz, ↓J1, ↓J2, ↓J3, ↓J4, ↓J5, ↓J6, ↓J7, ↓J8, ↓J9, ↓Qaa, ↓Qab, ↓Qac, ↓Qad, ↓Qae, ↓par3_three, ↓Qaf, ↓Qag, ↓Qah, ↓Qai, ↓Qaj, ↓Qak, ↓Qal, ↓Qam, ↓Qan, ↓Qao, ↓Qap, ↓Qaq, ↓Qar, ↓Qas, ↓Qat, ↓Qau, ↓Qav, ↓Qaw, ↓Qax, ↓Qay, ↓Qaz, ↓Qa0, ↓Qa1, ↓Qa2, ↓Qa3, ↓Qa4, ↓Qa5, ↓Qa6, ↓Qa7, ↓Qa8, ↓Qa9, ↓Qba, ↓Qbb, ↓Qbc, ↓Qbd, ↓Qbe, ↓Qbf, ↓Qbg, ↓Qbh, ↓Qbi, ↓Qbj, ↓Qbk, ↓Qbl, List.set_cons_zero, List.set_cons_succ, wipeP, ix_road]
      exact ⟨_, rfl, hR'⟩
    have em : (rs.map fun r => PV.str r.name) = (rs.map Road.name).map PV.str := by rw [List.map_map]; rfl
    rw [em]
    subst eN1
    show w_law_15 K _ (sl x0 (some (.int (0 + k))) y7 h K ts rs y8 y9 y10 y11 y12 y13 y14 y15) S2
    unfold w_law_15
    refine seq_any fun N1 eN1 => ?_
    have kp2 : KpS h S S2 := off.off o2
    have go : ∀ y7 y8 y9 y10 y11 y12 y13 y14 y15 S', HandAt h S' → KpS h S S' → N1 (sl x0 (some (.int (0 + k))) y7 h K ts rs y8 y9 y10 y11 y12 y13 y14 y15) S' := fun y7 y8 y9 y10 y11 y12 y13 y14 y15 S' g1 g2 => by
      subst eN1
      simp -implicitDefEqProofs only [w_law_14, ↓Qa, ↓Qb, ↓Qc, ↓Qd, ↓Qe, ↓Qg, ↓Qh, ↓Qi, ↓Qj, ↓Qk, ↓Ql, ↓par2_two, ↓Qm, ↓Qn, ↓Qo, ↓Qp, ↓Qq, ↓Qr, ↓Qs, ↓Qt, ↓Qu, ↓Qv, ↓Qw, ↓Qx, ↓Qy, ↓Qz, ↓Q0, ↓truK_bl, ↓Q3, ↓Q4, ↓Q5, ↓Q6, ↓chK_bl, ↓Q7, ↓Q8, ↓Q9, ↓Ya, ↓Yb, ↓Yc, ↓Yd, ↓Ye, ↓Yf, ↓Yg, ↓Yh, ↓Yi, ↓Yj, ↓Yk, ↓Ym, ↓Yn, ↓Yo, ↓Yp, ↓Yq, ↓Yr, ↓Ys, ↓Yt, ↓Yu, ↓Yv, ↓Yw, ↓Yx, ↓Yy, ↓Yz, ↓Y0, ↓Y1, ↓Y2, ↓Y3, ↓Y4, ↓Y5, ↓Y6, ↓Y7, ↓Y8, ↓Y9, ↓Ja, ↓Jb, ↓Jc, ↓Jd, ↓Je, ↓Jf, ↓Jg, ↓Jh, ↓Ji, ↓Jj, ↓Jk, ↓Jl, ↓Jm, ↓Jn, ↓Jo, ↓Jp, ↓Jq, ↓Jr, ↓Js, ↓Jt, ↓Ju, ↓Jw, ↓Jx, ↓Jy, ↓Jz, ↓J1, ↓J2, ↓J3, ↓J4, ↓J5, ↓J6, ↓J7, ↓J8, ↓J9, ↓Qaa, ↓Qab, ↓Qac, ↓Qad, ↓Qae, ↓par3_three, ↓Qaf, ↓Qag, ↓Qah, ↓Qai, ↓Qaj, ↓Qak, ↓Qal, ↓Qam, ↓Qan, ↓Qao, ↓Qap, ↓Qaq, ↓Qar, ↓Qas, ↓Qat, ↓Qau, ↓Qav, ↓Qaw, ↓Qax, ↓Qay, ↓Qaz, ↓Qa0, ↓Qa1, ↓Qa2, ↓Qa3, ↓Qa4, ↓Qa5, ↓Qa6, ↓Qa7, ↓Qa8, ↓Qa9, ↓Qba, ↓Qbb, ↓Qbc, ↓Qbd, ↓Qbe, ↓Qbf, ↓Qbg, ↓Qbh, ↓Qbi, ↓Qbj, ↓Qbk, ↓Qbl, List.set_cons_zero, List.set_cons_succ, wipeP]
      refine ⟨rfl, h, _, ts, rs, rfl, mem_net, g1, ok, pt, pr, fun S'' h3 o3 => ?_⟩
      simp -implicitDefEqProofs only [↓Qa, ↓Qb, ↓Qc, ↓Qd, ↓Qe, ↓Qg, ↓Qh, ↓Qi, ↓Qj, ↓Qk, ↓Ql, ↓par2_two, ↓Qm, ↓Qn, ↓Qo, ↓Qp, ↓Qq, ↓Qr, ↓Qs, ↓Qt, ↓Qu, ↓Qv, ↓Qw, ↓Qx, ↓Qy, ↓Qz, ↓Q0, ↓truK_bl, ↓Q3, ↓Q4, ↓Q5, ↓Q6, ↓chK_bl, ↓Q7, ↓Q8, ↓Q9, ↓Ya, ↓Yb, ↓Yc, ↓Yd, ↓Ye, ↓Yf, ↓Yg, ↓Yh, ↓Yi, ↓Yj, ↓Yk, ↓Ym, ↓Yn, ↓Yo, ↓Yp, ↓Yq, ↓Yr, ↓Ys, ↓Yt, ↓Yu, ↓Yv, ↓Yw, ↓Yx, ↓Yy, ↓Yz, ↓Y0, ↓Y1, ↓Y2, ↓Y3, ↓Y4, ↓Y5, ↓Y6, ↓Y7, ↓Y8, ↓Y9, ↓Ja, ↓Jb, ↓Jc, ↓Jd, ↓Je, ↓Jf, ↓Jg, ↓Jh, ↓Ji, ↓Jj, ↓Jk, ↓Jl, ↓Jm, ↓Jn, ↓Jo, ↓Jp, ↓Jq, ↓Jr, ↓Js, ↓Jt, ↓Ju, ↓Jw, ↓Jx, ↓Jy, ↓Jz, ↓J1, ↓J2, ↓J3, ↓J4, ↓J5, ↓J6, ↓J7, ↓J8, ↓J9, ↓Qaa, ↓Qab, ↓Qac, ↓Qad, ↓Qae, ↓par3_three, ↓Qaf, ↓Qag, ↓Qah, ↓Qai, ↓Qaj, ↓Qak, ↓Qal, ↓Qam, ↓Qan, ↓Qao, ↓Qap, ↓Qaq, ↓Qar, ↓Qas, ↓Qat, ↓Qau, ↓Qav, ↓Qaw, ↓Qax, ↓Qay, ↓Qaz, ↓Qa0, ↓Qa1, ↓Qa2, ↓Qa3, ↓Qa4, ↓Qa5, ↓Qa6, ↓Qa7, ↓Qa8, ↓Qa9, ↓Qba, ↓Qbb, ↓Qbc, ↓Qbd, ↓Qbe, ↓Qbf, ↓Qbg, ↓Qbh, ↓Qbi, ↓Qbj, ↓Qbk, ↓Qbl, List.set_cons_zero, List.set_cons_succ, wipeP, Bool.not_true, Bool.false_eq_true, if_false]
      exact hN _ _ ⟨h3, g2.off o3, _, _, _, _, _, _, _, _, _, _, _, _, _, _, rfl⟩
    simp -implicitDefEqProofs only [↓Qa, ↓Qb, ↓Qc, ↓Qd, ↓Qe, ↓Qg, ↓Qh, ↓Qi, ↓Qj, ↓Qk, ↓Ql, ↓par2_two, ↓Qm, ↓Qn, ↓Qo, ↓Qp, ↓Qq, ↓Qr, ↓Qs, ↓Qt, ↓Qu, ↓Qv, ↓Qw, ↓Qx, ↓Qy, ↓Qz, ↓Q0, ↓truK_bl, ↓Q3, ↓Q4, ↓Q5, ↓Q6, ↓chK_bl, ↓Q7, ↓Q8, ↓Q9, ↓Ya, ↓Yb, ↓Yc, ↓Yd, ↓Ye, ↓Yf, ↓Yg, ↓Yh, ↓Yi, ↓Yj, ↓Yk, ↓Ym, ↓Yn, ↓Yo, ↓Yp, ↓Yq, ↓Yr, ↓Ys, ↓Yt, ↓Yu, ↓Yv, ↓Yw, ↓Yx, ↓Yy, ↓Yz, ↓Y0, ↓Y1, ↓Y2, ↓Y3, ↓Y4, ↓Y5, ↓Y6, ↓Y7, ↓Y8, ↓Y9, ↓Ja, ↓Jb, ↓Jc, ↓Jd, ↓Je, ↓Jf, ↓Jg, ↓Jh, ↓Ji, ↓Jj, ↓Jk, ↓Jl, ↓Jm, ↓Jn, ↓Jo, ↓Jp, ↓Jq, ↓Jr, ↓Js, ↓Jt, ↓Ju, ↓Jw, ↓Jx, ↓Jy, ↓Jz, ↓J1, ↓J2, ↓J3, ↓J4, ↓J5, ↓J6, ↓J7, ↓J8, ↓J9, ↓Qaa, ↓Qab, ↓Qac, ↓Qad, ↓Qae, ↓par3_three, ↓Qaf, ↓Qag, ↓Qah, ↓Qai, ↓Qaj, ↓Qak, ↓Qal, ↓Qam, ↓Qan, ↓Qao, ↓Qap, ↓Qaq, ↓Qar, ↓Qas, ↓Qat, ↓Qau, ↓Qav, ↓Qaw, ↓Qax, ↓Qay, ↓Qaz, ↓Qa0, ↓Qa1, ↓Qa2, ↓Qa3, ↓Qa4, ↓Qa5, ↓Qa6, ↓Qa7, ↓Qa8, ↓Qa9, ↓Qba, ↓Qbb, ↓Qbc, ↓Qbd, ↓Qbe, ↓Qbf, ↓Qbg, ↓Qbh, ↓Qbi, ↓Qbj, ↓Qbk, ↓Qbl, List.set_cons_zero, List.set_cons_succ, wipeP]
    refine ⟨sz0 (by simp), ?_⟩
    rw [show PV.tup [] = townsP [] from rfl, k_eq_towns ok.tn (fun t ht => by cases ht), Bool.bne_true]
    by_cases c : ts = []
    · rw [decide_eq_true c]
      simp -implicitDefEqProofs only [↓Qa, ↓Qb, ↓Qc, ↓Qd, ↓Qe, ↓Qg, ↓Qh, ↓Qi, ↓Qj, ↓Qk, ↓Ql, ↓par2_two, ↓Qm, ↓Qn, ↓Qo, ↓Qp, ↓Qq, ↓Qr, ↓Qs, ↓Qt, ↓Qu, ↓Qv, ↓Qw, ↓Qx, ↓Qy, ↓Qz, ↓Q0, ↓truK_bl, ↓Q3, ↓Q4, ↓Q5, ↓Q6, ↓chK_bl, ↓Q7, ↓Q8, ↓Q9, ↓Ya, ↓Yb, ↓Yc, ↓Yd, ↓Ye, ↓Yf, ↓Yg, ↓Yh, ↓Yi, ↓Yj, ↓Yk, ↓Ym, ↓Yn, ↓Yo, ↓Yp, ↓Yq, ↓Yr, ↓Ys, ↓Yt, ↓Yu, ↓Yv, ↓Yw, ↓Yx, ↓Yy, ↓Yz, ↓Y0, ↓Y1, ↓Y2, ↓Y3, ↓Y4, ↓Y5, ↓Y6, ↓Y7, ↓Y8, ↓Y9, ↓Ja, ↓Jb, ↓Jc, ↓Jd, ↓Je, ↓Jf, ↓Jg, ↓Jh, ↓Ji, ↓Jj, ↓Jk, ↓Jl, ↓Jm, ↓Jn, ↓Jo, ↓Jp, ↓Jq, ↓Jr, ↓Js, ↓Jt, ↓Ju, ↓Jw, ↓Jx, ↓Jy, ↓Jz, ↓J1, ↓J2, ↓J3, ↓J4, ↓J5, ↓J6, ↓J7, ↓J8, ↓J9, ↓Qaa, ↓Qab, ↓Qac, ↓Qad, ↓Qae, ↓par3_three, ↓Qaf, ↓Qag, ↓Qah, ↓Qai, ↓Qaj, ↓Qak, ↓Qal, ↓Qam, ↓Qan, ↓Qao, ↓Qap, ↓Qaq, ↓Qar, ↓Qas, ↓Qat, ↓Qau, ↓Qav, ↓Qaw, ↓Qax, ↓Qay, ↓Qaz, ↓Qa0, ↓Qa1, ↓Qa2, ↓Qa3, ↓Qa4, ↓Qa5, ↓Qa6, ↓Qa7, ↓Qa8, ↓Qa9, ↓Qba, ↓Qbb, ↓Qbc, ↓Qbd, ↓Qbe, ↓Qbf, ↓Qbg, ↓Qbh, ↓Qbi, ↓Qbj, ↓Qbk, ↓Qbl, List.set_cons_zero, List.set_cons_succ, wipeP, Bool.not_true, Bool.false_eq_true, if_false]
      exact ⟨by omega, law_turns _ rfl ok h2 kp2 go 0 fun z => absurd rfl z⟩
    · rw [decide_eq_false c]
      simp -implicitDefEqProofs only [↓Qa, ↓Qb, ↓Qc, ↓Qd, ↓Qe, ↓Qg, ↓Qh, ↓Qi, ↓Qj, ↓Qk, ↓Ql, ↓par2_two, ↓Qm, ↓Qn, ↓Qo, ↓Qp, ↓Qq, ↓Qr, ↓Qs, ↓Qt, ↓Qu, ↓Qv, ↓Qw, ↓Qx, ↓Qy, ↓Qz, ↓Q0, ↓truK_bl, ↓Q3, ↓Q4, ↓Q5, ↓Q6, ↓chK_bl, ↓Q7, ↓Q8, ↓Q9, ↓Ya, ↓Yb, ↓Yc, ↓Yd, ↓Ye, ↓Yf, ↓Yg, ↓Yh, ↓Yi, ↓Yj, ↓Yk, ↓Ym, ↓Yn, ↓Yo, ↓Yp, ↓Yq, ↓Yr, ↓Ys, ↓Yt, ↓Yu, ↓Yv, ↓Yw, ↓Yx, ↓Yy, ↓Yz, ↓Y0, ↓Y1, ↓Y2, ↓Y3, ↓Y4, ↓Y5, ↓Y6, ↓Y7, ↓Y8, ↓Y9, ↓Ja, ↓Jb, ↓Jc, ↓Jd, ↓Je, ↓Jf, ↓Jg, ↓Jh, ↓Ji, ↓Jj, ↓Jk, ↓Jl, ↓Jm, ↓Jn, ↓Jo, ↓Jp, ↓Jq, ↓Jr, ↓Js, ↓Jt, ↓Ju, ↓Jw, ↓Jx, ↓Jy, ↓Jz, ↓J1, ↓J2, ↓J3, ↓J4, ↓J5, ↓J6, ↓J7, ↓J8, ↓J9, ↓Qaa, ↓Qab, ↓Qac, ↓Qad, ↓Qae, ↓par3_three, ↓Qaf, ↓Qag, ↓Qah, ↓Qai, ↓Qaj, ↓Qak, ↓Qal, ↓Qam, ↓Qan, ↓Qao, ↓Qap, ↓Qaq, ↓Qar, ↓Qas, ↓Qat, ↓Qau, ↓Qav, ↓Qaw, ↓Qax, ↓Qay, ↓Qaz, ↓Qa0, ↓Qa1, ↓Qa2, ↓Qa3, ↓Qa4, ↓Qa5, ↓Qa6, ↓Qa7, ↓Qa8, ↓Qa9, ↓Qba, ↓Qbb, ↓Qbc, ↓Qbd, ↓Qbe, ↓Qbf, ↓Qbg, ↓Qbh, ↓Qbi, ↓Qbj, ↓Qbk, ↓Qbl, List.set_cons_zero, List.set_cons_succ, wipeP, Bool.not_false, if_true]
      exact ⟨by omega, law_turns _ rfl ok h2 kp2 go 5 fun _ => c⟩
  · subst er
    subst eN1
    simp -implicitDefEqProofs only [w_law_19, ↓Qa, ↓Qb, ↓Qc, ↓Qd, ↓Qe, ↓Qg, ↓Qh, ↓Qi, ↓Qj, ↓Qk, ↓Ql, ↓par2_two, ↓Qm, ↓Qn, ↓Qo, ↓Qp, ↓Qq, ↓Qr, ↓Qs, ↓Qt, ↓Qu, ↓Qv, ↓Qw, ↓Qx, ↓Qy, ↓Qz, ↓Q0, ↓truK_bl, ↓Q3, ↓Q4, ↓Q5, ↓Q6, ↓chK_bl, ↓Q7, ↓Q8, ↓Q9, ↓Ya, ↓Yb, ↓Yc, ↓Yd, ↓Ye, ↓Yf, ↓Yg, ↓Yh, ↓Yi, ↓Yj, ↓Yk, ↓Ym, ↓Yn, ↓Yo, ↓Yp, ↓Yq, ↓Yr, ↓Ys, ↓Yt, ↓Yu, ↓Yv, ↓Yw, ↓Yx, ↓Yy, ↓Yz, ↓Y0, ↓Y1, ↓Y2, ↓Y3, ↓Y4, ↓Y5, ↓Y6, ↓Y7, ↓Y8, ↓Y9, ↓Ja, ↓Jb, ↓Jc, ↓Jd, ↓Je, ↓Jf, ↓Jg, ↓Jh, ↓Ji, ↓Jj, ↓Jk, ↓Jl, ↓Jm, ↓Jn, ↓Jo, ↓Jp, ↓Jq, ↓Jr, ↓Js, ↓Jt, ↓Ju, ↓Jw, ↓Jx, ↓Jy, ↓Jz, ↓J1, ↓J2, ↓J3, ↓J4, ↓J5, ↓J6, ↓J7, ↓J8, ↓J9, ↓Qaa, ↓Qab, ↓Qac, ↓Qad, ↓Qae, ↓par3_three, ↓Qaf, ↓Qag, ↓Qah, ↓Qai, ↓Qaj, ↓Qak, ↓Qal, ↓Qam, ↓Qan, ↓Qao, ↓Qap, ↓Qaq, ↓Qar, ↓Qas, ↓Qat, ↓Qau, ↓Qav, ↓Qaw, ↓Qax, ↓Qay, ↓Qaz, ↓Qa0, ↓Qa1, ↓Qa2, ↓Qa3, ↓Qa4, ↓Qa5, ↓Qa6, ↓Qa7, ↓Qa8, ↓Qa9, ↓Qba, ↓Qbb, ↓Qbc, ↓Qbd, ↓Qbe, ↓Qbf, ↓Qbg, ↓Qbh, ↓Qbi, ↓Qbj, ↓Qbk, ↓Qbl, List.set_cons_zero, List.set_cons_succ, wipeP]
    exact gR_end (fun x u e => off x u (fun z => by rw [z, ha] at e; cases e) e) hR
theorem law_start (K : PySem.W.Frag) (ns : List Int) (_ : ∀ z ∈ ns, Builtin.Int.intBits z ≤ 1048576) : sp_law K [.lst (ns.map PV.int)] (fun _ => none) (fun p _ => p = .bl true) (fun _ _ => False) := ⟨ns, rfl, rfl⟩

section
variable {P : Program} {w : World} {K : PySem.W.Frag} {mg : Str → Option Value} {base : Heap}
theorem ok_is_integer (fx : Fx fa fn K mg) (hex : exB K = true) : Fn P w K mg base (tbl K) 1 ("is_integer", none) ["thing"] (sp_is_integer K) := by
  obtain ⟨fd, F⟩ := fx.c.def_ 0 (d := d_is_integer) rfl
  exact ⟨fd, fn_ok (n := 1) F sc_is_integer rfl (fun cdv A outer s H E hr => dv_is_integer fx hex cdv A outer s H E hr) (pure_is_integer K), F.bindsN (fun _ _ _ _ _ _ us hl => match us, hl with | [_], _ => rfl), F.kp⟩
theorem ok_is_within (fx : Fx fa fn K mg) (hex : exB K = true) (c_is_integer : Fn P w K mg base (tbl K) 1 ("is_integer", none) ["thing"] (sp_is_integer K)) : Fn P w K mg base (tbl K) 2 ("is_within", none) ["thing", "least", "most"] (sp_is_within K) := by
  obtain ⟨fd, F⟩ := fx.c.def_ 1 (d := d_is_within) rfl
  exact ⟨fd, fn_ok (n := 3) F sc_is_within rfl (fun cdv A outer s H E hr => dv_is_within fx hex c_is_integer cdv A outer s H E hr) (pure_is_within K), F.bindsN (fun _ _ _ _ _ _ us hl => match us, hl with | [_, _, _], _ => rfl), F.kp⟩
theorem ok_is_name (fx : Fx fa fn K mg) (hex : exB K = true) : Fn P w K mg base (tbl K) 1 ("is_name", none) ["thing"] (sp_is_name K) := by
  obtain ⟨fd, F⟩ := fx.c.def_ 2 (d := d_is_name) rfl
  exact ⟨fd, fn_ok (n := 1) F sc_is_name rfl (fun cdv A outer s H E hr => dv_is_name fx hex cdv A outer s H E hr) (pure_is_name K), F.bindsN (fun _ _ _ _ _ _ us hl => match us, hl with | [_], _ => rfl), F.kp⟩
theorem ok_is_tuple (fx : Fx fa fn K mg) (hex : exB K = true) : Fn P w K mg base (tbl K) 1 ("is_tuple", none) ["thing", "size"] (sp_is_tuple K) := by
  obtain ⟨fd, F⟩ := fx.c.def_ 3 (d := d_is_tuple) rfl
  exact ⟨fd, fn_ok (n := 2) F sc_is_tuple rfl (fun cdv A outer s H E hr => dv_is_tuple fx hex cdv A outer s H E hr) (pure_is_tuple K), F.bindsN (fun _ _ _ _ _ _ us hl => match us, hl with | [_, _], _ => rfl), F.kp⟩
theorem ok_does_ascend (fx : Fx fa fn K mg) (hex : exB K = true) : Fn P w K mg base (tbl K) 1 ("does_ascend", none) ["thing"] (sp_does_ascend K) := by
  obtain ⟨fd, F⟩ := fx.c.def_ 4 (d := d_does_ascend) rfl
  exact ⟨fd, fn_ok (n := 1) F sc_does_ascend rfl (fun cdv A outer s H E hr => dv_does_ascend fx hex cdv A outer s H E hr) (pure_does_ascend K), F.bindsN (fun _ _ _ _ _ _ us hl => match us, hl with | [_], _ => rfl), F.kp⟩
theorem ok_is_names (fx : Fx fa fn K mg) (hex : exB K = true) : Fn P w K mg base (tbl K) 1 ("is_names", none) ["thing"] (sp_is_names K) := by
  obtain ⟨fd, F⟩ := fx.c.def_ 5 (d := d_is_names) rfl
  exact ⟨fd, fn_ok (n := 1) F sc_is_names rfl (fun cdv A outer s H E hr => dv_is_names fx hex cdv A outer s H E hr) (pure_is_names K), F.bindsN (fun _ _ _ _ _ _ us hl => match us, hl with | [_], _ => rfl), F.kp⟩
theorem ok_is_road (fx : Fx fa fn K mg) (hex : exB K = true) (c_is_tuple : Fn P w K mg base (tbl K) 1 ("is_tuple", none) ["thing", "size"] (sp_is_tuple K)) (c_is_name : Fn P w K mg base (tbl K) 1 ("is_name", none) ["thing"] (sp_is_name K)) (c_is_within : Fn P w K mg base (tbl K) 2 ("is_within", none) ["thing", "least", "most"] (sp_is_within K)) : Fn P w K mg base (tbl K) 3 ("is_road", none) ["towns", "thing"] (sp_is_road K) := by
  obtain ⟨fd, F⟩ := fx.c.def_ 6 (d := d_is_road) rfl
  exact ⟨fd, fn_ok (n := 2) F sc_is_road rfl (fun cdv A outer s H E hr => dv_is_road fx hex c_is_tuple c_is_name c_is_within cdv A outer s H E hr) (pure_is_road K), F.bindsN (fun _ _ _ _ _ _ us hl => match us, hl with | [_, _], _ => rfl), F.kp⟩
theorem ok_Net_keep (fx : Fx fa fn K mg) (hex : exB K = true) : Fn P w K mg base (tbl K) 1 ("Net", some "keep") ["self", "towns", "roads"] (sp_Net_keep K) := by
  obtain ⟨fd, F⟩ := fx.c.def_ 27 (d := d_Net_keep) rfl
  exact ⟨fd, fn_ok (n := 3) F sc_Net_keep rfl (fun cdv A outer s H E hr => dv_Net_keep fx hex cdv A outer s H E hr) (pure_Net_keep K), F.bindsN (fun _ _ _ _ _ _ us hl => match us, hl with | [_, _, _], _ => rfl), F.kp⟩
theorem ok_Net___init__ (fx : Fx fa fn K mg) (hex : exB K = true) (c_is_name : Fn P w K mg base (tbl K) 1 ("is_name", none) ["thing"] (sp_is_name K)) (c_BadNet___init__ : FnH P w K mg base 2 ("BadNet", some "__init__") ["self", "part"] (spX1 K "part")) (c_does_ascend : Fn P w K mg base (tbl K) 1 ("does_ascend", none) ["thing"] (sp_does_ascend K)) (c_is_road : Fn P w K mg base (tbl K) 3 ("is_road", none) ["towns", "thing"] (sp_is_road K)) (c_Net_keep : Fn P w K mg base (tbl K) 1 ("Net", some "keep") ["self", "towns", "roads"] (sp_Net_keep K)) : Fn P w K mg base (tbl K) 4 ("Net", some "__init__") ["self", "towns", "roads"] (sp_Net___init__ K) := by
  obtain ⟨fd, F⟩ := fx.c.def_ 26 (d := d_Net___init__) rfl
  exact ⟨fd, fn_ok (n := 3) F sc_Net___init__ rfl (fun cdv A outer s H E hr => dv_Net___init__ fx hex c_is_name c_BadNet___init__ c_does_ascend c_is_road c_Net_keep cdv A outer s H E hr) (pure_Net___init__ K), F.bindsN (fun _ _ _ _ _ _ us hl => match us, hl with | [_, _, _], _ => rfl), F.kp⟩
theorem ok_far_end (fx : Fx fa fn K mg) (hex : exB K = true) : Fn P w K mg base (tbl K) 1 ("far_end", none) ["road", "town"] (sp_far_end K) := by
  obtain ⟨fd, F⟩ := fx.c.def_ 7 (d := d_far_end) rfl
  exact ⟨fd, fn_ok (n := 2) F sc_far_end rfl (fun cdv A outer s H E hr => dv_far_end fx hex cdv A outer s H E hr) (pure_far_end K), F.bindsN (fun _ _ _ _ _ _ us hl => match us, hl with | [_, _], _ => rfl), F.kp⟩
theorem ok_check_town (fx : Fx fa fn K mg) (hex : exB K = true) (c_RoadError___init__ : FnH P w K mg base 1 ("RoadError", some "__init__") ["self"] (spX0 K)) : Fn P w K mg base (tbl K) 3 ("check_town", none) ["net", "thing"] (sp_check_town K) := by
  obtain ⟨fd, F⟩ := fx.c.def_ 8 (d := d_check_town) rfl
  exact ⟨fd, fn_ok (n := 2) F sc_check_town rfl (fun cdv A outer s H E hr => dv_check_town fx hex c_RoadError___init__ cdv A outer s H E hr) (pure_check_town K), F.bindsN (fun _ _ _ _ _ _ us hl => match us, hl with | [_, _], _ => rfl), F.kp⟩
theorem ok_raw_ends (fx : Fx fa fn K mg) (hex : exB K = true) : Fn P w K mg base (tbl K) 1 ("raw_ends", none) ["net", "start", "names"] (sp_raw_ends K) := by
  obtain ⟨fd, F⟩ := fx.c.def_ 9 (d := d_raw_ends) rfl
  exact ⟨fd, fn_ok (n := 3) F sc_raw_ends rfl (fun cdv A outer s H E hr => dv_raw_ends fx hex cdv A outer s H E hr) (pure_raw_ends K), F.bindsN (fun _ _ _ _ _ _ us hl => match us, hl with | [_, _, _], _ => rfl), F.kp⟩
theorem ok_raw_walked (fx : Fx fa fn K mg) (hex : exB K = true) (c_far_end : Fn P w K mg base (tbl K) 1 ("far_end", none) ["road", "town"] (sp_far_end K)) : Fn P w K mg base (tbl K) 2 ("raw_walked", none) ["net", "start", "names"] (sp_raw_walked K) := by
  obtain ⟨fd, F⟩ := fx.c.def_ 10 (d := d_raw_walked) rfl
  exact ⟨fd, fn_ok (n := 3) F sc_raw_walked rfl (fun cdv A outer s H E hr => dv_raw_walked fx hex c_far_end cdv A outer s H E hr) (pure_raw_walked K), F.bindsN (fun _ _ _ _ _ _ us hl => match us, hl with | [_, _, _], _ => rfl), F.kp⟩
theorem ok_ends_by (fx : Fx fa fn K mg) (hex : exB K = true) (c_check_town : Fn P w K mg base (tbl K) 3 ("check_town", none) ["net", "thing"] (sp_check_town K)) (c_is_names : Fn P w K mg base (tbl K) 1 ("is_names", none) ["thing"] (sp_is_names K)) (c_RoadError___init__ : FnH P w K mg base 1 ("RoadError", some "__init__") ["self"] (spX0 K)) (c_raw_ends : Fn P w K mg base (tbl K) 1 ("raw_ends", none) ["net", "start", "names"] (sp_raw_ends K)) : Fn P w K mg base (tbl K) 4 ("ends_by", none) ["net", "start", "names"] (sp_ends_by K) := by
  obtain ⟨fd, F⟩ := fx.c.def_ 11 (d := d_ends_by) rfl
  exact ⟨fd, fn_ok (n := 3) F sc_ends_by rfl (fun cdv A outer s H E hr => dv_ends_by fx hex c_check_town c_is_names c_RoadError___init__ c_raw_ends cdv A outer s H E hr) (pure_ends_by K), F.bindsN (fun _ _ _ _ _ _ us hl => match us, hl with | [_, _, _], _ => rfl), F.kp⟩
theorem ok_ends_walked (fx : Fx fa fn K mg) (hex : exB K = true) (c_check_town : Fn P w K mg base (tbl K) 3 ("check_town", none) ["net", "thing"] (sp_check_town K)) (c_is_names : Fn P w K mg base (tbl K) 1 ("is_names", none) ["thing"] (sp_is_names K)) (c_RoadError___init__ : FnH P w K mg base 1 ("RoadError", some "__init__") ["self"] (spX0 K)) (c_raw_walked : Fn P w K mg base (tbl K) 2 ("raw_walked", none) ["net", "start", "names"] (sp_raw_walked K)) : Fn P w K mg base (tbl K) 4 ("ends_walked", none) ["net", "start", "names"] (sp_ends_walked K) := by
  obtain ⟨fd, F⟩ := fx.c.def_ 12 (d := d_ends_walked) rfl
  exact ⟨fd, fn_ok (n := 3) F sc_ends_walked rfl (fun cdv A outer s H E hr => dv_ends_walked fx hex c_check_town c_is_names c_RoadError___init__ c_raw_walked cdv A outer s H E hr) (pure_ends_walked K), F.bindsN (fun _ _ _ _ _ _ us hl => match us, hl with | [_, _, _], _ => rfl), F.kp⟩
theorem ok_raw_length (fx : Fx fa fn K mg) (hex : exB K = true) : Fn P w K mg base (tbl K) 1 ("raw_length", none) ["net", "names"] (sp_raw_length K) := by
  obtain ⟨fd, F⟩ := fx.c.def_ 13 (d := d_raw_length) rfl
  exact ⟨fd, fn_ok (n := 2) F sc_raw_length rfl (fun cdv A outer s H E hr => dv_raw_length fx hex cdv A outer s H E hr) (pure_raw_length K), F.bindsN (fun _ _ _ _ _ _ us hl => match us, hl with | [_, _], _ => rfl), F.kp⟩
theorem ok_length_of (fx : Fx fa fn K mg) (hex : exB K = true) (c_is_names : Fn P w K mg base (tbl K) 1 ("is_names", none) ["thing"] (sp_is_names K)) (c_RoadError___init__ : FnH P w K mg base 1 ("RoadError", some "__init__") ["self"] (spX0 K)) (c_raw_length : Fn P w K mg base (tbl K) 1 ("raw_length", none) ["net", "names"] (sp_raw_length K)) : Fn P w K mg base (tbl K) 3 ("length_of", none) ["net", "names"] (sp_length_of K) := by
  obtain ⟨fd, F⟩ := fx.c.def_ 14 (d := d_length_of) rfl
  exact ⟨fd, fn_ok (n := 2) F sc_length_of rfl (fun cdv A outer s H E hr => dv_length_of fx hex c_is_names c_RoadError___init__ c_raw_length cdv A outer s H E hr) (pure_length_of K), F.bindsN (fun _ _ _ _ _ _ us hl => match us, hl with | [_, _], _ => rfl), F.kp⟩
theorem ok__law_hand (fx : Fx fa fn K mg) (hex : exB K = true) : Fn P w K mg base (tbl K) 1 ("_law_hand", none) ["script"] (sp__law_hand K) := by
  obtain ⟨fd, F⟩ := fx.c.def_ 15 (d := d__law_hand) rfl
  exact ⟨fd, fn_ok (n := 1) F sc__law_hand rfl (fun cdv A outer s H E hr => dv__law_hand fx hex cdv A outer s H E hr) (pure__law_hand K), F.bindsN (fun _ _ _ _ _ _ us hl => match us, hl with | [_], _ => rfl), F.kp⟩
theorem ok__law_draw (fx : Fx fa fn K mg) (hex : exB K = true) : Fn P w K mg base (tbl K) 1 ("_law_draw", none) ["hand", "many"] (sp__law_draw K) := by
  obtain ⟨fd, F⟩ := fx.c.def_ 16 (d := d__law_draw) rfl
  exact ⟨fd, fn_ok (n := 2) F sc__law_draw rfl (fun cdv A outer s H E hr => dv__law_draw fx hex cdv A outer s H E hr) (pure__law_draw K), F.bindsN (fun _ _ _ _ _ _ us hl => match us, hl with | [_, _], _ => rfl), F.kp⟩
theorem ok__law_any (fx : Fx fa fn K mg) (hex : exB K = true) (c__law_draw : Fn P w K mg base (tbl K) 1 ("_law_draw", none) ["hand", "many"] (sp__law_draw K)) : Fn P w K mg base (tbl K) 2 ("_law_any", none) ["hand", "some"] (sp__law_any K) := by
  obtain ⟨fd, F⟩ := fx.c.def_ 17 (d := d__law_any) rfl
  exact ⟨fd, fn_ok (n := 2) F sc__law_any rfl (fun cdv A outer s H E hr => dv__law_any fx hex c__law_draw cdv A outer s H E hr) (pure__law_any K), F.bindsN (fun _ _ _ _ _ _ us hl => match us, hl with | [_, _], _ => rfl), F.kp⟩
theorem ok__law_parts (fx : Fx fa fn K mg) (hex : exB K = true) (c__law_draw : Fn P w K mg base (tbl K) 1 ("_law_draw", none) ["hand", "many"] (sp__law_draw K)) (c__law_any : Fn P w K mg base (tbl K) 2 ("_law_any", none) ["hand", "some"] (sp__law_any K)) : Fn P w K mg base (tbl K) 3 ("_law_parts", none) ["hand", "most", "few"] (sp__law_parts K) := by
  obtain ⟨fd, F⟩ := fx.c.def_ 18 (d := d__law_parts) rfl
  exact ⟨fd, fn_ok (n := 3) F sc__law_parts rfl (fun cdv A outer s H E hr => dv__law_parts fx hex c__law_draw c__law_any cdv A outer s H E hr) (pure__law_parts K), F.bindsN (fun _ _ _ _ _ _ us hl => match us, hl with | [_, _, _], _ => rfl), F.kp⟩
theorem okw__law_word (fx : Fx fa fn K mg) (hex : exB K = true) : FnW P w K mg base (tbl K) 0 ("_law_word", none) "_law_word" "call" (sp__law_word K) := by
  obtain ⟨fd, F⟩ := fx.c.def_ 19 (d := d__law_word) rfl
  exact fnW_of F sc__law_word rfl (by first | exact Or.inl rfl | exact Or.inr (Or.inl rfl) | exact Or.inr (Or.inr rfl)) (F.bindsN (fun _ _ _ _ _ _ us hl => match us, hl with | [_], _ => rfl)) (fun cdg A outer s H J we hr hact => dvw__law_word fx hex cdg A outer s H J we hr hact) (pure__law_word K hex)
theorem ok__law_gone (fx : Fx fa fn K mg) (hex : exB K = true) : Fn P w K mg base (tbl K) 1 ("_law_gone", none) ["roads", "start", "names", "is_tie"] (sp__law_gone K) := by
  obtain ⟨fd, F⟩ := fx.c.def_ 20 (d := d__law_gone) rfl
  exact ⟨fd, fn_ok (n := 4) F sc__law_gone rfl (fun cdv A outer s H E hr => dv__law_gone fx hex cdv A outer s H E hr) (pure__law_gone K), F.bindsN (fun _ _ _ _ _ _ us hl => match us, hl with | [_, _, _, _], _ => rfl), F.kp⟩
theorem ok__law_names (fx : Fx fa fn K mg) (hex : exB K = true) (c__law_draw : Fn P w K mg base (tbl K) 1 ("_law_draw", none) ["hand", "many"] (sp__law_draw K)) (c__law_any : Fn P w K mg base (tbl K) 2 ("_law_any", none) ["hand", "some"] (sp__law_any K)) : Fn P w K mg base (tbl K) 3 ("_law_names", none) ["hand", "towns", "roads", "start"] (sp__law_names K) := by
  obtain ⟨fd, F⟩ := fx.c.def_ 21 (d := d__law_names) rfl
  exact ⟨fd, fn_ok (n := 4) F sc__law_names rfl (fun cdv A outer s H E hr => dv__law_names fx hex c__law_draw c__law_any cdv A outer s H E hr) (pure__law_names K), F.bindsN (fun _ _ _ _ _ _ us hl => match us, hl with | [_, _, _, _], _ => rfl), F.kp⟩
theorem ok__law_refused_right (fx : Fx fa fn K mg) (hex : exB K = true) (TB : ∀ p ∈ tf, LamX.TabB base mg (He.cT K p.1).1 (He.cT K p.1).2) (c__law_any : Fn P w K mg base (tbl K) 2 ("_law_any", none) ["hand", "some"] (sp__law_any K)) (c__law_word : FnW P w K mg base (tbl K) 0 ("_law_word", none) "_law_word" "call" (sp__law_word K)) (c_ends_by : Fn P w K mg base (tbl K) 4 ("ends_by", none) ["net", "start", "names"] (sp_ends_by K)) (c_ends_walked : Fn P w K mg base (tbl K) 4 ("ends_walked", none) ["net", "start", "names"] (sp_ends_walked K)) (c_length_of : Fn P w K mg base (tbl K) 3 ("length_of", none) ["net", "names"] (sp_length_of K)) : Fn P w K mg base (tbl K) 7 ("_law_refused_right", none) ["hand", "net_here", "towns"] (sp__law_refused_right K) := by
  obtain ⟨fd, F⟩ := fx.c.def_ 22 (d := d__law_refused_right) rfl
  exact ⟨fd, fn_okC (n := 3) F sc__law_refused_right rfl (fun cdv hcd A outer s H E hr => dv__law_refused_right fx hex c__law_any c__law_word c_ends_by c_ends_walked c_length_of cdv hcd rfl TB A outer s H E hr) (pure__law_refused_right K), F.bindsN (fun _ _ _ _ _ _ us hl => match us, hl with | [_, _, _], _ => rfl), F.kp⟩
theorem ok_law (fx : Fx fa fn K mg) (hex : exB K = true) (TB : ∀ p ∈ tf, LamX.TabB base mg (He.cT K p.1).1 (He.cT K p.1).2) (c__law_hand : Fn P w K mg base (tbl K) 1 ("_law_hand", none) ["script"] (sp__law_hand K)) (c__law_parts : Fn P w K mg base (tbl K) 3 ("_law_parts", none) ["hand", "most", "few"] (sp__law_parts K)) (c_Net___init__ : Fn P w K mg base (tbl K) 4 ("Net", some "__init__") ["self", "towns", "roads"] (sp_Net___init__ K)) (c__law_any : Fn P w K mg base (tbl K) 2 ("_law_any", none) ["hand", "some"] (sp__law_any K)) (c__law_names : Fn P w K mg base (tbl K) 3 ("_law_names", none) ["hand", "towns", "roads", "start"] (sp__law_names K)) (c__law_gone : Fn P w K mg base (tbl K) 1 ("_law_gone", none) ["roads", "start", "names", "is_tie"] (sp__law_gone K)) (c_ends_walked : Fn P w K mg base (tbl K) 4 ("ends_walked", none) ["net", "start", "names"] (sp_ends_walked K)) (c_ends_by : Fn P w K mg base (tbl K) 4 ("ends_by", none) ["net", "start", "names"] (sp_ends_by K)) (c_length_of : Fn P w K mg base (tbl K) 3 ("length_of", none) ["net", "names"] (sp_length_of K)) (c__law_word : FnW P w K mg base (tbl K) 0 ("_law_word", none) "_law_word" "call" (sp__law_word K)) (c__law_refused_right : Fn P w K mg base (tbl K) 7 ("_law_refused_right", none) ["hand", "net_here", "towns"] (sp__law_refused_right K)) {fd : FuncData} (F : FunD K "law" "law" (defArgs s_law) (defBody s_law) (defScope s_law) [] [] (He.ga K "law") fd) : FnG P w K mg base (CX P w) 8 (He.ga K "law") fd ["script"] (spL K (tbl K) 1 (sp_law K)) :=
  fn_okGC (n := 1) F sc_law rfl (fun cdv hcd A outer s H E hr hg => dv_law fx hex c__law_hand c__law_parts c_Net___init__ c__law_any c__law_names c__law_gone c_ends_walked c_ends_by c_length_of c__law_word c__law_refused_right cdv hcd rfl TB A outer s H E hr hg) (pure_law K)
end
theorem rvs_ints {K : PySem.W.Frag} {H : Hp} : ∀ ns : List Int, RVs K H (ns.map PV.int) (ns.map V.int)
  | [] => .nil
  | n :: ns => .cons (.int n) (rvs_ints ns)
theorem law_facts {w : World} {K : PySem.W.Frag} {mg : Str → Option Value} {f : Addr} {h : Heap} (X : K.In h) (G : h.Ns mainGlobals mg) (hfa : mg ("law" : Str) = some (.ref f)) (c : SaysZ fa fn tf exB w h K) :
    LawG PySem.Challenge.rw_roadwarrant_k04_whole_ways_and_walks w K (CX PySem.Challenge.rw_roadwarrant_k04_whole_ways_and_walks.prog w) 8 63 "script" mg f h := by
  have fx : Fx fa fn K mg := ⟨⟨h, X, G⟩, c.t.d⟩
  have hex : exB K = true := c.more
  obtain ⟨fd, F⟩ := fx.c.def_ 23 (d := d_law) rfl
  have e := hfa.symm.trans (fx.glo 29 rfl)
  cases e
  refine ⟨fd, tf.map fun p => He.cT K p.1, spL K (tbl K) 1 (sp_law K), fun q hq => ?_, fun q hq => ?_, fun q hq => ?_, fun s v => F.bindsA (ps := ["script"]) (fun _ _ _ _ _ _ us hl => match us, hl with | [_], _ => rfl) s [v] rfl, fun H a ns hl hb hT hS => ?_, fun base _ _ hTB => ?_⟩
  · obtain ⟨p, hp, rfl⟩ := List.mem_map.mp hq
    exact c.empty p hp
  · obtain ⟨p, hp, rfl⟩ := List.mem_map.mp hq
    exact c.out p hp
  · obtain ⟨p, hp, rfl⟩ := List.mem_map.mp hq
    exact PySem.W.codeHd_of_K X (c.hd p hp)
  · refine ⟨rfl, [.lst (ns.map PV.int)], fun _ => none, fun p _ => p = .bl true, fun _ _ => False, .cons (.lst hS (rvs_ints ns)) .nil, ⟨fun a o e => (by cases e), tabs0 hT⟩, law_start K ns hb, fun p S2 v H2 _ _ rv hp => ?_, fun _ _ _ _ _ _ _ _ z => z⟩
    subst hp
    cases rv
    rfl
  · have TB : ∀ p ∈ tf, LamX.TabB base mg (He.cT K p.1).1 (He.cT K p.1).2 := fun p hp => hTB _ (List.mem_map.mpr ⟨p, hp, rfl⟩)
    have c_RoadError___init__ := okx_RoadError___init__ (P := PySem.Challenge.rw_roadwarrant_k04_whole_ways_and_walks.prog) (w := w) (base := base) fx
    have c_BadNet___init__ := okx_BadNet___init__ (P := PySem.Challenge.rw_roadwarrant_k04_whole_ways_and_walks.prog) (w := w) (base := base) fx hex c_RoadError___init__
    have c_is_integer := ok_is_integer (P := PySem.Challenge.rw_roadwarrant_k04_whole_ways_and_walks.prog) (w := w) (base := base) fx hex
    have c_is_within := ok_is_within (P := PySem.Challenge.rw_roadwarrant_k04_whole_ways_and_walks.prog) (w := w) (base := base) fx hex c_is_integer
    have c_is_name := ok_is_name (P := PySem.Challenge.rw_roadwarrant_k04_whole_ways_and_walks.prog) (w := w) (base := base) fx hex
    have c_is_tuple := ok_is_tuple (P := PySem.Challenge.rw_roadwarrant_k04_whole_ways_and_walks.prog) (w := w) (base := base) fx hex
    have c_does_ascend := ok_does_ascend (P := PySem.Challenge.rw_roadwarrant_k04_whole_ways_and_walks.prog) (w := w) (base := base) fx hex
    have c_is_names := ok_is_names (P := PySem.Challenge.rw_roadwarrant_k04_whole_ways_and_walks.prog) (w := w) (base := base) fx hex
    have c_is_road := ok_is_road (P := PySem.Challenge.rw_roadwarrant_k04_whole_ways_and_walks.prog) (w := w) (base := base) fx hex c_is_tuple c_is_name c_is_within
    have c_Net_keep := ok_Net_keep (P := PySem.Challenge.rw_roadwarrant_k04_whole_ways_and_walks.prog) (w := w) (base := base) fx hex
    have c_Net___init__ := ok_Net___init__ (P := PySem.Challenge.rw_roadwarrant_k04_whole_ways_and_walks.prog) (w := w) (base := base) fx hex c_is_name c_BadNet___init__ c_does_ascend c_is_road c_Net_keep
    have c_far_end := ok_far_end (P := PySem.Challenge.rw_roadwarrant_k04_whole_ways_and_walks.prog) (w := w) (base := base) fx hex
    have c_check_town := ok_check_town (P := PySem.Challenge.rw_roadwarrant_k04_whole_ways_and_walks.prog) (w := w) (base := base) fx hex c_RoadError___init__
    have c_raw_ends := ok_raw_ends (P := PySem.Challenge.rw_roadwarrant_k04_whole_ways_and_walks.prog) (w := w) (base := base) fx hex
    have c_raw_walked := ok_raw_walked (P := PySem.Challenge.rw_roadwarrant_k04_whole_ways_and_walks.prog) (w := w) (base := base) fx hex c_far_end
    have c_ends_by := ok_ends_by (P := PySem.Challenge.rw_roadwarrant_k04_whole_ways_and_walks.prog) (w := w) (base := base) fx hex c_check_town c_is_names c_RoadError___init__ c_raw_ends
    have c_ends_walked := ok_ends_walked (P := PySem.Challenge.rw_roadwarrant_k04_whole_ways_and_walks.prog) (w := w) (base := base) fx hex c_check_town c_is_names c_RoadError___init__ c_raw_walked
    have c_raw_length := ok_raw_length (P := PySem.Challenge.rw_roadwarrant_k04_whole_ways_and_walks.prog) (w := w) (base := base) fx hex
    have c_length_of := ok_length_of (P := PySem.Challenge.rw_roadwarrant_k04_whole_ways_and_walks.prog) (w := w) (base := base) fx hex c_is_names c_RoadError___init__ c_raw_length
    have c__law_hand := ok__law_hand (P := PySem.Challenge.rw_roadwarrant_k04_whole_ways_and_walks.prog) (w := w) (base := base) fx hex
    have c__law_draw := ok__law_draw (P := PySem.Challenge.rw_roadwarrant_k04_whole_ways_and_walks.prog) (w := w) (base := base) fx hex
    have c__law_any := ok__law_any (P := PySem.Challenge.rw_roadwarrant_k04_whole_ways_and_walks.prog) (w := w) (base := base) fx hex c__law_draw
    have c__law_parts := ok__law_parts (P := PySem.Challenge.rw_roadwarrant_k04_whole_ways_and_walks.prog) (w := w) (base := base) fx hex c__law_draw c__law_any
    have c__law_word := okw__law_word (P := PySem.Challenge.rw_roadwarrant_k04_whole_ways_and_walks.prog) (w := w) (base := base) fx hex
    have c__law_gone := ok__law_gone (P := PySem.Challenge.rw_roadwarrant_k04_whole_ways_and_walks.prog) (w := w) (base := base) fx hex
    have c__law_names := ok__law_names (P := PySem.Challenge.rw_roadwarrant_k04_whole_ways_and_walks.prog) (w := w) (base := base) fx hex c__law_draw c__law_any
    have c__law_refused_right := ok__law_refused_right (P := PySem.Challenge.rw_roadwarrant_k04_whole_ways_and_walks.prog) (w := w) (base := base) fx hex TB c__law_any c__law_word c_ends_by c_ends_walked c_length_of
    exact ok_law fx hex TB c__law_hand c__law_parts c_Net___init__ c__law_any c__law_names c__law_gone c_ends_walked c_ends_by c_length_of c__law_word c__law_refused_right F
def loose : List Str := (["SMALL", "LONGEST", "is_integer", "is_within", "is_name", "is_tuple", "does_ascend", "is_names", "RoadError", "BadNet", "NoRoad", "NoTown", "NoNames", "MOST_TOWNS", "MOST_ROADS", "LONGEST_ROAD", "MOST_ROOM", "NAME", "BEGIN", "END"] : List Str) ++ (["LENGTH", "ROOM", "is_road", "Net", "far_end", "check_town", "raw_ends", "raw_walked", "ends_by", "ends_walked", "raw_length", "length_of", "_law_hand", "_law_draw", "_law_any", "_law_parts", "_law_word", "_law_gone", "_law_names", "_law_refused_right"] : List Str)
abbrev R : PySem.W.OpenRow := PySem.W.OpenLaw.row PySem.Challenge.rw_roadwarrant_k04_whole_ways_and_walks
abbrev hk : PySem.W.Hook := hookZ 5 fa fn tf exB
def ob (s : PySem.W.SharedT) : He.AlT × Bool := obsZ 5 fa fn tf exB (HandSHeadRun.getT s)
theorem ob_eq (s : PySem.W.SharedT) : ob s = hk.obs s.abs := obsZ_eq (HandSHeadRun.getT_eq s)
theorem run (w : World) : HandSHeadRun.RunEq R (PySem.W.view R.prog [45]) hk ob 20000 loose w := by
  intro os
  kernel_rfl
end Law_k04
set_option maxHeartbeats 0
open PySem PySem.W PySem.Calls PyProof.Rows
theorem PySem.Challenge.cw_roadwarrant_k04_whole_ways_and_walks_holds : PySem.Challenge.rw_roadwarrant_k04_whole_ways_and_walks.Holds := by
  w_on; o_law
  refine HandSHeadRun.head_any (r := OpenLaw.row PySem.Challenge.rw_roadwarrant_k04_whole_ways_and_walks) (q := view (OpenLaw.row PySem.Challenge.rw_roadwarrant_k04_whole_ways_and_walks).prog [45]) (H := Law_k04.hk) (ob := Law_k04.ob) (M := 20000) (loose := Law_k04.loose) (d := HandSHeadRun.topDef (OpenLaw.row PySem.Challenge.rw_roadwarrant_k04_whole_ways_and_walks).prog 45) (kwd := []) Law_k04.ob_eq
    (by kernel_rfl) (fun s => by kernel_rfl) Law_k04.run (by kernel_rfl) (by kernel_rfl) (by kernel_rfl) (by rfl) (by first | assumption | decide +kernel) (by decide +kernel) ⟨rfl, rfl, rfl, rfl, rfl, by decide +kernel⟩ ?hw ?hc
  case hw => w_witness2
  case hc =>
    refine L2.PX.walkG (l := PySem.Challenge.rw_roadwarrant_k04_whole_ways_and_walks) (n := 63) (k := 8) (x := "script") (CX := fun w => L2.CX PySem.Challenge.rw_roadwarrant_k04_whole_ways_and_walks.prog w) rfl (by decide) (by kernel_rfl) ⟨rfl, by decide, by decide⟩ ?F (fun _ _ _ _ _ ⟨_, _, _, _, _, _, _, _, _, _, _, _, z⟩ => z)
    intro w mg fa h Y G hmg0
    obtain ⟨K, KX, c⟩ := Y
    have hmg : mg ("law" : PySem.Str) = some (.ref fa) := by
      have e : (HandSHeadRun.topDef (OpenLaw.row PySem.Challenge.rw_roadwarrant_k04_whole_ways_and_walks).prog 45).name = ("law" : PySem.Str) := by kernel_rfl
      rw [← e]
      exact hmg0
    exact ⟨K, KX, Law_k04.law_facts KX G hmg c⟩
